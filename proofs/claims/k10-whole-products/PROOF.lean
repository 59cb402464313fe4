import PyProof.Rows.All
import Wide.All
import OpenK.AllK
import Wide.FinOn
import HandS.ForMost
import HandS.Walk
import HandS.Zip
import HandS.DictComp
import HandS.More
import KE.GoesMore
import HandS.Style
import HandS.TupAny
import HandS.SortRule
import HandS.TupLe
import HandS.Lambda
import HandS.SortKw
import KE.KSortKeyAny
import HandS.DictEq
import PySem.Challenge.RW_rungfields_k10_whole_products_keep_their
import HandS.IsInst
import HandS.EndTab
section
set_option autoImplicit false
set_option linter.all false
namespace K10
open Lean.Grind

/-! ### the field of rests -/
section
variable {p : Nat} [NeZero p]
def zc (p : Nat) [NeZero p] (a : Int) : Fin p := ⟨(a % (p : Int)).toNat, by
  have h1 : (p : Int) ≠ 0 := by have := NeZero.ne p; omega
  have h2 := Int.emod_nonneg a h1
  have h3 := Int.emod_lt_of_pos a (show (0:Int) < p by have := NeZero.ne p; omega)
  omega⟩
theorem zc_val (a : Int) : ((zc p a).val : Int) = a % (p : Int) := by
  have h1 : (p : Int) ≠ 0 := by have := NeZero.ne p; omega
  have h2 := Int.emod_nonneg a h1
  show (((a % (p : Int)).toNat : Nat) : Int) = _
  omega
theorem zc_eq {a b : Int} : zc p a = zc p b ↔ a % (p : Int) = b % (p : Int) := by
  constructor
  · intro h
    have := congrArg (fun x : Fin p => (x.val : Int)) h
    simpa [zc_val] using this
  · intro h
    apply Fin.ext
    have h1 := zc_val (p := p) a
    have h2 := zc_val (p := p) b
    omega
theorem fin_int_ext {x y : Fin p} (h : ((x.val : Int)) = (y.val : Int)) : x = y := by
  apply Fin.ext; omega
theorem fin_add_val (x y : Fin p) : (((x + y : Fin p).val : Nat) : Int) = ((x.val : Int) + y.val) % (p : Int) := by
  rw [Fin.val_add]; simp
theorem fin_mul_val (x y : Fin p) : (((x * y : Fin p).val : Nat) : Int) = ((x.val : Int) * y.val) % (p : Int) := by
  rw [Fin.val_mul]; simp
theorem zc_add (a b : Int) : zc p (a + b) = zc p a + zc p b := by
  apply fin_int_ext
  rw [fin_add_val, zc_val, zc_val, zc_val, Int.add_emod]
theorem zc_mul (a b : Int) : zc p (a * b) = zc p a * zc p b := by
  apply fin_int_ext
  rw [fin_mul_val, zc_val, zc_val, zc_val, Int.mul_emod]
theorem zc_zero : zc p 0 = 0 := by
  apply fin_int_ext; rw [zc_val]; simp
theorem zc_one : zc p 1 = 1 := by
  apply fin_int_ext; rw [zc_val]
  show (1 % (p : Int)) = ((1 % p : Nat) : Int)
  rfl
theorem zc_neg (a : Int) : zc p (-a) = - zc p a := by
  have h : zc p (-a) + zc p a = 0 := by rw [← zc_add, ← zc_zero]; congr 1; omega
  grind
theorem zc_sub (a b : Int) : zc p (a - b) = zc p a - zc p b := by
  rw [Int.sub_eq_add_neg, zc_add, zc_neg]; grind
theorem zc_p : zc p (p : Int) = 0 := by
  rw [← zc_zero, zc_eq]; simp
theorem zc_mod (a : Int) : zc p (a % (p : Int)) = zc p a := by
  rw [zc_eq]; simp
theorem zc_fin (x : Fin p) : zc p (x.val : Int) = x := by
  apply fin_int_ext; rw [zc_val]
  have := x.isLt
  exact Int.emod_eq_of_lt (by omega) (by omega)
theorem zc_nat (n : Nat) : zc p (n : Int) = Fin.ofNat p n := by
  apply fin_int_ext; rw [zc_val]; simp [Fin.ofNat]
theorem zc_inj {a b : Int} (ha : 0 ≤ a) (ha' : a < p) (hb : 0 ≤ b) (hb' : b < p) (h : zc p a = zc p b) : a = b := by
  rw [zc_eq, Int.emod_eq_of_lt ha ha', Int.emod_eq_of_lt hb hb'] at h; exact h
theorem zc_ne_zero {a : Int} (ha : 0 ≤ a) (ha' : a < p) (h : a ≠ 0) : zc p a ≠ 0 := by
  intro e; rw [← zc_zero] at e
  exact h (zc_inj ha ha' (by omega) (by omega) e)
end

/-! ### series over the rests -/
def PS (p : Nat) := Nat → Fin p
namespace PS
section
variable {p : Nat} [NeZero p]
theorem ext {f g : PS p} (h : ∀ n, f n = g n) : f = g := funext h
def sh (f : PS p) : PS p := fun n => f (n + 1)
def mul' (f g : PS p) : Nat → Fin p
  | 0 => f 0 * g 0
  | n + 1 => f 0 * g (n + 1) + mul' (sh f) g n
def C (a : Fin p) : PS p := fun n => if n = 0 then a else 0
def X : PS p := fun n => if n = 1 then 1 else 0
def natC : Nat → PS p
  | n => C (Fin.ofNat p n)
instance : Add (PS p) := ⟨fun f g n => f n + g n⟩
instance : Neg (PS p) := ⟨fun f n => - f n⟩
instance : Sub (PS p) := ⟨fun f g n => f n - g n⟩
instance : Mul (PS p) := ⟨fun f g n => mul' f g n⟩
instance (n : Nat) : OfNat (PS p) n := ⟨C (Fin.ofNat p n)⟩
theorem add_ap (f g : PS p) (n : Nat) : (f + g) n = f n + g n := rfl
theorem neg_ap (f : PS p) (n : Nat) : (-f) n = - f n := rfl
theorem sub_ap (f g : PS p) (n : Nat) : (f - g) n = f n - g n := rfl
theorem mul_ap0 (f g : PS p) : (f * g) 0 = f 0 * g 0 := rfl
theorem mul_aps (f g : PS p) (n : Nat) : (f * g) (n + 1) = f 0 * g (n + 1) + (sh f * g) n := rfl
theorem sh_ap (f : PS p) (n : Nat) : sh f n = f (n + 1) := rfl
theorem left_distrib (f g h : PS p) : f * (g + h) = f * g + f * h := by
  apply ext; intro n
  induction n generalizing f with
  | zero => simp only [add_ap, mul_ap0]; grind
  | succ n ih => have := ih (sh f); simp only [add_ap, mul_aps] at *; grind
theorem right_distrib (f g h : PS p) : (f + g) * h = f * h + g * h := by
  apply ext; intro n
  induction n generalizing f g with
  | zero => simp only [add_ap, mul_ap0]; grind
  | succ n ih =>
    have := ih (sh f) (sh g)
    have e : sh (f + g) = sh f + sh g := rfl
    simp only [add_ap, mul_aps, e] at *; grind
theorem mul_aps' (f g : PS p) (n : Nat) : (f * g) (n + 1) = f (n + 1) * g 0 + (f * sh g) n := by
  induction n generalizing f with
  | zero => simp only [mul_aps, mul_ap0, sh_ap]; grind
  | succ n ih => have := ih (sh f); rw [mul_aps, this, mul_aps]; simp only [sh_ap]; grind
theorem mul_comm (f g : PS p) : f * g = g * f := by
  apply ext; intro n
  induction n generalizing f g with
  | zero => simp only [mul_ap0]; grind
  | succ n ih => rw [mul_aps', mul_aps, ih f (sh g)]; grind
def sc (a : Fin p) (f : PS p) : PS p := fun n => a * f n
theorem sc_ap (a : Fin p) (f : PS p) (n : Nat) : sc a f n = a * f n := rfl
theorem sc_mul (a : Fin p) (f g : PS p) : sc a f * g = sc a (f * g) := by
  apply ext; intro n
  induction n generalizing f with
  | zero => simp only [sc_ap, mul_ap0]; grind
  | succ n ih =>
    have := ih (sh f)
    have e : sh (sc a f) = sc a (sh f) := rfl
    simp only [sc_ap, mul_aps, e] at *; grind
theorem sh_mul (f g : PS p) : sh (f * g) = sc (f 0) (sh g) + sh f * g := rfl
theorem mul_assoc (f g h : PS p) : f * g * h = f * (g * h) := by
  apply ext; intro n
  induction n generalizing f g with
  | zero => simp only [mul_ap0]; grind
  | succ n ih =>
    rw [mul_aps, sh_mul, right_distrib, sc_mul, add_ap, ih (sh f) g, mul_aps f, mul_aps g, sc_ap, mul_ap0]; grind
theorem zero_ap (n : Nat) : (0 : PS p) n = 0 := by cases n <;> rfl
theorem zero_mul (f : PS p) : 0 * f = 0 := by
  apply ext; intro n
  induction n with
  | zero => simp only [mul_ap0, zero_ap]; grind
  | succ n ih =>
    have e : sh (0 : PS p) = 0 := by (apply ext; intro m; rw [sh_ap, zero_ap, zero_ap])
    rw [mul_aps]; rw [e, ih]; simp only [zero_ap]; grind
theorem one_ap0 : (1 : PS p) 0 = 1 := rfl
theorem one_aps (n : Nat) : (1 : PS p) (n + 1) = 0 := rfl
theorem C_mul (a : Fin p) (f : PS p) : C a * f = sc a f := by
  apply ext; intro n
  cases n with
  | zero => rfl
  | succ n =>
    rw [mul_aps]
    have e : sh (C a) = (0 : PS p) := by (apply ext; intro m; rw [zero_ap]; rfl)
    rw [e, zero_mul, zero_ap]
    show a * f (n + 1) + 0 = a * f (n + 1)
    grind
theorem one_mul (f : PS p) : 1 * f = f := by
  show C 1 * f = f
  rw [C_mul]; apply ext; intro n; rw [sc_ap]; grind
def npow' (f : PS p) : Nat → PS p
  | 0 => 1
  | n + 1 => npow' f n * f
instance : HPow (PS p) Nat (PS p) := ⟨npow'⟩
instance instNC : NatCast (PS p) := ⟨fun n => C (Fin.ofNat p n)⟩
instance instIC : IntCast (PS p) := ⟨fun n => C (zc p n)⟩
theorem C_add (a b : Fin p) : C (a + b) = C a + C b := by
  apply ext; intro n; cases n with
  | zero => rfl
  | succ n => show (0 : Fin p) = 0 + 0; grind
theorem C_ap0 (a : Fin p) : C a 0 = a := rfl
theorem C_aps (a : Fin p) (n : Nat) : C a (n + 1) = 0 := rfl
theorem ofNat_fin_succ (n : Nat) : Fin.ofNat p (n + 1) = Fin.ofNat p n + 1 := Lean.Grind.Fin.ofNat_succ n
instance : CommRing (PS p) where
  natCast := instNC
  intCast := instIC
  nsmul := ⟨fun k f => (k : PS p) * f⟩
  zsmul := ⟨fun k f => (k : PS p) * f⟩
  add_zero f := by apply ext; intro n; rw [add_ap, zero_ap]; grind
  add_comm f g := by apply ext; intro n; simp only [add_ap]; grind
  add_assoc f g h := by apply ext; intro n; simp only [add_ap]; grind
  mul_assoc := mul_assoc
  mul_one f := by rw [mul_comm]; exact one_mul f
  one_mul := one_mul
  left_distrib := left_distrib
  right_distrib := right_distrib
  zero_mul := zero_mul
  mul_zero f := by (rw [mul_comm]; exact zero_mul f)
  pow_zero _ := rfl
  pow_succ _ _ := rfl
  ofNat_succ n := by
    show C (Fin.ofNat p (n + 1)) = C (Fin.ofNat p n) + C 1
    rw [← C_add, ofNat_fin_succ]
  neg_add_cancel f := by apply ext; intro n; rw [add_ap, neg_ap, zero_ap]; grind
  sub_eq_add_neg f g := by apply ext; intro n; show f n - g n = f n + - g n; grind
  neg_zsmul i f := by
    show C (zc p (-i)) * f = - (C (zc p i) * f)
    rw [C_mul, C_mul]; apply ext; intro n; rw [neg_ap, sc_ap, sc_ap, zc_neg]; grind
  zsmul_natCast_eq_nsmul n f := by
    show C (zc p n) * f = C (Fin.ofNat p n) * f
    rw [zc_nat]
  intCast_ofNat n := by
    show C (zc p n) = C (Fin.ofNat p n)
    rw [zc_nat]
  intCast_neg i := by
    show C (zc p (-i)) = - C (zc p i)
    apply ext; intro n; cases n with
    | zero => exact zc_neg i
    | succ n => show (0 : Fin p) = - 0; grind
  mul_comm := mul_comm
end
end PS
example (p : Nat) [NeZero p] (a b c : PS p) : (a + b) * (a - b) = a * a - b * b := by grind
example (p : Nat) [NeZero p] (a b c q r : PS p) (h : a = q * b + r) (h2 : b = r * c) : a = r * (q * c + 1) := by grind
end K10
end

section
set_option autoImplicit false
set_option linter.all false
namespace K10
open Lean.Grind

/-! ### the polynomials -/
structure Po (p : Nat) [NeZero p] where
  s : PS p
  fin : ∃ n, ∀ i, n ≤ i → s i = 0
namespace Po
variable {p : Nat} [NeZero p]
theorem ext {f g : Po p} (h : ∀ n, f.s n = g.s n) : f = g := by
  obtain ⟨a, ha⟩ := f; obtain ⟨b, hb⟩ := g
  have : a = b := PS.ext h
  subst this; rfl
theorem ext_iff {f g : Po p} : f = g ↔ f.s = g.s := ⟨fun h => by rw [h], fun h => ext fun n => by rw [h]⟩
def Dg (f : PS p) (n : Nat) : Prop := ∀ i, n ≤ i → f i = 0
theorem Dg.mono {f : PS p} {n m : Nat} (h : Dg f n) (hm : n ≤ m) : Dg f m := fun i hi => h i (by omega)
theorem Dg.mul {f g : PS p} {a b : Nat} (hf : Dg f (a + 1)) (hg : Dg g (b + 1)) : Dg (f * g) (a + b + 1) ∧ (f * g) (a + b) = f a * g b := by
  induction a generalizing f with
  | zero =>
    have e : PS.sh f = 0 := by
      apply PS.ext; intro n; rw [PS.zero_ap]; exact hf (n + 1) (by omega)
    have k : ∀ n, (f * g) n = f 0 * g n := by
      intro n
      cases n with
      | zero => rfl
      | succ n => rw [PS.mul_aps, e, PS.zero_mul, PS.zero_ap]; grind
    refine ⟨fun i hi => ?_, ?_⟩
    · rw [k, hg i (by omega)]; grind
    · rw [k, Nat.zero_add]
  | succ a ih =>
    obtain ⟨h1, h2⟩ := ih (f := PS.sh f) (fun i hi => hf (i + 1) (by omega))
    refine ⟨fun i hi => ?_, ?_⟩
    · cases i with
      | zero => omega
      | succ i => rw [PS.mul_aps, hg (i + 1) (by omega), h1 i (by omega)]; grind
    · have e : a + 1 + b = (a + b) + 1 := by omega
      rw [e, PS.mul_aps, hg (a + b + 1) (by omega), h2, PS.sh_ap]; grind
theorem Dg.C (a : Fin p) : Dg (PS.C a) 1 := fun i hi => by
  cases i with
  | zero => omega
  | succ i => rfl
def C (a : Fin p) : Po p := ⟨PS.C a, 1, Dg.C a⟩
def X : Po p := ⟨PS.X, 2, fun i hi => by unfold PS.X; rw [if_neg (by omega)]⟩
instance : Add (Po p) := ⟨fun f g => ⟨f.s + g.s, by
  obtain ⟨n, h⟩ := f.fin; obtain ⟨m, k⟩ := g.fin
  exact ⟨n + m, fun i hi => by rw [PS.add_ap, h i (by omega), k i (by omega)]; grind⟩⟩⟩
instance : Neg (Po p) := ⟨fun f => ⟨- f.s, by
  obtain ⟨n, h⟩ := f.fin
  exact ⟨n, fun i hi => by rw [PS.neg_ap, h i (by omega)]; grind⟩⟩⟩
instance : Sub (Po p) := ⟨fun f g => ⟨f.s - g.s, by
  obtain ⟨n, h⟩ := f.fin; obtain ⟨m, k⟩ := g.fin
  exact ⟨n + m, fun i hi => by rw [PS.sub_ap, h i (by omega), k i (by omega)]; grind⟩⟩⟩
instance : Mul (Po p) := ⟨fun f g => ⟨f.s * g.s, by
  obtain ⟨n, h⟩ := f.fin; obtain ⟨m, k⟩ := g.fin
  exact ⟨n + m + 1, (Dg.mul (a := n) (b := m) (fun i hi => h i (by omega)) (fun i hi => k i (by omega))).1⟩⟩⟩
instance (n : Nat) : OfNat (Po p) n := ⟨C (Fin.ofNat p n)⟩
instance instNC : NatCast (Po p) := ⟨fun n => C (Fin.ofNat p n)⟩
instance instIC : IntCast (Po p) := ⟨fun n => C (zc p n)⟩
def npow' (f : Po p) : Nat → Po p
  | 0 => 1
  | n + 1 => npow' f n * f
instance : HPow (Po p) Nat (Po p) := ⟨npow'⟩
instance : CommRing (Po p) where
  natCast := instNC
  intCast := instIC
  nsmul := ⟨fun k f => (k : Po p) * f⟩
  zsmul := ⟨fun k f => (k : Po p) * f⟩
  add_zero f := ext_iff.mpr (Semiring.add_zero f.s)
  add_comm f g := ext_iff.mpr (Semiring.add_comm f.s g.s)
  add_assoc f g h := ext_iff.mpr (Semiring.add_assoc f.s g.s h.s)
  mul_assoc f g h := ext_iff.mpr (Semiring.mul_assoc f.s g.s h.s)
  mul_one f := ext_iff.mpr (Semiring.mul_one f.s)
  one_mul f := ext_iff.mpr (Semiring.one_mul f.s)
  left_distrib f g h := ext_iff.mpr (Semiring.left_distrib f.s g.s h.s)
  right_distrib f g h := ext_iff.mpr (Semiring.right_distrib f.s g.s h.s)
  zero_mul f := ext_iff.mpr (Semiring.zero_mul f.s)
  mul_zero f := ext_iff.mpr (Semiring.mul_zero f.s)
  pow_zero _ := rfl
  pow_succ _ _ := rfl
  ofNat_succ n := ext_iff.mpr (Semiring.ofNat_succ (α := PS p) n)
  neg_add_cancel f := ext_iff.mpr (Ring.neg_add_cancel f.s)
  sub_eq_add_neg f g := ext_iff.mpr (Ring.sub_eq_add_neg f.s g.s)
  neg_zsmul i f := ext_iff.mpr (Ring.neg_zsmul i f.s)
  zsmul_natCast_eq_nsmul n f := ext_iff.mpr (Ring.zsmul_natCast_eq_nsmul n f.s)
  intCast_ofNat n := ext_iff.mpr (Ring.intCast_ofNat (α := PS p) n)
  intCast_neg i := ext_iff.mpr (Ring.intCast_neg (α := PS p) i)
  mul_comm f g := ext_iff.mpr (CommSemiring.mul_comm f.s g.s)
example (a b c q r : Po p) (h : a = q * b + r) (h2 : b = r * c) : a = r * (q * c + 1) := by grind
theorem add_ap (f g : Po p) (n : Nat) : (f + g).s n = f.s n + g.s n := rfl
theorem sub_ap (f g : Po p) (n : Nat) : (f - g).s n = f.s n - g.s n := rfl
theorem neg_ap (f : Po p) (n : Nat) : (-f).s n = - f.s n := rfl
theorem zero_ap (n : Nat) : (0 : Po p).s n = 0 := PS.zero_ap n
theorem C_ap (a : Fin p) (n : Nat) : (C a).s n = if n = 0 then a else 0 := rfl
theorem X_ap (n : Nat) : (X : Po p).s n = if n = 1 then 1 else 0 := rfl
theorem Cmul_ap (a : Fin p) (f : Po p) (n : Nat) : (C a * f).s n = a * f.s n := by
  show (PS.C a * f.s) n = _
  rw [PS.C_mul]; rfl
theorem Xmul_ap0 (f : Po p) : (X * f).s 0 = 0 := by
  show ((PS.X * f.s : PS p)) 0 = 0
  rw [PS.mul_ap0]
  have : (PS.X : PS p) 0 = 0 := rfl
  rw [this]; grind
theorem Xmul_aps (f : Po p) (n : Nat) : (X * f).s (n + 1) = f.s n := by
  show ((PS.X * f.s : PS p)) (n + 1) = f.s n
  rw [PS.mul_aps]
  have e : (PS.X : PS p) 0 = 0 := rfl
  have e2 : PS.sh (PS.X : PS p) = 1 := by
    apply PS.ext; intro m; cases m with
    | zero => rfl
    | succ m => rfl
  rw [e, e2, PS.one_mul]; grind
theorem C_zero : C (0 : Fin p) = 0 := rfl
theorem C_one : C (1 : Fin p) = 1 := rfl
theorem C_add (a b : Fin p) : C (a + b) = C a + C b := ext_iff.mpr (PS.C_add a b)
theorem C_mul (a b : Fin p) : C (a * b) = C a * C b := ext fun n => by
  rw [Cmul_ap, C_ap, C_ap]; split <;> grind
theorem C_neg (a : Fin p) : C (-a) = - C a := ext fun n => by
  rw [neg_ap, C_ap, C_ap]; split <;> grind
theorem C_sub (a b : Fin p) : C (a - b) = C a - C b := ext fun n => by
  rw [sub_ap, C_ap, C_ap, C_ap]; split <;> grind
theorem C_inj {a b : Fin p} (h : C a = C b) : a = b := congrArg (fun f : Po p => f.s 0) h

/-! the size: the degree and one -/
theorem ex_sz (f : Po p) : ∃ n, Dg f.s n ∧ (n = 0 ∨ f.s (n - 1) ≠ 0) := by
  obtain ⟨n, h⟩ := f.fin
  induction n with
  | zero => exact ⟨0, h, .inl rfl⟩
  | succ n ih =>
    by_cases e : f.s n = 0
    · exact ih fun i hi => by
        by_cases hn : i = n
        · rw [hn]; exact e
        · exact h i (by omega)
    · exact ⟨n + 1, h, .inr e⟩
noncomputable def sz (f : Po p) : Nat := Classical.choose (ex_sz f)
theorem sz_spec (f : Po p) : Dg f.s f.sz ∧ (f.sz = 0 ∨ f.s (f.sz - 1) ≠ 0) := Classical.choose_spec (ex_sz f)
theorem sz_dg (f : Po p) : Dg f.s f.sz := f.sz_spec.1
theorem sz_le {f : Po p} {n : Nat} (h : Dg f.s n) : f.sz ≤ n := by
  rcases f.sz_spec.2 with e | e
  · omega
  · apply Nat.le_of_not_lt; intro hl; exact e (h _ (by omega))
theorem lt_sz {f : Po p} {n : Nat} (h : f.s n ≠ 0) : n < f.sz := by
  apply Nat.lt_of_not_le; intro hl; exact h (f.sz_dg n hl)
theorem sz_eq {f : Po p} {n : Nat} (h : Dg f.s n) (h2 : n = 0 ∨ f.s (n - 1) ≠ 0) : f.sz = n := by
  have := sz_le h
  rcases h2 with e | e
  · omega
  · have := lt_sz e; omega
theorem sz_top {f : Po p} (h : f ≠ 0) : f.s (f.sz - 1) ≠ 0 := by
  rcases f.sz_spec with ⟨h1, e | e⟩
  · exact absurd (ext fun n => by rw [zero_ap]; exact h1 n (by omega)) h
  · exact e
theorem sz_zero : (0 : Po p).sz = 0 := by
  have : (0 : Po p).sz ≤ 0 := sz_le fun i _ => zero_ap i
  omega
theorem sz_pos {f : Po p} (h : f ≠ 0) : 0 < f.sz := by
  apply Nat.pos_of_ne_zero; intro e
  exact h (ext fun n => by rw [zero_ap]; exact f.sz_dg n (by omega))
theorem eq_zero_of_sz {f : Po p} (h : f.sz = 0) : f = 0 := ext fun n => by rw [zero_ap]; exact f.sz_dg n (by omega)
theorem sz_C_le (a : Fin p) : (C a).sz ≤ 1 := sz_le (Dg.C a)
theorem sz_C {a : Fin p} (h : a ≠ 0) : (C a).sz = 1 := sz_eq (Dg.C a) (.inr h)
theorem eq_C_of_sz {f : Po p} (h : f.sz ≤ 1) : f = C (f.s 0) := ext fun n => by
  cases n with
  | zero => rfl
  | succ n => rw [C_ap, if_neg (by omega)]; exact f.sz_dg _ (by omega)
theorem sz_add_le (f g : Po p) : (f + g).sz ≤ max f.sz g.sz := sz_le fun i hi => by
  rw [add_ap, f.sz_dg i (by omega), g.sz_dg i (by omega)]; grind
theorem sz_sub_le (f g : Po p) : (f - g).sz ≤ max f.sz g.sz := sz_le fun i hi => by
  rw [sub_ap, f.sz_dg i (by omega), g.sz_dg i (by omega)]; grind
theorem sz_neg (f : Po p) : (-f).sz = f.sz := by
  have h : ∀ g : Po p, (-g).sz ≤ g.sz := fun g => sz_le fun i hi => by rw [neg_ap, g.sz_dg i hi]; grind
  have h1 := h f
  have h2 := h (-f)
  have e : - -f = f := Lean.Grind.AddCommGroup.neg_neg f
  rw [e] at h2; omega
end Po
end K10
end

section
set_option autoImplicit false
set_option linter.all false
namespace K10
open Lean.Grind

def primes : List Nat := [2, 3, 5, 7, 11, 13, 17, 19, 23, 29, 31, 37, 41, 43, 47, 53, 59, 61, 67, 71, 73, 79, 83, 89, 97]
class Pr (p : Nat) : Prop where
  mem : p ∈ primes
theorem primes_two : ∀ p ∈ primes, 2 ≤ p ∧ p ≤ 97 := by decide +kernel
theorem Pr.two (p : Nat) [h : Pr p] : 2 ≤ p := (primes_two p h.mem).1
theorem Pr.le (p : Nat) [h : Pr p] : p ≤ 97 := (primes_two p h.mem).2
instance (p : Nat) [h : Pr p] : NeZero p := ⟨by have := Pr.two p; omega⟩
theorem primes_inv : (primes.all fun p => (List.range p).all fun a => a == 0 || (a ^ (p - 2) * a) % p == 1) = true := by decide +kernel
theorem primes_frob : (primes.all fun p => (List.range p).all fun a => (a ^ p) % p == a) = true := by decide +kernel
theorem fin_pow_val {p : Nat} [NeZero p] (a : Fin p) (n : Nat) : (a ^ n).val = a.val ^ n % p := by
  induction n with
  | zero => rw [Semiring.pow_zero]; show 1 % p = _; rfl
  | succ n ih => rw [Semiring.pow_succ, Fin.val_mul, ih, Nat.pow_succ, Nat.mod_mul_mod]
section
variable {p : Nat} [Pr p]
theorem fin_inv {a : Fin p} (h : a ≠ 0) : a ^ (p - 2) * a = 1 := by
  have h1 := List.all_eq_true.mp primes_inv p (Pr.mem)
  have h2 := List.all_eq_true.mp h1 a.val (List.mem_range.mpr a.isLt)
  have hz : a.val ≠ 0 := fun e => h (Fin.ext e)
  have h3 : (a.val ^ (p - 2) * a.val) % p = 1 := by
    simpa [hz] using h2
  apply Fin.ext
  rw [Fin.val_mul, fin_pow_val, Nat.mod_mul_mod, h3]
  show 1 = 1 % p
  have := Pr.two p
  rw [Nat.mod_eq_of_lt (by omega)]
theorem fin_frob (a : Fin p) : a ^ p = a := by
  have h1 := List.all_eq_true.mp primes_frob p (Pr.mem)
  have h2 := List.all_eq_true.mp h1 a.val (List.mem_range.mpr a.isLt)
  apply Fin.ext
  rw [fin_pow_val]; simpa using h2
theorem fin_one_ne : (1 : Fin p) ≠ 0 := by
  intro e
  have := congrArg Fin.val e
  have h2 := Pr.two p
  have e1 : (1 : Fin p).val = 1 % p := rfl
  have e0 : (0 : Fin p).val = 0 % p := rfl
  rw [e1, e0, Nat.mod_eq_of_lt (by omega), Nat.mod_eq_of_lt (by omega)] at this
  omega
theorem fin_ex_inv {a : Fin p} (h : a ≠ 0) : ∃ b, a * b = 1 := ⟨a ^ (p - 2), by rw [CommSemiring.mul_comm]; exact fin_inv h⟩
theorem fin_mul_ne {a b : Fin p} (ha : a ≠ 0) (hb : b ≠ 0) : a * b ≠ 0 := by
  obtain ⟨c, hc⟩ := fin_ex_inv ha
  intro e
  apply hb
  have : b = c * (a * b) := by grind
  rw [this, e]; grind
end

namespace Po
section
variable {p : Nat} [Pr p]
theorem one_ne : (1 : Po p) ≠ 0 := fun e => fin_one_ne (congrArg (fun f : Po p => f.s 0) e)
theorem sz_mul {f g : Po p} (hf : f ≠ 0) (hg : g ≠ 0) : (f * g).sz + 1 = f.sz + g.sz ∧ (f * g).s (f.sz - 1 + (g.sz - 1)) = f.s (f.sz - 1) * g.s (g.sz - 1) := by
  have h1 := sz_pos hf
  have h2 := sz_pos hg
  obtain ⟨a, b⟩ := Dg.mul (f := f.s) (g := g.s) (a := f.sz - 1) (b := g.sz - 1) (fun i hi => f.sz_dg i (by omega)) (fun i hi => g.sz_dg i (by omega))
  refine ⟨?_, b⟩
  have : (f * g).sz = f.sz - 1 + (g.sz - 1) + 1 := sz_eq a (.inr (by
    show (f.s * g.s) (f.sz - 1 + (g.sz - 1) + 1 - 1) ≠ 0
    rw [Nat.add_sub_cancel, b]
    exact fin_mul_ne (sz_top hf) (sz_top hg)))
  omega
theorem mul_ne {f g : Po p} (hf : f ≠ 0) (hg : g ≠ 0) : f * g ≠ 0 := fun e => by
  have := (sz_mul hf hg).1
  rw [e, sz_zero] at this
  have h1 := sz_pos hf
  have h2 := sz_pos hg
  omega
theorem mul_zero_or {f g : Po p} (h : f * g = 0) : f = 0 ∨ g = 0 := by
  by_cases hf : f = 0
  · exact .inl hf
  · by_cases hg : g = 0
    · exact .inr hg
    · exact absurd h (mul_ne hf hg)
theorem mul_cancel {f g h : Po p} (hf : f ≠ 0) (e : f * g = f * h) : g = h := by
  have : f * (g - h) = 0 := by grind
  rcases mul_zero_or this with z | z
  · exact absurd z hf
  · grind
theorem sz_one : (1 : Po p).sz = 1 := sz_C fin_one_ne

/-! divisors -/
def Dv (a b : Po p) : Prop := ∃ c, b = a * c
theorem Dv.refl (a : Po p) : Dv a a := ⟨1, by grind⟩
theorem Dv.zero (a : Po p) : Dv a 0 := ⟨0, by grind⟩
theorem Dv.one (a : Po p) : Dv 1 a := ⟨a, by grind⟩
theorem Dv.trans {a b c : Po p} (h : Dv a b) (k : Dv b c) : Dv a c := by
  obtain ⟨x, hx⟩ := h; obtain ⟨y, hy⟩ := k; exact ⟨x * y, by grind⟩
theorem Dv.add {a b c : Po p} (h : Dv a b) (k : Dv a c) : Dv a (b + c) := by
  obtain ⟨x, hx⟩ := h; obtain ⟨y, hy⟩ := k; exact ⟨x + y, by grind⟩
theorem Dv.sub {a b c : Po p} (h : Dv a b) (k : Dv a c) : Dv a (b - c) := by
  obtain ⟨x, hx⟩ := h; obtain ⟨y, hy⟩ := k; exact ⟨x - y, by grind⟩
theorem Dv.mul_left {a b : Po p} (c : Po p) (h : Dv a b) : Dv a (c * b) := by
  obtain ⟨x, hx⟩ := h; exact ⟨c * x, by grind⟩
theorem Dv.mul_right {a b : Po p} (c : Po p) (h : Dv a b) : Dv a (b * c) := by
  obtain ⟨x, hx⟩ := h; exact ⟨c * x, by grind⟩
theorem Dv.left (a b : Po p) : Dv a (a * b) := ⟨b, rfl⟩
theorem Dv.right (a b : Po p) : Dv b (a * b) := ⟨a, by grind⟩
theorem Dv.sz_le {a b : Po p} (h : Dv a b) (hb : b ≠ 0) : a.sz ≤ b.sz := by
  obtain ⟨c, e⟩ := h
  have ha : a ≠ 0 := fun z => hb (by rw [e, z]; grind)
  have hc : c ≠ 0 := fun z => hb (by rw [e, z]; grind)
  have h1 := (sz_mul ha hc).1
  have h2 := sz_pos hc
  rw [e]; omega
theorem Dv.of_sz_lt {a b : Po p} (h : Dv a b) (hb : b.sz < a.sz) : b = 0 := by
  apply Classical.byContradiction; intro hn
  have := h.sz_le hn; omega
theorem unit_of_sz {u : Po p} (h : u.sz = 1) : ∃ v, u * v = 1 := by
  have e := eq_C_of_sz (f := u) (by omega)
  have hn : u.s 0 ≠ 0 := fun z => by rw [z, C_zero] at e; rw [e, sz_zero] at h; omega
  obtain ⟨b, hb⟩ := fin_ex_inv hn
  exact ⟨C b, by rw [e, ← C_mul, hb, C_one]⟩
/-- division -/
theorem ex_div {g : Po p} (hg : g ≠ 0) : ∀ (n : Nat) (f : Po p), f.sz ≤ n → ∃ q r, f = q * g + r ∧ r.sz < g.sz
  | 0, f, hn => ⟨0, f, by grind, by have := sz_pos hg; omega⟩
  | n + 1, f, hn => by
    by_cases hl : f.sz < g.sz
    · exact ⟨0, f, by grind, hl⟩
    · have hgp := sz_pos hg
      have hf : f ≠ 0 := fun e => by rw [e, sz_zero] at hl; omega
      obtain ⟨b, hb⟩ := fin_ex_inv (sz_top hg)
      -- the monomial
      have key : ∀ k : Nat, (X ^ k : Po p) ≠ 0 ∧ (X ^ k : Po p).sz = k + 1 ∧ (X ^ k : Po p).s k = 1 := by
        intro k
        induction k with
        | zero => rw [Semiring.pow_zero]; exact ⟨one_ne, sz_one, rfl⟩
        | succ k ih =>
          have e : (X ^ (k + 1) : Po p) = X * X ^ k := by rw [Semiring.pow_succ]; grind
          have h1 : (X ^ (k + 1) : Po p).s (k + 1) = 1 := by rw [e, Xmul_aps]; exact ih.2.2
          have h2 : (X ^ (k + 1) : Po p) ≠ 0 := fun z => by rw [z, zero_ap] at h1; exact fin_one_ne h1.symm
          refine ⟨h2, sz_eq (fun i hi => ?_) (.inr (by rw [Nat.add_sub_cancel, h1]; exact fin_one_ne)), h1⟩
          cases i with
          | zero => omega
          | succ i => rw [e, Xmul_aps]; exact (X ^ k : Po p).sz_dg i (by omega)
      obtain ⟨k1, k2, k3⟩ := key (f.sz - g.sz)
      have m1 := sz_mul k1 hg
      rw [k2] at m1
      have e3 : f.sz - g.sz + 1 - 1 + (g.sz - 1) = f.sz - 1 := by omega
      rw [e3, Nat.add_sub_cancel, k3] at m1
      have hfp := sz_pos hf
      have lt : (f - C (f.s (f.sz - 1) * b) * (X ^ (f.sz - g.sz) * g)).sz ≤ n := sz_le fun i hi => by
        rw [sub_ap, Cmul_ap]
        by_cases hi2 : i = f.sz - 1
        · rw [hi2, m1.2]; grind
        · rw [sz_dg f i (by omega), sz_dg (X ^ (f.sz - g.sz) * g : Po p) i (by omega)]; grind
      obtain ⟨q, r, e, hr⟩ := ex_div hg n _ lt
      exact ⟨q + C (f.s (f.sz - 1) * b) * X ^ (f.sz - g.sz), r, by grind, hr⟩
theorem div_uniq {g q r q' r' : Po p} (e : q * g + r = q' * g + r') (h : r.sz < g.sz) (h' : r'.sz < g.sz) : q = q' ∧ r = r' := by
  have hg : g ≠ 0 := fun z => by rw [z, sz_zero] at h; omega
  have e2 : r' - r = g * (q - q') := by grind
  have hz : r' - r = 0 := Dv.of_sz_lt ⟨_, e2⟩ (by have := sz_sub_le r' r; omega)
  refine ⟨?_, by grind⟩
  rw [hz] at e2
  rcases mul_zero_or e2.symm with z | z
  · exact absurd z hg
  · grind
theorem ex_bez : ∀ (n : Nat) (f g : Po p), g.sz ≤ n → ∃ d u v, d = u * f + v * g ∧ Dv d f ∧ Dv d g
  | 0, f, g, hn => ⟨f, 1, 0, by grind, Dv.refl f, by rw [eq_zero_of_sz (f := g) (by omega)]; exact Dv.zero f⟩
  | n + 1, f, g, hn => by
    by_cases hg : g = 0
    · exact ⟨f, 1, 0, by grind, Dv.refl f, by rw [hg]; exact Dv.zero f⟩
    · obtain ⟨q, r, e, hr⟩ := ex_div hg _ f (Nat.le_refl _)
      obtain ⟨d, u, v, e1, h1, h2⟩ := ex_bez n g r (by omega)
      exact ⟨d, v, u - v * q, by grind, by rw [e]; exact (h1.mul_left q).add h2, h1⟩

/-! level ones and whole ones -/
def Mo (f : Po p) : Prop := f ≠ 0 ∧ f.s (f.sz - 1) = 1
def Irr (f : Po p) : Prop := 2 ≤ f.sz ∧ ∀ a b, f = a * b → a.sz ≤ 1 ∨ b.sz ≤ 1
theorem Irr.ne {f : Po p} (h : Irr f) : f ≠ 0 := fun e => by have := h.1; rw [e, sz_zero] at this; omega
theorem Mo.one : Mo (1 : Po p) := ⟨one_ne, by rw [sz_one]; rfl⟩
theorem Mo.mul {f g : Po p} (hf : Mo f) (hg : Mo g) : Mo (f * g) := by
  have h := sz_mul hf.1 hg.1
  have h1 := sz_pos hf.1
  have h2 := sz_pos hg.1
  refine ⟨mul_ne hf.1 hg.1, ?_⟩
  have e : (f * g).sz - 1 = f.sz - 1 + (g.sz - 1) := by omega
  rw [e, h.2, hf.2, hg.2]; grind
theorem Mo.pow {f : Po p} (hf : Mo f) : ∀ n : Nat, Mo (f ^ n)
  | 0 => Mo.one
  | n + 1 => by rw [Semiring.pow_succ]; exact (Mo.pow hf n).mul hf
theorem Mo.of_mul {f g : Po p} (hf : Mo f) (h : Mo (f * g)) : Mo g := by
  have hg : g ≠ 0 := fun e => h.1 (by rw [e]; grind)
  refine ⟨hg, ?_⟩
  have h3 := sz_mul hf.1 hg
  have h1 := sz_pos hf.1
  have h2 := sz_pos hg
  have e : (f * g).sz - 1 = f.sz - 1 + (g.sz - 1) := by omega
  have := h.2
  rw [e, h3.2, hf.2] at this
  grind
theorem Mo.eq_one {f : Po p} (hf : Mo f) (h : f.sz ≤ 1) : f = 1 := by
  have h1 := sz_pos hf.1
  have e := eq_C_of_sz h
  have := hf.2
  have e2 : f.sz - 1 = 0 := by omega
  rw [e2] at this
  rw [e, this, C_one]
theorem Mo.assoc {f g : Po p} (hf : Mo f) (hg : Mo g) (h : Dv f g) (hs : g.sz ≤ f.sz) : f = g := by
  obtain ⟨c, e⟩ := h
  have hc : Mo c := hf.of_mul (e ▸ hg)
  have h1 := (sz_mul hf.1 hc.1).1
  rw [← e] at h1
  rw [e, hc.eq_one (by omega)]; grind
theorem Irr.prime {q a b : Po p} (hq : Irr q) (h : Dv q (a * b)) : Dv q a ∨ Dv q b := by
  obtain ⟨d, u, v, e, ⟨x, hx⟩, h2⟩ := ex_bez _ q a (Nat.le_refl _)
  rcases hq.2 d x hx with hd | hd
  · -- d is a unit
    refine .inr ?_
    have hdn : d ≠ 0 := fun z => hq.ne (by rw [hx, z]; grind)
    have := sz_pos hdn
    obtain ⟨w, hw⟩ := unit_of_sz (u := d) (by omega)
    obtain ⟨c, hc⟩ := h
    exact ⟨w * (u * b + v * c), by grind⟩
  · -- x is a unit
    refine .inl ?_
    have hxn : x ≠ 0 := fun z => hq.ne (by rw [hx, z]; grind)
    have := sz_pos hxn
    obtain ⟨w, hw⟩ := unit_of_sz (u := x) (by omega)
    obtain ⟨c, hc⟩ := h2
    exact ⟨w * c, by grind⟩
theorem Irr.eq_of_dv {q r : Po p} (hq : Irr q) (hr : Irr r) (mq : Mo q) (mr : Mo r) (h : Dv q r) : q = r := by
  obtain ⟨c, e⟩ := h
  have hq2 := hq.1
  have hc : c.sz ≤ 1 := by
    rcases hr.2 q c e with z | z
    · omega
    · exact z
  have hcn : c ≠ 0 := fun z => hr.ne (by rw [e, z]; grind)
  have := (sz_mul mq.1 hcn).1
  exact mq.assoc mr ⟨c, e⟩ (by rw [e]; omega)
theorem Irr.dv_pow {q a : Po p} (hq : Irr q) : ∀ {n : Nat}, Dv q (a ^ n) → Dv q a
  | 0, h => by
    rw [Semiring.pow_zero] at h
    have := h.sz_le one_ne
    rw [sz_one] at this
    have := hq.1; omega
  | n + 1, h => by
    rw [Semiring.pow_succ] at h
    rcases hq.prime h with z | z
    · exact hq.dv_pow z
    · exact z

/-! products of whole ones -/
def fpr : List (Po p × Nat) → Po p
  | [] => 1
  | (k, c) :: r => k ^ c * fpr r
open Classical in
noncomputable def cnt (q : Po p) : List (Po p × Nat) → Nat
  | [] => 0
  | (k, c) :: r => (if k = q then c else 0) + cnt q r
theorem fpr_append (L M : List (Po p × Nat)) : fpr (L ++ M) = fpr L * fpr M := by
  induction L with
  | nil => show fpr M = 1 * fpr M; grind
  | cons x r ih => obtain ⟨k, c⟩ := x; show k ^ c * fpr (r ++ M) = k ^ c * fpr r * fpr M; rw [ih]; grind
theorem cnt_append (q : Po p) (L M : List (Po p × Nat)) : cnt q (L ++ M) = cnt q L + cnt q M := by
  induction L with
  | nil => show cnt q M = 0 + cnt q M; omega
  | cons x r ih => obtain ⟨k, c⟩ := x; show _ + cnt q (r ++ M) = _ + cnt q r + cnt q M; rw [ih]; omega
def Wh (L : List (Po p × Nat)) : Prop := ∀ x ∈ L, Irr x.1 ∧ Mo x.1
theorem Wh.mo : ∀ {L : List (Po p × Nat)}, Wh L → Mo (fpr L)
  | [], _ => Mo.one
  | (k, c) :: r, h => ((h (k, c) (List.mem_cons_self ..)).2.pow c).mul (Wh.mo fun x hx => h x (List.mem_cons_of_mem _ hx))
open Classical in
theorem split_cnt {q : Po p} (hq : Irr q) (mq : Mo q) : ∀ {L : List (Po p × Nat)}, Wh L → ∃ R, fpr L = q ^ (cnt q L) * R ∧ ¬ Dv q R
  | [], _ => ⟨1, by show (1 : Po p) = q ^ 0 * 1; grind, fun h => by
      have := h.sz_le one_ne; rw [sz_one] at this; have := hq.1; omega⟩
  | (k, c) :: r, h => by
    obtain ⟨R, e, hn⟩ := split_cnt hq mq (L := r) fun x hx => h x (List.mem_cons_of_mem _ hx)
    obtain ⟨hk, mk⟩ := h (k, c) (List.mem_cons_self ..)
    by_cases hkq : k = q
    · refine ⟨R, ?_, hn⟩
      show k ^ c * fpr r = q ^ ((if k = q then c else 0) + cnt q r) * R
      rw [if_pos hkq, e, hkq, Semiring.pow_add]; grind
    · refine ⟨k ^ c * R, ?_, fun hd => ?_⟩
      · show k ^ c * fpr r = q ^ ((if k = q then c else 0) + cnt q r) * (k ^ c * R)
        rw [if_neg hkq, e, Nat.zero_add]; grind
      · rcases hq.prime hd with z | z
        · exact hkq (hq.eq_of_dv hk mq mk (hq.dv_pow z)).symm
        · exact hn z
theorem pow_ne {q : Po p} (h : q ≠ 0) : ∀ n : Nat, q ^ n ≠ 0
  | 0 => one_ne
  | n + 1 => by rw [Semiring.pow_succ]; exact mul_ne (pow_ne h n) h
theorem dv_pow_iff {q R : Po p} (hq : Irr q) (hn : ¬ Dv q R) {c k : Nat} : Dv (q ^ k) (q ^ c * R) ↔ k ≤ c := by
  constructor
  · intro h
    apply Nat.le_of_not_lt; intro hl
    obtain ⟨x, hx⟩ := h
    obtain ⟨d, rfl⟩ : ∃ d, k = c + (d + 1) := ⟨k - c - 1, by omega⟩
    rw [Semiring.pow_add, Semiring.pow_succ] at hx
    have : R = q * (q ^ d * x) := mul_cancel (pow_ne hq.ne c) (by grind)
    exact hn ⟨_, this⟩
  · intro h
    obtain ⟨d, rfl⟩ : ∃ d, c = k + d := ⟨c - k, by omega⟩
    exact ⟨q ^ d * R, by rw [Semiring.pow_add]; grind⟩
/-- how often a whole one stands in a product is told by the product -/
theorem cnt_iff {q : Po p} (hq : Irr q) (mq : Mo q) {L : List (Po p × Nat)} (h : Wh L) (k : Nat) : Dv (q ^ k) (fpr L) ↔ k ≤ cnt q L := by
  obtain ⟨R, e, hn⟩ := split_cnt hq mq h
  rw [e]; exact dv_pow_iff hq hn
theorem cnt_uniq {q : Po p} (hq : Irr q) (mq : Mo q) {L M : List (Po p × Nat)} (h : Wh L) (h' : Wh M) (e : fpr L = fpr M) : cnt q L = cnt q M := by
  have h1 := (cnt_iff hq mq h (cnt q L)).mpr (Nat.le_refl _)
  have h2 := (cnt_iff hq mq h' (cnt q M)).mpr (Nat.le_refl _)
  rw [e] at h1; rw [← e] at h2
  have h3 := (cnt_iff hq mq h' _).mp h1
  have h4 := (cnt_iff hq mq h _).mp h2
  omega
end
end Po
end K10
end

section
set_option autoImplicit false
set_option linter.all false
namespace K10
open Lean.Grind

/-! ### what is decided for each prime -/
def linAux (s : Int) (prev : Int) : List Int → List Int
  | [] => [prev]
  | a :: r => (prev - s * a) :: linAux s a r
def linProd (p : Nat) : Nat → List Int
  | 0 => [1]
  | n + 1 => (linAux (n : Int) 0 (linProd p n)).map (· % (p : Int))
def pasAux (prev : Int) : List Int → List Int
  | [] => [prev]
  | a :: r => (prev + a) :: pasAux a r
def pasRow (p : Nat) : Nat → List Int
  | 0 => [1]
  | n + 1 => (pasAux 0 (pasRow p n)).map (· % (p : Int))
theorem lin_ok : (primes.all fun p => linProd p p == 0 :: ((p : Int) - 1) :: (List.replicate (p - 2) 0 ++ [1])) = true := by decide +kernel
theorem pas_ok : (primes.all fun p => pasRow p p == 1 :: (List.replicate (p - 1) 0 ++ [1])) = true := by decide +kernel

namespace Po
section
variable {p : Nat} [Pr p]
theorem pow_at (a : Po p) {n k : Nat} (h : n = k + 1) : a ^ n = a ^ k * a := by subst h; exact Semiring.pow_succ a k
def evI : List Int → Po p → Po p
  | [], _ => 0
  | a :: r, h => C (zc p a) + h * evI r h
theorem evI_mod (l : List Int) (h : Po p) : evI (l.map (· % (p : Int))) h = evI l h := by
  induction l with
  | nil => rfl
  | cons a r ih => show C (zc p (a % p)) + h * evI (r.map _) h = _; rw [ih, zc_mod]; rfl
theorem evI_lin (s : Int) (h : Po p) (l : List Int) : ∀ prev : Int, evI (linAux s prev l) h = C (zc p prev) + (h - C (zc p s)) * evI l h := by
  induction l with
  | nil => intro prev; show C (zc p prev) + h * 0 = C (zc p prev) + (h - C (zc p s)) * 0; grind
  | cons a r ih =>
    intro prev
    show C (zc p (prev - s * a)) + h * evI (linAux s a r) h = C (zc p prev) + (h - C (zc p s)) * (C (zc p a) + h * evI r h)
    rw [ih, zc_sub, zc_mul, C_sub, C_mul]; grind
def prS (h : Po p) : Nat → Po p
  | 0 => 1
  | n + 1 => prS h n * (h - C (zc p n))
theorem prS_ev (h : Po p) : ∀ n : Nat, prS h n = evI (linProd p n) h
  | 0 => by show (1 : Po p) = C (zc p 1) + h * 0; rw [zc_one, C_one]; grind
  | n + 1 => by
    show prS h n * (h - C (zc p n)) = evI ((linAux (n : Int) 0 (linProd p n)).map (· % (p : Int))) h
    rw [evI_mod, evI_lin, ← prS_ev h n, zc_zero, C_zero]; grind
theorem evI_rep (h : Po p) : ∀ n : Nat, evI (List.replicate n 0 ++ [1]) h = h ^ n
  | 0 => by show C (zc p 1) + h * 0 = h ^ 0; rw [zc_one, C_one]; grind
  | n + 1 => by
    show C (zc p 0) + h * evI (List.replicate n 0 ++ [1]) h = h ^ (n + 1)
    rw [evI_rep h n, zc_zero, C_zero, Semiring.pow_succ]; grind
/-- the product of h less each rest -/
theorem prS_eq (h : Po p) : prS h p = h ^ p - h := by
  have e := List.all_eq_true.mp lin_ok p (Pr.mem)
  have e' : linProd p p = 0 :: ((p : Int) - 1) :: (List.replicate (p - 2) 0 ++ [1]) := by simpa using e
  rw [prS_ev, e']
  show C (zc p 0) + h * (C (zc p ((p : Int) - 1)) + h * evI (List.replicate (p - 2) 0 ++ [1]) h) = _
  rw [evI_rep, zc_sub, zc_p, zc_zero, zc_one, C_zero, C_sub, C_zero, C_one]
  have h2 := Pr.two p
  have ep : h ^ p = h * (h * h ^ (p - 2)) := by
    rw [pow_at h (show p = (p - 1) + 1 by omega), pow_at h (show p - 1 = (p - 2) + 1 by omega)]; grind
  rw [ep]; grind
def hom (a b : Po p) : List Int → Po p
  | [] => 0
  | c :: r => C (zc p c) * b ^ r.length + a * hom a b r
theorem hom_mod (a b : Po p) (l : List Int) : hom a b (l.map (· % (p : Int))) = hom a b l := by
  induction l with
  | nil => rfl
  | cons c r ih => show C (zc p (c % p)) * b ^ (r.map _).length + a * hom a b (r.map _) = _; rw [ih, zc_mod, List.length_map]; rfl
theorem hom_pas (a b : Po p) (l : List Int) : ∀ prev : Int, hom a b (pasAux prev l) = C (zc p prev) * b ^ l.length + (a + b) * hom a b l := by
  have len : ∀ (l : List Int) (prev : Int), (pasAux prev l).length = l.length + 1 := by
    intro l
    induction l with
    | nil => intro prev; rfl
    | cons a r ih => intro prev; show (pasAux a r).length + 1 = r.length + 1 + 1; rw [ih]
  induction l with
  | nil => intro prev; show C (zc p prev) * b ^ 0 + a * 0 = C (zc p prev) * b ^ 0 + (a + b) * 0; grind
  | cons c r ih =>
    intro prev
    show C (zc p (prev + c)) * b ^ (pasAux c r).length + a * hom a b (pasAux c r) = C (zc p prev) * b ^ (r.length + 1) + (a + b) * (C (zc p c) * b ^ r.length + a * hom a b r)
    rw [ih, len, zc_add, C_add, Semiring.pow_succ]; grind
theorem hom_pow (a b : Po p) : ∀ n : Nat, (a + b) ^ n = hom a b (pasRow p n) 
  | 0 => by show (1 : Po p) = C (zc p 1) * b ^ 0 + a * 0; rw [zc_one, C_one]; grind
  | n + 1 => by
    show (a + b) ^ (n + 1) = hom a b ((pasAux 0 (pasRow p n)).map (· % (p : Int)))
    rw [hom_mod, hom_pas, ← hom_pow a b n, zc_zero, C_zero, Semiring.pow_succ]; grind
theorem hom_rep (a b : Po p) : ∀ n : Nat, hom a b (List.replicate n 0 ++ [1]) = a ^ n
  | 0 => by show C (zc p 1) * b ^ 0 + a * 0 = a ^ 0; rw [zc_one, C_one]; grind
  | n + 1 => by
    show C (zc p 0) * b ^ _ + a * hom a b (List.replicate n 0 ++ [1]) = a ^ (n + 1)
    rw [hom_rep a b n, zc_zero, C_zero, Semiring.pow_succ]; grind
/-- the power by the prime of a sum -/
theorem frob_add (a b : Po p) : (a + b) ^ p = a ^ p + b ^ p := by
  have e := List.all_eq_true.mp pas_ok p (Pr.mem)
  have e' : pasRow p p = 1 :: (List.replicate (p - 1) 0 ++ [1]) := by simpa using e
  have h2 := Pr.two p
  rw [hom_pow, e']
  show C (zc p 1) * b ^ (List.replicate (p - 1) 0 ++ [1] : List Int).length + a * hom a b (List.replicate (p - 1) 0 ++ [1]) = _
  rw [hom_rep, zc_one, C_one]
  have el : (List.replicate (p - 1) (0 : Int) ++ [1]).length = p := by simp; omega
  rw [el]
  have ep : a ^ p = a * a ^ (p - 1) := by
    rw [pow_at a (show p = (p - 1) + 1 by omega)]; grind
  rw [ep]; grind
theorem mul_pow (a b : Po p) : ∀ n : Nat, (a * b) ^ n = a ^ n * b ^ n
  | 0 => by rw [Semiring.pow_zero, Semiring.pow_zero, Semiring.pow_zero]; grind
  | n + 1 => by rw [Semiring.pow_succ, Semiring.pow_succ, Semiring.pow_succ, mul_pow a b n]; grind
theorem C_pow (a : Fin p) : ∀ n : Nat, (C a : Po p) ^ n = C (a ^ n)
  | 0 => by rw [Semiring.pow_zero, Semiring.pow_zero, C_one]
  | n + 1 => by rw [Semiring.pow_succ, Semiring.pow_succ, C_pow a n, C_mul]
theorem C_frob (a : Fin p) : (C a : Po p) ^ p = C a := by rw [C_pow, fin_frob]
theorem zero_frob : (0 : Po p) ^ p = 0 := by
  have := C_frob (0 : Fin p)
  rw [C_zero] at this; exact this

/-! one put into another -/
def shf (f : Po p) : Po p := ⟨PS.sh f.s, by obtain ⟨n, h⟩ := f.fin; exact ⟨n, fun i hi => h (i + 1) (by omega)⟩⟩
theorem shf_ap (f : Po p) (n : Nat) : (shf f).s n = f.s (n + 1) := rfl
theorem shf_eq (f : Po p) : f = C (f.s 0) + X * shf f := ext fun n => by
  cases n with
  | zero => rw [add_ap, Xmul_ap0, C_ap, if_pos rfl]; grind
  | succ n => rw [add_ap, Xmul_aps, C_ap, if_neg (by omega), shf_ap]; grind
theorem shf_sz (f : Po p) : (shf f).sz ≤ f.sz - 1 := sz_le fun i hi => by rw [shf_ap]; exact sz_dg f _ (by omega)
def cmp : Nat → Po p → Po p → Po p
  | 0, _, _ => 0
  | n + 1, f, h => C (f.s 0) + h * cmp n (shf f) h
theorem shf_add (f g : Po p) : shf (f + g) = shf f + shf g := rfl
theorem cmp_add (h : Po p) : ∀ (n : Nat) (f g : Po p), cmp n (f + g) h = cmp n f h + cmp n g h
  | 0, f, g => by show (0 : Po p) = 0 + 0; grind
  | n + 1, f, g => by
    show C ((f + g).s 0) + h * cmp n (shf (f + g)) h = C (f.s 0) + h * cmp n (shf f) h + (C (g.s 0) + h * cmp n (shf g) h)
    rw [shf_add, cmp_add h n, add_ap, C_add]; grind
theorem shf_Cmul (a : Fin p) (g : Po p) : shf (C a * g) = C a * shf g := ext fun n => by rw [shf_ap, Cmul_ap, Cmul_ap, shf_ap]
theorem cmp_Cmul (h : Po p) (a : Fin p) : ∀ (n : Nat) (g : Po p), cmp n (C a * g) h = C a * cmp n g h
  | 0, g => by show (0 : Po p) = C a * 0; grind
  | n + 1, g => by
    show C ((C a * g).s 0) + h * cmp n (shf (C a * g)) h = C a * (C (g.s 0) + h * cmp n (shf g) h)
    rw [shf_Cmul, cmp_Cmul h a n, Cmul_ap, C_mul]; grind
theorem shf_Xmul (g : Po p) : shf (X * g) = g := ext fun n => by rw [shf_ap, Xmul_aps]
theorem cmp_Xmul (h : Po p) (n : Nat) (g : Po p) : cmp (n + 1) (X * g) h = h * cmp n g h := by
  show C ((X * g).s 0) + h * cmp n (shf (X * g)) h = _
  rw [shf_Xmul, Xmul_ap0, C_zero]; grind
theorem cmp_zero (h : Po p) : ∀ n : Nat, cmp n (0 : Po p) h = 0
  | 0 => rfl
  | n + 1 => by
    show C ((0 : Po p).s 0) + h * cmp n (shf 0) h = 0
    have e : shf (0 : Po p) = 0 := ext fun m => by rw [shf_ap, zero_ap, zero_ap]
    rw [e, cmp_zero h n, zero_ap, C_zero]; grind
theorem cmp_more (h : Po p) : ∀ (n m : Nat) (f : Po p), f.sz ≤ n → n ≤ m → cmp m f h = cmp n f h
  | 0, m, f, hn, _ => by
    have e : f = 0 := eq_zero_of_sz (by omega)
    rw [e, cmp_zero]; rfl
  | n + 1, 0, f, hn, hm => by omega
  | n + 1, m + 1, f, hn, hm => by
    show C (f.s 0) + h * cmp m (shf f) h = C (f.s 0) + h * cmp n (shf f) h
    rw [cmp_more h n m (shf f) (by have := shf_sz f; omega) (by omega)]
noncomputable def cm (f h : Po p) : Po p := cmp f.sz f h
theorem cm_eq {f : Po p} {n : Nat} (h : Po p) (hn : f.sz ≤ n) : cm f h = cmp n f h := (cmp_more h _ _ f (Nat.le_refl _) hn).symm
theorem cm_add (f g h : Po p) : cm (f + g) h = cm f h + cm g h := by
  have := sz_add_le f g
  rw [cm_eq (n := max f.sz g.sz) h this, cm_eq (f := f) (n := max f.sz g.sz) h (by omega), cm_eq (f := g) (n := max f.sz g.sz) h (by omega), cmp_add]
theorem cm_C (a : Fin p) (h : Po p) : cm (C a) h = C a := by
  rw [cm_eq (n := 1) h (sz_C_le a)]
  show C a + h * 0 = C a; grind
theorem Cmul_sz (a : Fin p) (f : Po p) : (C a * f).sz ≤ f.sz := sz_le fun i hi => by rw [Cmul_ap, sz_dg f i hi]; grind
theorem Xmul_sz (f : Po p) : (X * f).sz ≤ f.sz + 1 := sz_le fun i hi => by
  cases i with
  | zero => omega
  | succ i => rw [Xmul_aps, sz_dg f i (by omega)]
theorem cm_Cmul (a : Fin p) (f h : Po p) : cm (C a * f) h = C a * cm f h := by
  rw [cm_eq (n := f.sz) h (Cmul_sz a f), cmp_Cmul]; rfl
theorem cm_Xmul (f h : Po p) : cm (X * f) h = h * cm f h := by
  rw [cm_eq (n := f.sz + 1) h (Xmul_sz f), cmp_Xmul]; rfl
theorem cm_mul (h : Po p) : ∀ (n : Nat) (f g : Po p), f.sz ≤ n → cm (f * g) h = cm f h * cm g h
  | 0, f, g, hn => by
    have e : f = 0 := eq_zero_of_sz (by omega)
    have e1 : (0 : Po p) * g = 0 := by grind
    have e2 : cm (0 : Po p) h = 0 := cm_C 0 h
    rw [e, e1, e2]; grind
  | n + 1, f, g, hn => by
    have ih := cm_mul h n (shf f) g (by have := shf_sz f; omega)
    have e : f * g = C (f.s 0) * g + X * (shf f * g) := by
      conv => lhs; rw [shf_eq f]
      grind
    have e2 : cm f h = C (f.s 0) + h * cm (shf f) h := by
      conv => lhs; rw [shf_eq f]
      rw [cm_add, cm_C, cm_Xmul]
    rw [e, cm_add, cm_Cmul, cm_Xmul, ih, e2]; grind
theorem cm_one (h : Po p) : cm 1 h = 1 := cm_C 1 h
theorem cm_X (h : Po p) : cm X h = h := by
  have e : (X : Po p) = X * 1 := by grind
  rw [e, cm_Xmul, cm_one]; grind
theorem cm_pow (f h : Po p) : ∀ n : Nat, cm (f ^ n) h = cm f h ^ n
  | 0 => by rw [Semiring.pow_zero, Semiring.pow_zero, cm_one]
  | n + 1 => by rw [Semiring.pow_succ, Semiring.pow_succ, cm_mul h _ _ _ (Nat.le_refl _), cm_pow f h n]
/-- the power by the prime: the power by the prime put in for x -/
theorem frob_cmp : ∀ (n : Nat) (f : Po p), f.sz ≤ n → f ^ p = cmp n f (X ^ p)
  | 0, f, hn => by
    have e : f = 0 := eq_zero_of_sz (by omega)
    rw [e, zero_frob]; rfl
  | n + 1, f, hn => by
    have ih := frob_cmp n (shf f) (by have := shf_sz f; omega)
    conv => lhs; rw [shf_eq f, frob_add, mul_pow, C_frob, ih]
    rfl
theorem frob_cm (f : Po p) : f ^ p = cm f (X ^ p) := frob_cmp _ f (Nat.le_refl _)
theorem Xpow_ap (f : Po p) : ∀ (k j : Nat), (X ^ k * f).s j = if j < k then 0 else f.s (j - k)
  | 0, j => by
    have e : X ^ 0 * f = f := by rw [Semiring.pow_zero]; grind
    rw [e]; simp
  | k + 1, j => by
    have e : X ^ (k + 1) * f = X * (X ^ k * f) := by rw [Semiring.pow_succ]; grind
    rw [e]
    cases j with
    | zero => rw [Xmul_ap0, if_pos (by omega)]
    | succ j =>
      rw [Xmul_aps, Xpow_ap f k j]
      by_cases h : j < k
      · rw [if_pos h, if_pos (by omega)]
      · rw [if_neg h, if_neg (by omega), show j + 1 - (k + 1) = j - k by omega]
theorem cmp_coef {d : Nat} (hd : 0 < d) : ∀ (n : Nat) (f : Po p) (j : Nat), f.sz ≤ n → (cmp n f (X ^ d)).s j = if j % d = 0 then f.s (j / d) else 0
  | 0, f, j, hn => by
    have e : f = 0 := eq_zero_of_sz (by omega)
    rw [e]; show (0 : Po p).s j = _; rw [zero_ap, zero_ap]; simp
  | n + 1, f, j, hn => by
    show (C (f.s 0) + X ^ d * cmp n (shf f) (X ^ d)).s j = _
    rw [add_ap, Xpow_ap, C_ap]
    by_cases h : j < d
    · rw [if_pos h, Nat.mod_eq_of_lt h, Nat.div_eq_of_lt h]
      by_cases h0 : j = 0 <;> simp [h0]
      all_goals grind
    · rw [if_neg h, cmp_coef hd n (shf f) (j - d) (by have := shf_sz f; omega), if_neg (by omega)]
      have e1 : (j - d) % d = j % d := by
        conv => rhs; rw [show j = j - d + d by omega]
        simp
      have e2 : j / d = (j - d) / d + 1 := by
        conv => lhs; rw [show j = j - d + d by omega]
        simp [Nat.add_div_right _ hd]
      rw [e1, e2, shf_ap]; split <;> grind

/-! the slope -/
def der (f : Po p) : Po p := ⟨fun n => zc p ((n : Int) + 1) * f.s (n + 1), by
  obtain ⟨n, h⟩ := f.fin; exact ⟨n, fun i hi => by rw [h (i + 1) (by omega)]; grind⟩⟩
theorem der_ap (f : Po p) (n : Nat) : (der f).s n = zc p ((n : Int) + 1) * f.s (n + 1) := rfl
theorem der_sz (f : Po p) : (der f).sz ≤ f.sz - 1 := sz_le fun i hi => by rw [der_ap, sz_dg f _ (by omega)]; grind
theorem der_add (f g : Po p) : der (f + g) = der f + der g := ext fun n => by rw [der_ap, add_ap, add_ap, der_ap, der_ap]; grind
theorem der_C (a : Fin p) : der (C a) = 0 := ext fun n => by rw [der_ap, C_ap, zero_ap, if_neg (by omega)]; grind
theorem der_Cmul (a : Fin p) (f : Po p) : der (C a * f) = C a * der f := ext fun n => by rw [der_ap, Cmul_ap, Cmul_ap, der_ap]; grind
theorem der_Xmul (f : Po p) : der (X * f) = f + X * der f := ext fun n => by
  rw [der_ap, add_ap, Xmul_aps]
  cases n with
  | zero => rw [Xmul_ap0]; show zc p ((0 : Int) + 1) * _ = _; rw [show (0 : Int) + 1 = 1 by rfl, zc_one]; grind
  | succ n => rw [Xmul_aps, der_ap, zc_add, zc_one, Int.natCast_succ]; grind
theorem der_mul : ∀ (n : Nat) (f g : Po p), f.sz ≤ n → der (f * g) = der f * g + f * der g
  | 0, f, g, hn => by
    have e : f = 0 := eq_zero_of_sz (by omega)
    have e1 : (0 : Po p) * g = 0 := by grind
    have e2 : der (0 : Po p) = 0 := der_C 0
    rw [e, e1, e2]; grind
  | n + 1, f, g, hn => by
    have ih := der_mul n (shf f) g (by have := shf_sz f; omega)
    have e : f * g = C (f.s 0) * g + X * (shf f * g) := by
      conv => lhs; rw [shf_eq f]
      grind
    have e2 : der f = shf f + X * der (shf f) := by
      conv => lhs; rw [shf_eq f]
      rw [der_add, der_C, der_Xmul]; grind
    have e3 := shf_eq f
    rw [e, der_add, der_Cmul, der_Xmul, ih, e2]; grind
theorem zc_ne_of_mod {n : Nat} (h : n % p ≠ 0) : zc p (n : Int) ≠ 0 := fun e => by
  rw [← zc_zero, zc_eq] at e
  apply h
  have : ((n % p : Nat) : Int) = 0 := by rw [Int.natCast_emod, e]; simp
  omega
/-- where the slope is nought it is a power by the prime -/
theorem thin {f g : Po p} (h : der f = 0) (hg : ∀ i, g.s i = f.s (i * p)) : f = g ^ p := by
  have hp := Pr.two p
  rw [frob_cm]
  apply ext; intro j
  rw [cm, cmp_coef (by omega) _ _ _ (Nat.le_refl _)]
  by_cases hj : j % p = 0
  · rw [if_pos hj, hg]
    congr 1
    have := Nat.div_add_mod j p
    rw [hj, Nat.mul_comm] at this; omega
  · rw [if_neg hj]
    cases j with
    | zero => simp at hj
    | succ j =>
      have e := congrArg (fun q : Po p => q.s j) h
      have e' : zc p ((j : Int) + 1) * f.s (j + 1) = 0 := by
        have : (der f).s j = (0 : Po p).s j := e
        rw [der_ap, zero_ap] at this; exact this
      apply Classical.byContradiction; intro hn
      exact fin_mul_ne (zc_ne_of_mod (n := j + 1) hj) hn e'

/-! parts that stand once -/
def Sqf (f : Po p) : Prop := ∀ g, Dv (g * g) f → g.sz ≤ 1
theorem Dv.sz_one {g : Po p} (h : Dv g 1) : g.sz ≤ 1 := by have := h.sz_le one_ne; rw [Po.sz_one] at this; exact this
theorem sqf_of {f u v : Po p} (h : 1 = u * f + v * der f) : Sqf f := fun g ⟨c, e⟩ => by
  have e2 : der f = der (g * (g * c)) := by rw [e]; congr 1; grind
  rw [der_mul _ _ _ (Nat.le_refl _), der_mul _ g c (Nat.le_refl _)] at e2
  exact Dv.sz_one ⟨u * (g * c) + v * (der g * c + (der g * c + g * der c)), by grind⟩
theorem Sqf.of_dv {f g : Po p} (h : Sqf f) (k : Dv g f) : Sqf g := fun a ha => h a (ha.trans k)
theorem pow_sz_le {g : Po p} (hg : g ≠ 0) (n : Nat) : g.sz ≤ (g ^ (n + 1)).sz := by
  have := (sz_mul (pow_ne hg n) hg).1
  have h := sz_pos (pow_ne hg n)
  rw [Semiring.pow_succ]; omega
theorem Irr.der_ne {f : Po p} (h : Irr f) : der f ≠ 0 := fun e => by
  have hp := Pr.two p
  have eg := thin (g := ⟨fun i => f.s (i * p), by
    obtain ⟨n, k⟩ := f.fin
    exact ⟨n, fun i hi => k _ (Nat.le_trans hi (Nat.le_mul_of_pos_right _ (by omega)))⟩⟩) e (fun i => rfl)
  generalize (⟨fun i => f.s (i * p), _⟩ : Po p) = g at eg
  have hgn : g ≠ 0 := fun z => h.ne (by rw [eg, z, zero_frob])
  have h1 := sz_pos hgn
  obtain ⟨k, hk⟩ : ∃ k, p = k + 1 + 1 := ⟨p - 2, by omega⟩
  have e2 : f = g ^ (k + 1) * g := by rw [eg, pow_at g hk]
  have hl := pow_sz_le hgn k
  have g1 : g.sz ≤ 1 := by
    rcases h.2 _ _ e2 with z | z <;> omega
  have e3 : g = C (g.s 0) := eq_C_of_sz g1
  have : f.sz ≤ 1 := by
    rw [eg, e3, C_frob]; exact sz_C_le _
  have := h.1; omega
theorem Irr.sep {f d u v : Po p} (h : Irr f) (md : Mo d) (e : d = u * f + v * der f) (h1 : Dv d f) (h2 : Dv d (der f)) : d = 1 := by
  obtain ⟨c, hc⟩ := h1
  rcases h.2 d c hc with z | z
  · exact md.eq_one z
  · exfalso
    have hcn : c ≠ 0 := fun q => h.ne (by rw [hc, q]; grind)
    have h3 := (sz_mul md.1 hcn).1
    have h4 := h2.sz_le h.der_ne
    have h5 := der_sz f
    have h6 := h.1
    rw [← hc] at h3; omega
theorem dv_pow_sub (a b : Po p) : ∀ n : Nat, Dv (a - b) (a ^ n - b ^ n)
  | 0 => by rw [Semiring.pow_zero, Semiring.pow_zero]; exact ⟨0, by grind⟩
  | n + 1 => by
    obtain ⟨c, hc⟩ := dv_pow_sub a b n
    exact ⟨a ^ n + c * b, by rw [Semiring.pow_succ, Semiring.pow_succ]; grind⟩
theorem one_pow' (n : Nat) : (1 : Po p) ^ n = 1 := Semiring.one_pow n

/-! ### still ones (Berlekamp) -/
def Still (f h : Po p) : Prop := Dv f (h ^ p - h)
theorem Still.cong {f h k : Po p} (hs : Still f h) (e : Dv f (h - k)) : Still f k := by
  have h1 : Dv f (h ^ p - k ^ p) := e.trans (dv_pow_sub h k p)
  have h2 : k ^ p - k = (h ^ p - h) - (h ^ p - k ^ p) + (h - k) := by grind
  unfold Still
  rw [h2]; exact (hs.sub h1).add e
theorem irr_of_still {f : Po p} (hf : 2 ≤ f.sz) (sq : Sqf f) (H : ∀ h, h.sz < f.sz → Still f h → h.sz ≤ 1) : Irr f := by
  have hp := Pr.two p
  have fn : f ≠ 0 := fun e => by rw [e, sz_zero] at hf; omega
  refine ⟨hf, fun a b e => ?_⟩
  apply Classical.byContradiction; intro hn
  have ha : 2 ≤ a.sz := by omega
  have hb : 2 ≤ b.sz := by omega
  obtain ⟨d, u, v, ed, ⟨x, hx⟩, ⟨y, hy⟩⟩ := ex_bez _ a b (Nat.le_refl _)
  have d1 : d.sz ≤ 1 := sq d ⟨x * y, by rw [e]; grind⟩
  have dn : d ≠ 0 := fun z => fn (by rw [e, hx, z]; grind)
  obtain ⟨w, hw⟩ := unit_of_sz (u := d) (by have := sz_pos dn; omega)
  have ab : w * u * a + w * v * b = 1 := by grind
  generalize hE : w * u * a = E at ab
  have aE : Dv a E := ⟨w * u, by grind⟩
  have bE : Dv b (E - 1) := ⟨-(w * v), by grind⟩
  obtain ⟨k, hk⟩ : ∃ k, p = k + 1 := ⟨p - 1, by omega⟩
  have s1 : Dv a (E ^ p - E) := by
    have : E ^ p - E = (E ^ k - 1) * E := by rw [pow_at E hk]; grind
    rw [this]; exact aE.mul_left _
  have s2 : Dv b (E ^ p - E) := by
    have h1 := bE.trans (dv_pow_sub E 1 p)
    rw [one_pow'] at h1
    have : E ^ p - E = (E ^ p - 1) - (E - 1) := by grind
    rw [this]; exact h1.sub bE
  have st : Still f E := by
    obtain ⟨m, hm⟩ := s1; obtain ⟨n, hn⟩ := s2
    unfold Still
    exact ⟨w * u * n + w * v * m, by
      have : E ^ p - E = (w * u * a + w * v * b) * (E ^ p - E) := by rw [hE, ab]; grind
      grind⟩
  obtain ⟨q, r, er, hr⟩ := ex_div fn _ E (Nat.le_refl _)
  have fr : Dv f (E - r) := ⟨q, by grind⟩
  have r1 := H r hr (st.cong fr)
  have ar : Dv a r := by
    have h1 : Dv a (E - r) := (Dv.trans ⟨b, e⟩ fr)
    have : r = E - (E - r) := by grind
    rw [this]; exact aE.sub h1
  have br : Dv b (r - 1) := by
    have h1 : Dv b (E - r) := (Dv.trans ⟨a, by grind⟩ fr)
    have : r - 1 = (E - 1) - (E - r) := by grind
    rw [this]; exact bE.sub h1
  have r0 : r = 0 := ar.of_sz_lt (by omega)
  have r2 : r - 1 = 0 := br.of_sz_lt (by
    have := sz_sub_le r 1
    have := Po.sz_one (p := p); omega)
  rw [r0] at r2
  exact one_ne (p := p) (by grind)
theorem split_of_still {f h : Po p} (hs : Still f h) (h2 : 2 ≤ h.sz) (hl : h.sz < f.sz) (d u v : Nat → Po p) (md : ∀ s, s < p → Mo (d s)) 
    (e : ∀ s, s < p → d s = u s * f + v s * (h - C (zc p s))) (k : ∀ s, s < p → Dv (d s) (h - C (zc p s))) : ∃ s, s < p ∧ 1 < (d s).sz ∧ (d s).sz < f.sz := by
  apply Classical.byContradiction; intro hn
  have one : ∀ s, s < p → d s = 1 := fun s hlt => by
    have hz : h - C (zc p s) ≠ 0 := fun z => by
      have e1 : h = C (zc p s) := by grind
      have := sz_C_le (zc p (s : Int))
      rw [← e1] at this; omega
    have h1 := (k s hlt).sz_le hz
    have h3 := sz_sub_le h (C (zc p (s : Int)))
    have h4 := sz_C_le (zc p (s : Int))
    apply (md s hlt).eq_one
    apply Nat.le_of_not_lt; intro h5
    exact hn ⟨s, hlt, h5, by omega⟩
  have key : ∀ n, n ≤ p → ∃ a b, 1 = a * f + b * prS h n := by
    intro n
    induction n with
    | zero => intro _; exact ⟨0, 1, by show (1 : Po p) = 0 * f + 1 * 1; grind⟩
    | succ n ih =>
      intro hle
      obtain ⟨a, b, e1⟩ := ih (by omega)
      have e2 := e n (by omega)
      rw [one n (by omega)] at e2
      refine ⟨a + b * prS h n * u n, b * v n, ?_⟩
      show 1 = _ + b * v n * (prS h n * (h - C (zc p n)))
      grind
  obtain ⟨a, b, e1⟩ := key p (Nat.le_refl _)
  rw [prS_eq] at e1
  obtain ⟨c, hc⟩ := hs
  have : Dv f 1 := ⟨a + b * c, by grind⟩
  have := this.sz_one
  omega
theorem Irr.still {f h : Po p} (hf : Irr f) (hs : Still f h) (hl : h.sz < f.sz) : h.sz ≤ 1 := by
  have key : ∀ n, Dv f (prS h n) → ∃ s : Nat, Dv f (h - C (zc p s)) := by
    intro n
    induction n with
    | zero => intro k; have := Dv.sz_one k; have := hf.1; omega
    | succ n ih =>
      intro k
      rcases hf.prime k with z | z
      · exact ih z
      · exact ⟨n, z⟩
  unfold Still at hs
  rw [← prS_eq] at hs
  obtain ⟨s, hz⟩ := key p hs
  have h4 := sz_C_le (zc p (s : Int))
  have h6 := hf.1
  have h3 := sz_sub_le h (C (zc p (s : Int)))
  have := hz.of_sz_lt (by omega)
  have e : h = C (zc p s) := by grind
  rw [e]; exact h4
end
end Po
end K10
end

section
set_option autoImplicit false
set_option linter.all false
namespace K10
open Lean.Grind
namespace Po
section
variable {p : Nat} [Pr p]
/-- the polynomial of a row of numbers -/
def pol (p : Nat) [Pr p] (ns : List Int) : Po p := ⟨fun i => zc p (ns.getD i 0), ns.length, fun i hi => by
  rw [List.getD_eq_getElem?_getD, List.getElem?_eq_none hi]; exact zc_zero⟩
theorem pol_ap (ns : List Int) (i : Nat) : (pol p ns).s i = zc p (ns.getD i 0) := rfl
theorem pol_dg (ns : List Int) : Dg (pol p ns).s ns.length := fun i hi => by
  rw [pol_ap, List.getD_eq_getElem?_getD, List.getElem?_eq_none hi]; exact zc_zero
theorem pol_sz_le (ns : List Int) : (pol p ns).sz ≤ ns.length := sz_le (pol_dg ns)
theorem pol_nil : pol p [] = 0 := ext fun n => by rw [pol_ap, zero_ap]; exact zc_zero
/-- its rests, without noughts at the end -/
noncomputable def lst (f : Po p) : List Int := (List.range f.sz).map fun i => ((f.s i).val : Int)
theorem lst_len (f : Po p) : (lst f).length = f.sz := by unfold lst; simp
theorem lst_get {f : Po p} {i : Nat} (h : i < f.sz) : (lst f)[i]? = some ((f.s i).val : Int) := by unfold lst; simp [h]
theorem lst_getD (f : Po p) (i : Nat) : (lst f).getD i 0 = ((f.s i).val : Int) := by
  rw [List.getD_eq_getElem?_getD]
  by_cases h : i < f.sz
  · rw [lst_get h]; rfl
  · rw [List.getElem?_eq_none (by rw [lst_len]; omega), sz_dg f i (by omega)]
    show (0 : Int) = ((0 % p : Nat) : Int)
    simp
theorem pol_lst (f : Po p) : pol p (lst f) = f := ext fun n => by rw [pol_ap, lst_getD, zc_fin]
theorem lst_inj {f g : Po p} (h : lst f = lst g) : f = g := by rw [← pol_lst f, ← pol_lst g, h]
def Rests (p : Nat) (ns : List Int) : Prop := ∀ n ∈ ns, 0 ≤ n ∧ n < (p : Int)
theorem lst_rests (f : Po p) : Rests p (lst f) := fun n hn => by
  unfold lst at hn
  obtain ⟨i, _, rfl⟩ := List.mem_map.mp hn
  exact ⟨by omega, by have := (f.s i).isLt; omega⟩
theorem lst_ext {f : Po p} {ns : List Int} (hr : Rests p ns) (hl : ns.length = f.sz) (h : ∀ i, i < f.sz → zc p (ns.getD i 0) = f.s i) : ns = lst f := by
  apply List.ext_getElem?
  intro i
  by_cases hi : i < f.sz
  · rw [lst_get hi]
    have h1 : i < ns.length := by omega
    have e := h i hi
    rw [List.getD_eq_getElem?_getD, List.getElem?_eq_getElem h1] at e
    rw [List.getElem?_eq_getElem h1]
    congr 1
    obtain ⟨a, b⟩ := hr ns[i] (List.getElem_mem h1)
    have e2 := congrArg (fun x : Fin p => (x.val : Int)) e
    have e3 : ((zc p ns[i]).val : Int) = ((f.s i).val : Int) := e2
    rw [zc_val, Int.emod_eq_of_lt a b] at e3
    exact e3
  · rw [List.getElem?_eq_none (by omega), List.getElem?_eq_none (by rw [lst_len]; omega)]
theorem rests_get {ns : List Int} (hr : Rests p ns) {i : Nat} {n : Int} (h : ns[i]? = some n) : 0 ≤ n ∧ n < (p : Int) := hr n (List.mem_of_getElem? h)
/-- what cut leaves -/
theorem cut_lst {ns : List Int} (hr : Rests p ns) {m : Nat} (hm : m ≤ ns.length) (hz : ∀ i, m ≤ i → ns.getD i 0 = 0) (ht : m = 0 ∨ ns.getD (m - 1) 0 ≠ 0) : ns.take m = lst (pol p ns) := by
  have hs : (pol p ns).sz = m := by
    refine sz_eq (fun i hi => by rw [pol_ap, hz i hi]; exact zc_zero) ?_
    rcases ht with h | h
    · exact .inl h
    · refine .inr ?_
      rw [pol_ap]
      by_cases hl : m - 1 < ns.length
      · have e : ns.getD (m - 1) 0 = ns[m - 1] := by rw [List.getD_eq_getElem?_getD, List.getElem?_eq_getElem hl]; rfl
        rw [e] at h ⊢
        obtain ⟨a, b⟩ := hr _ (List.getElem_mem hl)
        exact zc_ne_zero a b h
      · rw [List.getD_eq_getElem?_getD, List.getElem?_eq_none (by omega)] at h
        exact absurd rfl h
  refine lst_ext (fun n hn => hr n (List.mem_of_mem_take hn)) (by rw [List.length_take, hs]; omega) fun i hi => ?_
  rw [pol_ap]
  congr 1
  rw [List.getD_eq_getElem?_getD, List.getD_eq_getElem?_getD, List.getElem?_take_of_lt (by omega)]
theorem Xpow_s (i j : Nat) : (X ^ i : Po p).s j = if j = i then 1 else 0 := by
  have e : (X ^ i : Po p) = X ^ i * 1 := by grind
  rw [e, Xpow_ap]
  by_cases h : j < i
  · rw [if_pos h, if_neg (by omega)]
  · rw [if_neg h]
    by_cases h2 : j = i
    · subst h2; rw [if_pos rfl, Nat.sub_self]; rfl
    · rw [if_neg h2]
      obtain ⟨k, hk⟩ : ∃ k, j - i = k + 1 := ⟨j - i - 1, by omega⟩
      rw [hk]; rfl
theorem CX_s (a : Fin p) (i j : Nat) : (C a * X ^ i : Po p).s j = if j = i then a else 0 := by
  rw [Cmul_ap, Xpow_s]; split <;> grind
theorem pol_set {ns : List Int} {i : Nat} {x y : Int} (h : ns[i]? = some x) : pol p (ns.set i y) = pol p ns + C (zc p (y - x)) * X ^ i := ext fun n => by
  have hi := (List.getElem?_eq_some_iff.mp h).1
  rw [add_ap, CX_s, pol_ap, pol_ap, List.getD_eq_getElem?_getD, List.getD_eq_getElem?_getD]
  by_cases hn : n = i
  · subst hn
    rw [if_pos rfl, List.getElem?_set_self hi, h]
    show zc p y = zc p x + zc p (y - x)
    rw [zc_sub]; grind
  · rw [if_neg hn, List.getElem?_set_ne (Ne.symm hn)]; grind
theorem pol_take {ns : List Int} {i : Nat} {x : Int} (h : ns[i]? = some x) : pol p (ns.take (i + 1)) = pol p (ns.take i) + C (zc p x) * X ^ i := ext fun n => by
  have hi := (List.getElem?_eq_some_iff.mp h).1
  rw [add_ap, CX_s, pol_ap, pol_ap, List.getD_eq_getElem?_getD, List.getD_eq_getElem?_getD]
  by_cases hn : n = i
  · subst hn
    rw [if_pos rfl, List.getElem?_take_of_lt (by omega), h, List.getElem?_eq_none (by simp; omega)]
    show zc p x = zc p 0 + zc p x
    rw [zc_zero]; grind
  · rw [if_neg hn]
    by_cases hl : n < i
    · rw [List.getElem?_take_of_lt (by omega), List.getElem?_take_of_lt hl]; grind
    · rw [List.getElem?_eq_none (by simp; omega), List.getElem?_eq_none (by simp; omega)]; grind
theorem pol_take_all {ns : List Int} {i : Nat} (h : ns.length ≤ i) : pol p (ns.take i) = pol p ns := by rw [List.take_of_length_le h]
theorem pol_take_of {ns : List Int} {m : Nat} (hz : ∀ i, m ≤ i → ns.getD i 0 = 0) : pol p (ns.take m) = pol p ns := ext fun n => by
  rw [pol_ap, pol_ap]
  by_cases h : n < m
  · rw [List.getD_eq_getElem?_getD, List.getD_eq_getElem?_getD, List.getElem?_take_of_lt h]
  · rw [hz n (by omega), List.getD_eq_getElem?_getD, List.getElem?_eq_none (by simp; omega)]; rfl
theorem pol_rep (m : Nat) : pol p (List.replicate m 0) = 0 := ext fun n => by
  rw [pol_ap, zero_ap, List.getD_eq_getElem?_getD]
  by_cases h : n < m
  · rw [List.getElem?_replicate, if_pos h]; exact zc_zero
  · rw [List.getElem?_eq_none (by simp; omega)]; exact zc_zero
theorem pol_mod (ns : List Int) : pol p (ns.map (· % (p : Int))) = pol p ns := ext fun n => by
  rw [pol_ap, pol_ap, List.getD_eq_getElem?_getD, List.getD_eq_getElem?_getD, List.getElem?_map]
  cases ns[n]? with
  | none => rfl
  | some x => exact zc_mod x
theorem rests_mod (ns : List Int) : Rests p (ns.map (· % (p : Int))) := fun n hn => by
  obtain ⟨x, _, rfl⟩ := List.mem_map.mp hn
  have := Pr.two p
  exact ⟨Int.emod_nonneg _ (by omega), Int.emod_lt_of_pos _ (by omega)⟩
theorem lst_last {f : Po p} (h : f ≠ 0) : ∃ n, (lst f)[f.sz - 1]? = some n ∧ 0 < n ∧ n < (p : Int) ∧ zc p n = f.s (f.sz - 1) := by
  have h1 := sz_pos h
  refine ⟨_, lst_get (by omega), ?_, ?_, zc_fin _⟩
  · have := sz_top h
    have h2 : (f.s (f.sz - 1)).val ≠ 0 := fun e => this (Fin.ext (by rw [e]; show 0 = 0 % p; simp))
    omega
  · have := (f.s (f.sz - 1)).isLt
    omega
theorem lst_zero : lst (0 : Po p) = [] := by
  have := lst_len (0 : Po p)
  rw [sz_zero] at this
  exact List.length_eq_zero_iff.mp this
theorem lst_nil_iff {f : Po p} : lst f = [] ↔ f = 0 := by
  constructor
  · intro h
    apply eq_zero_of_sz
    rw [← lst_len, h]; rfl
  · intro h; rw [h, lst_zero]
theorem lst_C {a : Int} (h0 : 0 < a) (h1 : a < (p : Int)) : lst (C (zc p a)) = [a] := by
  symm
  have hz := zc_ne_zero (p := p) (by omega) h1 (by omega : a ≠ 0)
  refine lst_ext (fun n hn => by rw [List.mem_singleton.mp hn]; omega) (by rw [sz_C hz]; rfl) fun i hi => ?_
  rw [sz_C hz] at hi
  have : i = 0 := by omega
  subst this; rfl
theorem lst_one : lst (1 : Po p) = [1] := by
  have := lst_C (p := p) (a := 1) (by omega) (by have := Pr.two p; omega)
  rw [zc_one] at this; exact this
theorem lst_X : lst (X : Po p) = [0, 1] := by
  symm
  have h2 := Pr.two p
  have e1 : (X : Po p).s 1 = 1 := rfl
  have hs : (X : Po p).sz = 2 := sz_eq (fun i hi => by rw [X_ap, if_neg (by omega)]) (.inr (by show (X : Po p).s 1 ≠ 0; rw [e1]; exact fin_one_ne))
  refine lst_ext (fun n hn => ?_) (by rw [hs]; rfl) fun i hi => ?_
  · have : n = 0 ∨ n = 1 := by simpa using hn
    omega
  · rw [hs] at hi
    have : i = 0 ∨ i = 1 := by omega
    rcases this with rfl | rfl
    · exact zc_zero
    · exact zc_one
theorem X_sz : (X : Po p).sz = 2 := by have := lst_len (X : Po p); rw [lst_X] at this; exact this.symm
end
end Po
end K10
end

section
set_option autoImplicit false
set_option linter.all false
namespace K10
open Lean.Grind
namespace Po
section
variable {p : Nat} [Pr p]
theorem pol_cons (a : Int) (r : List Int) : pol p (a :: r) = C (zc p a) + X * pol p r := ext fun n => by
  cases n with
  | zero => rw [add_ap, Xmul_ap0, C_ap, if_pos rfl, pol_ap]; show zc p a = zc p a + 0; grind
  | succ n => rw [add_ap, Xmul_aps, C_ap, if_neg (by omega), pol_ap, pol_ap]; show zc p (r.getD n 0) = 0 + zc p (r.getD n 0); grind
theorem cm_zero (h : Po p) : cm 0 h = 0 := cm_C 0 h
theorem cm_cons (a : Int) (r : List Int) (h : Po p) : cm (pol p (a :: r)) h = C (zc p a) + h * cm (pol p r) h := by
  rw [pol_cons, cm_add, cm_C, cm_Xmul]
/-- the worth at a rest: what stands at 0 of the polynomial with the rest put in -/
theorem cm_const (f : Po p) (a : Fin p) : ∃ c, cm f (C a) = C c := by
  have key : ∀ l : List Int, ∃ c, cm (pol p l) (C a) = C c := by
    intro l
    induction l with
    | nil => exact ⟨0, by rw [pol_nil, cm_zero, C_zero]⟩
    | cons x r ih =>
      obtain ⟨c, hc⟩ := ih
      exact ⟨zc p x + a * c, by rw [cm_cons, hc, C_add, C_mul]⟩
  rw [← pol_lst f]; exact key _
noncomputable def ev (f : Po p) (a : Fin p) : Fin p := (cm f (C a)).s 0
theorem C_ev (f : Po p) (a : Fin p) : C (ev f a) = cm f (C a) := by
  obtain ⟨c, hc⟩ := cm_const f a
  unfold ev; rw [hc]; rfl
theorem ev_cons (x : Int) (r : List Int) (a : Fin p) : ev (pol p (x :: r)) a = zc p x + a * ev (pol p r) a := by
  apply C_inj
  rw [C_ev, cm_cons, C_add, C_mul, C_ev]
theorem ev_nil (a : Fin p) : ev (pol p []) a = 0 := by
  apply C_inj
  rw [C_ev, pol_nil, cm_zero, C_zero]
theorem ev_mul (f g : Po p) (a : Fin p) : ev (f * g) a = ev f a * ev g a := by
  apply C_inj
  rw [C_ev, cm_mul _ _ _ _ (Nat.le_refl _), C_mul, C_ev, C_ev]
theorem ev_add (f g : Po p) (a : Fin p) : ev (f + g) a = ev f a + ev g a := by
  apply C_inj
  rw [C_ev, cm_add, C_add, C_ev, C_ev]
theorem ev_C (c a : Fin p) : ev (C c) a = c := by
  apply C_inj
  rw [C_ev, cm_C]
theorem ev_X (a : Fin p) : ev X a = a := by
  apply C_inj
  rw [C_ev, cm_X]
/-- x less a rest -/
def lin (a : Fin p) : Po p := X - C a
theorem lin_s1 (a : Fin p) : (lin a).s 1 = 1 := by
  unfold lin
  rw [sub_ap, X_ap, C_ap, if_pos rfl, if_neg (by omega)]; grind
theorem lin_s0 (a : Fin p) : (lin a).s 0 = - a := by
  unfold lin
  rw [sub_ap, X_ap, C_ap, if_pos rfl, if_neg (by omega)]; grind
theorem lin_sz (a : Fin p) : (lin a).sz = 2 := sz_eq (fun i hi => by
  unfold lin
  rw [sub_ap, X_ap, C_ap, if_neg (by omega), if_neg (by omega)]; grind) (.inr (by show (lin a).s 1 ≠ 0; rw [lin_s1]; exact fin_one_ne))
theorem lin_ne (a : Fin p) : lin a ≠ 0 := fun e => by have := lin_sz a; rw [e, sz_zero] at this; omega
theorem lin_mo (a : Fin p) : Mo (lin a) := ⟨lin_ne a, by rw [lin_sz]; exact lin_s1 a⟩
theorem irr_of_two {f : Po p} (h : f.sz = 2) : Irr f := by
  refine ⟨by omega, fun a b e => ?_⟩
  have hn : f ≠ 0 := fun z => by rw [z, sz_zero] at h; omega
  have ha : a ≠ 0 := fun z => hn (by rw [e, z]; grind)
  have hb : b ≠ 0 := fun z => hn (by rw [e, z]; grind)
  have := (sz_mul ha hb).1
  rw [← e] at this
  omega
theorem lin_irr (a : Fin p) : Irr (lin a) := irr_of_two (lin_sz a)
theorem ev_lin (a : Fin p) : ev (lin a) a = 0 := by
  have e : lin a = X + C (-a) := by unfold lin; rw [C_neg]; grind
  rw [e, ev_add, ev_X, ev_C]; grind
theorem dv_lin_iff (f : Po p) (a : Fin p) : Dv (lin a) f ↔ ev f a = 0 := by
  constructor
  · rintro ⟨g, rfl⟩
    rw [ev_mul, ev_lin]; grind
  · intro h
    obtain ⟨q, r, e, hr⟩ := ex_div (lin_ne a) _ f (Nat.le_refl _)
    rw [lin_sz] at hr
    have e2 := eq_C_of_sz (f := r) (by omega)
    have e3 : ev f a = r.s 0 := by
      rw [e, e2, ev_add, ev_mul, ev_lin, ev_C]; rw [C_ap, if_pos rfl]; grind
    rw [h] at e3
    rw [← e3, C_zero] at e2
    exact ⟨q, by rw [e, e2]; grind⟩
/-- a level one of degree 1 -/
theorem eq_lin {f : Po p} (h : f.sz = 2) (m : Mo f) : f = lin (- f.s 0) := ext fun n => by
  match n with
  | 0 => rw [lin_s0]; grind
  | 1 =>
    have := m.2
    rw [h] at this
    rw [lin_s1]; exact this
  | n + 2 => rw [sz_dg f (n + 2) (by omega), sz_dg (lin (- f.s 0)) (n + 2) (by rw [lin_sz]; omega)]
end
end Po
end K10
end

section
set_option autoImplicit false
set_option linter.all false
namespace K10
open Lean.Grind
namespace Po
section
variable {p : Nat} [Pr p]
/-! ### rows of a width as polynomials; spans -/
structure Sb (S : Po p → Prop) : Prop where
  zero : S 0
  sub : ∀ x y c, S x → S y → S (x - C c * y)
theorem Sb.add {S : Po p → Prop} (h : Sb S) {x y : Po p} (c : Fin p) (hx : S x) (hy : S y) : S (x + C c * y) := by
  have := h.sub x y (-c) hx hy
  rw [C_neg] at this
  have e : x - -C c * y = x + C c * y := by grind
  rw [e] at this; exact this
theorem Sb.mul {S : Po p → Prop} (h : Sb S) {y : Po p} (c : Fin p) (hy : S y) : S (C c * y) := by
  have := h.add c h.zero hy
  have e : 0 + C c * y = C c * y := by grind
  rw [e] at this; exact this
theorem Sb.sub_iff {S : Po p → Prop} (h : Sb S) {x y : Po p} (c : Fin p) (hy : S y) : S (x - C c * y) ↔ S x := by
  constructor
  · intro k
    have := h.add c k hy
    have e : x - C c * y + C c * y = x := by grind
    rw [e] at this; exact this
  · intro k; exact h.sub _ _ _ k hy
/-- what a row weighs another one to -/
def dot : Nat → Po p → Po p → Fin p
  | 0, _, _ => 0
  | n + 1, f, v => dot n f v + f.s n * v.s n
theorem dot_sub_l (n : Nat) (f g v : Po p) (c : Fin p) : dot n (f - C c * g) v = dot n f v - c * dot n g v := by
  induction n with
  | zero => show (0 : Fin p) = 0 - c * 0; grind
  | succ n ih =>
    show dot n (f - C c * g) v + (f - C c * g).s n * v.s n = dot n f v + f.s n * v.s n - c * (dot n g v + g.s n * v.s n)
    rw [ih, sub_ap, Cmul_ap]; grind
theorem dot_sub_r (n : Nat) (f u v : Po p) (c : Fin p) : dot n f (u - C c * v) = dot n f u - c * dot n f v := by
  induction n with
  | zero => show (0 : Fin p) = 0 - c * 0; grind
  | succ n ih =>
    show dot n f (u - C c * v) + f.s n * (u - C c * v).s n = dot n f u + f.s n * u.s n - c * (dot n f v + f.s n * v.s n)
    rw [ih, sub_ap, Cmul_ap]; grind
theorem dot_zero_r (n : Nat) (f : Po p) : dot n f 0 = 0 := by
  induction n with
  | zero => rfl
  | succ n ih => show dot n f 0 + f.s n * (0 : Po p).s n = 0; rw [ih, zero_ap]; grind
theorem dot_zero_l (n : Nat) (f : Po p) : dot n 0 f = 0 := by
  induction n with
  | zero => rfl
  | succ n ih => show dot n 0 f + (0 : Po p).s n * f.s n = 0; rw [ih, zero_ap]; grind
theorem dot_none {n : Nat} {f v : Po p} (h : ∀ j, j < n → f.s j * v.s j = 0) : dot n f v = 0 := by
  induction n with
  | zero => rfl
  | succ n ih =>
    show dot n f v + f.s n * v.s n = 0
    rw [ih fun j hj => h j (by omega), h n (by omega)]; grind
theorem dot_one {n a : Nat} {f v : Po p} (ha : a < n) (h : ∀ j, j < n → j ≠ a → f.s j * v.s j = 0) : dot n f v = f.s a * v.s a := by
  induction n with
  | zero => omega
  | succ n ih =>
    show dot n f v + f.s n * v.s n = _
    by_cases hn : a = n
    · subst hn
      rw [dot_none fun j hj => h j (by omega) (by omega)]; grind
    · rw [ih (by omega) fun j hj hne => h j (by omega) hne, h n (by omega) (Ne.symm hn)]; grind
theorem dot_X {n i : Nat} (f : Po p) (hi : i < n) : dot n f (X ^ i) = f.s i := by
  rw [dot_one hi fun j _ hne => by rw [Xpow_s, if_neg hne]; grind, Xpow_s, if_pos rfl]; grind
theorem sb_dot (n : Nat) (v : Po p) : Sb (fun f => dot n f v = 0) :=
  ⟨dot_zero_l n v, fun x y c hx hy => by rw [dot_sub_l, hx, hy]; grind⟩

/-- rows led to steps -/
structure Ech (n : Nat) (L : List (Nat × Po p)) : Prop where
  nd : (L.map (·.1)).Nodup
  lt : ∀ a g, (a, g) ∈ L → a < n
  sz : ∀ a g, (a, g) ∈ L → g.sz ≤ n
  one : ∀ a g, (a, g) ∈ L → g.s a = 1
  low : ∀ a g, (a, g) ∈ L → ∀ j, j < a → g.s j = 0
  apart : ∀ a g, (a, g) ∈ L → ∀ b h, (b, h) ∈ L → b ≠ a → g.s b = 0
theorem Ech.nil (n : Nat) : Ech n ([] : List (Nat × Po p)) := ⟨List.nodup_nil, (fun _ _ h => nomatch h), (fun _ _ h => nomatch h), (fun _ _ h => nomatch h), (fun _ _ h => nomatch h), (fun _ _ h => nomatch h)⟩
/-- a new step -/
def stepL (L : List (Nat × Po p)) (s : Nat) (f : Po p) : List (Nat × Po p) := L.map (fun x => (x.1, x.2 - C (x.2.s s) * f)) ++ [(s, f)]
theorem mem_stepL {L : List (Nat × Po p)} {s a : Nat} {f g : Po p} : (a, g) ∈ stepL L s f ↔ (∃ g0, (a, g0) ∈ L ∧ g = g0 - C (g0.s s) * f) ∨ (a = s ∧ g = f) := by
  unfold stepL
  rw [List.mem_append, List.mem_map, List.mem_singleton]
  constructor
  · rintro (⟨⟨b, h⟩, hm, e⟩ | e)
    · cases e; exact .inl ⟨h, hm, rfl⟩
    · cases e; exact .inr ⟨rfl, rfl⟩
  · rintro (⟨g0, hm, rfl⟩ | ⟨rfl, rfl⟩)
    · exact .inl ⟨(a, g0), hm, rfl⟩
    · exact .inr rfl
theorem Ech.step {n : Nat} {L : List (Nat × Po p)} (E : Ech n L) {s : Nat} {f : Po p} (hs : s < n) (hf : f.sz ≤ n) (h1 : f.s s = 1) (hl : ∀ j, j < s → f.s j = 0) (hp : ∀ a g, (a, g) ∈ L → f.s a = 0) : Ech n (stepL L s f) := by
  have hns : ∀ g, (s, g) ∉ L := fun g h => by
    have := hp s g h
    rw [h1] at this; exact fin_one_ne this
  refine ⟨?_, fun a g h => ?_, fun a g h => ?_, fun a g h => ?_, fun a g h j hj => ?_, fun a g h b k hk hne => ?_⟩
  · have e : (stepL L s f).map (·.1) = L.map (·.1) ++ [s] := by
      unfold stepL
      rw [List.map_append, List.map_map]; rfl
    rw [e, List.nodup_append]
    refine ⟨E.nd, by simp, fun a ha b hb hab => ?_⟩
    rw [List.mem_singleton] at hb
    obtain ⟨⟨c, g⟩, hm, rfl⟩ := List.mem_map.mp ha
    have : c = s := hab.trans hb
    subst this
    exact hns g hm
  · rcases mem_stepL.mp h with ⟨g0, hm, _⟩ | ⟨rfl, _⟩
    · exact E.lt a g0 hm
    · exact hs
  · rcases mem_stepL.mp h with ⟨g0, hm, rfl⟩ | ⟨_, rfl⟩
    · have h1 := sz_sub_le g0 (C (g0.s s) * f)
      have h2 := Cmul_sz (g0.s s) f
      have h3 := E.sz a g0 hm
      omega
    · exact hf
  · rcases mem_stepL.mp h with ⟨g0, hm, rfl⟩ | ⟨rfl, rfl⟩
    · rw [sub_ap, Cmul_ap, E.one a g0 hm, hp a g0 hm]; grind
    · exact h1
  · rcases mem_stepL.mp h with ⟨g0, hm, rfl⟩ | ⟨rfl, rfl⟩
    · rw [sub_ap, Cmul_ap, E.low a g0 hm j hj]
      by_cases hjs : j < s
      · rw [hl j hjs]; grind
      · rw [E.low a g0 hm s (by omega)]; grind
    · exact hl j hj
  · rcases mem_stepL.mp h with ⟨g0, hm, rfl⟩ | ⟨rfl, rfl⟩
    · rcases mem_stepL.mp hk with ⟨k0, hm2, rfl⟩ | ⟨rfl, rfl⟩
      · rw [sub_ap, Cmul_ap, E.apart a g0 hm b k0 hm2 hne, hp b k0 hm2]; grind
      · rw [sub_ap, Cmul_ap, h1]; grind
    · rcases mem_stepL.mp hk with ⟨k0, hm2, rfl⟩ | ⟨rfl, rfl⟩
      · exact hp b k0 hm2
      · exact absurd rfl hne
/-- spans alike -/
theorem step_span {L : List (Nat × Po p)} {s : Nat} {f : Po p} {S : Po p → Prop} (h : Sb S) : (∀ a g, (a, g) ∈ stepL L s f → S g) ↔ (∀ a g, (a, g) ∈ L → S g) ∧ S f := by
  constructor
  · intro k
    have hf : S f := k s f (mem_stepL.mpr (.inr ⟨rfl, rfl⟩))
    refine ⟨fun a g hm => ?_, hf⟩
    exact (h.sub_iff _ hf).mp (k a _ (mem_stepL.mpr (.inl ⟨g, hm, rfl⟩)))
  · rintro ⟨k, hf⟩ a g hm
    rcases mem_stepL.mp hm with ⟨g0, hm2, e⟩ | ⟨_, e⟩
    · rw [e]; exact h.sub _ _ _ (k a g0 hm2) hf
    · rw [e]; exact hf
/-- a row less its parts at the steps -/
def low (f : Po p) : List (Nat × Po p) → Po p
  | [] => f
  | (a, g) :: r => low (f - C (f.s a) * g) r
theorem low_span {S : Po p → Prop} (h : Sb S) : ∀ (L : List (Nat × Po p)) (f : Po p), (∀ a g, (a, g) ∈ L → S g) → (S (low f L) ↔ S f)
  | [], f, _ => Iff.rfl
  | (a, g) :: r, f, k => by
    show S (low (f - C (f.s a) * g) r) ↔ S f
    rw [low_span h r _ fun b h hm => k b h (List.mem_cons_of_mem _ hm), h.sub_iff _ (k a g List.mem_cons_self)]
theorem low_keep {j : Nat} : ∀ (L : List (Nat × Po p)) (f : Po p), (∀ a g, (a, g) ∈ L → g.s j = 0) → (low f L).s j = f.s j
  | [], f, _ => rfl
  | (a, g) :: r, f, k => by
    show (low (f - C (f.s a) * g) r).s j = f.s j
    rw [low_keep r _ fun b h hm => k b h (List.mem_cons_of_mem _ hm), sub_ap, Cmul_ap, k a g List.mem_cons_self]; grind
theorem low_zero : ∀ (L : List (Nat × Po p)) (f : Po p), (L.map (·.1)).Nodup → (∀ a g, (a, g) ∈ L → g.s a = 1) → (∀ a g, (a, g) ∈ L → ∀ b h, (b, h) ∈ L → b ≠ a → g.s b = 0) → ∀ a g, (a, g) ∈ L → (low f L).s a = 0
  | (b, h) :: r, f, hn, h1, hp, a, g, hm => by
    have hn : (b :: r.map (·.1)).Nodup := hn
    obtain ⟨hb, hn⟩ := List.nodup_cons.mp hn
    show (low (f - C (f.s b) * h) r).s a = 0
    rcases List.mem_cons.mp hm with e | hm
    · cases e
      rw [low_keep r _ fun c k hc => hp c k (List.mem_cons_of_mem _ hc) _ _ List.mem_cons_self fun e => by
        subst e; exact hb (List.mem_map.mpr ⟨_, hc, rfl⟩), sub_ap, Cmul_ap, h1 _ _ List.mem_cons_self]; grind
    · exact low_zero r _ hn (fun c k hc => h1 c k (List.mem_cons_of_mem _ hc)) (fun c k hc d l hd => hp c k (List.mem_cons_of_mem _ hc) d l (List.mem_cons_of_mem _ hd)) a g hm
theorem low_sz {n : Nat} : ∀ (L : List (Nat × Po p)) (f : Po p), f.sz ≤ n → (∀ a g, (a, g) ∈ L → g.sz ≤ n) → (low f L).sz ≤ n
  | [], f, hf, _ => hf
  | (a, g) :: r, f, hf, k => by
    refine low_sz r _ ?_ fun b h hm => k b h (List.mem_cons_of_mem _ hm)
    have h1 := sz_sub_le f (C (f.s a) * g)
    have h2 := Cmul_sz (f.s a) g
    have h3 := k a g List.mem_cons_self
    omega

/-! ### what rows weigh to nought -/
/-- for a free place: 1 there, and at each step what makes up for it -/
def fr (L : List (Nat × Po p)) (i : Nat) : Po p := L.foldl (fun u x => u - C (x.2.s i) * X ^ x.1) (X ^ i)
theorem fr_from (i : Nat) : ∀ (L : List (Nat × Po p)) (u : Po p) (n : Nat) (f : Po p), (∀ a g, (a, g) ∈ L → a < n) → dot n f (L.foldl (fun u x => u - C (x.2.s i) * X ^ x.1) u) = dot n f u - (L.map fun x => x.2.s i * f.s x.1).sum
  | [], u, n, f, _ => by show dot n f u = dot n f u - 0; grind
  | (a, g) :: r, u, n, f, h => by
    show dot n f (r.foldl _ (u - C (g.s i) * X ^ a)) = _
    rw [fr_from i r _ n f fun b k hm => h b k (List.mem_cons_of_mem _ hm), dot_sub_r, dot_X f (h a g List.mem_cons_self), List.map_cons, List.sum_cons]; grind
theorem sum_one {L : List (Nat × Po p)} {i a : Nat} {g : Po p} (hn : (L.map (·.1)).Nodup) (hm : (a, g) ∈ L) (h1 : g.s a = 1) (h0 : ∀ b h, (b, h) ∈ L → b ≠ a → g.s b = 0) : (L.map fun x => x.2.s i * g.s x.1).sum = g.s i := by
  have zero : ∀ r : List (Nat × Po p), (∀ b h, (b, h) ∈ r → g.s b = 0) → (r.map fun x => x.2.s i * g.s x.1).sum = 0 := by
    intro r
    induction r with
    | nil => intro _; rfl
    | cons x r ih =>
      intro k
      rw [List.map_cons, List.sum_cons, ih fun b h hm => k b h (List.mem_cons_of_mem _ hm), k x.1 x.2 List.mem_cons_self]; grind
  induction L with
  | nil => cases hm
  | cons x r ih =>
    obtain ⟨b, h⟩ := x
    have hn : (b :: r.map (·.1)).Nodup := hn
    obtain ⟨hb, hn⟩ := List.nodup_cons.mp hn
    rw [List.map_cons, List.sum_cons]
    rcases List.mem_cons.mp hm with e | hm
    · cases e
      rw [zero r fun c k hc => h0 c k (List.mem_cons_of_mem _ hc) fun e => by subst e; exact hb (List.mem_map.mpr ⟨_, hc, rfl⟩)]
      show g.s i * g.s a + 0 = g.s i
      rw [h1]; grind
    · have hba : b ≠ a := fun e => by subst e; exact hb (List.mem_map.mpr ⟨_, hm, rfl⟩)
      rw [ih hn hm fun c k hc => h0 c k (List.mem_cons_of_mem _ hc), h0 b h List.mem_cons_self hba]; grind
def Kr (n : Nat) (L : List (Nat × Po p)) (v : Po p) : Prop := v.sz ≤ n ∧ ∀ a g, (a, g) ∈ L → dot n g v = 0
theorem sb_kr (n : Nat) (L : List (Nat × Po p)) : Sb (Kr n L) := ⟨⟨by rw [sz_zero]; omega, fun a g _ => dot_zero_r n g⟩, fun x y c hx hy => ⟨by
  have h1 := sz_sub_le x (C c * y)
  have h2 := Cmul_sz c y
  have h3 := hx.1
  have h4 := hy.1
  omega, fun a g hm => by rw [dot_sub_r, hx.2 a g hm, hy.2 a g hm]; grind⟩⟩
theorem Xpow_sz (i : Nat) : (X ^ i : Po p).sz = i + 1 := sz_eq (fun j hj => by rw [Xpow_s, if_neg (by omega)]) (.inr (by rw [Nat.add_sub_cancel, Xpow_s, if_pos rfl]; exact fin_one_ne))
theorem fr_fold_sz (i n : Nat) : ∀ (L : List (Nat × Po p)) (u : Po p), u.sz ≤ n → (∀ a g, (a, g) ∈ L → a < n) → (L.foldl (fun u x => u - C (x.2.s i) * X ^ x.1) u).sz ≤ n
  | [], u, hu, _ => hu
  | (a, g) :: r, u, hu, h => by
    refine fr_fold_sz i n r _ ?_ fun b k hm => h b k (List.mem_cons_of_mem _ hm)
    have h1 := sz_sub_le u (C (g.s i) * X ^ a)
    have h2 := Cmul_sz (g.s i) (X ^ a)
    have h3 := h a g List.mem_cons_self
    have h4 := Xpow_sz (p := p) a
    show (u - C (g.s i) * X ^ a).sz ≤ n
    omega
theorem fr_kr {n : Nat} {L : List (Nat × Po p)} (E : Ech n L) {i : Nat} (hi : i < n) : Kr n L (fr L i) := by
  refine ⟨fr_fold_sz i n L _ (by rw [Xpow_sz]; omega) E.lt, fun a g hm => ?_⟩
  unfold fr
  rw [fr_from i L _ n g E.lt, dot_X g hi, sum_one E.nd hm (E.one a g hm) fun b h hb hne => E.apart a g hm b h hb hne]; grind
theorem fr_fold_s (i j : Nat) : ∀ (L : List (Nat × Po p)) (u : Po p), (∀ a g, (a, g) ∈ L → a ≠ j) → (L.foldl (fun u x => u - C (x.2.s i) * X ^ x.1) u).s j = u.s j
  | [], u, _ => rfl
  | (a, g) :: r, u, h => by
    show (r.foldl _ (u - C (g.s i) * X ^ a)).s j = u.s j
    rw [fr_fold_s i j r _ fun b k hm => h b k (List.mem_cons_of_mem _ hm), sub_ap, Cmul_ap, Xpow_s, if_neg (Ne.symm (h a g List.mem_cons_self))]; grind
theorem fr_s {L : List (Nat × Po p)} {i j : Nat} (h : ∀ a g, (a, g) ∈ L → a ≠ j) : (fr L i).s j = if j = i then 1 else 0 := by
  unfold fr
  rw [fr_fold_s i j L _ h, Xpow_s]
theorem kr_span {n : Nat} {L : List (Nat × Po p)} (E : Ech n L) {S : Po p → Prop} (hS : Sb S) : ∀ (fl : List Nat), (∀ i ∈ fl, i < n ∧ (∀ a g, (a, g) ∈ L → a ≠ i) ∧ S (fr L i)) →
    ∀ v, Kr n L v → (∀ j, j < n → (∀ a g, (a, g) ∈ L → a ≠ j) → j ∉ fl → v.s j = 0) → S v
  | [], _, v, hv, hz => by
    have : v = 0 := by
      apply ext; intro j
      rw [zero_ap]
      by_cases hj : j < n
      · by_cases hk : ∃ g, (j, g) ∈ L
        · obtain ⟨g, hg⟩ := hk
          have h1 := hv.2 j g hg
          rw [dot_one hj fun k hk hne => ?_, E.one j g hg] at h1
          · grind
          · by_cases hkk : ∃ h, (k, h) ∈ L
            · obtain ⟨h, hh⟩ := hkk
              rw [E.apart j g hg k h hh hne]; grind
            · rw [hz k hk (fun a g' hm e => hkk ⟨g', e ▸ hm⟩) (by simp)]; grind
        · exact hz j hj (fun a g hm e => hk ⟨g, e ▸ hm⟩) (by simp)
      · exact sz_dg v j (by have := hv.1; omega)
    rw [this]; exact hS.zero
  | i :: fl, hfl, v, hv, hz => by
    obtain ⟨hi, hni, hSi⟩ := hfl i List.mem_cons_self
    have h1 : S (v - C (v.s i) * fr L i) := by
      refine kr_span E hS fl (fun j hj => hfl j (List.mem_cons_of_mem _ hj)) _ ((sb_kr n L).sub _ _ _ hv (fr_kr E hi)) fun j hj hnj hjf => ?_
      rw [sub_ap, Cmul_ap, fr_s hnj]
      by_cases e : j = i
      · subst e; rw [if_pos rfl]; grind
      · rw [if_neg e, hz j hj hnj (by simp [e, hjf])]; grind
    exact (hS.sub_iff _ hSi).mp h1
end
end Po
end K10
end

section
set_option autoImplicit false
set_option linter.all false
namespace K10
open Lean.Grind
namespace Po
section
variable {p : Nat} [Pr p]
theorem pow_pow (a : Po p) (i : Nat) : ∀ n : Nat, (a ^ i) ^ n = a ^ (i * n)
  | 0 => by rw [Nat.mul_zero, Semiring.pow_zero, Semiring.pow_zero]
  | n + 1 => by rw [Semiring.pow_succ, pow_pow a i n, Nat.mul_succ, Semiring.pow_add]
/-- weights of a row of polynomials -/
def comb : Nat → (Nat → Po p) → Po p → Po p
  | 0, _, _ => 0
  | n + 1, r, v => comb n r v + C (v.s n) * r n
theorem comb_ap (r : Nat → Po p) (v : Po p) (j : Nat) (g : Po p) : ∀ n : Nat, (∀ i, i < n → g.s i = (r i).s j) → (comb n r v).s j = dot n g v
  | 0, _ => by show (0 : Po p).s j = 0; exact zero_ap j
  | n + 1, h => by
    show (comb n r v + C (v.s n) * r n).s j = dot n g v + g.s n * v.s n
    rw [add_ap, comb_ap r v j g n fun i hi => h i (by omega), Cmul_ap, h n (by omega)]; grind
theorem comb_sub (r t : Nat → Po p) (v : Po p) : ∀ n : Nat, comb n (fun i => r i - t i) v = comb n r v - comb n t v
  | 0 => by show (0 : Po p) = 0 - 0; grind
  | n + 1 => by
    show comb n (fun i => r i - t i) v + C (v.s n) * (r n - t n) = (comb n r v + C (v.s n) * r n) - (comb n t v + C (v.s n) * t n)
    rw [comb_sub r t v n]; grind
theorem comb_frob (r : Nat → Po p) (v : Po p) : ∀ n : Nat, comb n r v ^ p = comb n (fun i => r i ^ p) v
  | 0 => zero_frob
  | n + 1 => by
    show (comb n r v + C (v.s n) * r n) ^ p = comb n (fun i => r i ^ p) v + C (v.s n) * r n ^ p
    rw [frob_add, mul_pow, C_frob, comb_frob r v n]
theorem comb_dv {f : Po p} (r t : Nat → Po p) (v : Po p) : ∀ n : Nat, (∀ i, i < n → Dv f (r i - t i)) → Dv f (comb n r v - comb n t v)
  | 0, _ => ⟨0, by show (0 : Po p) - 0 = f * 0; grind⟩
  | n + 1, h => by
    obtain ⟨a, ha⟩ := comb_dv r t v n fun i hi => h i (by omega)
    obtain ⟨b, hb⟩ := h n (by omega)
    refine ⟨a + C (v.s n) * b, ?_⟩
    show (comb n r v + C (v.s n) * r n) - (comb n t v + C (v.s n) * t n) = _
    grind
theorem comb_X (v : Po p) (n : Nat) (hv : v.sz ≤ n) : comb n (fun i => (X : Po p) ^ i) v = v := ext fun j => by
  by_cases hj : j < n
  · rw [comb_ap _ v j (X ^ j) n fun i hi => ?_]
    · have : dot n (X ^ j) v = (X ^ j : Po p).s j * v.s j := dot_one hj fun k hk hne => by rw [Xpow_s, if_neg hne]; grind
      rw [this, Xpow_s, if_pos rfl]; grind
    · rw [Xpow_s, Xpow_s]
      by_cases e : i = j
      · subst e; rfl
      · rw [if_neg e, if_neg (Ne.symm e)]
  · rw [comb_ap _ v j 0 n fun i hi => by rw [Xpow_s, if_neg (by omega), zero_ap], dot_zero_l, sz_dg v j (by omega)]
theorem comb_sz (r : Nat → Po p) (v : Po p) (m n : Nat) (h : ∀ i, i < n → (r i).sz ≤ m) : (comb n r v).sz ≤ m := by
  induction n with
  | zero => show (0 : Po p).sz ≤ m; rw [sz_zero]; omega
  | succ n ih =>
    have h1 := ih fun i hi => h i (by omega)
    have h2 := sz_add_le (comb n r v) (C (v.s n) * r n)
    have h3 := Cmul_sz (v.s n) (r n)
    have h4 := h n (by omega)
    show (comb n r v + C (v.s n) * r n).sz ≤ m
    omega
/-- the rows whose kernel is the still ones -/
theorem still_iff {f v : Po p} (hf : 2 ≤ f.sz) (r : Nat → Po p) (hr : ∀ i, i < f.sz - 1 → Dv f (X ^ (p * i) - r i) ∧ (r i).sz < f.sz) (hv : v.sz ≤ f.sz - 1) (R : Nat → Po p)
    (hR : ∀ j i, j < f.sz - 1 → i < f.sz - 1 → (R j).s i = (r i - X ^ i).s j) : Still f v ↔ ∀ j, j < f.sz - 1 → dot (f.sz - 1) (R j) v = 0 := by
  have hc : ∀ j, j < f.sz - 1 → dot (f.sz - 1) (R j) v = (comb (f.sz - 1) (fun i => r i - X ^ i) v).s j := fun j hj =>
    (comb_ap (fun i => r i - X ^ i) v j (R j) (f.sz - 1) fun i hi => hR j i hj hi).symm
  have hz : (comb (f.sz - 1) (fun i => r i - X ^ i) v).sz ≤ f.sz - 1 := comb_sz _ v _ _ fun i hi => by
    have h1 := sz_sub_le (r i) (X ^ i)
    have h2 := Xpow_sz (p := p) i
    have h3 := (hr i hi).2
    show (r i - X ^ i).sz ≤ _
    omega
  have e1 : comb (f.sz - 1) (fun i => r i - X ^ i) v = comb (f.sz - 1) r v - v := by rw [comb_sub r (fun i => X ^ i) v, comb_X v _ hv]
  have e2 : v ^ p = comb (f.sz - 1) (fun i => X ^ (p * i)) v := by
    have h1 := comb_frob (fun i => X ^ i) v (f.sz - 1)
    rw [comb_X v _ hv] at h1
    rw [h1]
    congr 1
    funext i
    show ((X : Po p) ^ i) ^ p = X ^ (p * i)
    rw [pow_pow, Nat.mul_comm]
  have e3 : Dv f (v ^ p - comb (f.sz - 1) r v) := by
    rw [e2]; exact comb_dv _ _ v _ fun i hi => (hr i hi).1
  constructor
  · intro hs j hj
    rw [hc j hj]
    have : Dv f (comb (f.sz - 1) (fun i => r i - X ^ i) v) := by
      rw [e1]
      have := hs.sub e3
      have e : v ^ p - v - (v ^ p - comb (f.sz - 1) r v) = comb (f.sz - 1) r v - v := by grind
      rw [e] at this; exact this
    rw [this.of_sz_lt (by omega), zero_ap]
  · intro h
    have e0 : comb (f.sz - 1) (fun i => r i - X ^ i) v = 0 := ext fun j => by
      rw [zero_ap]
      by_cases hj : j < f.sz - 1
      · rw [← hc j hj]; exact h j hj
      · exact sz_dg _ j (by omega)
    rw [e0] at e1
    have e : v ^ p - v = v ^ p - comb (f.sz - 1) r v := by grind
    unfold Still
    rw [e]; exact e3
end
end Po
end K10
end

section
set_option autoImplicit false
set_option linter.all false
namespace K10
open Lean.Grind
namespace Po
section
variable {p : Nat} [Pr p]
/-! ### lists of parts by their counts -/
theorem cnt_cons (q k : Po p) (c : Nat) (r : List (Po p × Nat)) (e : k = q) : cnt q ((k, c) :: r) = c + cnt q r := by rw [cnt, if_pos e]
theorem cnt_skip (q k : Po p) (c : Nat) (r : List (Po p × Nat)) (e : ¬ k = q) : cnt q ((k, c) :: r) = cnt q r := by
  rw [cnt, if_neg e, Nat.zero_add]
theorem cnt_out {q : Po p} : ∀ {L : List (Po p × Nat)}, q ∉ L.map (·.1) → cnt q L = 0
  | [], _ => rfl
  | (k, c) :: r, h => by
    rw [cnt_skip q k c r (fun e => h (by rw [List.map_cons, ← e]; exact List.mem_cons_self))]
    exact cnt_out fun z => h (List.mem_cons_of_mem _ z)
theorem mem_cnt {q : Po p} {n : Nat} : ∀ {L : List (Po p × Nat)}, (L.map (·.1)).Nodup → (∀ x ∈ L, 1 ≤ x.2) → ((q, n) ∈ L ↔ 1 ≤ n ∧ cnt q L = n)
  | [], _, _ => ⟨fun h => (nomatch h), fun h => by have : cnt q ([] : List (Po p × Nat)) = 0 := rfl; omega⟩
  | (k, c) :: r, hn, hp => by
    have hn : (k :: r.map (·.1)).Nodup := hn
    obtain ⟨h1, h2⟩ := List.nodup_cons.mp hn
    have ih := mem_cnt (q := q) (n := n) h2 fun x hx => hp x (List.mem_cons_of_mem _ hx)
    by_cases e : k = q
    · subst e
      rw [cnt_cons k k c r rfl, cnt_out h1, Nat.add_zero]
      constructor
      · intro h
        rcases List.mem_cons.mp h with h | h
        · have : n = c := congrArg Prod.snd h
          subst this
          exact ⟨hp _ List.mem_cons_self, rfl⟩
        · exact absurd (List.mem_map.mpr ⟨_, h, rfl⟩) h1
      · rintro ⟨_, rfl⟩; exact List.mem_cons_self
    · rw [cnt_skip q k c r e, ← ih]
      constructor
      · intro h
        rcases List.mem_cons.mp h with h | h
        · exact absurd (congrArg Prod.fst h).symm e
        · exact h
      · intro h; exact List.mem_cons_of_mem _ h
theorem mem_uniq {A B : List (Po p × Nat)} (wa : Wh A) (wb : Wh B) (pa : ∀ x ∈ A, 1 ≤ x.2) (pb : ∀ x ∈ B, 1 ≤ x.2) (na : (A.map (·.1)).Nodup) (nb : (B.map (·.1)).Nodup) (e : fpr A = fpr B) : ∀ x, x ∈ A ↔ x ∈ B := by
  have one : ∀ {A B : List (Po p × Nat)}, Wh A → Wh B → (∀ x ∈ A, 1 ≤ x.2) → (∀ x ∈ B, 1 ≤ x.2) → (A.map (·.1)).Nodup → (B.map (·.1)).Nodup → fpr A = fpr B → ∀ x, x ∈ A → x ∈ B := by
    intro A B wa wb pa pb na nb e x hx
    obtain ⟨q, n⟩ := x
    obtain ⟨hq, mq⟩ := wa _ hx
    obtain ⟨h1, h2⟩ := (mem_cnt na pa).mp hx
    exact (mem_cnt nb pb).mpr ⟨h1, by rw [← cnt_uniq hq mq wa wb e, h2]⟩
  exact fun x => ⟨one wa wb pa pb na nb e x, one wb wa pb pa nb na e.symm x⟩
theorem sorted_ext {α : Type} {lt : α → α → Prop} (as : ∀ x y, lt x y → ¬ lt y x) : ∀ {A B : List α}, A.Pairwise lt → B.Pairwise lt → (∀ x, x ∈ A ↔ x ∈ B) → A = B
  | [], [], _, _, _ => rfl
  | [], y :: B, _, _, h => by have := (h y).mpr List.mem_cons_self; cases this
  | x :: A, [], _, _, h => by have := (h x).mp List.mem_cons_self; cases this
  | x :: A, y :: B, ha, hb, h => by
    obtain ⟨ha1, ha2⟩ := List.pairwise_cons.mp ha
    obtain ⟨hb1, hb2⟩ := List.pairwise_cons.mp hb
    have irr : ∀ z, ¬ lt z z := fun z hz => as z z hz hz
    have exy : x = y := by
      rcases List.mem_cons.mp ((h x).mp List.mem_cons_self) with e | hx
      · exact e
      · rcases List.mem_cons.mp ((h y).mpr List.mem_cons_self) with e | hy
        · exact e.symm
        · exact absurd (ha1 y hy) (as y x (hb1 x hx))
    subst exy
    congr 1
    refine sorted_ext as ha2 hb2 fun z => ?_
    constructor
    · intro hz
      rcases List.mem_cons.mp ((h z).mp (List.mem_cons_of_mem _ hz)) with e | hz'
      · subst e; exact absurd (ha1 z hz) (irr z)
      · exact hz'
    · intro hz
      rcases List.mem_cons.mp ((h z).mpr (List.mem_cons_of_mem _ hz)) with e | hz'
      · subst e; exact absurd (hb1 z hz) (irr z)
      · exact hz'
/-- two level multiples of one -/
theorem mono_eq {h : Po p} {c d : Fin p} (h0 : h ≠ 0) (hc : c * h.s (h.sz - 1) = 1) (hd : d * h.s (h.sz - 1) = 1) : c = d := by
  have h1 : c = c * (d * h.s (h.sz - 1)) := by rw [hd]; grind
  rw [h1, show c * (d * h.s (h.sz - 1)) = d * (c * h.s (h.sz - 1)) by grind, hc]; grind
theorem lead_mul {f g : Po p} (hf : f ≠ 0) (hg : g ≠ 0) : (f * g).s ((f * g).sz - 1) = f.s (f.sz - 1) * g.s (g.sz - 1) := by
  obtain ⟨h1, h2⟩ := sz_mul hf hg
  have hf1 := sz_pos hf
  have hg1 := sz_pos hg
  rw [← h2]; congr 1; omega
theorem dv_unit {q f : Po p} {c : Fin p} (hc : c ≠ 0) : Dv q (C c * f) ↔ Dv q f := by
  obtain ⟨b, hb⟩ := fin_ex_inv hc
  constructor
  · rintro ⟨x, hx⟩
    refine ⟨C b * x, ?_⟩
    have : C b * (C c * f) = f := by
      have e : C b * C c = (1 : Po p) := by rw [← C_mul, ← C_one, show b * c = 1 by rw [← hb]; grind]
      grind
    grind
  · exact fun h => h.mul_left (C c)
/-! ### x with a rest added -/
theorem cm_comp (g h : Po p) : ∀ (n : Nat) (f : Po p), f.sz ≤ n → cm (cm f g) h = cm f (cm g h)
  | 0, f, hn => by
    have e : f = 0 := eq_zero_of_sz (by omega)
    rw [e]
    have z : ∀ k : Po p, cm 0 k = 0 := fun k => by rw [← C_zero, cm_C]
    rw [z, z, z]
  | n + 1, f, hn => by
    have ih := cm_comp g h n (shf f) (by have := shf_sz f; omega)
    have e : ∀ k : Po p, cm f k = C (f.s 0) + k * cm (shf f) k := fun k => by
      conv => lhs; rw [shf_eq f, cm_add, cm_C, cm_Xmul]
    rw [e g, cm_add, cm_C, cm_mul h _ _ _ (Nat.le_refl _), ih, ← e]
theorem cm_id : ∀ (n : Nat) (f : Po p), f.sz ≤ n → cm f X = f
  | 0, f, hn => by
    have e : f = 0 := eq_zero_of_sz (by omega)
    rw [e, ← C_zero, cm_C]
  | n + 1, f, hn => by
    have ih := cm_id n (shf f) (by have := shf_sz f; omega)
    conv => lhs; rw [shf_eq f, cm_add, cm_C, cm_Xmul, ih]
    exact (shf_eq f).symm
/-- the shift -/
noncomputable def sft (b : Fin p) (f : Po p) : Po p := cm f (X + C b)
theorem sft_mul (b : Fin p) (f g : Po p) : sft b (f * g) = sft b f * sft b g := cm_mul _ _ _ _ (Nat.le_refl _)
theorem sft_C (b c : Fin p) : sft b (C c) = C c := cm_C c _
theorem sft_one (b : Fin p) : sft b 1 = 1 := cm_one _
theorem sft_pow (b : Fin p) (f : Po p) (n : Nat) : sft b (f ^ n) = sft b f ^ n := cm_pow f _ n
theorem sft_inv (b : Fin p) (f : Po p) : sft (-b) (sft b f) = f := by
  unfold sft
  rw [cm_comp _ _ _ _ (Nat.le_refl _), cm_add, cm_X, cm_C]
  have e : X + C (-b) + C b = (X : Po p) := by rw [C_neg]; grind
  rw [e, cm_id _ _ (Nat.le_refl _)]
theorem sft_inv' (b : Fin p) (f : Po p) : sft b (sft (-b) f) = f := by
  have := sft_inv (-b) f
  rw [show - -b = b by grind] at this; exact this
theorem sft_zero (b : Fin p) : sft b (0 : Po p) = 0 := by rw [← C_zero, sft_C]
theorem sft_ne {b : Fin p} {f : Po p} (h : f ≠ 0) : sft b f ≠ 0 := fun e => h (by rw [← sft_inv b f, e, sft_zero])
theorem sft_top (b : Fin p) : ∀ (n : Nat) (f : Po p), f.sz ≤ n → f ≠ 0 → (sft b f).sz = f.sz ∧ (sft b f).s (f.sz - 1) = f.s (f.sz - 1)
  | 0, f, hn, h0 => absurd (eq_zero_of_sz (by omega)) h0
  | n + 1, f, hn, h0 => by
    have e : sft b f = C (f.s 0) + (X + C b) * sft b (shf f) := by
      unfold sft
      conv => lhs; rw [shf_eq f, cm_add, cm_C, cm_Xmul]
    have hs := shf_sz f
    have hfp := sz_pos h0
    by_cases hz : shf f = 0
    · have ef : f = C (f.s 0) := by
        conv => lhs; rw [shf_eq f, hz]
        grind
      rw [ef, sft_C]; exact ⟨rfl, rfl⟩
    · obtain ⟨h1, h2⟩ := sft_top b n (shf f) (by omega) hz
      have hsz : f.sz = (shf f).sz + 1 := by
        have hsp := sz_pos hz
        refine sz_eq (fun j hj => ?_) (.inr ?_)
        · match j, hj with
          | j + 1, hj =>
            have := sz_dg (shf f) j (by omega)
            rw [shf_ap] at this; exact this
        · rw [Nat.add_sub_cancel]
          have := sz_top hz
          rw [shf_ap, show (shf f).sz - 1 + 1 = (shf f).sz by omega] at this; exact this
      have hsp := sz_pos hz
      have hl : (X + C b : Po p).sz = 2 ∧ (X + C b : Po p).s 1 = 1 := by
        have h1 : (X + C b : Po p).s 1 = 1 := by rw [add_ap, X_ap, C_ap, if_pos rfl, if_neg (by omega)]; grind
        exact ⟨sz_eq (fun i hi => by rw [add_ap, X_ap, C_ap, if_neg (by omega), if_neg (by omega)]; grind) (.inr (by show (X + C b : Po p).s 1 ≠ 0; rw [h1]; exact fin_one_ne)), h1⟩
      have hln : (X + C b : Po p) ≠ 0 := fun z => by have := hl.1; rw [z, sz_zero] at this; omega
      have hsn : sft b (shf f) ≠ 0 := sft_ne hz
      obtain ⟨h3, h4⟩ := sz_mul hln hsn
      rw [hl.1, h1] at h3 h4
      have hlead : ((X + C b) * sft b (shf f)).s (shf f).sz = f.s (f.sz - 1) := by
        rw [show (shf f).sz = 2 - 1 + ((shf f).sz - 1) by omega, h4, show (2 : Nat) - 1 = 1 from rfl, hl.2, h2, shf_ap, hsz]
        rw [show (shf f).sz - 1 + 1 = (shf f).sz + 1 - 1 by omega]; grind
      have hc : ∀ j, 1 ≤ j → (C (f.s 0) : Po p).s j = 0 := fun j hj => by rw [C_ap, if_neg (by omega)]
      have htop : (sft b f).s (f.sz - 1) = f.s (f.sz - 1) := by
        rw [e, add_ap, hc _ (by omega), show f.sz - 1 = (shf f).sz by omega, hlead, hsz, Nat.add_sub_cancel]; grind
      refine ⟨sz_eq (fun j hj => ?_) (.inr (by rw [htop]; exact sz_top h0)), htop⟩
      rw [e, add_ap, hc _ (by omega), sz_dg ((X + C b) * sft b (shf f)) j (by omega)]; grind
theorem sft_sz (b : Fin p) (f : Po p) : (sft b f).sz = f.sz := by
  by_cases h : f = 0
  · rw [h, sft_zero]
  · exact (sft_top b _ f (Nat.le_refl _) h).1
theorem sft_mo {b : Fin p} {f : Po p} (h : Mo f) : Mo (sft b f) := ⟨sft_ne h.1, by rw [sft_sz, (sft_top b _ f (Nat.le_refl _) h.1).2]; exact h.2⟩
theorem sft_irr {b : Fin p} {f : Po p} (h : Irr f) : Irr (sft b f) := by
  refine ⟨by rw [sft_sz]; exact h.1, fun x y e => ?_⟩
  have e2 : f = sft (-b) x * sft (-b) y := by rw [← sft_mul, ← e, sft_inv]
  have := h.2 _ _ e2
  rw [sft_sz, sft_sz] at this; exact this
theorem fpr_sft (b : Fin p) : ∀ L : List (Po p × Nat), fpr (L.map fun x => (sft b x.1, x.2)) = sft b (fpr L)
  | [] => (sft_one b).symm
  | (k, c) :: r => by
    show sft b k ^ c * fpr (r.map fun x => (sft b x.1, x.2)) = sft b (k ^ c * fpr r)
    rw [fpr_sft b r, sft_mul, sft_pow]
theorem fpr_pow (n : Nat) : ∀ L : List (Po p × Nat), fpr (L.map fun x => (x.1, x.2 * n)) = fpr L ^ n
  | [] => by show (1 : Po p) = 1 ^ n; exact (Semiring.one_pow n).symm
  | (k, c) :: r => by
    show k ^ (c * n) * fpr (r.map fun x => (x.1, x.2 * n)) = (k ^ c * fpr r) ^ n
    rw [fpr_pow n r, mul_pow, pow_pow]
end
end Po
end K10
end

section
set_option Elab.async false
set_option linter.all false
set_option maxRecDepth 100000
set_option maxHeartbeats 4000000
namespace KX
open PySem PySem.Spec PyProof.Rows L2
open AutoSeq1 (wpAny_loadPart')

/-! ### enumerate over a tuple -/
theorem meets_enumT (l : Addr) (items : Array Value) :
    Meets (Builtin.«enumerate.__new__» ⟨[.type "enumerate", .ref l], []⟩) (fun _ R s => s.heap.IsTuple l items ∧
      R (.ok (.ret (.ref (s.heap.push { cls := .type "tuple_iterator", data := .fields #[.ref l, .int 0 0] }).objs.size)))
        { s with heap := (s.heap.push { cls := .type "tuple_iterator", data := .fields #[.ref l, .int 0 0] }).push { cls := .type "enumerate", data := .fields #[.none, .bool false, .ref s.heap.objs.size, rawInt 0, .none, .none] } }) :=
  .of_wp fun prog w A R s h => by
    obtain ⟨hp, g, d, tk, os⟩ := s; obtain ⟨hl, h⟩ := h
    have hsub := sub_enumerate
    have B := begins_tuple l items
    have q1 : ∀ {A' : Around} {E : Value → Shared → Prop} {Q : Value → Shared → Prop}, Q (.ref hp.objs.size) ⟨hp.push { cls := .type "tuple_iterator", data := .fields #[.ref l, .int 0 0] }, g, d, tk, os⟩ → wpAny (model prog w) A' (pyIter (.ref l)) Q E ⟨hp, g, d, tk, os⟩ :=
      fun q => B.iter prog w _ _ ⟨hp, g, d, tk, os⟩ _ hl q
    wp_walk using q1
    refine wpAny_stack_any fun st => wpAny_pure ?_
    split
    · rename_i c _ _ _ _ _
      cases (c == Value.type "enumerate")
      · wp_walk using q1
        exact ⟨_, rfl, h⟩
      · wp_walk using q1
        exact ⟨_, rfl, h⟩
    · wp_walk using q1
      exact ⟨_, rfl, h⟩
section
variable {prog : Program} {w : World} {A : Around} {E : Value → Shared → Prop} {s : Shared}
theorem call_enumT {l : Addr} {items : Array Value} {Q : Value → Shared → Prop} (hL : s.heap.IsTuple l items)
    (h : ∀ h', IsEnum h' (s.heap.objs.size + 1) s.heap.objs.size 0 .none → h'.IsTupleIter s.heap.objs.size l 0 → h'.objs.size = s.heap.objs.size + 2 →
      (∀ b o, s.heap.get? b = some o → h'.get? b = some o) → Q (.ref (s.heap.objs.size + 1)) { s with heap := h' }) :
    wpAny (model prog w) A (call (.type "enumerate") [.ref l]) Q E s := by
  refine callType_new F.called_enumerate (by decide) (F.typeCall_enumerate_1 _) (F.newCall_enumerate_1 _) (fun obj => F.args_object_init_2 obj _) F.entry_enumerate_new
    (meets_enumT l items) ⟨hL, ?_⟩
  have hz : (s.heap.push { cls := .type "tuple_iterator", data := .fields #[.ref l, .int 0 0] }).objs.size = s.heap.objs.size + 1 := Heap.size_push ..
  show _ ∧ _
  rw [hz]
  have he : IsEnum ((s.heap.push { cls := .type "tuple_iterator", data := .fields #[.ref l, .int 0 0] }).push
      { cls := .type "enumerate", data := .fields #[.none, .bool false, .ref s.heap.objs.size, rawInt 0, .none, .none] }) (s.heap.objs.size + 1) s.heap.objs.size 0 .none := by
    have := Heap.get?_push_size (s.heap.push { cls := .type "tuple_iterator", data := .fields #[.ref l, .int 0 0] })
      (o := { cls := .type "enumerate", data := .fields #[.none, .bool false, .ref s.heap.objs.size, rawInt 0, .none, .none] }) rfl
    rw [hz] at this; exact this
  refine ⟨⟨_, he, rfl⟩, h _ he ⟨_, Heap.get?_push_of_some _ (Heap.get?_push_size _ rfl), rfl, rfl⟩ (by rw [Heap.size_push, hz]) fun b o x => Heap.get?_push_of_some _ (Heap.get?_push_of_some _ x)⟩
end

/-- the tuple at a as it stands at each turn, each item in a new pair -/
def IteT (K : PySem.W.Frag) (a : Addr) : It :=
  ⟨fun i H => ∃ (xs : List V) (x : V), SqT K H a xs ∧ xs[i]? = some x, fun i H v H' => ∃ T x, v = .ref T ∧ H T = none ∧ H' = upd H T (.tup [.int (i : Nat), x]) ∧ ∀ xs, SqT K H a xs → xs[i]? = some x, fun i H => ∃ xs : List V, SqT K H a xs ∧ xs.length ≤ i⟩
theorem turn_enumT {P : Program} {w : World} {K : PySem.W.Frag} {elts : List Expr} {kk : Nat} {tpos : Pos} (a e it : Addr) :
    Turn P w K (.Tuple elts kk tpos) (IteT K a) [e, it] e (fun i h => (∃ old, IsEnum h e it ((i : Nat) : Int) old) ∧ h.IsTupleIter it a i ∧ e ≠ it) where
  mem := by simp
  obj := fun i h st b hb => by
    obtain ⟨⟨old, he⟩, ⟨o, ho, hc, hd⟩, _⟩ := st
    have e' : b = e ∨ b = it := by simpa using hb
    rcases e' with z | z
    · rw [z]; exact ⟨_, he, fun v q => nomatch q⟩
    · rw [z]; exact ⟨o, ho, fun v q => by rw [hd] at q; cases q⟩
  keep := fun i h h' st k => let ⟨⟨old, he⟩, hi, hne⟩ := st; ⟨⟨old, k e (by simp) _ he⟩, hi.at fun o q => k it (by simp) o q, hne⟩
  item := by
    intro X hP hw hK hc i pins s σ H E I hf st hg
    subst hP hw hK
    obtain ⟨⟨old, he⟩, hit, hne⟩ := st
    obtain ⟨xs, x, hq, hx⟩ := hg
    obtain ⟨its, rv, p, hz⟩ := I.tuple hq
    obtain ⟨u, hu, ru⟩ := rv.get hx
    have hel : e < s.heap.objs.size := Heap.lt_size he
    have hil : it < s.heap.objs.size := by obtain ⟨_, q, _⟩ := hit; exact Heap.lt_size q
    have hae : a ≠ e := by
      rintro rfl
      obtain ⟨o, ho, hcl, _⟩ := p
      rw [he] at ho; cases ho; exact absurd hcl (show Value.type "enumerate" ≠ Value.type "tuple" by decide)
    have hai : a ≠ it := by
      rintro rfl
      obtain ⟨o, ho, hcl, _⟩ := p
      obtain ⟨o2, ho2, hc2, _⟩ := hit
      rw [ho2] at ho; cases ho; rw [hc2] at hcl; exact absurd hcl (show Value.type "tuple_iterator" ≠ Value.type "tuple" by decide)
    have hlt : i < its.toArray.size := by
      have := (List.getElem?_eq_some_iff.mp hu).1
      simpa using this
    refine wpAny_pyNext_enum_itemD (Draws.tuple (prog := X.prog) (w := X.w) (A := X.A.in1) (I.ok.hd hc) it a hai its.toArray) he ⟨hit, p⟩ hlt hne (by simp only [List.mem_cons, List.not_mem_nil, or_false, not_or]; exact ⟨hne, Ne.symm hae⟩) fun y h' tk hy ho hst hT hsz hk => ?_
    have ey : y = u := by
      have : its.toArray[i]? = some y := hy
      rw [List.getElem?_toArray, hu] at this
      exact (Option.some.inj this).symm
    subst ey
    have hit' := hst.1
    refine ⟨_, rfl, wpAny_letOwnedTupleGo_enum (s := { s with heap := h', toks := tk + 1 }) ho fun h'' he' sb => ?_⟩
    have hT2 : h''.get? s.heap.objs.size = some { cls := .type "tuple", data := .seq #[.int i tk, y] } := (sb.2 _ (Nat.ne_of_gt hel)).trans hT
    have new : ObjOk X.prog X.w (upd H s.heap.objs.size (.tup [.int (i : Nat), x])) h'' s.heap.objs.size (.tup [.int (i : Nat), x]) :=
      ⟨by show 2 ≤ sizeLine; decide, [.int i tk, y], .cons ⟨_, rfl⟩ (.cons ru .nil), ⟨_, hT2, rfl, _, rfl⟩⟩
    have I1 : Inv X pins σ (upd H s.heap.objs.size (.tup [.int (i : Nat), x])) { s with heap := h'', toks := tk + 1 } :=
      I.turnedNew (ch := [e, it]) (fun b ob hb q => (sb.2 b (fun z => hb (by simp [z]))).trans (hk b ob (fun z => hb (by simp [z])) (fun z => hb (by simp [z])) q)) hf (Nat.le_refl _) new
    refine ⟨.ref s.heap.objs.size, _, I1, rfl, ⟨_, x, rfl, I.hok.fresh (Nat.le_refl _), rfl, fun ys hy => by rw [I.tuple_inj hy hq]; exact hx⟩, ⟨⟨y, ?_⟩, hit'.at fun o q => (sb.2 it (Ne.symm hne)).trans q, hne⟩, fun b hb => ?_⟩
    · have e1 : ((i + 1 : Nat) : Int) = (i : Int) + 1 := by omega
      rw [e1]; exact he'
    · have hb' : b < s.heap.objs.size := by
        have e' : b = e ∨ b = it := by simpa using hb
        rcases e' with z | z
        · rw [z]; exact hel
        · rw [z]; exact hil
      rw [upd_ne (Nat.ne_of_lt hb')]
      exact (hf b hb).1
  done := by
    intro X hP hw hK hc i pins s σ H E I hf st hg
    subst hP hw hK
    obtain ⟨⟨old, he⟩, hit, hne⟩ := st
    obtain ⟨xs, hq, hx⟩ := hg
    obtain ⟨its, rv, p, hz⟩ := I.tuple hq
    obtain ⟨f0, f1, f2, f3, f4, f5⟩ := hf it (by simp)
    have hl := rv.length
    have D : Draws X.prog X.w X.A.in1 it [it, a] i (fun _ _ => True) (fun j h => (h.IsTupleIter it a j ∧ h.IsTuple a its.toArray) ∧ j = i) :=
      ⟨fun j h z => let ⟨o, ho, _⟩ := z.1.1; ⟨o, ho⟩, fun j h h' z k => ⟨⟨z.1.1.at fun o q => k it (by simp) o q, z.1.2.at fun o q => k a (by simp) o q⟩, z.2⟩,
        fun j s' Q E hj z hQ => absurd z.2 (by omega), fun s' Q E z hE => wpAny_nextOf_tuple_end (I.ok.hd hc) z.1.1 z.1.2 (by simp; omega) hE⟩
    exact wpAny_pyNext_enum_endD D he ⟨⟨hit, p⟩, rfl⟩ fun h' eb => ⟨rfl, I.turned (t' := s.toks) (fun b o hb q => eb b o hb q) f0 f1 f3 f4 f5⟩
  self := fun A i s Q E st h => let ⟨⟨_, he⟩, _⟩ := st; wpAny_pyIter_enum he h
def iEnumT (K : PySem.W.Frag) (ta : TA) : TI := fun σ H R => ta σ H fun vs H1 => ∃ a xs, vs = [.ref a] ∧ SqT K H1 a xs ∧ R (IteT K a) H1
theorem pi_enumT {X : Cx} {e : Expr} {ta : TA} {p pos tpos : Pos} {elts : List Expr} {kk : Nat} (hg : Gl X "enumerate") (hm : X.mg "enumerate" = none) (ha : PA X [e] ta) (hs : starEach [e] X.env = [(false, eval e X.env)] := by rfl) :
    PI X (.Tuple elts kk tpos) (.Call (.Name "enumerate" p) [e] [] pos) (iEnumT X.K ta) := by
  refine ⟨fun pins s σ H R I h => ?_⟩
  refine Call_ (ld_blt I hg hm boot_enumerate (PyProof.Rows.callWith_type1 (thn (ha.run pos pins s σ H _ I h) fun us s1 ⟨vs, H1, I1, r1, q1⟩ => ?_) hs rfl))
  obtain ⟨a, xs, ex, hq, q⟩ := q1
  subst ex
  cases r1 with
  | cons r rr =>
    cases rr
    cases r
    obtain ⟨its, rv, p', hz⟩ := I1.tuple hq
    refine call_enumT p' fun h' he hit hsz hk => wpAny_pyIter_enum he ?_
    have I2 : Inv X pins σ H1 { s1 with heap := h' } := I1.kept (t' := s1.toks) hk
    refine ⟨s1.heap.objs.size + 1, [s1.heap.objs.size + 1, s1.heap.objs.size], _, _, H1, rfl, I2, turn_enumT a (s1.heap.objs.size + 1) s1.heap.objs.size, ⟨⟨.none, he⟩, hit, Nat.succ_ne_self _⟩, fun b hb => ?_, q⟩
    have e' : b = s1.heap.objs.size + 1 ∨ b = s1.heap.objs.size := by simpa using hb
    have hle : s1.heap.objs.size ≤ b := by
      rcases e' with z | z
      · rw [z]; exact Nat.le_add_right _ _
      · rw [z]; exact Nat.le_refl _
    exact I1.fpOk hle (I1.hok.fresh hle)
theorem walk_enumT {K : PySem.W.Frag} {a : Addr} {xs : List V} : Walk (IteT K a) xs.length (fun H => SqT K H a xs) (YPair (fun i => some (.int (i : Nat))) (fun i => xs[i]?)) := by
  refine ⟨fun i _ hi q => ⟨xs, xs[i], q, by simp [hi]⟩, fun _ q => ⟨xs, q, Nat.le_refl _⟩, fun i H v H' _ q y => ?_⟩
  obtain ⟨T, x, h1, h2, h3, h4⟩ := y
  exact ⟨T, .int (i : Nat), x, h1, h2, h3, rfl, h4 xs q⟩
open RZ in
theorem walk_zipT {K : PySem.W.Frag} {a b : Addr} {xs ys : List V} {n : Nat} (hn : n = min xs.length ys.length) : Walk (ItzT K a b) n (fun H => SqT K H a xs ∧ SqT K H b ys) (YPair (fun i => xs[i]?) (fun i => ys[i]?)) := by
  subst hn
  refine ⟨fun i _ hi q => ?_, fun _ q => ⟨xs, ys, q.1, q.2, by omega⟩, fun i H v H' _ q y => ?_⟩
  · have h1 : i < xs.length := by omega
    have h2 : i < ys.length := by omega
    exact ⟨xs, ys, xs[i], ys[i], q.1, q.2, by simp [h1], by simp [h2]⟩
  · obtain ⟨T, x, z, h1, h2, h3, h4, h5⟩ := y
    exact ⟨T, x, z, h1, h2, h3, h4 xs q.1, h5 ys q.2⟩
/-- a dict comprehension over anything that is walked -/
theorem dc_it {J : It} {n : Nat} {G : Hp → Prop} {Y : Nat → Hp → V → Hp → Prop} (w : Walk J n G Y) {g : TG} {tt : TT} {tk tv : TE} {vs : List Nat} {σ : L2.St} {H1 : Hp} {D : Addr} {Qd : Hp → Prop} (Pv : Nat → Hp → Prop) (h0 : Pv 0 (upd H1 D (.dK []))) (hG : ∀ i H, i ≤ n → Pv i H → G H)
    (hs : ∀ i x H H', i < n → Pv i H → Y i H x H' → g x (wipe σ vs) H' fun σ2 H2 => wipe σ2 vs = wipe σ vs ∧ tt σ2 H2 fun b H3 =>
      if b = true then tk σ2 H3 fun y H4 => tv σ2 H4 fun z H5 => ∃ kvs k, y = kV k ∧ H5 D = some (.dK kvs) ∧ kvs.length < sizeLine ∧ Pv (i + 1) (upd H5 D (.dK (putK kvs k z))) else Pv (i + 1) H3) (hd : ∀ H, Pv n H → Qd H) :
    ∃ W : Nat → Nat → Hp → Prop, (∃ m, W 0 m (upd H1 D (.dK []))) ∧ ∀ i m H, W i m H →
      (J.stop i H ∧ Qd H) ∨ (J.go i H ∧ ∃ Nx : Hp → Prop, (∀ H', Nx H' → ∃ m', m' < m ∧ W (i + 1) m' H') ∧ ∀ x H', J.yld i H x H' → g x (wipe σ vs) H' fun σ2 H2 => wipe σ2 vs = wipe σ vs ∧ tt σ2 H2 fun b H3 =>
        if b = true then tk σ2 H3 fun y H4 => tv σ2 H4 fun z H5 => ∃ kvs k, y = kV k ∧ H5 D = some (.dK kvs) ∧ kvs.length < sizeLine ∧ Nx (upd H5 D (.dK (putK kvs k z))) else Nx H3) := by
  refine ⟨fun i m H => m = n - i ∧ i ≤ n ∧ Pv i H, ⟨n, by simp, Nat.zero_le _, h0⟩, ?_⟩
  rintro i m H ⟨rfl, hi, p⟩
  have q := hG i H hi p
  by_cases hlt : i < n
  · refine .inr ⟨w.goes i H hlt q, Pv (i + 1), fun H' p' => ⟨n - (i + 1), by omega, rfl, hlt, p'⟩, fun x H' y => hs i x H H' hlt p (w.yields i H x H' hlt q y)⟩
  · have e : i = n := by omega
    subst e
    exact .inl ⟨w.stops H q, hd H p⟩

/-! ### xs[i] op= e on a list -/
theorem get_list {X : Cx} : PGet X (rIxL X.K) := by
  intro pins s σ H x y v u Q I rx ry h
  obtain ⟨p, xs, i, z, rfl, rfl, hq, he, q⟩ := h
  cases rx
  obtain ⟨t, rfl⟩ := ry
  obtain ⟨its, r, pl, hz⟩ := I.list hq
  obtain ⟨j, h1, h2, h3, h4, h5⟩ := atI_get he
  obtain ⟨w, ew, rw'⟩ := r.get h2
  have hl := r.length
  have hn := line63
  have fin : EP X pins σ Q w s := ⟨z, H, I, rw', q⟩
  by_cases h0 : 0 ≤ i
  · have hj : i.toNat = j := by
      rw [seqIndex_of h0 h5] at h1
      exact Option.some.inj h1
    exact wpAny_getItem_list pl.isList h0 (by omega) (by rw [hj]; simpa using ew) fin
  · have hj : (i + (its.toArray.size : Int)).toNat = j := by
      rw [seqIndex_neg (by omega) h4] at h1
      rw [List.size_toArray, ← hl]
      exact Option.some.inj h1
    exact wpAny_getItem_list_neg pl.isList (by omega) (by rw [List.size_toArray] <;> omega) (by omega) (by rw [hj]; simpa using ew) fin
end KX
end

section
set_option Elab.async false
set_option linter.all false
set_option maxRecDepth 100000
set_option maxHeartbeats 4000000
namespace KX
open PySem PySem.Spec PyProof.Rows L2 HT
/-! ### t[::-1] -/
theorem adjust_back (n : Nat) : Builtin.Slice.sliceAdjust none none (-1) (n : Int) = ((n : Int) - 1, -1) := by
  unfold Builtin.Slice.sliceAdjust
  have h1 : ((-1 : Int) < 0) := by omega
  simp only [h1, if_true]
theorem places_back (n : Nat) : Builtin.Slice.slicePlaces ((n : Int) - 1) (-1) (-1) = n := by
  unfold Builtin.Slice.slicePlaces
  have h1 : ¬ ((-1 : Int) > 0) := by omega
  simp only [h1, if_false]
  split
  · have e : - (-1 : Int) = 1 := by omega
    rw [e, Int.ediv_one]; omega
  · omega
theorem pick_back (xs : Array Value) : ((List.range xs.size).filterMap fun (m : Nat) => xs[(((xs.size : Int) - 1) + (m : Int) * (-1)).toNat]?).toArray = xs.toList.reverse.toArray := by
  congr 1
  have e : (List.range xs.size).filterMap (fun (m : Nat) => xs[(((xs.size : Int) - 1) + (m : Int) * (-1)).toNat]?) = ((List.range xs.size).map fun k => xs.size - 1 - k).filterMap (xs[·]?) := by
    rw [List.filterMap_map]
    have k : ∀ (f g : Nat → Option Value), (∀ m ∈ List.range xs.size, f m = g m) → (List.range xs.size).filterMap f = (List.range xs.size).filterMap g := by
      intro f g
      generalize List.range xs.size = l
      intro hfg
      induction l with
      | nil => rfl
      | cons m l ih =>
        rw [List.filterMap_cons, List.filterMap_cons, hfg m List.mem_cons_self, ih fun j hj => hfg j (List.mem_cons_of_mem _ hj)]
    refine k _ _ fun m hm => ?_
    have hm := List.mem_range.mp hm
    show xs[(((xs.size : Int) - 1) + (m : Int) * (-1)).toNat]? = xs[xs.size - 1 - m]?
    rw [show (((xs.size : Int) - 1) + (m : Int) * (-1)).toNat = xs.size - 1 - m by omega]
  rw [e, PySem.W.krv_range, List.filterMap_reverse, PySem.W.krv_all]
section
variable {prog : Program} {w : World} {A : Around} {E : Value → Shared → Prop} {s : Shared}
theorem sliceApplied_back {sl : Addr} {t : Tok} {n : Nat} {Q : Int × Int × Nat → Shared → Prop} (hs : s.heap.IsSliceOf sl .none .none (.int (-1) t))
    (h : Q ((n : Int) - 1, -1, n) s) : wpAny (model prog w) A (Builtin.Slice.sliceApplied (.ref sl) (pure (n : Int))) Q E s := by
  obtain ⟨os, hos, hcs, hds⟩ := id hs
  unfold Builtin.Slice.sliceApplied Builtin.Slice.sliceFields
  refine wpAny_bind (wpAny_bind (wpAny_field hos hds (x := .none) rfl (wpAny_bind (wpAny_field hos hds (x := .none) rfl (wpAny_bind (wpAny_field hos hds (x := .int (-1) t) rfl (wpAny_pure ?_)))))))
  refine wpAny_bind (slicePart_int ?_)
  show wpAny _ _ (if ((-1 : Int) == 0) = true then _ else _) _ _ s
  rw [if_neg (by decide)]
  refine wpAny_bind (slicePart_none (wpAny_bind (slicePart_none (wpAny_bind (wpAny_pure ?_)))))
  show wpAny _ _ (match Builtin.Slice.sliceAdjust none none (-1) (n : Int) with | (lo, hi) => pure (lo, (-1 : Int), Builtin.Slice.slicePlaces lo hi (-1))) _ _ s
  rw [adjust_back n]
  show wpAny _ _ (pure ((n : Int) - 1, (-1 : Int), Builtin.Slice.slicePlaces ((n : Int) - 1) (-1) (-1))) _ _ s
  rw [places_back]
  exact wpAny_pure h
theorem getItem_tuple_back {t sl : Addr} {items : Array Value} {u : Tok} {Q : Value → Shared → Prop} (ht : IsTup s.heap t items) (hs : s.heap.IsSliceOf sl .none .none (.int (-1) u))
    (h : Q (.ref s.heap.objs.size) { s with heap := s.heap.push { cls := .type "tuple", data := .seq items.toList.reverse.toArray } })
    (hsz : items.size ≤ sizeLine) : wpAny (model prog w) A (getItem (.ref t) (.ref sl)) Q E s := by
  have htake : sizeOk (.seq items.toList.reverse.toArray) := by
    show items.toList.reverse.toArray.size ≤ sizeLine
    rw [List.size_toArray, List.length_reverse, Array.length_toList]
    omega
  obtain ⟨os, hos, hcs, hds⟩ := id hs
  have hTs : s.TypeIs (.ref sl) "slice" := ⟨os, hos, hcs⟩
  unfold getItem
  try with_reducible refine wpAny_holding ?_
  first | refine wpAny_bind (wpAny_pure ?_) | skip
  refine wpAny_bind (wpAny_sequenceKey ht.typeIs (by decide) ?_)
  refine wpAny_bind (wpAny_callSpecial?_slot (name := Str.ofString "__getitem__") ht.typeIs PyProof.Rows.slot_tuple_getitem
    (wpAny_call_entry PyProof.Rows.slot_tuple_getitem ht.typeIs entry_tuple_getitem ?_ (args_tuple_getitem _ _)))
  show wpAny _ _ (Builtin.Tuple.tupleItemsOf (.ref t) >>= _) _ _ s
  refine wpAny_bind (tupleItemsOf_ ht ?_)
  refine wpAny_bind (wpAny_typeOf hTs ?_)
  rw [if_pos (by decide)]
  refine wpAny_bind (sliceApplied_back hs ?_)
  have hno : ¬ ((((items.size : Int) - 1) == 0 && (-1 : Int) == 1 && items.size == items.size) = true) := by
    intro q
    rw [Bool.and_eq_true, Bool.and_eq_true] at q
    exact absurd q.1.2 (by decide)
  show wpAny _ _ (if (((items.size : Int) - 1) == 0 && (-1 : Int) == 1 && items.size == items.size) = true then _ else _) _ _ s
  rw [if_neg hno, pick_back]
  first
    | exact wpAny_bind (m := Builtin.Tuple.tupleExact _) (wpAny_newObj_type (wpAny_pure ⟨_, rfl, wpAny_pure h⟩) htake)
    | exact wpAny_bind (m := Builtin.Tuple.tupleExact _) (wpAny_newObj_type (wpAny_bind (wpAny_pure (wpAny_pure ⟨_, rfl, wpAny_pure h⟩))) htake)
    | exact wpAny_bind (wpAny_bind (m := Builtin.Tuple.tupleExact _) (wpAny_newObj_type (wpAny_pure (wpAny_pure ⟨_, rfl, wpAny_pure h⟩)) htake))
    | exact wpAny_bind (wpAny_bind (m := Builtin.Tuple.tupleExact _) (wpAny_newObj_type (wpAny_pure ⟨_, rfl, wpAny_pure h⟩) htake))
end
section
variable {X : Cx}
def tRevT (K : PySem.W.Frag) (te : TE) : TE := fun σ H Q => te σ H fun x H1 => ∃ a xs, x = .ref a ∧ SqT K H1 a xs ∧ ∀ p, H1 p = none → Q (.ref p) (upd H1 p (.tup xs.reverse))
theorem pe_revT {e : Expr} {te : TE} {k : Nat} {p1 p2 p3 pos : Pos} (he : PE X e te) : PE X (.Subscript e (.Slice none none (some (.UnaryOp .USub (.Constant (.int 1) k p1) p2)) p3) pos) (tRevT X.K te) := by
  refine ⟨fun pins s σ H Q I h => ?_⟩
  refine Subscript_ (thn (he.run pins s σ H _ I h) fun v s1 ⟨x, H1, I1, r1, q1⟩ => ?_)
  obtain ⟨a, xs, ex, hx, q⟩ := q1
  subst ex
  cases r1
  have hst : PO X (some (.UnaryOp .USub (.Constant (.int 1) k p1) p2)) (tPart (tUn (rU fun i => .int (-i)) (tC (.int 1)))) := po_some (pe_un un_neg pe_int)
  refine wpAny_Slice (thn (po_none.run pins s1 σ H1 (fun o H2 => o = none ∧ H2 = H1) I1 ⟨rfl, rfl⟩) fun vl s2 ⟨l, H2, I2, pl, el, e2⟩ => ?_)
  subst el e2
  refine thn (po_none.run pins s2 σ H2 (fun o H3 => o = none ∧ H3 = H2) I2 ⟨rfl, rfl⟩) fun vu s3 ⟨u, H3, I3, pu, eu, e3⟩ => ?_
  subst eu e3
  refine thn (hst.run pins s3 σ H3 (fun o H4 => o = some (-1) ∧ H4 = H3) I3 ⟨1, rfl, -1, rfl, rfl, rfl⟩) fun vs s4 ⟨o, H4, I4, ps, eo, e4⟩ => ?_
  subst eo e4
  cases pl
  cases pu
  obtain ⟨tk, rfl⟩ : ∃ tk, vs = Value.int (-1) tk := by
    cases ps
    exact ⟨_, rfl⟩
  have I5 : Inv X pins σ H4 { s4 with heap := s4.heap.push { cls := .type "slice", data := .fields #[.none, .none, .int (-1) tk] } } := I4.kept (t' := s4.toks) fun b ob q => Heap.get?_push_of_some _ q
  obtain ⟨its, r, ht, hz⟩ := I5.tuple hx
  have hlen := r.length
  show wpAny (model X.prog X.w) X.A (subscriptTail e (.Slice none none (some (.UnaryOp .USub (.Constant (.int 1) k p1) p2)) p3) (.ref a) (.ref s4.heap.objs.size)) (EP X pins σ Q) X.xe { s4 with heap := s4.heap.push { cls := .type "slice", data := .fields #[.none, .none, .int (-1) tk] } }
  refine tail_any (ops := [.ref a, .ref s4.heap.objs.size]) ht.typeIs (PyProof.Rows.slot_tuple_getitem.lookup) ?_ (by with_unfolding_all rfl)
  refine getItem_tuple_back ht (Heap.IsSliceOf.new _ .none .none (.int (-1) tk)) ?_ (by rw [List.size_toArray]; omega)
  refine ⟨.ref _, _, I5.laid (t' := s4.toks) (o := .tup xs.reverse) (fun b ob q => Heap.get?_push_of_some _ q) (Nat.le_refl _) ?_, rfl, q _ (I5.hok.fresh (Nat.le_refl _))⟩
  exact ⟨by rw [List.length_reverse]; exact hz, _, r.reverse, ⟨_, Heap.get?_push_size _ rfl, rfl, 0, rfl⟩⟩
end
end KX
end

section
set_option Elab.async false
set_option linter.all false
set_option maxRecDepth 100000
set_option maxHeartbeats 4000000
namespace KX
open PySem PySem.Spec PyProof.Rows L2 HT PySem.AutoSeq1
theorem extend_list_tup (l : Addr) (items : Array Value) (n : Nat) (b : Addr) (items2 : Array Value) (hs0 : ¬(!items.isEmpty && Builtin.List.listTooLong (items.size + items2.size)) = true) (hs1 : items.size ≤ sizeLine) (hs2 : items.size + items2.size ≤ sizeLine + 1) :
    Meets (Builtin.«list.extend» ⟨[.ref l, .ref b], []⟩) (fun _ R s => s.heap.get? l = some { cls := .type "list", dict := none, data := .seq items n, slots := #[] } ∧ IsTup s.heap b items2 ∧ R (.ok (.ret Value.none)) { s with heap := s.heap.update l (Obj.mapSeq fun x => x ++ items2), toks := s.toks }) :=
  .of_wp fun prog w A R s h => by
    obtain ⟨hp, g, d, tk, os⟩ := s; obtain ⟨hl, ⟨⟨cls, dict, data, slots⟩, hb, hcls, n2, hdat⟩, h⟩ := h
    subst hcls hdat
    have f1 := AutoSeq1.idx_int; have f2 := AutoSeq1.sub_tuple_tuple; have f3 := AutoSeq1.sub_list_list; have f4 := AutoSeq1.sub_tuple_list; have f5 := AutoSeq1.sub_list_tuple;
    have hz' : (items ++ items2).size ≤ sizeLine + 1 := by rw [Array.size_append]; exact hs2
    wp_walk using (wpAny_updateSeq hl rfl (hz := hs1) (_hz' := hz')), wpAny_loadPart' hl, wpAny_loadPart' hb; exact ⟨_, rfl, h⟩
section
variable {X : Cx}
/-! ### list.extend(tuple) -/
def rExtendT (K : PySem.W.Frag) : V → List V → Hp → VK → Prop := fun x vs H Q => ∃ l b xs zs, x = .ref l ∧ vs = [.ref b] ∧ H l = some (.lst xs) ∧ SqT K H b zs ∧ xs.length + zs.length ≤ sizeLine ∧ Q .non (upd H l (.lst (xs ++ zs)))
theorem mt_extendT : MtM X "list.extend" (rExtendT X.K) := by
  intro pins s σ H x vs v us Q I rx rv h
  obtain ⟨l, b, xs, zs, rfl, rfl, hH, hB, hz, q⟩ := h
  cases rx
  obtain ⟨u, rfl, ru⟩ := rv.one
  cases ru
  obtain ⟨z, its, n, r, hl, e⟩ := I.lstM hH
  obtain ⟨its2, r2, p2, hz2⟩ := I.tuple hB
  have hl2 := r2.length
  have hsz : its.toArray.size + its2.toArray.size ≤ sizeLine := by rw [List.size_toArray, List.size_toArray]; omega
  have hlong : ¬ (!its.toArray.isEmpty && Builtin.List.listTooLong (its.toArray.size + its2.toArray.size)) = true := by
    rw [notLongL hsz, Bool.and_false]
    exact Bool.false_ne_true
  refine call_meets F.slot_list_extend ⟨_, e, rfl⟩ F.entry_list_extend (F.args_list_extend_2 _ _)
    (extend_list_tup l its.toArray n b its2.toArray hlong (by rw [List.size_toArray]; omega) (by omega)) ⟨e, p2, ?_⟩
  refine ⟨.non, _, I.lset (its' := its ++ its2) hH e (by simp) (r.append r2) ?_, rfl, q⟩
  rw [List.length_append]
  omega
end
end KX
end

section
set_option Elab.async false
set_option linter.all false
set_option maxRecDepth 100000
set_option maxHeartbeats 4000000
namespace KX
open PySem PySem.Spec PyProof.Rows L2 PySem.SeqAt
/-! ### lists of ints in order -/
def lexL : List Int → List Int → Bool
  | _, [] => false
  | [], _ :: _ => true
  | a :: r, b :: q => if a = b then lexL r q else decide (a < b)
theorem lexL_irrefl : ∀ a : List Int, lexL a a = false
  | [] => rfl
  | x :: r => by unfold lexL; rw [if_pos rfl]; exact lexL_irrefl r
theorem lexL_asym : ∀ a b : List Int, lexL a b = true → lexL b a = false
  | [], [], h => by cases h
  | [], _ :: _, _ => by unfold lexL; rfl
  | _ :: _, [], h => by cases h
  | a :: r, b :: q, h => by
    unfold lexL at h ⊢
    by_cases e : a = b
    · rw [if_pos e] at h; rw [if_pos e.symm]; exact lexL_asym r q h
    · rw [if_neg e] at h; rw [if_neg (Ne.symm e)]
      have := of_decide_eq_true h
      exact decide_eq_false (by omega)
theorem lexL_tri : ∀ a b : List Int, lexL a b = false → lexL b a = false → a = b
  | [], [], _, _ => rfl
  | [], _ :: _, h, _ => by unfold lexL at h; cases h
  | _ :: _, [], _, h => by unfold lexL at h; cases h
  | a :: r, b :: q, h, k => by
    unfold lexL at h k
    by_cases e : a = b
    · rw [if_pos e] at h; rw [if_pos e.symm] at k; rw [e, lexL_tri r q h k]
    · rw [if_neg e] at h; rw [if_neg (Ne.symm e)] at k
      have h1 := of_decide_eq_false h
      have h2 := of_decide_eq_false k
      omega
theorem lexL_trans : ∀ a b c : List Int, lexL a b = true → lexL b c = true → lexL a c = true
  | [], [], _, h, _ => by cases h
  | _ :: _, [], _, h, _ => by cases h
  | _, _ :: _, [], _, k => by unfold lexL at k; cases k
  | [], _ :: _, _ :: _, _, _ => by unfold lexL; rfl
  | a :: r, b :: q, c :: t, h, k => by
    unfold lexL at h k ⊢
    by_cases e : a = b
    · subst e
      rw [if_pos rfl] at h
      by_cases e2 : a = c
      · subst e2; rw [if_pos rfl] at k; rw [if_pos rfl]; exact lexL_trans r q t h k
      · rw [if_neg e2] at k ⊢; exact k
    · rw [if_neg e] at h
      have h1 := of_decide_eq_true h
      by_cases e2 : b = c
      · subst e2; rw [if_neg e]; exact decide_eq_true h1
      · rw [if_neg e2] at k
        have h2 := of_decide_eq_true k
        rw [if_neg (by omega)]; exact decide_eq_true (by omega)
theorem swo_lexL {α : Type} (k : α → List Int) : SrtO.Swo fun v u => lexL (k v) (k u) := by
  refine ⟨fun x y h => lexL_asym _ _ h, fun x y z h1 h2 => ?_⟩
  cases e : lexL (k z) (k x) with
  | false => rfl
  | true =>
    cases e2 : lexL (k x) (k y) with
    | true => rw [lexL_trans _ _ _ e e2] at h2; cases h2
    | false =>
      have := lexL_tri _ _ e2 h1
      rw [this] at e
      rw [e] at h2; cases h2
theorem lexL_app : ∀ (a b r q : List Int), a.length = b.length → lexL (a ++ r) (b ++ q) = if a = b then lexL r q else lexL a b
  | [], [], r, q, _ => by rw [if_pos rfl]; rfl
  | x :: a, y :: b, r, q, h => by
    have ih := lexL_app a b r q (by simpa using h)
    show (if x = y then lexL (a ++ r) (b ++ q) else decide (x < y)) = if x :: a = y :: b then lexL r q else (if x = y then lexL a b else decide (x < y))
    by_cases e : x = y
    · subst e
      rw [if_pos rfl, if_pos rfl, ih]
      by_cases e2 : a = b
      · rw [if_pos e2, if_pos (by rw [e2])]
      · rw [if_neg e2, if_neg (fun z => e2 (by injection z))]
    · rw [if_neg e, if_neg e, if_neg (fun z => e (by injection z))]
  | [], _ :: _, _, _, h => by simp at h
  | _ :: _, [], _, _, h => by simp at h
theorem lexAt_lexL (a b : List Int) (n : Nat) (ha : a.length = n) (hb : b.length = n) : ∀ k i, i + k = n → Ob.lexAt (fun j => decide (a.getD j 0 = b.getD j 0)) (fun j => decide (a.getD j 0 < b.getD j 0)) false i k = lexL (a.drop i) (b.drop i)
  | 0, i, h => by rw [Ob.lexAt_zero, List.drop_of_length_le (by omega), List.drop_of_length_le (by omega)]; rfl
  | k + 1, i, h => by
    have h1 : i < a.length := by omega
    have h2 : i < b.length := by omega
    rw [Ob.lexAt_succ, lexAt_lexL a b n ha hb k (i + 1) (by omega), List.drop_eq_getElem_cons h1, List.drop_eq_getElem_cons h2]
    have e1 : a.getD i 0 = a[i] := by simp [List.getD_eq_getElem?_getD, h1]
    have e2 : b.getD i 0 = b[i] := by simp [List.getD_eq_getElem?_getD, h2]
    rw [e1, e2]
    show _ = if a[i] = b[i] then lexL (a.drop (i + 1)) (b.drop (i + 1)) else decide (a[i] < b[i])
    by_cases e : a[i] = b[i]
    · rw [if_pos e, if_pos (decide_eq_true e)]
    · rw [if_neg e, if_neg (by rw [decide_eq_false e]; decide)]
/-! ### keys: tuples of ints and of tuples of ints -/
abbrev Kd := Int ⊕ List Int
def dat : Kd → PyData
  | .inl i => .int i
  | .inr ns => .tuple (ns.map .int)
def enc : List Kd → List Int
  | [] => []
  | .inl i :: r => i :: enc r
  | .inr ns :: r => ns ++ enc r
/-- kinds alike, and lengths where they are asked for -/
def Shp : List Kd → List Kd → Prop
  | [], [] => True
  | .inl a :: r, .inl b :: q => a = b → Shp r q
  | .inr a :: r, .inr b :: q => a.length = b.length ∧ (a = b → Shp r q)
  | _, _ => False
theorem canLay_ints : ∀ ns : List Int, PyData.canLayAll0 (ns.map .int) = true
  | [] => by simp [PyData.canLayAll0]
  | _ :: ns => by simp [PyData.canLayAll0, PyData.canLay0, canLay_ints ns]
theorem canLay_dat (c : Kd) : (dat c).canLay0 = true := by
  cases c with
  | inl i => simp [dat, PyData.canLay0]
  | inr ns => simp [dat, PyData.canLay0, canLay_ints]
theorem depth_ints0 : ∀ ns : List Int, PyData.depthAll (ns.map .int) = 0
  | [] => by simp [PyData.depthAll]
  | _ :: ns => by simp [PyData.depthAll, PyData.depth, depth_ints0 ns]
theorem depth_dat (c : Kd) : (dat c).depth ≤ 1 := by
  cases c with
  | inl i => simp [dat, PyData.depth]
  | inr ns => simp [dat, PyData.depth, depth_ints0]
theorem eqvAll_ints : ∀ ns ms : List Int, PyData.eqvAll (ns.map .int) (ms.map .int) = decide (ns = ms)
  | [], [] => by simp [PyData.eqvAll]
  | [], _ :: _ => by simp [PyData.eqvAll]
  | _ :: _, [] => by simp [PyData.eqvAll]
  | a :: r, b :: q => by
    have e : (a == b) = decide (a = b) := by
      by_cases q : a = b
      · rw [decide_eq_true q]; exact beq_iff_eq.mpr q
      · rw [decide_eq_false q]; exact beq_eq_false_iff_ne.mpr q
    simp [PyData.eqvAll, PyData.eqv, eqvAll_ints r q, e]
theorem reads_ints {h : Heap} : ∀ {ns : List Int} {vs : List Value} {as : List Addr}, ReadsAll h vs (ns.map .int) as → IntsAre vs ns
  | [], _, _, r => by cases r; exact .nil
  | n :: ns, _, _, r => by
    cases r with
    | cons r1 r2 =>
      cases r1
      exact .cons _ _ (reads_ints r2)
section
variable {prog : Program} {w : World} {A : Around} {E : Value → Shared → Prop} {s : Shared} {Q : Bool → Shared → Prop}
theorem lt_ints_tup {a b : Addr} {xs ys : Array Value} {ns ms : List Int} (ha : IsTup s.heap a xs) (hb : IsTup s.heap b ys) (i1 : IntsAre xs.toList ns) (i2 : IntsAre ys.toList ms) (hl : ns.length = ms.length) (hu : A.units < cLine) :
    Ob.RcOp .Lt A s (.ref a) (.ref b) (lexL ns ms) := by
  have e1 : xs.size = ns.length := by have := i1.length; rw [Array.length_toList] at this; exact this
  have e2 : ys.size = ms.length := by have := i2.length; rw [Array.length_toList] at this; exact this
  have at1 : ∀ j (h1 : j < xs.size), ∃ t, xs[j] = .int (ns.getD j 0) t := fun j h1 => PyProof.Rows.IntsAre.int_at i1 _ _ (by simp [h1])
  have at2 : ∀ j (h1 : j < ys.size), ∃ t, ys[j] = .int (ms.getD j 0) t := fun j h1 => PyProof.Rows.IntsAre.int_at i2 _ _ (by simp [h1])
  have R := Ob.RcOp.tuples_lt (A := A) (s := s) (e := fun j => decide (ns.getD j 0 = ms.getD j 0)) (r := fun j => decide (ns.getD j 0 < ms.getD j 0)) ha hb hu (fun j h1 h2 => by
    obtain ⟨t, et⟩ := at1 j h1
    obtain ⟨t', et'⟩ := at2 j h2
    rw [et, et']
    have z : (ns.getD j 0 == ms.getD j 0) = decide (ns.getD j 0 = ms.getD j 0) := by
      by_cases q : ns.getD j 0 = ms.getD j 0
      · rw [decide_eq_true q]; exact beq_iff_eq.mpr q
      · rw [decide_eq_false q]; exact beq_eq_false_iff_ne.mpr q
    rw [← z]
    exact SeqAt.EqAt.int_int _ _ _ _) (fun j h1 h2 _ => by
    obtain ⟨t, et⟩ := at1 j h1
    obtain ⟨t', et'⟩ := at2 j h2
    rw [et, et']
    exact Ob.RcOp.lt_int _ _ _ _)
  rw [e1, e2, hl, show decide (ms.length < ms.length) = false from decide_eq_false (Nat.lt_irrefl _), Nat.min_self, lexAt_lexL ns ms ms.length hl rfl ms.length 0 (by omega), List.drop_zero, List.drop_zero] at R
  exact R
theorem lex_kd {b : Bool} (hu : A.units + 10 < cLine) : ∀ (cs ds : List Kd) (vs us : List Value) (as bs : List Addr) (i : Nat), ReadsAll s.heap vs (cs.map dat) as → ReadsAll s.heap us (ds.map dat) bs → Shp cs ds → (i = 0 → ∀ ns r, cs ≠ .inr ns :: r) →
    Q (lexL (enc cs) (enc ds)) s → PySem.W.KatLex prog w A b false Q (vs.zip us) i s
  | [], [], vs, us, as, bs, i, r1, r2, _, _, h => by
    cases r1; cases r2
    exact PySem.W.kat_nil h
  | .inl x :: r, .inl y :: q, vs, us, as, bs, i, r1, r2, hs, _, h => by
    cases r1 with
    | cons p1 r1 =>
    cases r2 with
    | cons p2 r2 =>
    cases p1; cases p2
    refine PySem.W.kat_cons (SeqAt.EqAt.int_int x _ y _ prog w _ _ ?_)
    have h' : Q (if x = y then lexL (enc r) (enc q) else decide (x < y)) s := h
    refine PySem.W.kat_go (fun e1 => ?_) (fun e1 => ?_)
    · have ex : x = y := by simpa using e1
      rw [if_pos ex] at h'
      exact PySem.W.kat_yes (lex_kd hu r q _ _ _ _ (i + 1) r1 r2 (hs ex) (fun z => absurd z (Nat.succ_ne_zero i)) h')
    · have ex : ¬ x = y := by simpa using e1
      rw [if_neg ex] at h'
      exact PySem.W.kat_no (TS.oneLt_ints _ h')
  | .inr x :: r, .inr y :: q, vs, us, as, bs, i, r1, r2, hs, hi, h => by
    have hi0 : i ≠ 0 := fun z => hi z x r rfl
    cases r1 with
    | cons p1 r1 =>
    cases r2 with
    | cons p2 r2 =>
    have d1 := depth_dat (.inr x)
    have d2 := depth_dat (.inr y)
    have EQ := eqAt_reads _ _ A s _ _ _ _ p1 p2 (canLay_dat _) (canLay_dat _) (by omega)
    have ev : PyData.eqv (dat (.inr x)) (dat (.inr y)) = decide (x = y) := by
      show PyData.eqv (.tuple (x.map .int)) (.tuple (y.map .int)) = _
      simp only [PyData.eqv]; exact eqvAll_ints x y
    rw [ev] at EQ
    refine PySem.W.kat_cons (EQ prog w _ _ ?_)
    have h' : Q (lexL (x ++ enc r) (y ++ enc q)) s := h
    rw [lexL_app x y _ _ hs.1] at h'
    refine PySem.W.kat_go (fun e1 => ?_) (fun e1 => ?_)
    · have ex : x = y := of_decide_eq_true e1
      rw [if_pos ex] at h'
      exact PySem.W.kat_yes (lex_kd hu r q _ _ _ _ (i + 1) r1 r2 (hs.2 ex) (fun z => absurd z (Nat.succ_ne_zero i)) h')
    · have ex : ¬ x = y := of_decide_eq_false e1
      rw [if_neg ex] at h'
      have eb : (b && i == 0) = false := by
        rw [show (i == 0) = false from beq_eq_false_iff_ne.mpr hi0, Bool.and_false]
      refine PySem.W.kat_no ?_
      rw [eb]
      cases p1 with
      | tuple k1 k2 k3 k4 =>
      cases p2 with
      | tuple l1 l2 l3 l4 =>
      exact PySem.W.kat_one _ _ (lt_ints_tup ⟨_, k1, k2, _, k3⟩ ⟨_, l1, l2, _, l3⟩ (reads_ints k4) (reads_ints l4) hs.1 (by omega) prog w _ _ (show PySem.W.BoolBack Q (.bool (lexL x y)) s from h'))
  | [], .inl _ :: _, _, _, _, _, _, _, _, h, _, _ => h.elim
  | [], .inr _ :: _, _, _, _, _, _, _, _, h, _, _ => h.elim
  | .inl _ :: _, [], _, _, _, _, _, _, _, h, _, _ => h.elim
  | .inr _ :: _, [], _, _, _, _, _, _, _, h, _, _ => h.elim
  | .inl _ :: _, .inr _ :: _, _, _, _, _, _, _, _, h, _, _ => h.elim
  | .inr _ :: _, .inl _ :: _, _, _, _, _, _, _, _, h, _, _ => h.elim
end
end KX
end

section
set_option Elab.async false
set_option linter.all false
set_option maxRecDepth 100000
set_option maxHeartbeats 4000000
namespace KX
open PySem PySem.Spec PyProof.Rows L2 PySem.SeqAt
/-- the value is a tuple of these -/
def KTup (h : Heap) (v : Value) (cs : List Kd) : Prop := ∃ as, Reads h v (.tuple (cs.map dat)) as
theorem reads_dat_keeps {h h' : Heap} (k : ∀ b o, h.get? b = some o → o.cls = .type "tuple" → h'.get? b = some o) {v : Value} {c : Kd} {as : List Addr} (r : Reads h v (dat c) as) : Reads h' v (dat c) as := by
  have iall : ∀ (ns : List Int) (vs : List Value) (as : List Addr), ReadsAll h vs (ns.map .int) as → ReadsAll h' vs (ns.map .int) as := by
    intro ns
    induction ns with
    | nil => intro vs as r; cases r; exact .nil
    | cons n ns ih =>
      intro vs as r
      cases r with
      | cons r1 r2 => cases r1; exact .cons (.int _ _) (ih _ _ r2)
  cases c with
  | inl i => cases r; exact .int _ _
  | inr ns =>
    cases r with
    | tuple h1 h2 h3 h4 => exact .tuple (k _ _ h1 h2) h2 h3 (iall _ _ _ h4)
theorem readsAll_dat_keeps {h h' : Heap} (k : ∀ b o, h.get? b = some o → o.cls = .type "tuple" → h'.get? b = some o) : ∀ {cs : List Kd} {vs : List Value} {as : List Addr}, ReadsAll h vs (cs.map dat) as → ReadsAll h' vs (cs.map dat) as
  | [], _, _, r => by cases r; exact .nil
  | c :: cs, _, _, r => by
    cases r with
    | cons r1 r2 => exact .cons (reads_dat_keeps k r1) (readsAll_dat_keeps k r2)
theorem KTup.keeps {h h' : Heap} {v : Value} {cs : List Kd} (x : KTup h v cs) (k : ∀ b o, h.get? b = some o → o.cls = .type "tuple" → h'.get? b = some o) : KTup h' v cs := by
  obtain ⟨as, r⟩ := x
  cases r with
  | tuple h1 h2 h3 h4 => exact ⟨_, .tuple (k _ _ h1 h2) h2 h3 (readsAll_dat_keeps k h4)⟩
theorem firsts_kd {h : Heap} {cs : Value → List Kd} : ∀ {vs : List Value}, (∀ v ∈ vs, KTup h v (cs v)) → (∀ v ∈ vs, ∃ i r, cs v = .inl i :: r) → ∃ fs : List Value, PySem.W.KatTups h vs fs ∧ fs.length = vs.length ∧ ∀ f ∈ fs, ∃ x t, f = Value.int x t
  | [], _, _ => ⟨[], PySem.W.KatTups.nil, rfl, fun _ hm => by simp at hm⟩
  | v :: vs, hp, hh => by
    obtain ⟨fs, h1, h2, h3⟩ := firsts_kd (vs := vs) (fun v' hm => hp v' (List.mem_cons_of_mem _ hm)) fun v' hm => hh v' (List.mem_cons_of_mem _ hm)
    obtain ⟨as, r⟩ := hp v List.mem_cons_self
    obtain ⟨i, q, e⟩ := hh v List.mem_cons_self
    rw [e] at r
    cases r with
    | @tuple a o us n xs _ k1 k2 k3 k4 =>
      cases hus : us.toList with
      | nil => rw [hus] at k4; cases k4
      | cons u us' =>
        rw [hus] at k4
        cases k4 with
        | cons k5 k6 =>
          cases k5 with
          | int i t =>
            refine ⟨.int i t :: fs, PySem.W.KatTups.cons k1 k2 k3 ?_ h1, by simp [h2], fun f hf => ?_⟩
            · have z := congrArg (fun l : List Value => l[0]?) hus
              simpa using z
            · rcases List.mem_cons.mp hf with rfl | hf
              · exact ⟨i, t, rfl⟩
              · exact h3 f hf
section
variable {prog : Program} {w : World} {A : Around} {E : Value → Shared → Prop} {s : Shared}
/-- what is asked of keys -/
structure Keys (h : Heap) (vs : List Value) (cs : Value → List Kd) : Prop where
  rd : ∀ v ∈ vs, KTup h v (cs v)
  hd : ∀ v ∈ vs, ∃ i r, cs v = .inl i :: r
  sh : ∀ v ∈ vs, ∀ u ∈ vs, Shp (cs v) (cs u) ∧ (cs v).length = (cs u).length
theorem Keys.keeps {h h' : Heap} {vs : List Value} {cs : Value → List Kd} (x : Keys h vs cs) (k : ∀ b o, h.get? b = some o → o.cls = .type "tuple" → h'.get? b = some o) : Keys h' vs cs := ⟨fun v hv => (x.rd v hv).keeps k, x.hd, x.sh⟩
theorem readsAll_len {h : Heap} : ∀ {cs : List Kd} {vs : List Value} {as : List Addr}, ReadsAll h vs (cs.map dat) as → vs.length = cs.length
  | [], _, _, r => by cases r; rfl
  | c :: cs, _, _, r => by
    cases r with
    | cons r1 r2 => rw [List.length_cons, readsAll_len r2]; rfl
theorem kd_lt {vs : List Value} {cs : Value → List Kd} (K : Keys s.heap vs cs) (hu : A.units + 10 < cLine) {v u : Value} (hv : v ∈ vs) (hu' : u ∈ vs) (Q : Bool → Shared → Prop) (E : Value → Shared → Prop) (h : Q (lexL (enc (cs v)) (enc (cs u))) s) :
    wpAny (model prog w) A (keyLt' (tuples' true) v u) Q E s := by
  obtain ⟨as, r1⟩ := K.rd v hv
  obtain ⟨bs, r2⟩ := K.rd u hu'
  obtain ⟨i, q, e⟩ := K.hd v hv
  obtain ⟨hs, hl⟩ := K.sh v hv u hu'
  generalize cs v = c at *
  generalize cs u = d at *
  cases r1 with
  | tuple k1 k2 k3 k4 =>
  cases r2 with
  | tuple l1 l2 l3 l4 =>
  refine PySem.W.kat_lt k1 k3 l1 l3 ?_
  have s1 := readsAll_len k4
  have s2 := readsAll_len l4
  rw [Array.length_toList] at s1 s2
  rw [s1, s2, hl, show decide (d.length < d.length) = false from decide_eq_false (Nat.lt_irrefl _)]
  exact lex_kd hu _ _ _ _ _ _ 0 k4 l4 hs (fun _ ns r z => by rw [e] at z; cases z) h
theorem kd_kind {vs : List Value} {cs : Value → List Kd} (K : Keys s.heap vs cs) (h0 : 0 < vs.length) (Q : SortKind → Shared → Prop) (E : Value → Shared → Prop) (h : Q (tuples' true) s) : wpAny (model prog w) A (keyKind' vs.toArray) Q E s := by
  obtain ⟨fs, h1, h2, h3⟩ := firsts_kd K.rd K.hd
  refine PySem.W.kat_kind (T := .type "int") h1 (by omega) (fun f hm => ?_) (by rfl) ?_
  · obtain ⟨x, t, rfl⟩ := h3 f hm
    exact PySem.W.Looks.now
  · have e : (Value.type "int" != Value.type "tuple") = true := by first | decide +kernel | rfl | decide
    rw [e]
    exact h
theorem kd_sortableO {a : Addr} {vs : List Value} {cs : Value → List Kd} (K : Keys s.heap vs cs) (h0 : 0 < vs.length) (hu : A.units + 10 < cLine) (ha : ∀ o, s.heap.get? a = some o → o.cls ≠ .type "tuple") :
    SrtO.SortableO prog w A s a vs fun v u => lexL (enc (cs v)) (enc (cs u)) := by
  intro h' keep
  have K' : Keys h' vs cs := K.keeps fun b o e c => keep b o (fun z => by subst z; exact ha o e c) e
  refine ⟨tuples' true, fun Q E hq => kd_kind (s := { s with heap := h' }) K' h0 Q E hq, fun p q hm hm' => ?_⟩
  exact kd_lt (s := { s with heap := h' }) K' hu hm hm' _ _ ⟨rfl, rfl⟩
theorem sorted_kd {l : Addr} {vs : List Value} {cs : Value → List Kd} {Q : Value → Shared → Prop} (hl : s.heap.IsList l vs.toArray) (hz : vs.length ≤ sizeLine) (K : Keys s.heap vs cs) (hu : A.units + 20 < cLine)
    (h : ∀ (h' : Heap) (d : Addr) (out : List Value), SrtO.Srtd (fun v u => lexL (enc (cs v)) (enc (cs u))) out → out.Perm vs → (∀ b o, s.heap.get? b = some o → h'.get? b = some o) → s.heap.objs.size ≤ d → (∃ n, h'.get? d = some (seqObj "list" out.toArray n)) → Q (.ref d) { s with heap := h' }) :
    wpAny (model prog w) A (call (.builtin "sorted") [.ref l]) Q E s := by
  refine SrtO.sorted_ord (swo_lexL fun v => enc (cs v)) hl hz (fun h2 h₁ a ha kk => ?_) fun out hs hb => ?_
  · refine kd_sortableO (s := { s with heap := h₁ }) (K.keeps fun b o e _ => (kk b o e).2) (by omega) (by show A.units + 1 + 1 + 10 < cLine; omega) fun o e => ?_
    have e' : some o = some (seqObj "list" vs.toArray 0) := e.symm.trans ha
    cases e'
    intro c
    exact absurd (Value.type.inj c) (by decide)
  · exact h _ _ out hs hb.perm (fun b o e => sortedAll_old e) (Nat.le_succ _) (sortedAll_at s.heap vs out.toArray)
end
/-- sorted(xs), xs a list of tuples of ints and of tuples of ints -/
def ltK (cs : V → List Kd) : V → V → Bool := fun x y => lexL (enc (cs x)) (enc (cs y))
def rSortedKd (K : PySem.W.Frag) : List V → Hp → VK → Prop := fun vs H Q => ∃ (a : Addr) (xs : List V) (cs : V → List Kd), vs = [V.ref a] ∧ SqL K H a xs ∧ (∀ x ∈ xs, (∃ t, x = V.ref t) ∧ Dp K H x (.tuple ((cs x).map dat)) ∧ ∃ i r, cs x = .inl i :: r) ∧
  (∀ x ∈ xs, ∀ y ∈ xs, Shp (cs x) (cs y) ∧ (cs x).length = (cs y).length) ∧
  ∀ ys p, ys.Pairwise (fun x y => ltK cs y x = false) → ys.Perm xs → H p = none → Q (.ref p) (upd H p (.lst ys))
theorem cr_sortedKd {X : Cx} (hu : X.A.units + 64 < cLine) : CallR X (.builtin "sorted") (rSortedKd X.K) := by
  intro pins s σ H vs us Q I r h
  obtain ⟨a, xs, cs, rfl, hs, hx, hsh, q⟩ := h
  obtain ⟨its, rv, hl, hz⟩ := I.list hs
  obtain ⟨u, rfl, ru⟩ := vals1 r
  obtain rfl : u = Value.ref a := ru
  obtain ⟨e1, e2⟩ := refs_back rv fun x m => (hx x m).1
  have hm : ∀ v ∈ its, backV v ∈ xs := fun v hv => by rw [e1]; exact List.mem_map.mpr ⟨v, hv, rfl⟩
  refine sorted_kd (cs := fun u => cs (backV u)) hl.isList (by rw [← rv.length]; exact hz) ⟨fun v hv => ?_, fun v hv => (hx _ (hm v hv)).2.2, fun v hv u hu => hsh _ (hm v hv) _ (hm u hu)⟩ (by omega) fun h' d out h1 h2 kp hd hn => ?_
  · obtain ⟨t, rfl⟩ := e2 v hv
    exact Dp.reads I _ _ _ (hx _ (hm _ hv)).2.1 rfl
  · have h3 : ∀ u ∈ out, ∃ a, u = Value.ref a := fun u hu => e2 u (h2.mem_iff.mp hu)
    obtain ⟨n, hn⟩ := hn
    have hp : (out.map backV).Perm xs := by rw [e1]; exact h2.map _
    refine ⟨.ref d, upd H d (.lst (out.map backV)), I.laid (t' := s.toks) kp hd ⟨?_, out, n, vals_back h3, hn⟩, rfl, q _ d ?_ hp (I.hok.fresh hd)⟩
    · rw [hp.length_eq]; exact hz
    · rw [List.pairwise_map]; exact h1
end KX
end

section
set_option Elab.async false
set_option linter.all false
set_option maxRecDepth 100000
set_option maxHeartbeats 4000000
namespace KX
open PySem PySem.Spec PyProof.Rows L2 PySem.SeqAt
theorem dat_inj {c d : Kd} (h : dat c = dat d) : c = d := by
  have ii : ∀ a b : List Int, a.map PyData.int = b.map PyData.int → a = b := by
    intro a
    induction a with
    | nil => intro b e; cases b with | nil => rfl | cons y b => cases e
    | cons x a ih =>
      intro b e
      cases b with
      | nil => cases e
      | cons y b =>
        rw [List.map_cons, List.map_cons] at e
        injection e with e1 e2
        injection e1 with e1
        rw [e1, ih b e2]
  cases c with
  | inl i => cases d with
    | inl j => injection h with h; rw [h]
    | inr m => cases h
  | inr n => cases d with
    | inl j => cases h
    | inr m => injection h with h; rw [ii _ _ h]
theorem dats_inj : ∀ {c d : List Kd}, c.map dat = d.map dat → c = d
  | [], [], _ => rfl
  | [], _ :: _, h => by cases h
  | _ :: _, [], h => by cases h
  | x :: c, y :: d, h => by
    rw [List.map_cons, List.map_cons] at h
    injection h with h1 h2
    rw [dat_inj h1, dats_inj h2]
theorem canLay_dats : ∀ c : List Kd, PyData.canLayAll0 (c.map dat) = true
  | [] => by simp [PyData.canLayAll0]
  | x :: c => by simp [PyData.canLayAll0, canLay_dat, canLay_dats c]
theorem KTup.uniq {h : Heap} {v : Value} {c d : List Kd} (x : KTup h v c) (y : KTup h v d) : c = d := by
  obtain ⟨as, r⟩ := x
  obtain ⟨bs, q⟩ := y
  have := Reads.unique _ _ _ _ _ (by simp only [PyData.canLay0]; exact canLay_dats c) r q
  injection this with this
  exact dats_inj this
open Classical in
noncomputable def csOf (h : Heap) (v : Value) : List Kd := if e : ∃ c, KTup h v c then e.choose else []
theorem csOf_eq {h : Heap} {v : Value} {c : List Kd} (x : KTup h v c) : csOf h v = c := by
  have e : ∃ c, KTup h v c := ⟨c, x⟩
  unfold csOf
  rw [dif_pos e]
  exact e.choose_spec.uniq x
/-- what the emptied list is meanwhile -/
def EmpO (a : Addr) (e1 : Nat) : HO := .ext fun h => h.get? a = some (seqObj "list" #[] e1)
theorem zip_ix {α β : Type} : ∀ {l : List α} {m : List β} {p : α × β}, p ∈ l.zip m → ∃ j : Nat, l[j]? = some p.1 ∧ m[j]? = some p.2
  | [], _, p, h => by simp at h
  | _ :: _, [], p, h => by simp at h
  | x :: l, y :: m, p, h => by
    rcases List.mem_cons.mp h with e | h
    · rw [e]; exact ⟨0, rfl, rfl⟩
    · obtain ⟨j, h1, h2⟩ := zip_ix h
      exact ⟨j + 1, by simpa using h1, by simpa using h2⟩
theorem vals_ix : ∀ {xs : List V} {us : List Value} {j : Nat} {u : Value}, Vals xs us → us[j]? = some u → ∃ x, xs[j]? = some x ∧ RelV x u
  | _, _, _, _, .nil, h => by simp at h
  | x :: xs, u :: us, 0, w, .cons r t, h => by
    have e : u = w := Option.some.inj h
    exact ⟨x, rfl, e ▸ r⟩
  | x :: xs, u :: us, j + 1, w, .cons r t, h => by
    obtain ⟨y, h1, h2⟩ := vals_ix t (show us[j]? = some w by simpa using h)
    exact ⟨y, by simpa using h1, h2⟩
section
variable {X : Cx} {pins : List (Addr × Obj)} {σ : L2.St} {H : Hp} {s : Shared} {f : Addr} {of : Obj} {xs : List V} {kt : V → List V} {cs : V → List Kd}
/-- sorted(l, key=f): f makes a new tuple of each item -/
theorem sortKey_run (I : Inv X pins σ H s) {l : Addr} {Q : VK} (hs : SqL X.K H l xs) (hz : xs.length ≤ 1000) (hxr : ∀ x ∈ xs, ∃ t, x = V.ref t) (hf : s.heap.get? f = some of) (hfn : H f = none) (hu : X.A.units + 64 < cLine)
    (turn : ∀ (s' : Shared) (H' : Hp), Inv X pins σ H' s' → s'.heap.get? f = some of → H' f = none → (∀ b o, H b = some o → H' b = some o) → ∀ x ∈ xs, ∀ u, RelV x u →
      wpAny (model X.prog X.w) X.A.in1.in1 (call (.ref f) [u]) (fun v s'' => ∃ t, v = .ref t ∧ Inv X pins σ (upd H' t (.tup (kt x))) s'' ∧ H' t = none ∧ s''.heap.get? f = some of ∧ t ≠ f) (fun _ _ => False) s')
    (hd : ∀ x ∈ xs, ∀ (H' : Hp) (t : Addr), (∀ b o, H b = some o → H' b = some o) → H' t = some (.tup (kt x)) → Dp X.K H' (.ref t) (.tuple ((cs x).map dat)))
    (hh : ∀ x ∈ xs, ∃ i r, cs x = .inl i :: r) (hsh : ∀ x ∈ xs, ∀ y ∈ xs, Shp (cs x) (cs y) ∧ (cs x).length = (cs y).length)
    (q : ∀ (H' : Hp) (ys : List V) (p : Addr), (∀ b o, H b = some o → H' b = some o) → H p = none → H' p = some (.lst ys) → ys.Pairwise (fun x y => ltK cs y x = false) → ys.Perm xs → Q (.ref p) H') :
    wpAny (model X.prog X.w) X.A (call (.builtin "sorted") [.ref l] [(Str.ofString "key", .ref f)]) (EP X pins σ Q) X.xe s := by
  obtain ⟨vs, rv, hl, hzz⟩ := I.list hs
  have hlv := rv.length
  obtain ⟨e1, e2⟩ := refs_back rv hxr
  have hZ : vs.length ≤ sizeLine := by rw [← hlv]; exact hzz
  have hZ2 := hZ
  rw [sizeLine_eq] at hZ2
  refine call_function_entry_kw kind_sorted plain_sorted entry_sorted (ksk_s1 _ _) ?_
  unfold Builtin.«sorted»
  refine wpAny_bind (m := checkCount "sorted" 1 1 _) (wpAny_pure ?_)
  refine wpAny_bind (collect_list hl.isList ?_ hZ)
  refine wpAny_bind (wpAny_newList ?_ hZ)
  have hsz : ((s.heap.push (seqObj "list" #[] 0)).update s.heap.objs.size (Obj.mapSeq (· ++ vs.toArray))).objs.size = s.heap.objs.size + 1 := by
    rw [Heap.size_update, size_push']
  have hoL : (((s.heap.push (seqObj "list" #[] 0)).update s.heap.objs.size (Obj.mapSeq (· ++ vs.toArray))).push (seqObj "list" vs.toArray 0)).get? (s.heap.objs.size + 1) = some (seqObj "list" vs.toArray 0) := by
    rw [← hsz]; exact Heap.get?_push_size _ rfl
  have keep : ∀ b o, s.heap.get? b = some o → b ≠ s.heap.objs.size + 1 ∧ (((s.heap.push (seqObj "list" #[] 0)).update s.heap.objs.size (Obj.mapSeq (· ++ vs.toArray))).push (seqObj "list" vs.toArray 0)).get? b = some o := fun b o q => by
    have hlt : b < s.heap.objs.size := Heap.lt_size q
    refine ⟨Nat.ne_of_lt (Nat.lt_succ_of_lt hlt), Heap.get?_push_of_some _ ?_⟩
    rw [Heap.get?_update_ne _ _ _ _ (Nat.ne_of_lt hlt)]
    exact Heap.get?_push_of_some _ q
  show wpAny _ _ _ _ _ { s with heap := ((s.heap.push (seqObj "list" #[] 0)).update s.heap.objs.size (Obj.mapSeq (· ++ vs.toArray))).push (seqObj "list" vs.toArray 0) }
  rw [hsz]
  obtain ⟨a, ha⟩ : ∃ a, a = s.heap.objs.size + 1 := ⟨_, rfl⟩
  have hsa : s.heap.objs.size ≤ a := by omega
  have haH : H a = none := I.hok.fresh hsa
  rw [← ha] at hoL keep ⊢
  generalize hh1 : ((s.heap.push (seqObj "list" #[] 0)).update s.heap.objs.size (Obj.mapSeq (· ++ vs.toArray))).push (seqObj "list" vs.toArray 0) = h1 at hoL keep ⊢
  refine wpAny_bind (wpAny_holding (wpAny_call_entry_kw slot_list_sort ⟨_, hoL, rfl⟩ entry_list_sort ?_ (ksk_l1 _ _)))
  rw [ksk_t1]
  unfold ksk_tree
  refine wpAny_bind (listItems_at hoL rfl ?_)
  refine wpAny_bind (listUpdate_at hoL rfl ?_ (by rw [List.size_toArray]; exact hZ) (Nat.zero_le _))
  obtain ⟨ep, ho1⟩ : ∃ ep, (h1.update a (Obj.mapSeq fun _ => #[])).get? a = some (seqObj "list" #[] ep) := ⟨_, get?_update_seq hoL (fun _ => #[])⟩
  refine wpAny_bind (seqEpoch_at ho1 rfl ?_)
  refine wpAny_bind (wpAny_newTuple ?_ (by show vs.length ≤ _; exact hZ))
  refine wpAny_bind (wpAny_newList ?_ (Nat.zero_le _))
  refine wpAny_holding ?_
  have ho2 : ((h1.update a (Obj.mapSeq fun _ => #[])).push (seqObj "tuple" vs.toArray 0)).get? a = some (seqObj "list" #[] ep) := Heap.get?_push_of_some _ ho1
  have keep2 : ∀ b o, s.heap.get? b = some o → ((h1.update a (Obj.mapSeq fun _ => #[])).push (seqObj "tuple" vs.toArray 0)).get? b = some o := fun b o e =>
    Heap.get?_push_of_some _ ((Heap.get?_update_ne _ _ _ _ (keep b o e).1).trans (keep b o e).2)
  generalize hh2 : (h1.update a (Obj.mapSeq fun _ => #[])).push (seqObj "tuple" vs.toArray 0) = h2 at ho2 keep2 ⊢
  have I2 : Inv X pins σ (upd H a (EmpO a ep)) { s with heap := h2 } := I.laid (t' := s.toks) keep2 hsa ⟨ho2, ⟨_, ho2⟩, fun g1 g2 x st => st _ x⟩
  have I3 : Inv X pins σ (upd (upd H a (EmpO a ep)) h2.objs.size (.lst [])) { s with heap := h2.push (seqObj "list" #[] 0) } := I2.lnew (its := []) (t' := s.toks) .nil (Nat.zero_le _)
  obtain ⟨kS, hkS⟩ : ∃ kS, kS = h2.objs.size := ⟨_, rfl⟩
  have ahk : a ≠ kS := by rw [hkS]; exact Nat.ne_of_lt (Heap.lt_size ho2)
  have hfa : f ≠ a := (keep f _ hf).1
  have hfk : f ≠ kS := by rw [hkS]; exact Nat.ne_of_lt (Heap.lt_size (keep2 f _ hf))
  have nkS : upd H a (EmpO a ep) kS = none := by rw [hkS]; exact I2.hok.fresh (Nat.le_refl _)
  have hf3 : (h2.push (seqObj "list" #[] 0)).get? f = some of := Heap.get?_push_of_some _ (keep2 f _ hf)
  rw [← hkS] at I3
  show wpAny _ _ (ksk_rest a (.ref f) false vs.toArray ep (.ref h2.objs.size)) _ _ { s with heap := h2.push (seqObj "list" #[] 0) }
  rw [← hkS]
  unfold ksk_rest
  refine wpAny_bind (wpAny_rule ?_)
  first
    | rw [List.forIn_toArray]
    | (rw [← Array.forIn_toList]; simp only [List.toList_toArray])
    | rw [← Array.forIn_toList]
  refine wpAny_bind (ksk_fold (fun i s' => ∃ (H' : Hp) (kvs : List V), Inv X pins σ H' s' ∧ (∀ b o, H b = some o → H' b = some o) ∧ H' a = some (EmpO a ep) ∧ H' kS = some (.lst kvs) ∧ kvs.length = i ∧
      (∀ (j : Nat) (v : V), kvs[j]? = some v → ∃ t x, v = .ref t ∧ xs[j]? = some x ∧ H' t = some (.tup (kt x))) ∧ s'.heap.get? f = some of ∧ H' f = none) vs 0 _
    ⟨_, [], I3, fun b o e => ?_, ?_, upd_same, rfl, fun j v e => by simp at e, hf3, ?_⟩ (fun j u s' hx hI => ?_) (fun s' hI => ?_))
  · have hba : b ≠ a := fun z => by rw [z, haH] at e; cases e
    have e2 : upd H a (EmpO a ep) b = some o := by rw [upd_ne hba]; exact e
    rw [upd_ne (fun z => by rw [z, nkS] at e2; cases e2)]; exact e2
  · rw [upd_ne ahk, upd_same]
  · rw [upd_ne hfk, upd_ne hfa]; exact hfn
  · -- a key
    obtain ⟨H', kvs, I', k', hHa, hHk, hlen, hkv, hf', hfn'⟩ := hI
    rw [Nat.zero_add] at hlen
    obtain ⟨x, hx1, hx2⟩ := vals_ix rv hx
    have hxm := List.mem_of_getElem? hx1
    refine wpAny_bind (wpAny_attempt (wpAny_mono (turn s' H' I' hf' hfn' k' x hxm u hx2) (fun v s'' hv => ?_) fun _ _ hF => hF.elim))
    obtain ⟨t, rfl, I'', ht, hf'', htf⟩ := hv
    dsimp only
    have htk : kS ≠ t := fun z => by rw [← z, hHk] at ht; cases ht
    have hta : a ≠ t := fun z => by rw [← z, hHa] at ht; cases ht
    have hk2 : upd H' t (.tup (kt x)) kS = some (.lst kvs) := by rw [upd_ne htk]; exact hHk
    obtain ⟨zk, itk, nk, rk, lk, ek⟩ := I''.lstM hk2
    have hkl : kvs.length ≤ 1000 := by
      have := (List.getElem?_eq_some_iff.mp hx1).1
      omega
    refine wpAny_bind (listUpdate_at ek rfl ?_ (by rw [List.size_toArray, ← lk]; exact zk) (by rw [Array.size_push, List.size_toArray, ← lk, sizeLine_eq]; omega))
    have I4 : Inv X pins σ (upd (upd H' t (.tup (kt x))) kS (.lst (kvs ++ [.ref t]))) { s'' with heap := s''.heap.update kS (Obj.mapSeq (·.push (Value.ref t))) } :=
      I''.lset (t' := s''.toks) (its' := itk ++ [.ref t]) hk2 ek (by simp) (rk.append (.cons (show RelV (.ref t) (.ref t) from rfl) .nil)) (by rw [List.length_append, sizeLine_eq]; show kvs.length + 1 ≤ _; omega)
    refine wpAny_pure ⟨rfl, _, kvs ++ [.ref t], I4, fun b o e => ?_, ?_, upd_same, by rw [List.length_append, hlen]; show j + 1 = 0 + j + 1; omega, fun j' v e => ?_, ?_, ?_⟩
    · have e2 := k' b o e
      have hbk : b ≠ kS := fun z => by
        rw [z] at e
        have : upd H a (EmpO a ep) kS = H kS := upd_ne (Ne.symm ahk)
        rw [← this, nkS] at e; cases e
      rw [upd_ne hbk, upd_ne (fun z => by rw [z, ht] at e2; cases e2)]; exact e2
    · rw [upd_ne ahk, upd_ne hta]; exact hHa
    · by_cases hlt : j' < kvs.length
      · rw [List.getElem?_append_left hlt] at e
        obtain ⟨t', x', ev, ex, et⟩ := hkv j' v e
        refine ⟨t', x', ev, ex, ?_⟩
        rw [upd_ne (fun z => by rw [z, hHk] at et; cases et), upd_ne (fun z => by rw [z, ht] at et; cases et)]; exact et
      · rw [List.getElem?_append_right (by omega)] at e
        have hz2 : j' - kvs.length = 0 := by
          have := (List.getElem?_eq_some_iff.mp e).1
          simp at this; omega
        rw [hz2] at e
        have ee := Option.some.inj e
        have hj' : j' = j := by omega
        subst hj'
        exact ⟨t, x, ee.symm, hx1, by rw [upd_ne (Ne.symm htk), upd_same]⟩
    · rw [Heap.get?_update_ne _ _ _ _ hfk]; exact hf''
    · rw [upd_ne hfk, upd_ne (Ne.symm htf)]; exact hfn'
  · -- the sort
    obtain ⟨H', kvs, I', k', hHa, hHk, hlen, hkv, hf', hfn'⟩ := hI
    rw [Nat.zero_add] at hlen
    obtain ⟨zk, itk, nk, rk, lk, ek⟩ := I'.lstM hHk
    refine wpAny_bind (listItems_at ek rfl ?_)
    have hoa : s'.heap.get? a = some (seqObj "list" #[] ep) := (I'.hok a _ hHa).1
    have hkl : itk.length = vs.length := by rw [← lk, hlen]
    have keyOf : ∀ (j : Nat) (u : Value), itk[j]? = some u → ∃ x, xs[j]? = some x ∧ KTup s'.heap u (cs x) := fun j u hju => by
      obtain ⟨v, hv1, hv2⟩ := vals_ix rk hju
      obtain ⟨t, x, rfl, hx1, ht⟩ := hkv j v hv1
      exact ⟨x, hx1, Dp.reads I' _ _ _ (hd x (List.mem_of_getElem? hx1) H' t k' ht) hv2⟩
    have KS : Keys s'.heap itk (csOf s'.heap) := by
      refine ⟨fun u hu1 => ?_, fun u hu1 => ?_, fun u hu1 v hv1 => ?_⟩
      · obtain ⟨j, hj⟩ := List.getElem?_of_mem hu1
        obtain ⟨x, hx1, kx⟩ := keyOf j u hj
        rw [csOf_eq kx]; exact kx
      · obtain ⟨j, hj⟩ := List.getElem?_of_mem hu1
        obtain ⟨x, hx1, kx⟩ := keyOf j u hj
        rw [csOf_eq kx]; exact hh x (List.mem_of_getElem? hx1)
      · obtain ⟨j, hj⟩ := List.getElem?_of_mem hu1
        obtain ⟨x, hx1, kx⟩ := keyOf j u hj
        obtain ⟨i, hi⟩ := List.getElem?_of_mem hv1
        obtain ⟨y, hy1, ky⟩ := keyOf i v hi
        rw [csOf_eq kx, csOf_eq ky]; exact hsh x (List.mem_of_getElem? hx1) y (List.mem_of_getElem? hy1)
    have fin : ∀ st : SortSt, SrtO.Srtd (SrtO.lt2 fun v u => lexL (enc (csOf s'.heap v)) (enc (csOf s'.heap u))) (arrOf st).toList → (arrOf st).toList.Perm (itk.zip vs) → failedOf st = none →
        wpAny (model X.prog X.w) X.A.in1.in1 (ksk_tail a false ep (.ref kS) st) (fun fin s'' => ∃ v, fin = .done (.ret v) ∧ EP X pins σ Q (.ref a) s'') X.xe s' := by
      intro st hsr hpm hfl
      unfold ksk_tail
      dsimp only
      have hsz2 : (arrOf st).size = vs.length := by
        have := hpm.length_eq
        rw [Array.length_toList, List.length_zip, hkl, Nat.min_self] at this; exact this
      refine wpAny_bind (listUpdate_at ek rfl ?_ (by rw [List.size_toArray, ← lk]; exact zk) (Nat.zero_le _))
      refine wpAny_bind (wpAny_letGo ?_)
      have hoa2 : (s'.heap.update kS (Obj.mapSeq fun _ => (#[] : Array Value))).get? a = some (seqObj "list" #[] ep) := (Heap.get?_update_ne _ _ _ _ ahk).trans hoa
      refine wpAny_bind (seqEpoch_at hoa2 rfl ?_)
      refine wpAny_bind (listUpdate_at hoa2 rfl ?_ (Nat.zero_le _) (by simp only [Bool.false_eq_true, if_false, Array.size_map]; rw [hsz2, sizeLine_eq]; omega))
      rw [hfl]
      simp only [bne_self_eq_false, Bool.false_eq_true, if_false]
      refine wpAny_pure ⟨_, rfl, ?_⟩
      have I5 : Inv X pins σ (upd H' kS (.lst [])) { s' with heap := s'.heap.update kS (Obj.mapSeq fun _ => (#[] : Array Value)) } := I'.lset (t' := s'.toks) (its' := []) hHk ek rfl .nil (Nat.zero_le _)
      -- the items behind the sort
      have hlt : ∀ p ∈ itk.zip vs, csOf s'.heap p.1 = cs (backV p.2) ∧ backV p.2 ∈ xs ∧ ∃ t, p.2 = Value.ref t := fun p hp => by
        obtain ⟨j, h1, h2⟩ := zip_ix hp
        obtain ⟨x, hx1, kx⟩ := keyOf j p.1 h1
        have hbx : xs[j]? = some (backV p.2) := by rw [e1, List.getElem?_map, h2]; rfl
        rw [hx1] at hbx
        have := Option.some.inj hbx
        rw [← this]
        exact ⟨csOf_eq kx, List.mem_of_getElem? hx1, e2 p.2 (List.mem_of_getElem? h2)⟩
      obtain ⟨out, hout⟩ : ∃ out : List Value, out = (arrOf st).toList.map (·.2) := ⟨_, rfl⟩
      have hop : out.Perm vs := by
        rw [hout]
        have := hpm.map (·.2)
        rw [show (itk.zip vs).map (fun p : Value × Value => p.2) = vs from List.map_snd_zip (by omega)] at this
        exact this
      have hor : ∀ u ∈ out, ∃ a, u = Value.ref a := fun u hu1 => e2 u (hop.mem_iff.mp hu1)
      have hperm : (out.map backV).Perm xs := by rw [e1]; exact hop.map _
      have hpw : (out.map backV).Pairwise (fun x y => ltK cs y x = false) := by
        rw [hout, List.map_map, List.pairwise_map]
        refine List.Pairwise.imp_of_mem (fun {p r} hp hr hlt2 => ?_) hsr
        have h1 := (hlt p (hpm.mem_iff.mp hp)).1
        have h2 := (hlt r (hpm.mem_iff.mp hr)).1
        have h3 : lexL (enc (csOf s'.heap r.1)) (enc (csOf s'.heap p.1)) = false := hlt2
        rw [h1, h2] at h3
        exact h3
      have hfa2 : upd H' kS (.lst []) a = some (EmpO a ep) := by rw [upd_ne ahk]; exact hHa
      obtain ⟨c2, hc2⟩ : ∃ c2, ((s'.heap.update kS (Obj.mapSeq fun _ => (#[] : Array Value))).update a (Obj.mapSeq fun _ => (arrOf st).map (·.2))).get? a = some (seqObj "list" ((arrOf st).map (·.2)) c2) :=
        ⟨_, get?_update_seq hoa2 fun _ => (arrOf st).map (·.2)⟩
      have eout : (arrOf st).map (·.2) = out.toArray := by rw [hout, ← Array.toList_map, Array.toArray_toList]
      refine ⟨.ref a, upd (upd H' kS (.lst [])) a (.lst (out.map backV)), I5.write (x := a) (e := a) (t' := s'.toks) (by rw [hfa2]; exact trivial) (.inl rfl) (fun b u hb e => (Heap.get?_update_other _ _ (Ne.symm hb)).trans e) ⟨_, hc2⟩ ⟨?_, out, c2, vals_back hor, ?_⟩, rfl, q _ _ a (fun b o e => ?_) haH upd_same hpw hperm⟩
      · rw [hperm.length_eq]; exact hzz
      · rw [← eout]; exact hc2
      · have e2 := k' b o e
        have hbk : b ≠ kS := fun z => by
          rw [z] at e
          have : upd H a (EmpO a ep) kS = H kS := upd_ne (Ne.symm ahk)
          rw [← this, nkS] at e; cases e
        rw [upd_ne (fun z => by rw [z, haH] at e; cases e), upd_ne hbk]; exact e2
    show wpAny _ _ (ksk_end a false vs.toArray ep (.ref kS) itk.toArray) _ _ s'
    unfold ksk_end
    dsimp only
    simp only [Bool.false_eq_true, if_false]
    have hzip : (itk.toArray.zip vs.toArray).toList = itk.zip vs := by simp
    by_cases h2 : vs.toArray.size < 2
    · rw [if_pos h2, if_pos h2]
      refine wpAny_bind (wpAny_pure ?_)
      rw [StateT.run_pure]
      refine wpAny_bind (wpAny_pure ?_)
      dsimp only
      refine wpAny_mono (fin (SortSt.mk' general' (itk.toArray.zip vs.toArray) #[] 7 none) ?_ ?_ rfl) (fun fn s2 hv => ?_) fun _ _ e => e
      · show SrtO.Srtd _ (itk.toArray.zip vs.toArray).toList
        rw [hzip]
        rw [List.size_toArray] at h2
        match itk, vs, hkl, h2 with
        | [], [], _, _ => exact List.Pairwise.nil
        | [x], [y], _, _ => exact List.pairwise_singleton _ _
        | _ :: _ :: _, _ :: _ :: _, _, h => exact absurd h (by simp)
      · show (itk.toArray.zip vs.toArray).toList.Perm _
        rw [hzip]
      · obtain ⟨v, rfl, hq⟩ := hv
        exact ⟨_, rfl, wpAny_pure ⟨_, rfl, hq⟩⟩
    · rw [if_neg h2, if_neg h2]
      rw [List.size_toArray] at h2
      refine wpAny_bind (kd_kind KS (by omega) _ _ ?_)
      have hall : SrtO.AllL (fun p : Keyed => p.1 ∈ itk) (itk.toArray.zip vs.toArray).toList := fun p hm => by
        rw [hzip] at hm
        obtain ⟨j, h1, _⟩ := zip_ix hm
        exact List.mem_of_getElem? h1
      refine wpAny_bind (wpAny_mono (SrtO.wpS_sortO (st0 := SortSt.mk' (tuples' true) (itk.toArray.zip vs.toArray) #[] 7 none) (lt := SrtO.lt2 fun v u => lexL (enc (csOf s'.heap v)) (enc (csOf s'.heap u)))
        (Q := fun _ st' => SrtO.Srtd (SrtO.lt2 fun v u => lexL (enc (csOf s'.heap v)) (enc (csOf s'.heap u))) (arrOf st').toList ∧ (arrOf st').toList.Perm (itk.zip vs) ∧ failedOf st' = none)
        (SrtO.swo2 (swo_lexL fun v => enc (csOf s'.heap v))) (fun p q hp hq => kd_lt KS (by show X.A.units + 1 + 1 + 10 < cLine; omega) hp hq _ _ ⟨rfl, rfl⟩) rfl hall rfl rfl fun st' a1 a2 a3 => ⟨a1, ?_, a3⟩) ?_ fun _ _ e => e)
      · have := a2.perm
        rw [show (arrOf (SortSt.mk' (tuples' true) (itk.toArray.zip vs.toArray) #[] 7 none)).toList = itk.zip vs from hzip] at this
        exact this
      · rintro ⟨⟨⟩, st'⟩ s2 ⟨rfl, hp1, hp2, hp3⟩
        dsimp only
        refine wpAny_mono (fin st' hp1 hp2 hp3) (fun fn s2 hv => ?_) fun _ _ e => e
        obtain ⟨v, rfl, hq⟩ := hv
        exact ⟨_, rfl, wpAny_pure ⟨_, rfl, hq⟩⟩
end
end KX
end

section
set_option Elab.async false
set_option linter.all false
set_option maxRecDepth 100000
set_option maxHeartbeats 4000000
namespace KX
open PySem PySem.Spec PyProof.Rows L2 PySem.SeqAt LamX
/-- a lambda with parameters, called -/
theorem run_lam {CX : CXT} {P : Program} {w : World} {K : PySem.W.Frag} {mg : Str → Option Value} {base : Heap} {k : Nat} {f c' : Addr} {qual : Str} {params : Arguments} {body : Expr} {scope : Scope} {pm ctv : Value} {N ps : List Str}
    {A : Around} {outer : List Env} {s : Shared} {H : Hp} {us : List Value} {vs : List V} {Q : VK} {E : XK} {tb : TE}
    (of1 : s.heap.get? f = some (PySem.W.kla_obj "<lambda>" qual params body scope [] pm c' ctv)) (hc : H c' = some (CodeO c' qual)) (S : FnScope N ps scope)
    (hb : bindArgs (PySem.W.kla_fn "<lambda>" qual params body scope [] pm (.ref c') ctv) ⟨us, []⟩ = pure (ps.zip us))
    (hr : Room (k + 1) A) (e0 : Env0 P w K mg base A outer s H) (r : Vals vs us) (hl : vs.length = ps.length)
    (hbody : Room k (A.deeper (envOfC qual scope s.heap.objs.size f (.ref c'))) → PE (cxOf CX P w K mg base N qual scope f (.ref c') A outer s H E) body tb) (ht : tb (L2.start N vs) H Q) :
    codeAny (model P w) A (.call (.ref f) ⟨us, []⟩) (CR CX outer P w H s Q E) s := by
  have lim : s.heap.NoLimit := e0.mod.nolimit.keeps fun b o e => (e0.bs b o e).1
  have hkind : ∀ y ∈ ps.zip us, scope.names.lookup y.1 = some .local ∨ (scope.names.lookup y.1 = some .cell ∧ ((cellsFrom (s.heap.objs.size + 1) scope.names []).lookup y.1).isSome = true) := fun ⟨n, v⟩ hy => by
    rcases S.par n (List.of_mem_zip hy).1 with q | q
    · exact .inl q
    · exact .inr ⟨q, PySem.W.cellsFrom_some _ _ _ (.inl q)⟩
  obtain ⟨⟨oc, vs0, t, hoc, hdc, hvc⟩, _, _⟩ := e0.hok c' _ hc
  refine PySem.W.kla_callFunE hr.depth of1 rfl S.co S.gen rfl ⟨c', oc, vs0, t, rfl, hoc, hdc, hvc⟩ ?_
  rw [hb]
  refine wpAny_pure (wpAny_newFunctionEnv_cells S.kind hkind fun env he s1 x => ?_)
  subst he
  refine ⟨lim.keeps x.toInCall.keep, PySem.W.kla_codeExpr ?_⟩
  have I : Inv (cxOf CX P w K mg base N qual scope f (.ref c') A outer s H E) [] (L2.start N vs) H s1 := inv_start S hr.hd e0 hl r x
  refine wpAny_mono ((hbody (hr.deeper _)).run [] s1 (L2.start N vs) H Q I ht) (fun v s' hs => ?_) fun e s' hs => hs
  obtain ⟨w', H', J, rv, q⟩ := hs
  exact ⟨w', H', J.os, J.bare, J.base, J.hok, rv, q⟩
def tSortLam (K : PySem.W.Frag) (T : List (Addr × Str)) (te : TE) (N : List Str) (tb : TE) : TE := fun σ H Q => te σ H fun x H1 => ∃ (a : Addr) (xs : List V) (kt : V → List V) (cs : V → List Kd), x = .ref a ∧ Tabs T H1 ∧
  ∀ H2, ExtN H1 H2 → Tabs T H2 → SqL K H2 a xs ∧ xs.length ≤ 1000 ∧ (∀ x ∈ xs, ∃ t, x = V.ref t) ∧
    (∀ x ∈ xs, ∀ H', (∀ b o, H2 b = some o → H' b = some o) → tb (L2.start N [x]) H' fun v H'' => ∃ t, v = .ref t ∧ H' t = none ∧ H'' = upd H' t (.tup (kt x))) ∧
    (∀ x ∈ xs, ∀ (H' : Hp) (t : Addr), (∀ b o, H2 b = some o → H' b = some o) → H' t = some (.tup (kt x)) → Dp K H' (.ref t) (.tuple ((cs x).map dat))) ∧
    (∀ x ∈ xs, ∃ i r, cs x = .inl i :: r) ∧ (∀ x ∈ xs, ∀ y ∈ xs, Shp (cs x) (cs y) ∧ (cs x).length = (cs y).length) ∧
    ∀ (H' : Hp) (ys : List V) (p : Addr), (∀ b o, H2 b = some o → H' b = some o) → H2 p = none → H' p = some (.lst ys) → ys.Pairwise (fun x y => ltK cs y x = false) → ys.Perm xs → Q (.ref p) H'
theorem pe_sortLam {X : Cx} {T : List (Addr × Str)} {c P : Addr} {params : Arguments} {body e : Expr} {scope : Scope} {te tb : TE} {N : List Str} {a : Str} {k : Nat} {p lpos kpos pos : Pos}
    (hg : Gl X "sorted") (hm : X.mg "sorted" = none) (he : PE X e te) (TB : TabB X.base X.mg c P) (hcode : X.env.code = .ref c) (hmT : (P, X.env.qual ++ "<lambda>") ∈ T) (huT : ∀ p ∈ T, p.1 = P → p.2 = X.env.qual ++ "<lambda>")
    (hr : Room (k + 3) X.A) (S : FnScope N [a] scope) (hcl : cloFrom X.env.cells scope.names [] = []) (hdef : defaultsOf params X.env = ([], []))
    (hbind : ∀ (q : Str) (pm cv ctv u : Value), bindArgs (PySem.W.kla_fn "<lambda>" q params body scope [] pm cv ctv) ⟨[u], []⟩ = pure [(a, u)])
    (hbody : ∀ (A : Around) (outer : List Env) (s : Shared) (H : Hp) (f c' : Addr), Room k (A.deeper (envOfC (X.env.qual ++ "<lambda>") scope s.heap.objs.size f (.ref c'))) → PE (cxOf C8.CX0 X.prog X.w X.K X.mg X.base N (X.env.qual ++ "<lambda>") scope f (.ref c') A outer s H C8.E0) body tb)
    (hee : backTo pos (starEach (e :: []) X.env) = (false, eval e X.env) :: backTo pos (starEach [] X.env) := by rfl) (hpl : (backTo pos (starEach (e :: []) X.env)).any (·.1) = false := by rfl) :
    PE X (.Call (.Name "sorted" p) [e] [⟨some "key", .Lambda params body scope lpos, kpos⟩] pos) (tSortLam X.K T te N tb) := by
  refine ⟨fun pins s σ H Q I h => ?_⟩
  have hv : bootBuiltins (Str.ofString "sorted") = some (.builtin "sorted") := by decide +kernel
  refine wpAny_Call_Name_kw (ld_blt I hg hm hv ?_ (by decide) (by decide))
  refine PyProof.Rows.callWith_kw ?_ hee hpl (by rfl) (by rfl)
  rw [hee]
  refine Calls.spliced_cons (thn (he.run pins s σ H _ I h) fun u s1 ⟨x, H1, I1, r1, a0, xs, kt, cs, ex, hT, q1⟩ => Calls.spliced_nil ?_)
  subst ex
  obtain rfl : u = Value.ref a0 := r1
  show wpAny _ _ (evalAll ((do let v ← eval (.Lambda params body scope lpos) X.env; standAt pos; pure v) :: [])) _ _ s1
  refine wpAny_evalAll_cons (wpAny_bind (lam_make2 I1 TB hcode hmT huT hT hdef (fun y hy e => absurd e (S.nofree y hy)) fun f c' pm' ctv H2 s' I2 eN T2 hf hfn hfr hco => wpAny_bind (wpAny_standAt (wpAny_pure (wpAny_evalAll_nil ?_)))))
  show wpAny _ _ (call (.builtin "sorted") [.ref a0] [(Str.ofString "key", .ref f)]) _ _ _
  rw [hcl] at hf
  obtain ⟨hs, hz, hxr, htb, hd, hh, hsh, q⟩ := q1 H2 eN T2
  have hun := hr.un
  refine sortKey_run I2 hs hz hxr hf hfn (by omega) (fun s3 H3 I3 hf3 hfn3 k3 x hx u rx => ?_) hd hh hsh q
  refine wpAny_call (codeAny_mono (run_lam (CX := C8.CX0) (E := C8.E0) (N := N) (ps := [a]) (us := [u]) (vs := [x]) hf3 (k3 _ _ hco) S (hbind _ _ _ _ _) hr.in1.in1 I3.env0.in1.in1 (.cons rx .nil) rfl (fun hr2 => hbody _ _ _ _ _ _ hr2) (htb x hx H3 k3)) fun r s4 hq => ?_)
  cases r with
  | error e => exact (show False from hq).elim
  | ok fl =>
    cases fl with
    | next => exact False.elim hq
    | brk => exact False.elim hq
    | cont => exact False.elim hq
    | ret u' =>
      have hq : CE X.stack X.prog X.w H3 s3 _ u' s4 := hq
      have un : Un (frs X.stack) [] H3 _ s3.heap s4.heap := hq.choose_spec.choose_spec.2.2.1
      have hf4 := un.keep f _ hf3 hfn3 hfr (by simp)
      obtain ⟨v, H4, I4, rv, t, rfl, ht, rfl⟩ := I3.after hq
      obtain rfl : u' = Value.ref t := rv
      refine ⟨t, rfl, I4, ht, hf4, fun z => ?_⟩
      obtain ⟨_, its, _, o, ho, hcl2, _⟩ := I4.hok t _ upd_same
      rw [z, hf4] at ho
      cases ho
      exact absurd (Value.type.inj hcl2) (by decide)
end KX
end

section
set_option Elab.async false
set_option linter.all false
set_option maxRecDepth 100000
set_option maxHeartbeats 4000000
namespace KX
open PySem PySem.Spec PyProof.Rows L2 PySem.SeqAt PySem.W
section
variable {prog : Program} {w : World} {K : Type} [DecidableEq K] {knd : HeapKind prog w K} {A : Around} {E : Value → Shared → Prop} {s : Shared}
/-- two dicts with keys in the heap that hold the same -/
theorem samePairsH {nm : String} {a b : Addr} {xa xb : List (K × Addr × Value)} {Q : Bool → Shared → Prop} (hu : knd.room A) (ha : (a == sysModules) = false) (hb : (b == sysModules) = false)
    (da : s.heap.DictOfH knd a xa) (db : s.heap.DictOfH knd b xb) (hl : xa.length = xb.length)
    (hits : ∀ x ∈ xa, ∃ (j : Nat) (p : Addr × Value), xb[j]? = some (x.1, p) ∧ SeqAt.EqP prog w A s x.2.2 p.2 true) (h : Q true s) :
    wpAny (model prog w) A (Builtin.Dict.samePairs nm a b) Q E s := by
  obtain ⟨oa, es, ep, hoa, _, hda, hea, hisa, hna⟩ := da
  obtain ⟨ob, es', ep', hob, _, hdb, heb, hisb, hnb⟩ := db
  have hla : es.size = xa.length := size_of_entries hea
  have hlb : es'.size = xb.length := size_of_entries heb
  unfold Builtin.Dict.samePairs Builtin.Dict.showsAll
  rw [if_neg (show ¬ (a == sysModules) = true by rw [ha]; exact Bool.false_ne_true), if_neg (show ¬ (b == sysModules) = true by rw [hb]; exact Bool.false_ne_true)]
  refine wpAny_bind (wpAny_pure (wpAny_bind (wpAny_pure ?_)))
  refine wpAny_bind (wpAny_dictEntries hoa hda ?_)
  dsimp only
  refine wpAny_bind (wpAny_dictEntries hob hdb ?_)
  have hsz : es.size = es'.size := by omega
  rw [if_neg (by rw [hsz]; simp)]
  refine wpAny_bind (wpAny_dictEpoch hoa hda ?_)
  refine wpAny_bind ?_
  rw [Std.Legacy.Range.forIn_eq_forIn_range']
  simp only [Std.Legacy.Range.size, Nat.sub_zero, Nat.add_sub_cancel, Nat.div_one]
  refine wpAny_forIn_list _
    (fun rest q s' => s' = s ∧ q = (none, ()) ∧ ∃ i, rest = List.range' i (es.size - i) ∧ i ≤ es.size)
    _ ?_ ?_ _ _ ⟨rfl, rfl, 0, by simp, Nat.zero_le _⟩
  · rintro x rest q s' ⟨rfl, rfl, i, hr, hi⟩
    have hlt : i < es.size := by
      rcases Nat.lt_or_ge i es.size with h | h
      · exact h
      · rw [Nat.sub_eq_zero_of_le h] at hr; simp at hr
    obtain ⟨rfl, hrest⟩ : x = i ∧ rest = List.range' (i + 1) (es.size - (i + 1)) := by
      have e : es.size - i = (es.size - (i + 1)) + 1 := by omega
      rw [e, List.range'_succ] at hr
      injection hr with h1 h2
      exact ⟨h1, h2⟩
    refine wpAny_bind (wpAny_dictEntries hoa hda ?_)
    obtain ⟨y, hy⟩ : ∃ y, xa[x]? = some y := ⟨_, List.getElem?_eq_getElem (by omega)⟩
    have hex : es[x]? = some (entryOfKey knd y) := by rw [entry_at hea x, hy]; rfl
    rw [hex]
    have hym := List.mem_of_getElem? hy
    obtain ⟨j, p, hj, heq⟩ := hits y hym
    have huniq : ∀ (j' : Nat) (p' : Addr × Value), xb[j']? = some (y.1, p') → j' = j := fun j' p' hj' => by
      have q1 : (xb.map (·.1))[j']? = some y.1 := by rw [List.getElem?_map, hj']; rfl
      have q2 : (xb.map (·.1))[j]? = some y.1 := by rw [List.getElem?_map, hj]; rfl
      have h1 := (List.getElem?_eq_some_iff.mp q1)
      have h2 := (List.getElem?_eq_some_iff.mp q2)
      exact (List.getElem_inj hnb).mp (h1.2.trans h2.2.symm)
    have hfj : es'[j]? = some (entryOfKey knd (y.1, p)) := by rw [entry_at heb j, hj]; rfl
    show wpAny _ _ (holding [(entryOfKey knd y).key, (entryOfKey knd y).val] _ >>= _) _ _ _
    refine wpAny_bind (wpAny_holding (wpAny_bind (wpAny_dictFind_heap hu (hisa y hym) hob hdb heb hisb hnb (fun hno => absurd hj (hno j p)) fun j' p' hj' => ?_)))
    rw [huniq j' p' hj']
    refine wpAny_bind (wpAny_dictEntries hob hdb ?_)
    rw [hfj]
    refine wpAny_holding (heq _ _ ?_)
    show wpAny _ _ (if (!true) = true then _ else _) _ _ _
    rw [if_neg (by decide)]
    refine wpAny_bind (wpAny_dictEpoch hoa hda ?_)
    rw [if_neg (by simp)]
    exact wpAny_pure ⟨rfl, rfl, x + 1, hrest, hlt⟩
  · rintro q s' ⟨rfl, rfl, i, hr, hi⟩
    exact wpAny_pure h
theorem neH_dicts {a b : Addr} {xa xb : List (K × Addr × Value)} (hu : knd.room A.in1) (hu2 : A.units < cLine) (ha : (a == sysModules) = false) (hb : (b == sysModules) = false) (ta : s.TypeIs (.ref a) "dict") (tb : s.TypeIs (.ref b) "dict")
    (da : s.heap.DictOfH knd a xa) (db : s.heap.DictOfH knd b xb) (hl : xa.length = xb.length)
    (hits : ∀ x ∈ xa, ∃ (j : Nat) (p : Addr × Value), xb[j]? = some (x.1, p) ∧ SeqAt.EqP prog w A.in1 s x.2.2 p.2 true) (E Q : Value → Shared → Prop) (h : Q (.bool false) s) : wpAny (model prog w) A (richCompare .NotEq (.ref a) (.ref b)) Q E s := by
  refine wpAny_richCompare_same_room (op := .NotEq) ta tb PySem.F.slot_dict_ne (wpAny_call_entry PySem.F.slot_dict_ne ta PySem.F.entry_dict_ne ?_ (PySem.F.args_dict_ne_2 _ _)) hu2
  show wpAny _ _ (Builtin.Dict.dictSlotArgs "__ne__" ⟨[.ref a, .ref b], []⟩ >>= _) _ _ s
  refine wpAny_bind ?_
  unfold Builtin.Dict.dictSlotArgs
  refine wpAny_bind (wpAny_notOrdered_dict ta ?_)
  show wpAny _ _ (pure (Value.ref a, Value.ref b)) _ _ s
  refine wpAny_pure ?_
  refine wpAny_bind (wpAny_isInstance (T := "dict") tb PySem.F.sub_dict_dict ?_)
  simp only [Bool.not_true, Bool.false_eq_true, if_false]
  refine wpAny_bind (wpAny_pure (wpAny_bind (wpAny_pure ?_)))
  refine wpAny_bind (samePairsH hu ha hb da db hl hits ?_)
  refine wpAny_pure ⟨_, rfl, ?_, ?_⟩
  · exact fun x => nomatch x
  · simpa using h
end
/-- d != e, dicts with keys that are tuples, the same pairs in both -/
def rNeT : R2 := fun x y H Q => ∃ (a b : Addr) (ka kb : List (List L2.Key × V)), x = .ref a ∧ y = .ref b ∧ H a = some (.dT ka) ∧ H b = some (.dT kb) ∧ ka.length = kb.length ∧ (∀ kv ∈ ka, (∃ n, kv.2 = V.int n) ∧ kv ∈ kb) ∧ Q (.bl false) H
theorem op_neT {X : Cx} (hu : X.A.units + 64 < cLine) : OpR X (compareOp .NotEq) rNeT := by
  intro pins s σ H x y v u Q I rx ry h
  obtain ⟨a, b, ka, kb, rfl, rfl, hA, hB, hl, hk, q⟩ := h
  obtain rfl : v = Value.ref a := rx
  obtain rfl : u = Value.ref b := ry
  obtain ⟨_, hda, xa, ra, da⟩ := dt_of I.hok hA
  obtain ⟨_, hdb, xb, rb, db⟩ := dt_of I.hok hB
  obtain ⟨ta, _, _⟩ := isD_at I (.inr ⟨ka, .inl hA⟩)
  obtain ⟨tb, _, _⟩ := isD_at I (.inr ⟨kb, .inl hB⟩)
  have pl : ∀ {k : List (List L2.Key × V)} {x : List (List L2.Key × Addr × Value)}, KT H k x → k.length = x.length := fun {k x} r => by
    induction r with
    | nil => rfl
    | cons _ _ ih => simp [ih]
  have pix : ∀ {k : List (List L2.Key × V)} {x : List (List L2.Key × Addr × Value)}, KT H k x → ∀ (j : Nat) (y : List L2.Key × Addr × Value), x[j]? = some y → ∃ kv, k[j]? = some kv ∧ kv.1 = y.1 ∧ RelV kv.2 y.2.2 := fun {k x} r => by
    induction r with
    | nil => intro j y h; simp at h
    | @cons p q ps qs hq _ ih =>
      intro j y h
      cases j with
      | zero =>
        have e : q = y := Option.some.inj h
        subst e
        exact ⟨p, rfl, hq.1, hq.2.2⟩
      | succ j => obtain ⟨kv, h1, h2⟩ := ih j y (by simpa using h); exact ⟨kv, by simpa using h1, h2⟩
  have pxi : ∀ {k : List (List L2.Key × V)} {x : List (List L2.Key × Addr × Value)}, KT H k x → ∀ (j : Nat) (kv : List L2.Key × V), k[j]? = some kv → ∃ y, x[j]? = some y ∧ kv.1 = y.1 ∧ RelV kv.2 y.2.2 := fun {k x} r => by
    induction r with
    | nil => intro j y h; simp at h
    | @cons p q ps qs hq _ ih =>
      intro j y h
      cases j with
      | zero =>
        have e : p = y := Option.some.inj h
        subst e
        exact ⟨q, rfl, hq.1, hq.2.2⟩
      | succ j => obtain ⟨kv, h1, h2⟩ := ih j y (by simpa using h); exact ⟨kv, by simpa using h1, h2⟩
  refine neH_dicts (knd := tupleKind (mixKind X.prog X.w)) (by show X.A.units + 1 < cLine; omega) (by omega) hda hdb ta tb da db (by rw [← pl ra, ← pl rb]; exact hl) (fun x hx => ?_) _ _ ⟨.bl false, H, I, rfl, q⟩
  obtain ⟨i, hi⟩ := List.getElem?_of_mem hx
  obtain ⟨⟨k, v⟩, hkv, e1, e2⟩ := pix ra i x hi
  obtain ⟨⟨n, en⟩, hm⟩ := hk _ (List.mem_of_getElem? hkv)
  have en : v = V.int n := en
  subst en
  obtain ⟨j, hj⟩ := List.getElem?_of_mem hm
  obtain ⟨⟨k', a', v'⟩, hy, e3, e4⟩ := pxi rb j _ hj
  obtain ⟨t1, et1⟩ := (show RelV (V.int n) x.2.2 from e2)
  obtain ⟨t2, et2⟩ := (show RelV (V.int n) v' from e4)
  have e1 : k = x.1 := e1
  have e3 : k = k' := e3
  refine ⟨j, (a', v'), by rw [hy, ← e3, e1], ?_⟩
  rw [et1, show ((a', v').2 : Value) = Value.int n t2 from et2]
  intro E Q hq
  have := SeqAt.EqAt.int_int (A := X.A.in1) (s := s) n t1 n t2 X.prog X.w E Q
  rw [beq_self_eq_true] at this
  exact this hq
end KX
end

section
set_option Elab.async false
set_option linter.all false
set_option maxRecDepth 100000
set_option maxHeartbeats 4000000
namespace KW
open PySem PySem.Spec PyProof.Rows L2
def topS (i : Nat) : Stmt := PySem.Challenge.pw_rungfields_k10_whole_products_keep_their.main.body.getD i (.Pass ⟨0, 0, 0, 0⟩)
/-! ### a def of the text, and its promise -/
def DefAt (K : PySem.W.Frag) (mg : Str → Option Value) (x : Str) (st : Stmt) : Prop :=
  ∃ (f : Addr) (fd : FuncData), mg x = some (.ref f) ∧ Fun K x x st f fd
theorem def_mk {K : PySem.W.Frag} {mg : Str → Option Value} {h : Heap} {x : Str} {st : Stmt} {f : Addr} {oc : Value} {od an : Option Addr} {osl : Array (Option Value)} {kV doc pm cdv ct : Value}
    (X : K.In h) (G : h.Ns mainGlobals mg)
    (a : PySem.W.nsIn K mainGlobals x = some (some (.ref f))) (l : K.lookup f = some ⟨oc, od, .func (PySem.W.fnOf x x (defArgs st) (defBody st) (defScope st) .none kV doc pm an cdv ct), osl⟩)
    (c : PySem.W.codeIn K cdv x = true) (k : PySem.W.keepIn K (.ref f) = true) : DefAt K mg x st :=
  ⟨f, _, PySem.W.mg_of X G a, fun_mk l c k⟩
def DefOk (P : Program) (w : World) (K : PySem.W.Frag) (mg : Str → Option Value) (base : Heap) (x : Str) (k : Nat) (ps : List Str) (sp : Sp) : Prop :=
  ∃ (f : Addr) (fd : FuncData), mg x = some (.ref f) ∧ PySem.W.keepIn K (.ref f) = true ∧ Binds K fd ps [] ∧ FnOk P w K mg base CX0 k f fd ps sp
section
variable {P : Program} {w : World} {K : PySem.W.Frag} {mg : Str → Option Value} {base : Heap}
theorem def_ok {x : Str} {st : Stmt} {N ps : List Str} {k : Nat} {sp : Sp} (D : DefAt K mg x st) (S : FnScope N ps (defScope st))
    (hb : ∀ (kV doc pm : Value) (an : Option Addr) (cdv ct : Value) (us : List Value), us.length = ps.length → bindArgs (PySem.W.fnOf x x (defArgs st) (defBody st) (defScope st) .none kV doc pm an cdv ct) ⟨us, []⟩ = pure (ps.zip us))
    (len : ∀ vs H Q E, sp vs H Q E → vs.length = ps.length)
    (hbody : ∀ (f : Addr) (cdv : Value) (A : Around) (outer : List Env) (s : Shared) (H : Hp) (vs : List V) (Q : VK) (E : XK), Room k (A.deeper (envOfC x (defScope st) s.heap.objs.size f cdv)) → sp vs H Q E →
      ∃ t, PSs (cxOf CX0 P w K mg base N x (defScope st) f cdv A outer s H E).nox (defBody st) t ∧ t { nx := fun _ H' => Q .non H', rt := Q } (start N vs) H) : DefOk P w K mg base x (k + 1) ps sp := by
  obtain ⟨f, fd, hm, F⟩ := D
  exact ⟨f, fd, hm, F.kp, F.binds hb, F.ok S len (fun cdv A outer s H vs Q E hr h => hbody f cdv A outer s H vs Q E hr h)⟩
theorem DefOk.imp {x : Str} {k : Nat} {ps : List Str} {sp sp' : Sp} (D : DefOk P w K mg base x k ps sp) (h : ∀ vs H Q E, sp' vs H Q E → sp vs H Q E) : DefOk P w K mg base x k ps sp' := by
  obtain ⟨f, fd, hm, hk, b, F⟩ := D
  exact ⟨f, fd, hm, hk, b, F.imp h⟩
end
section
variable {X : Cx} {x : Str} {p pos : Pos} {e : Expr} {es : List Expr} {t : TA} {j k : Nat} {ps : List Str} {sp : Sp}
theorem pcall (D : DefOk X.prog X.w X.K X.mg X.base x k ps sp) (hr : Room j X.A) (hg : Gl X x) (ha : PA X (e :: es) t) (hj : k ≤ j := by decide) (hdb : (x == ("__debug__" : Str)) = false := by decide)
    (hs : starEach (e :: es) X.env = (false, eval e X.env) :: starEach es X.env := by rfl) (hpl : (backTo pos (starEach es X.env)).any (·.1) = false := by rfl) :
    PE X (.Call (.Name x p) (e :: es) [] pos) (tCall sp [] E0 t) := by
  obtain ⟨f, fd, hm, hk, b, F⟩ := D
  exact pe_call F (hr.mono hj) hg hm hk b .nil pass0 ha hdb hs hpl
theorem pcall0 (D : DefOk X.prog X.w X.K X.mg X.base x k ps sp) (hr : Room j X.A) (hg : Gl X x) (hj : k ≤ j := by decide) (hdb : (x == ("__debug__" : Str)) = false := by decide) :
    PE X (.Call (.Name x p) [] [] pos) (tCall sp [] E0 tNil) := by
  obtain ⟨f, fd, hm, hk, b, F⟩ := D
  exact pe_call0 F (hr.mono hj) hg hm hk b .nil pass0 hdb
end
/-! ### heaps that only grow -/
def same_upd {H : Hp} {p : Addr} {o : HO} (h : H p = none) : Same H (upd H p o) := fun b x e => by
  rw [upd_ne (ne_of_none e h)]
  exact e
/-- an object that H does not know may change -/
theorem same_mut {H H' : Hp} {p : Addr} {o : HO} (e : Same H H') (h : H p = none) : Same H (upd H' p o) := fun a u ha => by
  rw [upd_ne (ne_of_none ha h)]
  exact e a u ha
theorem same_rd {H H' : Hp} {a : Addr} {u : HO} (e : Same H H') (h : Rd H a u) : Rd H' a u := by
  rcases h with h | ⟨o, h⟩
  · exact Or.inl (e a _ h)
  · exact Or.inr ⟨o, e a _ h⟩
theorem same_t {K : PySem.W.Frag} {H H' : Hp} {a : Addr} {xs : List V} (e : Same H H') (h : SqT K H a xs) : SqT K H' a xs := by
  rcases h with h | h
  · exact Or.inl (same_rd e h)
  · exact Or.inr h
theorem same_l {K : PySem.W.Frag} {H H' : Hp} {a : Addr} {xs : List V} (e : Same H H') (h : SqL K H a xs) : SqL K H' a xs := e.seq h
/-- what never changes: tuples and locked things -/
def Tk (H H' : Hp) : Prop := ∀ a, (∀ xs, H a = some (.tup xs) → H' a = some (.tup xs)) ∧ ∀ o u, H a = some (.frz o u) → H' a = some (.frz o u)
theorem Tk.refl (H : Hp) : Tk H H := fun _ => ⟨fun _ h => h, fun _ _ h => h⟩
theorem Tk.trans {H H1 H2 : Hp} (a : Tk H H1) (b : Tk H1 H2) : Tk H H2 := fun c => ⟨fun xs h => (b c).1 xs ((a c).1 xs h), fun o u h => (b c).2 o u ((a c).2 o u h)⟩
theorem Same.tk {H H' : Hp} (s : Same H H') : Tk H H' := fun a => ⟨fun _ h => s a _ h, fun _ _ h => s a _ h⟩
theorem tk_new {H : Hp} {p : Addr} {o : HO} (h : H p = none) : Tk H (upd H p o) := Same.tk (same_upd h)
theorem tk_lst {H : Hp} {p : Addr} {o : HO} {xs : List V} (h : H p = some (.lst xs)) : Tk H (upd H p o) := fun a => ⟨fun ys e => by
  rw [upd_ne (ne_of e h (by intro z; cases z))]; exact e, fun ob u e => by
  rw [upd_ne (ne_of e h (by intro z; cases z))]; exact e⟩
theorem tk_dK {H : Hp} {p : Addr} {o : HO} {kvs : List (Key × V)} (h : H p = some (.dK kvs)) : Tk H (upd H p o) := fun a => ⟨fun ys e => by
  rw [upd_ne (ne_of e h (by intro z; cases z))]; exact e, fun ob u e => by
  rw [upd_ne (ne_of e h (by intro z; cases z))]; exact e⟩
theorem tk_dT {H : Hp} {p : Addr} {o : HO} {kvs : List (List Key × V)} (h : H p = some (.dT kvs)) : Tk H (upd H p o) := fun a => ⟨fun ys e => by
  rw [upd_ne (ne_of e h (by intro z; cases z))]; exact e, fun ob u e => by
  rw [upd_ne (ne_of e h (by intro z; cases z))]; exact e⟩
theorem Tk.t {K : PySem.W.Frag} {H H' : Hp} {a : Addr} {xs : List V} (e : Tk H H') (h : SqT K H a xs) : SqT K H' a xs := by
  rcases h with (h | ⟨o, h⟩) | h
  · exact Or.inl (.inl ((e a).1 _ h))
  · exact Or.inl (.inr ⟨o, (e a).2 _ _ h⟩)
  · exact Or.inr h
/-- a tuple of ints -/
def TI (K : PySem.W.Frag) (H : Hp) (v : V) (ns : List Int) : Prop := ∃ a, v = .ref a ∧ SqT K H a (ns.map V.int)
/-- a list of ints -/
def LI (K : PySem.W.Frag) (H : Hp) (v : V) (ns : List Int) : Prop := ∃ a, v = .ref a ∧ SqL K H a (ns.map V.int)
theorem TI.tk {K : PySem.W.Frag} {H H' : Hp} {v : V} {ns : List Int} (h : TI K H v ns) (e : Tk H H') : TI K H' v ns := let ⟨a, r, q⟩ := h; ⟨a, r, e.t q⟩
theorem TI.same {K : PySem.W.Frag} {H H' : Hp} {v : V} {ns : List Int} (h : TI K H v ns) (e : Same H H') : TI K H' v ns := h.tk (Same.tk e)
theorem LI.same {K : PySem.W.Frag} {H H' : Hp} {v : V} {ns : List Int} (h : LI K H v ns) (e : Same H H') : LI K H' v ns := let ⟨a, r, q⟩ := h; ⟨a, r, e.seq q⟩
theorem line_of {n : Nat} (h : n ≤ 100000) : n ≤ sizeLine := Nat.le_trans h (by decide)
theorem line_lt {n : Nat} (h : n < 100000) : n < sizeLine := Nat.lt_of_lt_of_le h (by decide)
/-! ### the defs' names and scopes -/
abbrev s_is_prime : Stmt := topS 7
theorem sc_is_prime : FnScope ["number"] ["number"] (defScope s_is_prime) := ⟨rfl, rfl, rfl, by decide +kernel, rfl, by decide +kernel, by decide +kernel⟩
abbrev s_need_prime : Stmt := topS 8
theorem sc_need_prime : FnScope ["prime"] ["prime"] (defScope s_need_prime) := ⟨rfl, rfl, rfl, by decide +kernel, rfl, by decide +kernel, by decide +kernel⟩
abbrev s_is_rest : Stmt := topS 9
theorem sc_is_rest : FnScope ["number", "prime"] ["number", "prime"] (defScope s_is_rest) := ⟨rfl, rfl, rfl, by decide +kernel, rfl, by decide +kernel, by decide +kernel⟩
abbrev s_raised : Stmt := topS 10
theorem sc_raised : FnScope ["number", "exponent", "prime", "found", "base"] ["number", "exponent", "prime"] (defScope s_raised) := ⟨rfl, rfl, rfl, by decide +kernel, rfl, by decide +kernel, by decide +kernel⟩
abbrev s_turned_over : Stmt := topS 11
theorem sc_turned_over : FnScope ["number", "prime"] ["number", "prime"] (defScope s_turned_over) := ⟨rfl, rfl, rfl, by decide +kernel, rfl, by decide +kernel, by decide +kernel⟩
abbrev s_lessened : Stmt := topS 13
theorem sc_lessened : FnScope ["row", "other", "weight", "prime", "a", "b"] ["row", "other", "weight", "prime"] (defScope s_lessened) := ⟨rfl, rfl, rfl, by decide +kernel, rfl, by decide +kernel, by decide +kernel⟩
abbrev s_lowered : Stmt := topS 14
theorem sc_lowered : FnScope ["row", "found", "prime", "at"] ["row", "found", "prime"] (defScope s_lowered) := ⟨rfl, rfl, rfl, by decide +kernel, rfl, by decide +kernel, by decide +kernel⟩
abbrev s_steps_of : Stmt := topS 15
theorem sc_steps_of : FnScope ["rows", "prime", "found", "row", "left", "spots", "step", "back", "at", "one"] ["rows", "prime"] (defScope s_steps_of) := ⟨rfl, rfl, rfl, by decide +kernel, rfl, by decide +kernel, by decide +kernel⟩
abbrev s_in_order : Stmt := topS 16
theorem sc_in_order : FnScope ["found", "at"] ["found"] (defScope s_in_order) := ⟨rfl, rfl, rfl, by decide +kernel, rfl, by decide +kernel, by decide +kernel⟩
abbrev s_idle_of : Stmt := topS 17
theorem sc_idle_of : FnScope ["rows", "width", "prime", "found", "some", "free", "numbers", "at"] ["rows", "width", "prime"] (defScope s_idle_of) := ⟨rfl, rfl, rfl, by decide +kernel, rfl, by decide +kernel, by decide +kernel⟩
abbrev s_is_poly : Stmt := topS 21
theorem sc_is_poly : FnScope ["thing", "prime", "part"] ["thing", "prime"] (defScope s_is_poly) := ⟨rfl, rfl, rfl, by decide +kernel, rfl, by decide +kernel, by decide +kernel⟩
abbrev s_need_polys : Stmt := topS 22
theorem sc_need_polys : FnScope ["some", "prime", "one"] ["some", "prime"] (defScope s_need_polys) := ⟨rfl, rfl, rfl, by decide +kernel, rfl, by decide +kernel, by decide +kernel⟩
abbrev s_cut : Stmt := topS 23
theorem sc_cut : FnScope ["numbers", "many"] ["numbers"] (defScope s_cut) := ⟨rfl, rfl, rfl, by decide +kernel, rfl, by decide +kernel, by decide +kernel⟩
abbrev s_widened : Stmt := topS 24
theorem sc_widened : FnScope ["one", "many"] ["one", "many"] (defScope s_widened) := ⟨rfl, rfl, rfl, by decide +kernel, rfl, by decide +kernel, by decide +kernel⟩
abbrev s_blended : Stmt := topS 25
theorem sc_blended : FnScope ["one", "other", "weight", "prime", "many", "a", "b"] ["one", "other", "weight", "prime"] (defScope s_blended) := ⟨rfl, rfl, rfl, by decide +kernel, rfl, by decide +kernel, by decide +kernel⟩
abbrev s_less : Stmt := topS 26
theorem sc_less : FnScope ["one", "other", "prime"] ["one", "other", "prime"] (defScope s_less) := ⟨rfl, rfl, rfl, by decide +kernel, rfl, by decide +kernel, by decide +kernel⟩
abbrev s_scaled : Stmt := topS 27
theorem sc_scaled : FnScope ["one", "weight", "prime", "part"] ["one", "weight", "prime"] (defScope s_scaled) := ⟨rfl, rfl, rfl, by decide +kernel, rfl, by decide +kernel, by decide +kernel⟩
abbrev s_multiplied : Stmt := topS 28
theorem sc_multiplied : FnScope ["one", "other", "prime", "found", "at", "part", "place", "more", "number"] ["one", "other", "prime"] (defScope s_multiplied) := ⟨rfl, rfl, rfl, by decide +kernel, rfl, by decide +kernel, by decide +kernel⟩
abbrev s_divided : Stmt := topS 29
theorem sc_divided : FnScope ["one", "other", "prime", "left", "size", "back", "quotient", "at", "weight", "place", "part"] ["one", "other", "prime"] (defScope s_divided) := ⟨rfl, rfl, rfl, by decide +kernel, rfl, by decide +kernel, by decide +kernel⟩
abbrev s_left_by : Stmt := topS 30
theorem sc_left_by : FnScope ["one", "rule", "prime"] ["one", "rule", "prime"] (defScope s_left_by) := ⟨rfl, rfl, rfl, by decide +kernel, rfl, by decide +kernel, by decide +kernel⟩
abbrev s_levelled : Stmt := topS 31
theorem sc_levelled : FnScope ["one", "prime"] ["one", "prime"] (defScope s_levelled) := ⟨rfl, rfl, rfl, by decide +kernel, rfl, by decide +kernel, by decide +kernel⟩
abbrev s_shared : Stmt := topS 32
theorem sc_shared : FnScope ["one", "other", "prime", "here", "there", "quotient", "rest", "ahead", "back", "k", "part"] ["one", "other", "prime"] (defScope s_shared) := ⟨rfl, rfl, rfl, by decide +kernel, rfl, by decide +kernel, by decide +kernel⟩
abbrev s_left_raised : Stmt := topS 33
theorem sc_left_raised : FnScope ["one", "exponent", "rule", "prime", "found", "base"] ["one", "exponent", "rule", "prime"] (defScope s_left_raised) := ⟨rfl, rfl, rfl, by decide +kernel, rfl, by decide +kernel, by decide +kernel⟩
abbrev s_worth_at : Stmt := topS 34
theorem sc_worth_at : FnScope ["one", "number", "prime", "found", "part"] ["one", "number", "prime"] (defScope s_worth_at) := ⟨rfl, rfl, rfl, by decide +kernel, rfl, by decide +kernel, by decide +kernel⟩
abbrev s_sloped : Stmt := topS 35
theorem sc_sloped : FnScope ["one", "prime", "at", "part"] ["one", "prime"] (defScope s_sloped) := ⟨rfl, rfl, rfl, by decide +kernel, rfl, by decide +kernel, by decide +kernel⟩
abbrev s_powers_left : Stmt := topS 37
theorem sc_powers_left : FnScope ["rule", "prime", "step", "found"] ["rule", "prime"] (defScope s_powers_left) := ⟨rfl, rfl, rfl, by decide +kernel, rfl, by decide +kernel, by decide +kernel⟩
abbrev s_still_of : Stmt := topS 38
theorem sc_still_of : FnScope ["rule", "prime", "many", "images", "at", "one", "rows", "image", "place", "row"] ["rule", "prime"] (defScope s_still_of) := ⟨rfl, rfl, rfl, by decide +kernel, rfl, by decide +kernel, by decide +kernel⟩
abbrev s_halved : Stmt := topS 39
theorem sc_halved : FnScope ["one", "prime", "still", "rest", "part"] ["one", "prime"] (defScope s_halved) := ⟨rfl, rfl, rfl, by decide +kernel, rfl, by decide +kernel, by decide +kernel⟩
abbrev s_pieces_of : Stmt := topS 40
theorem sc_pieces_of : FnScope ["one", "prime", "found", "line", "part", "both"] ["one", "prime"] (defScope s_pieces_of) := ⟨rfl, rfl, rfl, by decide +kernel, rfl, by decide +kernel, by decide +kernel⟩
abbrev s_thinned : Stmt := topS 41
theorem sc_thinned : FnScope ["one", "prime", "at", "part"] ["one", "prime"] (defScope s_thinned) := ⟨rfl, rfl, rfl, by decide +kernel, rfl, by decide +kernel, by decide +kernel⟩
abbrev s_all_parts : Stmt := topS 42
theorem sc_all_parts : FnScope ["one", "prime", "found", "line", "part", "times", "slope", "twice", "piece"] ["one", "prime"] (defScope s_all_parts) := ⟨rfl, rfl, rfl, by decide +kernel, rfl, by decide +kernel, by decide +kernel⟩
abbrev s_in_rank : Stmt := topS 43
theorem sc_in_rank : FnScope ["found", "part"] ["found"] (defScope s_in_rank) := ⟨rfl, rfl, rfl, by decide +kernel, rfl, by decide +kernel, by decide +kernel⟩
abbrev s_stands_whole : Stmt := topS 44
theorem sc_stands_whole : FnScope ["one", "prime", "rest"] ["one", "prime"] (defScope s_stands_whole) := ⟨rfl, rfl, rfl, by decide +kernel, rfl, by decide +kernel, by decide +kernel⟩
abbrev s_parts : Stmt := topS 45
theorem sc_parts : FnScope ["poly", "prime"] ["poly", "prime"] (defScope s_parts) := ⟨rfl, rfl, rfl, by decide +kernel, rfl, by decide +kernel, by decide +kernel⟩
abbrev s_rest_roots : Stmt := topS 46
theorem sc_rest_roots : FnScope ["poly", "prime", "found", "part", "times"] ["poly", "prime"] (defScope s_rest_roots) := ⟨rfl, rfl, rfl, by decide +kernel, rfl, by decide +kernel, by decide +kernel⟩
abbrev s_is_whole : Stmt := topS 48
theorem sc_is_whole : FnScope ["poly", "prime"] ["poly", "prime"] (defScope s_is_whole) := ⟨rfl, rfl, rfl, by decide +kernel, rfl, by decide +kernel, by decide +kernel⟩
abbrev s_law_begin : Stmt := topS 50
theorem sc_law_begin : FnScope ["_law_script"] ["_law_script"] (defScope s_law_begin) := ⟨rfl, rfl, rfl, by decide +kernel, rfl, by decide +kernel, by decide +kernel⟩
abbrev s_law_take : Stmt := topS 51
theorem sc_law_take : FnScope ["_law_draw", "_law_sides", "_law_cell", "_law_got"] ["_law_draw", "_law_sides"] (defScope s_law_take) := ⟨rfl, rfl, rfl, by decide +kernel, rfl, by decide +kernel, by decide +kernel⟩
abbrev s_law_of : Stmt := topS 52
theorem sc_law_of : FnScope ["_law_draw", "_law_row"] ["_law_draw", "_law_row"] (defScope s_law_of) := ⟨rfl, rfl, rfl, by decide +kernel, rfl, by decide +kernel, by decide +kernel⟩
abbrev s_law_same : Stmt := topS 53
theorem sc_law_same : FnScope ["_law_found", "_law_due", "_law_one", "_law_other"] ["_law_found", "_law_due"] (defScope s_law_same) := ⟨rfl, rfl, rfl, by decide +kernel, rfl, by decide +kernel, by decide +kernel⟩
abbrev s_law_primes : Stmt := topS 54
theorem sc_law_primes : FnScope [] [] (defScope s_law_primes) := ⟨rfl, rfl, rfl, by decide +kernel, rfl, by decide +kernel, by decide +kernel⟩
abbrev s_law_any_prime : Stmt := topS 55
theorem sc_law_any_prime : FnScope ["_law_draw"] ["_law_draw"] (defScope s_law_any_prime) := ⟨rfl, rfl, rfl, by decide +kernel, rfl, by decide +kernel, by decide +kernel⟩
abbrev s_law_trim : Stmt := topS 56
theorem sc_law_trim : FnScope ["_law_numbers", "_law_many", "_law_k"] ["_law_numbers"] (defScope s_law_trim) := ⟨rfl, rfl, rfl, by decide +kernel, rfl, by decide +kernel, by decide +kernel⟩
abbrev s_law_rests : Stmt := topS 57
theorem sc_law_rests : FnScope ["_law_draw", "_law_many", "_law_p", "_law_k"] ["_law_draw", "_law_many", "_law_p"] (defScope s_law_rests) := ⟨rfl, rfl, rfl, by decide +kernel, rfl, by decide +kernel, by decide +kernel⟩
abbrev s_law_level : Stmt := topS 58
theorem sc_law_level : FnScope ["_law_draw", "_law_degree", "_law_p"] ["_law_draw", "_law_degree", "_law_p"] (defScope s_law_level) := ⟨rfl, rfl, rfl, by decide +kernel, rfl, by decide +kernel, by decide +kernel⟩
abbrev s_law_blend : Stmt := topS 59
theorem sc_law_blend : FnScope ["_law_one", "_law_other", "_law_weight", "_law_p", "_law_many", "_law_wide", "_law_a", "_law_b", "_law_row"] ["_law_one", "_law_other", "_law_weight", "_law_p"] (defScope s_law_blend) := ⟨rfl, rfl, rfl, by decide +kernel, rfl, by decide +kernel, by decide +kernel⟩
abbrev s_law_conv : Stmt := topS 60
theorem sc_law_conv : FnScope ["_law_one", "_law_other", "_law_p", "_law_found", "_law_at", "_law_a", "_law_place", "_law_b"] ["_law_one", "_law_other", "_law_p"] (defScope s_law_conv) := ⟨rfl, rfl, rfl, by decide +kernel, rfl, by decide +kernel, by decide +kernel⟩
abbrev s_law_mul : Stmt := topS 61
theorem sc_law_mul : FnScope ["_law_one", "_law_other", "_law_p"] ["_law_one", "_law_other", "_law_p"] (defScope s_law_mul) := ⟨rfl, rfl, rfl, by decide +kernel, rfl, by decide +kernel, by decide +kernel⟩
abbrev s_law_back : Stmt := topS 62
theorem sc_law_back : FnScope ["_law_number", "_law_p", "_law_k"] ["_law_number", "_law_p"] (defScope s_law_back) := ⟨rfl, rfl, rfl, by decide +kernel, rfl, by decide +kernel, by decide +kernel⟩
abbrev s_law_cut_by : Stmt := topS 63
theorem sc_law_cut_by : FnScope ["_law_one", "_law_other", "_law_p", "_law_left", "_law_many", "_law_back_here", "_law_found", "_law_at", "_law_weight", "_law_place", "_law_rest", "_law_spot"] ["_law_one", "_law_other", "_law_p"] (defScope s_law_cut_by) := ⟨rfl, rfl, rfl, by decide +kernel, rfl, by decide +kernel, by decide +kernel⟩
abbrev s_law_worth : Stmt := topS 64
theorem sc_law_worth : FnScope ["_law_one", "_law_number", "_law_p", "_law_found", "_law_power", "_law_rest"] ["_law_one", "_law_number", "_law_p"] (defScope s_law_worth) := ⟨rfl, rfl, rfl, by decide +kernel, rfl, by decide +kernel, by decide +kernel⟩
abbrev s_law_shifted : Stmt := topS 65
theorem sc_law_shifted : FnScope ["_law_poly", "_law_by", "_law_p", "_law_found", "_law_number"] ["_law_poly", "_law_by", "_law_p"] (defScope s_law_shifted) := ⟨rfl, rfl, rfl, by decide +kernel, rfl, by decide +kernel, by decide +kernel⟩
abbrev s_law_rests_at : Stmt := topS 66
theorem sc_law_rests_at : FnScope ["_law_poly", "_law_p", "_law_found", "_law_rest", "_law_left", "_law_times", "_law_k"] ["_law_poly", "_law_p"] (defScope s_law_rests_at) := ⟨rfl, rfl, rfl, by decide +kernel, rfl, by decide +kernel, by decide +kernel⟩
abbrev s_law_counts : Stmt := topS 67
theorem sc_law_counts : FnScope ["_law_some", "_law_found", "_law_row", "_law_piece", "_law_times"] ["_law_some"] (defScope s_law_counts) := ⟨rfl, rfl, rfl, by decide +kernel, rfl, by decide +kernel, by decide +kernel⟩
abbrev s_law : Stmt := topS 68
theorem sc_law : FnScope ["_law_script", "_law_draw", "_law_p", "_law_one", "_law_other", "_law_rows", "_law_poly", "_law_by", "_law_due", "_law_found", "_law_small", "_law_power", "_law_k", "_law_piece", "_law_row", "_law_times"] ["_law_script"] (defScope s_law) := ⟨rfl, rfl, rfl, by decide +kernel, rfl, by decide +kernel, by decide +kernel⟩
structure Txt (K : PySem.W.Frag) (mg : Str → Option Value) : Prop where
  d_is_prime : DefAt K mg "is_prime" s_is_prime
  d_need_prime : DefAt K mg "need_prime" s_need_prime
  d_is_rest : DefAt K mg "is_rest" s_is_rest
  d_raised : DefAt K mg "raised" s_raised
  d_turned_over : DefAt K mg "turned_over" s_turned_over
  d_lessened : DefAt K mg "lessened" s_lessened
  d_lowered : DefAt K mg "lowered" s_lowered
  d_steps_of : DefAt K mg "steps_of" s_steps_of
  d_in_order : DefAt K mg "in_order" s_in_order
  d_idle_of : DefAt K mg "idle_of" s_idle_of
  d_is_poly : DefAt K mg "is_poly" s_is_poly
  d_need_polys : DefAt K mg "need_polys" s_need_polys
  d_cut : DefAt K mg "cut" s_cut
  d_widened : DefAt K mg "widened" s_widened
  d_blended : DefAt K mg "blended" s_blended
  d_less : DefAt K mg "less" s_less
  d_scaled : DefAt K mg "scaled" s_scaled
  d_multiplied : DefAt K mg "multiplied" s_multiplied
  d_divided : DefAt K mg "divided" s_divided
  d_left_by : DefAt K mg "left_by" s_left_by
  d_levelled : DefAt K mg "levelled" s_levelled
  d_shared : DefAt K mg "shared" s_shared
  d_left_raised : DefAt K mg "left_raised" s_left_raised
  d_worth_at : DefAt K mg "worth_at" s_worth_at
  d_sloped : DefAt K mg "sloped" s_sloped
  d_powers_left : DefAt K mg "powers_left" s_powers_left
  d_still_of : DefAt K mg "still_of" s_still_of
  d_halved : DefAt K mg "halved" s_halved
  d_pieces_of : DefAt K mg "pieces_of" s_pieces_of
  d_thinned : DefAt K mg "thinned" s_thinned
  d_all_parts : DefAt K mg "all_parts" s_all_parts
  d_in_rank : DefAt K mg "in_rank" s_in_rank
  d_stands_whole : DefAt K mg "stands_whole" s_stands_whole
  d_parts : DefAt K mg "parts" s_parts
  d_rest_roots : DefAt K mg "rest_roots" s_rest_roots
  d_is_whole : DefAt K mg "is_whole" s_is_whole
  d_law_begin : DefAt K mg "_law_begin" s_law_begin
  d_law_take : DefAt K mg "_law_take" s_law_take
  d_law_of : DefAt K mg "_law_of" s_law_of
  d_law_same : DefAt K mg "_law_same" s_law_same
  d_law_primes : DefAt K mg "_law_primes" s_law_primes
  d_law_any_prime : DefAt K mg "_law_any_prime" s_law_any_prime
  d_law_trim : DefAt K mg "_law_trim" s_law_trim
  d_law_rests : DefAt K mg "_law_rests" s_law_rests
  d_law_level : DefAt K mg "_law_level" s_law_level
  d_law_blend : DefAt K mg "_law_blend" s_law_blend
  d_law_conv : DefAt K mg "_law_conv" s_law_conv
  d_law_mul : DefAt K mg "_law_mul" s_law_mul
  d_law_back : DefAt K mg "_law_back" s_law_back
  d_law_cut_by : DefAt K mg "_law_cut_by" s_law_cut_by
  d_law_worth : DefAt K mg "_law_worth" s_law_worth
  d_law_shifted : DefAt K mg "_law_shifted" s_law_shifted
  d_law_rests_at : DefAt K mg "_law_rests_at" s_law_rests_at
  d_law_counts : DefAt K mg "_law_counts" s_law_counts
  d_law : DefAt K mg "law" s_law
  n_abs : mg "abs" = none
  n_all : mg "all" = none
  n_any : mg "any" = none
  n_bool : mg "bool" = none
  n_enumerate : mg "enumerate" = none
  n_int : mg "int" = none
  n_isinstance : mg "isinstance" = none
  n_len : mg "len" = none
  n_list : mg "list" = none
  n_max : mg "max" = none
  n_range : mg "range" = none
  n_sorted : mg "sorted" = none
  n_str : mg "str" = none
  n_tuple : mg "tuple" = none
  n_zip : mg "zip" = none
  g_PRIMES : ∃ a, mg "PRIMES" = some (.ref a) ∧ ∀ H, SqT K H a ([2, 3, 5, 7, 11, 13, 17, 19, 23, 29, 31, 37, 41, 43, 47, 53, 59, 61, 67, 71, 73, 79, 83, 89, 97].map V.int)
  g_MOST_PLACES : ∃ t, mg "MOST_PLACES" = some (.int 25 t)
  g_PLAIN_X : ∃ a, mg "PLAIN_X" = some (.ref a) ∧ ∀ H, SqT K H a ([0, 1].map V.int)
end KW
end

section
set_option Elab.async false
set_option linter.all false
set_option maxRecDepth 100000
set_option maxHeartbeats 4000000
namespace KW
open PySem PySem.Spec PyProof.Rows L2
/-! ### places and slices -/
theorem at_neg1 {xs : List V} {v : V} (h : xs[xs.length - 1]? = some v) : atI xs (-1) = some v := by
  have hl := (List.getElem?_eq_some_iff.mp h).1
  have e : ixN xs.length (-1) = some (xs.length - 1) := by
    unfold ixN
    rw [if_neg (by decide), if_pos (by omega)]
    congr 1; omega
  unfold atI
  rw [e]; exact h
theorem ixN_nat {n j : Nat} (h : j < n) : ixN n (j : Int) = some j := by
  unfold ixN
  rw [if_pos (by omega), if_pos (by omega)]; simp
theorem ixN_of {n j : Nat} {z : Int} (e : z = (j : Int)) (h : j < n) : ixN n z = some j := by rw [e]; exact ixN_nat h
theorem cutV_take (xs : List V) (k : Nat) : cutV xs none (some (k : Int)) = xs.take k := by
  unfold cutV
  rw [HT.sIx_nat, HT.sIx_none, List.drop_zero, Nat.sub_zero, List.take_eq_take_iff]; omega
theorem cutV_drop (xs : List V) (k : Nat) : cutV xs (some (k : Int)) none = xs.drop k := by
  unfold cutV
  rw [HT.sIx_nat, HT.sIx_none]
  by_cases h : k ≤ xs.length
  · rw [Nat.min_eq_left h, List.take_of_length_le (by simp)]
  · rw [Nat.min_eq_right (by omega), List.drop_of_length_le (Nat.le_refl _), List.drop_of_length_le (by omega)]; simp
theorem map_get {ns : List Int} {i : Nat} {n : Int} (h : ns[i]? = some n) : (ns.map V.int)[i]? = some (.int n) := by rw [List.getElem?_map, h]; rfl
theorem get_map {ns : List Int} {i : Nat} {v : V} (h : (ns.map V.int)[i]? = some v) : ∃ n, ns[i]? = some n ∧ v = .int n := by
  rw [List.getElem?_map] at h
  cases e : ns[i]? with
  | none => rw [e] at h; cases h
  | some n => rw [e] at h; exact ⟨n, rfl, (Option.some.inj h).symm⟩
theorem rep_flat (k : Nat) : (List.replicate k [V.int 0]).flatten = (List.replicate k (0 : Int)).map V.int := by
  induction k with
  | zero => rfl
  | succ k ih => rw [List.replicate_succ, List.flatten_cons, ih, List.replicate_succ]; rfl
/-! ### comprehensions -/
def But (D : Addr) (H H' : Hp) : Prop := ∀ a, a ≠ D → ∀ o, H a = some o → H' a = some o
theorem But.of {D : Addr} {H H' : Hp} (s : Same H H') : But D H H' := fun a _ o h => s a o h
theorem But.upd (D : Addr) (H : Hp) (o : HO) : But D H (upd H D o) := fun a ha u h => by rw [upd_ne ha]; exact h
theorem But.trans {D : Addr} {H H1 H2 : Hp} (a : But D H H1) (b : But D H1 H2) : But D H H2 := fun c hc o h => b c hc o (a c hc o h)
section
variable {J : It} {n : Nat} {G : Hp → Prop} {Y : Nat → Hp → V → Hp → Prop} {g : TG} {tt : TT} {te : TE} {vs : List Nat} {σ : L2.St} {H1 : Hp} {Qd : Addr → Hp → Prop}
/-- the new list's items stand in a relation to their turns -/
theorem lc_rel (w : Walk J n G Y) (Rl : Addr → Nat → V → Hp → Prop) (hn : n ≤ 50000) (hP : ∀ D i y H H', But D H H' → Tk H H' → Rl D i y H → Rl D i y H') (hG : ∀ H, Same H1 H → G H)
    (hs : ∀ D i x H H' (R : VK), i < n → Same H1 H → Y i H x H' → (∀ y H4, Same H H4 → Rl D i y H4 → R y H4) → g x (wipe σ vs) H' fun σ2 H2 => wipe σ2 vs = wipe σ vs ∧ te σ2 H2 R)
    (q : ∀ D H' ys, H1 D = none → Same H1 H' → ys.length = n → (∀ i y, ys[i]? = some y → Rl D i y H') → H' D = some (.lst ys) → Qd D H') :
    ∀ D, H1 D = none → ∃ W : Nat → Nat → Hp → Prop, (∃ m, W 0 m (upd H1 D (.lst []))) ∧ ∀ i m H, W i m H →
      (J.stop i H ∧ Qd D H) ∨ (J.go i H ∧ ∃ Nx : Hp → Prop, (∀ H', Nx H' → ∃ m', m' < m ∧ W (i + 1) m' H') ∧ ∀ x H', J.yld i H x H' → g x (wipe σ vs) H' fun σ2 H2 => wipe σ2 vs = wipe σ vs ∧ tYes σ2 H2 fun b H3 =>
        if b = true then te σ2 H3 fun y H4 => ∃ acc, H4 D = some (.lst acc) ∧ acc.length < sizeLine ∧ Nx (upd H4 D (.lst (acc ++ [y]))) else Nx H3) := by
  intro D hD
  refine lc_it w (fun i H => Same H1 H ∧ ∃ ys, H D = some (.lst ys) ∧ ys.length = i ∧ ∀ j y, ys[j]? = some y → Rl D j y H) ⟨same_upd hD, [], upd_same, rfl, fun j y h => by simp at h⟩ (fun i H _ h => hG H h.1) (fun i x H H' hi h y => ?_) (fun H h => ?_)
  · obtain ⟨s1, ys, hys, hl, hr⟩ := h
    refine hs D i x H H' _ hi s1 y fun z H4 s4 hz => ⟨ys, s4 _ _ hys, line_lt (by omega), same_mut (s1.trans s4) hD, ys ++ [z], upd_same, by simp [hl], fun j u hu => ?_⟩
    refine hP D j u H4 _ (But.upd D H4 _) (tk_lst (s4 _ _ hys)) ?_
    by_cases hj : j < ys.length
    · rw [List.getElem?_append_left hj] at hu
      exact hP D j u H H4 (But.of s4) (Same.tk s4) (hr j u hu)
    · rw [List.getElem?_append_right (by omega)] at hu
      have hj2 : j - ys.length = 0 := by
        have := (List.getElem?_eq_some_iff.mp hu).1
        simp at this; omega
      rw [hj2] at hu
      have e : z = u := Option.some.inj hu
      have e2 : j = i := by omega
      rw [← e, e2]; exact hz
  · obtain ⟨s1, ys, hys, hl, hr⟩ := h
    exact q D H ys hD s1 hl hr hys
/-- the new list's items are told by their turns -/
theorem lc_fn (w : Walk J n G Y) (F : Nat → V) (hn : n ≤ 50000) (hG : ∀ H, Same H1 H → G H)
    (hs : ∀ i x H H' (R : VK), i < n → Same H1 H → Y i H x H' → (∀ H4, Same H H4 → R (F i) H4) → g x (wipe σ vs) H' fun σ2 H2 => wipe σ2 vs = wipe σ vs ∧ te σ2 H2 R)
    (q : ∀ D H', H1 D = none → Same H1 H' → H' D = some (.lst ((List.range n).map F)) → Qd D H') :
    ∀ D, H1 D = none → ∃ W : Nat → Nat → Hp → Prop, (∃ m, W 0 m (upd H1 D (.lst []))) ∧ ∀ i m H, W i m H →
      (J.stop i H ∧ Qd D H) ∨ (J.go i H ∧ ∃ Nx : Hp → Prop, (∀ H', Nx H' → ∃ m', m' < m ∧ W (i + 1) m' H') ∧ ∀ x H', J.yld i H x H' → g x (wipe σ vs) H' fun σ2 H2 => wipe σ2 vs = wipe σ vs ∧ tYes σ2 H2 fun b H3 =>
        if b = true then te σ2 H3 fun y H4 => ∃ acc, H4 D = some (.lst acc) ∧ acc.length < sizeLine ∧ Nx (upd H4 D (.lst (acc ++ [y]))) else Nx H3) := by
  refine lc_rel w (fun _ i y _ => y = F i) hn (fun _ _ _ _ _ _ _ h => h) hG (fun D i x H H' R hi s y hR => hs i x H H' R hi s y fun H4 s4 => hR _ H4 s4 rfl) fun D H' ys hD s hl hr hys => q D H' hD s ?_
  rw [hys]
  congr 2
  apply List.ext_getElem?
  intro i
  by_cases hi : i < n
  · rw [List.getElem?_eq_getElem (by omega), hr i _ (List.getElem?_eq_getElem (by omega))]
    simp [hi]
  · rw [List.getElem?_eq_none (by omega), List.getElem?_eq_none (by simp; omega)]
/-- with a test -/
theorem lc_flt (w : Walk J n G Y) (f : Nat → Bool) (F : Nat → V) (hn : n ≤ 50000) (hG : ∀ H, Same H1 H → G H)
    (hs : ∀ i x H H' (R : VK) (R' : Hp → Prop), i < n → Same H1 H → Y i H x H' → (f i = true → ∀ H4, Same H H4 → R (F i) H4) → (f i = false → ∀ H4, Same H H4 → R' H4) →
      g x (wipe σ vs) H' fun σ2 H2 => wipe σ2 vs = wipe σ vs ∧ tt σ2 H2 fun b H3 => if b = true then te σ2 H3 R else R' H3)
    (q : ∀ D H', H1 D = none → Same H1 H' → H' D = some (.lst (((List.range n).filter f).map F)) → Qd D H') :
    ∀ D, H1 D = none → ∃ W : Nat → Nat → Hp → Prop, (∃ m, W 0 m (upd H1 D (.lst []))) ∧ ∀ i m H, W i m H →
      (J.stop i H ∧ Qd D H) ∨ (J.go i H ∧ ∃ Nx : Hp → Prop, (∀ H', Nx H' → ∃ m', m' < m ∧ W (i + 1) m' H') ∧ ∀ x H', J.yld i H x H' → g x (wipe σ vs) H' fun σ2 H2 => wipe σ2 vs = wipe σ vs ∧ tt σ2 H2 fun b H3 =>
        if b = true then te σ2 H3 fun y H4 => ∃ acc, H4 D = some (.lst acc) ∧ acc.length < sizeLine ∧ Nx (upd H4 D (.lst (acc ++ [y]))) else Nx H3) := by
  intro D hD
  refine lc_it w (fun i H => Same H1 H ∧ H D = some (.lst (((List.range i).filter f).map F))) ⟨same_upd hD, upd_same⟩ (fun i H _ h => hG H h.1) (fun i x H H' hi h y => ?_) (fun H h => q D H hD h.1 h.2)
  obtain ⟨s1, hys⟩ := h
  have hlen : (((List.range i).filter f).map F).length ≤ i := by
    rw [List.length_map]
    have h := List.length_filter_le f (List.range i)
    rw [List.length_range] at h
    exact h
  refine hs i x H H' _ _ hi s1 y (fun hf H4 s4 => ⟨_, s4 _ _ hys, line_lt (by omega), same_mut (s1.trans s4) hD, ?_⟩) (fun hf H4 s4 => ⟨s1.trans s4, ?_⟩)
  · rw [upd_same, List.range_succ, List.filter_append, List.map_append, List.filter_cons_of_pos hf]; rfl
  · rw [List.range_succ, List.filter_append, List.map_append, List.filter_cons_of_neg (by rw [hf]; decide)]
    show H4 D = some (.lst (_ ++ []))
    rw [List.append_nil]; exact s4 _ _ hys
end
end KW
end

section
set_option Elab.async false
set_option linter.all false
set_option maxRecDepth 100000
set_option maxHeartbeats 4000000
namespace KW
open PySem PySem.Spec PyProof.Rows L2
/-! ### data of ints, lists and tuples -/
mutual
def plain : PyData → Bool
  | .int _ => true
  | .list xs => plainAll xs
  | .tuple xs => plainAll xs
  | _ => false
def plainAll : List PyData → Bool
  | [] => true
  | x :: xs => plain x && plainAll xs
end
mutual
theorem canLay_plain : ∀ d : PyData, plain d = true → d.canLay0 = true
  | .none, h => by simp [plain] at h
  | .bool _, h => by simp [plain] at h
  | .int _, _ => by simp only [PyData.canLay0]
  | .str _, h => by simp [plain] at h
  | .list xs, h => by simp only [PyData.canLay0]; exact canLay_plainAll xs (by simpa [plain] using h)
  | .tuple xs, h => by simp only [PyData.canLay0]; exact canLay_plainAll xs (by simpa [plain] using h)
  | .dict _, h => by simp [plain] at h
theorem canLay_plainAll : ∀ ds : List PyData, plainAll ds = true → PyData.canLayAll0 ds = true
  | [], _ => by simp only [PyData.canLayAll0]
  | x :: xs, h => by
    simp only [plainAll, Bool.and_eq_true] at h
    simp only [PyData.canLayAll0, Bool.and_eq_true]
    exact ⟨canLay_plain x h.1, canLay_plainAll xs h.2⟩
end
mutual
theorem eqv_plain : ∀ d e : PyData, plain d = true → plain e = true → (PyData.eqv d e = true ↔ d = e)
  | .int i, .int j, _, _ => by simp [PyData.eqv]
  | .list xs, .list ys, h, k => by
    have := eqv_plainAll xs ys (by simpa [plain] using h) (by simpa [plain] using k)
    simp [PyData.eqv, this]
  | .tuple xs, .tuple ys, h, k => by
    have := eqv_plainAll xs ys (by simpa [plain] using h) (by simpa [plain] using k)
    simp [PyData.eqv, this]
  | .int _, .list _, _, _ => by simp [PyData.eqv]
  | .int _, .tuple _, _, _ => by simp [PyData.eqv]
  | .list _, .int _, _, _ => by simp [PyData.eqv]
  | .list _, .tuple _, _, _ => by simp [PyData.eqv]
  | .tuple _, .int _, _, _ => by simp [PyData.eqv]
  | .tuple _, .list _, _, _ => by simp [PyData.eqv]
  | .none, _, h, _ => by simp [plain] at h
  | .bool _, _, h, _ => by simp [plain] at h
  | .str _, _, h, _ => by simp [plain] at h
  | .dict _, _, h, _ => by simp [plain] at h
  | _, .none, _, h => by simp [plain] at h
  | _, .bool _, _, h => by simp [plain] at h
  | _, .str _, _, h => by simp [plain] at h
  | _, .dict _, _, h => by simp [plain] at h
theorem eqv_plainAll : ∀ ds es : List PyData, plainAll ds = true → plainAll es = true → (PyData.eqvAll ds es = true ↔ ds = es)
  | [], [], _, _ => by simp [PyData.eqvAll]
  | x :: xs, y :: ys, h, k => by
    simp only [plainAll, Bool.and_eq_true] at h k
    have h1 := eqv_plain x y h.1 k.1
    have h2 := eqv_plainAll xs ys h.2 k.2
    simp [PyData.eqvAll, h1, h2]
  | [], _ :: _, _, _ => by simp [PyData.eqvAll]
  | _ :: _, [], _, _ => by simp [PyData.eqvAll]
end
theorem shaped_plain {d : PyData} (h : plain d = true) (hd : d.depth ≤ 64) : SeqAt.shaped d = true := by
  unfold SeqAt.shaped
  rw [canLay_plain d h, decide_eq_true hd]; rfl
/-- a tuple of ints as data -/
def dT (ns : List Int) : PyData := .tuple (ns.map .int)
theorem plain_ints : ∀ ns : List Int, plainAll (ns.map PyData.int) = true
  | [] => rfl
  | n :: ns => by show (true && plainAll (ns.map PyData.int)) = true; rw [plain_ints ns]; rfl
theorem depth_ints : ∀ ns : List Int, PyData.depthAll (ns.map PyData.int) = 0
  | [] => by simp [PyData.depthAll]
  | n :: ns => by
    rw [List.map_cons]
    simp only [PyData.depthAll, PyData.depth, depth_ints ns]; rfl
theorem plain_dT (ns : List Int) : plain (dT ns) = true := by unfold dT plain; exact plain_ints ns
theorem depth_dT (ns : List Int) : (dT ns).depth = 1 := by unfold dT; simp only [PyData.depth, depth_ints]
theorem shaped_dT (ns : List Int) : SeqAt.shaped (dT ns) = true := shaped_plain (plain_dT ns) (by rw [depth_dT]; decide)
theorem ints_inj : ∀ {ns ms : List Int}, ns.map PyData.int = ms.map PyData.int → ns = ms
  | [], [], _ => rfl
  | n :: ns, m :: ms, h => by
    rw [List.map_cons, List.map_cons] at h
    injection h with h1 h2
    injection h1 with h1
    rw [h1, ints_inj h2]
  | [], _ :: _, h => by cases h
  | _ :: _, [], h => by cases h
theorem dT_inj {ns ms : List Int} (h : dT ns = dT ms) : ns = ms := by
  unfold dT at h
  injection h with h
  exact ints_inj h
theorem eqv_dT (ns ms : List Int) : PyData.eqv (dT ns) (dT ms) = decide (ns = ms) := by
  have h := eqv_plain (dT ns) (dT ms) (plain_dT ns) (plain_dT ms)
  by_cases e : ns = ms
  · rw [decide_eq_true e, h, e]
  · rw [decide_eq_false e]
    cases q : PyData.eqv (dT ns) (dT ms) with
    | false => rfl
    | true => exact absurd (dT_inj (h.mp q)) e
theorem dpAll_ints {K : PySem.W.Frag} {H : Hp} : ∀ ns : List Int, DpAll K H (ns.map V.int) (ns.map PyData.int)
  | [] => .nil
  | n :: ns => .cons (.int n) (dpAll_ints ns)
theorem dp_T {K : PySem.W.Frag} {H : Hp} {a : Addr} {ns : List Int} (h : SqT K H a (ns.map V.int)) : Dp K H (.ref a) (dT ns) := .tup h (dpAll_ints ns)
theorem TI.dp {K : PySem.W.Frag} {H : Hp} {v : V} {ns : List Int} (h : TI K H v ns) : Dp K H v (dT ns) := by
  obtain ⟨a, rfl, q⟩ := h
  exact dp_T q
end KW
end

section
set_option Elab.async false
set_option linter.all false
set_option maxRecDepth 100000
set_option maxHeartbeats 4000000
namespace KW
open PySem PySem.Spec PyProof.Rows L2 K10
section
variable {P : Program} {w : World} {K : PySem.W.Frag} {mg : Str → Option Value} {base : Heap}
def spIsPrime : Sp := fun vs H Q _ => ∃ (p : Nat), Pr p ∧ vs = [.int p] ∧ Q (.bl true) H
theorem inV_primes {p : Nat} (h : p ∈ primes) : inV (.int p) (([2, 3, 5, 7, 11, 13, 17, 19, 23, 29, 31, 37, 41, 43, 47, 53, 59, 61, 67, 71, 73, 79, 83, 89, 97] : List Int).map V.int) = true := by
  have : ∀ q ∈ primes, inV (.int (q : Int)) (([2, 3, 5, 7, 11, 13, 17, 19, 23, 29, 31, 37, 41, 43, 47, 53, 59, 61, 67, 71, 73, 79, 83, 89, 97] : List Int).map V.int) = true := by decide +kernel
  exact this p h
theorem ok_is_prime (T : Txt K mg) : DefOk P w K mg base "is_prime" 1 ["number"] spIsPrime := by
  refine def_ok T.d_is_prime sc_is_prime (fun _ _ _ _ _ _ us hl => match us, hl with | [_], _ => rfl) (fun vs H Q E h => ?_) (fun f cdv A outer s H vs Q E hr h => ?_)
  · obtain ⟨p, _, rfl, _⟩ := h; rfl
  · obtain ⟨p, hp, rfl, q⟩ := h
    obtain ⟨a_PRIMES, g_PRIMES, hP⟩ := T.g_PRIMES
    refine ⟨_, (pss_one (ps_ret (pe_cmpR op_in_seq (pv 0) (pe_glob (v := .ref a_PRIMES) rfl g_PRIMES rfl) rfl))), ?_⟩
    refine ⟨_, rfl, _, _, rfl, .inr (hP H), rfl, by decide +kernel, ?_⟩
    rw [inV_primes hp.mem]; exact q
def spNeedPrime : Sp := fun vs H Q _ => ∃ (p : Nat), Pr p ∧ vs = [.int p] ∧ Q .non H
theorem ok_need_prime (T : Txt K mg) : DefOk P w K mg base "need_prime" 2 ["prime"] spNeedPrime := by
  have d_is_prime := ok_is_prime (P := P) (w := w) (base := base) T
  refine def_ok T.d_need_prime sc_need_prime (fun _ _ _ _ _ _ us hl => match us, hl with | [_], _ => rfl) (fun vs H Q E h => ?_) (fun f cdv A outer s H vs Q E hr h => ?_)
  · obtain ⟨p, _, rfl, _⟩ := h; rfl
  · obtain ⟨p, hp, rfl, q⟩ := h
    refine ⟨_, (pss_one (ps_if (pt_not (pt_val (pcall d_is_prime hr rfl (pa_cons (pv 0) pa_nil))))
        (pss_one ps_never)
        pss_nil)), ?_⟩
    exact ⟨_, rfl, p, hp, rfl, true, rfl, iteF q⟩
def spIsRest : Sp := fun vs H Q _ => ∃ n m : Int, vs = [.int n, .int m] ∧ 0 ≤ n ∧ n < m ∧ Q (.bl true) H
theorem ok_is_rest (T : Txt K mg) : DefOk P w K mg base "is_rest" 1 ["number", "prime"] spIsRest := by
  refine def_ok T.d_is_rest sc_is_rest (fun _ _ _ _ _ _ us hl => match us, hl with | [_, _], _ => rfl) (fun vs H Q E h => ?_) (fun f cdv A outer s H vs Q E hr h => ?_)
  · obtain ⟨n, m, rfl, _⟩ := h; rfl
  · obtain ⟨n, m, rfl, h0, h1, q⟩ := h
    refine ⟨_, (pss_one (ps_ret (pe_chain op_le op_lt pe_int (pv 0) (pv 1)))), ?_⟩
    refine ⟨_, rfl, _, _, rfl, rfl, _, rfl, ?_⟩
    rw [decide_eq_true h0]
    refine iteT ?_
    refine ⟨_, rfl, _, _, rfl, rfl, ?_⟩
    show Q (.bl (decide (n < m))) H
    rw [decide_eq_true h1]; exact q
/-- number ^ exponent, what is left by prime -/
def spRaised : Sp := fun vs H Q _ => ∃ (n : Nat) (e : Nat) (p : Nat), 2 ≤ p ∧ p ≤ 100 ∧ n < p ∧ vs = [.int n, .int e, .int p] ∧ Q (.int ((n ^ e % p : Nat) : Int)) H
theorem raised_step {f b e p : Nat} : (f * b % p) * (b * b % p) ^ (e / 2) % p = f * b ^ (2 * (e / 2) + 1) % p := by
  rw [Nat.mul_mod, Nat.mod_mod, Nat.pow_mod (b * b % p), Nat.mod_mod, ← Nat.pow_mod, ← Nat.mul_mod]
  congr 1
  rw [Nat.pow_succ, Nat.pow_mul, Nat.pow_two, Nat.mul_assoc, Nat.mul_comm b]
theorem raised_step0 {f b e p : Nat} : f * (b * b % p) ^ (e / 2) % p = f * b ^ (2 * (e / 2)) % p := by
  rw [Nat.mul_mod, Nat.pow_mod (b * b % p), Nat.mod_mod, ← Nat.pow_mod, ← Nat.mul_mod]
  congr 1
  rw [Nat.pow_mul, Nat.pow_two]
theorem ok_raised (T : Txt K mg) : DefOk P w K mg base "raised" 1 ["number", "exponent", "prime"] spRaised := by
  refine def_ok T.d_raised sc_raised (fun _ _ _ _ _ _ us hl => match us, hl with | [_, _, _], _ => rfl) (fun vs H Q E h => ?_) (fun f cdv A outer s H vs Q E hr h => ?_)
  · obtain ⟨n, e, p, _, _, _, rfl, _⟩ := h; rfl
  · obtain ⟨n, e, p, h2, h100, hn, rfl, q⟩ := h
    refine ⟨_, (pss_cons (ps_set (i := 3) sc_raised.nd rfl (Or.inl rfl) pe_int)
      (pss_cons (ps_set (i := 4) sc_raised.nd rfl (Or.inl rfl) (pv 0))
      (pss_cons (ps_while PassesOwn.never (pt_cmpR op_gt (pv 1) pe_int (nomark _))
        (pss_cons (ps_if (pt_cmpR op_eq (pe_op op_mod (pv 1) pe_int) pe_int (nomark _))
          (pss_one (ps_set (i := 3) sc_raised.nd rfl (Or.inl rfl) (pe_op op_mod (pe_op op_mul (pv 3) (pv 4)) (pv 2))))
          pss_nil)
        (pss_cons (ps_set (i := 4) sc_raised.nd rfl (Or.inl rfl) (pe_op op_mod (pe_op op_mul (pv 4) (pv 4)) (pv 2)))
        (pss_one (ps_aug (i := 1) sc_raised.nd rfl (Or.inl rfl) pe_int iop_fdiv)))))
      (pss_one (ps_ret (pv 3)))))), ?_⟩
    -- found = 1; base = number
    refine ⟨_, rfl, ?_⟩
    -- while
    refine ⟨fun m σ H' => ∃ (fo b : Nat), H' = H ∧ σ = [some (.int n), some (.int (m : Int)), some (.int p), some (.int (fo : Int)), some (.int (b : Int))] ∧ fo < p ∧ b < p ∧ fo * b ^ m % p = n ^ e % p,
      ⟨e, 1, n, rfl, rfl, by omega, hn, by rw [Nat.one_mul]⟩, fun m σ H' hW => ?_⟩
    obtain ⟨fo, b, rfl, rfl, hf, hb, hinv⟩ := hW
    refine ⟨_, rfl, _, _, rfl, rfl, _, rfl, ?_⟩
    by_cases hm : 0 < m
    · rw [decide_eq_true (show (0 : Int) < (m : Int) by omega)]
      refine ⟨_, fun σ' H' z => ⟨m / 2, by omega, z⟩, ?_⟩
      have bb : (b : Int) * b % (p : Int) = ((b * b % p : Nat) : Int) := by simp
      refine ⟨_, rfl, _, _, rfl, rfl, by show (0 : Int) < 2; decide, rfl, _, rfl, ?_⟩
      refine ite2 (fun hodd => ?_) (fun hev => ?_)
      · have hodd : (m : Int) % 2 = 1 := V.int.inj (of_decide_eq_true hodd)
        have hm2 : m = 2 * (m / 2) + 1 := by omega
        refine ⟨_, rfl, _, rfl, _, _, rfl, rfl, .inl ⟨by omega, by omega⟩, _, rfl, _, _, rfl, rfl, by show (0 : Int) < (p : Int); omega, ?_⟩
        refine ⟨_, rfl, _, rfl, _, _, rfl, rfl, .inl ⟨by omega, by omega⟩, _, rfl, _, _, rfl, rfl, by show (0 : Int) < (p : Int); omega, ?_⟩
        refine ⟨_, rfl, _, _, rfl, rfl, ⟨by decide, by decide⟩, fo * b % p, b * b % p, rfl, ?_, Nat.mod_lt _ (by omega), Nat.mod_lt _ (by omega), ?_⟩
        · simp [List.set]
        · rw [raised_step, ← hm2]; exact hinv
      · have hev : (m : Int) % 2 = 0 := by
          have : ¬ (m : Int) % 2 = 1 := fun z => hev (decide_eq_true (congrArg V.int z))
          omega
        have hm2 : m = 2 * (m / 2) := by omega
        refine ⟨_, rfl, _, rfl, _, _, rfl, rfl, .inl ⟨by omega, by omega⟩, _, rfl, _, _, rfl, rfl, by show (0 : Int) < (p : Int); omega, ?_⟩
        refine ⟨_, rfl, _, _, rfl, rfl, ⟨by decide, by decide⟩, fo, b * b % p, rfl, ?_, hf, Nat.mod_lt _ (by omega), ?_⟩
        · simp [List.set]
        · rw [raised_step0, ← hm2]; exact hinv
    · rw [decide_eq_false (show ¬ (0 : Int) < (m : Int) by omega)]
      have : m = 0 := by omega
      subst this
      refine ⟨_, rfl, ?_⟩
      rw [Nat.pow_zero, Nat.mul_one, Nat.mod_eq_of_lt hf] at hinv
      rw [hinv]; exact q
def spTurned : Sp := fun vs H Q _ => ∃ (p : Nat) (_ : Pr p) (a : Int), 0 < a ∧ a < p ∧ vs = [.int a, .int p] ∧ ∀ b : Int, 0 ≤ b → b < p → zc p b * zc p a = 1 → Q (.int b) H
theorem ok_turned_over (T : Txt K mg) : DefOk P w K mg base "turned_over" 2 ["number", "prime"] spTurned := by
  have d_raised := ok_raised (P := P) (w := w) (base := base) T
  refine def_ok T.d_turned_over sc_turned_over (fun _ _ _ _ _ _ us hl => match us, hl with | [_, _], _ => rfl) (fun vs H Q E h => ?_) (fun f cdv A outer s H vs Q E hr h => ?_)
  · obtain ⟨p, _, a, _, _, rfl, _⟩ := h; rfl
  · obtain ⟨p, hp, a, h0, h1, rfl, q⟩ := h
    have h2 := Pr.two p
    have h97 := Pr.le p
    refine ⟨_, (pss_one (ps_ret (pcall d_raised hr rfl (pa_cons (pv 0) (pa_cons (pe_op op_sub (pv 1) pe_int) (pa_cons (pv 1) pa_nil)))))), ?_⟩
    refine ⟨_, rfl, _, rfl, _, _, rfl, rfl, _, rfl, a.toNat, p - 2, p, h2, by omega, by omega, ?_, ?_⟩
    · rw [Int.toNat_of_nonneg (by omega), Int.natCast_sub (by omega)]; rfl
    · have hlt : a.toNat ^ (p - 2) % p < p := Nat.mod_lt _ (by omega)
      refine q _ (by omega) (by omega) ?_
      have e1 : zc p a = (⟨a.toNat, by omega⟩ : Fin p) := by
        apply fin_int_ext; rw [zc_val, Int.emod_eq_of_lt (by omega) h1]; simp; omega
      have e2 : zc p ((a.toNat ^ (p - 2) % p : Nat) : Int) = (⟨a.toNat, by omega⟩ : Fin p) ^ (p - 2) := by
        apply Fin.ext
        rw [fin_pow_val]
        show _ = a.toNat ^ (p - 2) % p
        have := zc_val (p := p) ((a.toNat ^ (p - 2) % p : Nat) : Int)
        rw [Int.emod_eq_of_lt (by omega) (by omega)] at this
        omega
      rw [e2, e1]
      exact fin_inv fun z => by
        have := congrArg Fin.val z
        have e0 : (0 : Fin p).val = 0 % p := rfl
        simp [e0] at this
        omega
end
end KW
end

section
set_option Elab.async false
set_option linter.all false
set_option maxRecDepth 100000
set_option maxHeartbeats 4000000
namespace KW
open PySem PySem.Spec PyProof.Rows L2 K10 K10.Po
/-- the value at H is the tuple of the polynomial -/
def Rp {p : Nat} [Pr p] (K : PySem.W.Frag) (H : Hp) (v : V) (f : Po p) : Prop := TI K H v (lst f)
/-- .. and it is a tuple that is tracked -/
def Rs {p : Nat} [Pr p] (H : Hp) (v : V) (f : Po p) : Prop := ∃ a, v = .ref a ∧ H a = some (.tup ((lst f).map V.int))
theorem Rs.w {p : Nat} [Pr p] {K : PySem.W.Frag} {H : Hp} {v : V} {f : Po p} (h : Rs H v f) : Rp K H v f := let ⟨a, e, q⟩ := h; ⟨a, e, .inl (.inl q)⟩
theorem Rs.tk {p : Nat} [Pr p] {H H' : Hp} {v : V} {f : Po p} (h : Rs H v f) (e : Tk H H') : Rs H' v f := let ⟨a, r, q⟩ := h; ⟨a, r, (e a).1 _ q⟩
theorem Rs.same {p : Nat} [Pr p] {H H' : Hp} {v : V} {f : Po p} (h : Rs H v f) (e : Same H H') : Rs H' v f := h.tk (Same.tk e)
section
variable {P : Program} {w : World} {K : PySem.W.Frag} {mg : Str → Option Value} {base : Heap}
theorem Rp.tk {p : Nat} [Pr p] {H H' : Hp} {v : V} {f : Po p} (h : Rp K H v f) (e : Tk H H') : Rp K H' v f := TI.tk h e
theorem Rp.same {p : Nat} [Pr p] {H H' : Hp} {v : V} {f : Po p} (h : Rp K H v f) (e : Same H H') : Rp K H' v f := TI.same h e
def spCutL : Sp := fun vs H Q _ => ∃ (p : Nat) (_ : Pr p) (v : V) (ns : List Int), vs = [v] ∧ LI K H v ns ∧ Rests p ns ∧ ns.length ≤ 90000 ∧ ∀ H' v', Same H H' → Rs H' v' (pol p ns) → Q v' H'
def spCutT : Sp := fun vs H Q _ => ∃ (p : Nat) (_ : Pr p) (v : V) (ns : List Int), vs = [v] ∧ TI K H v ns ∧ Rests p ns ∧ ns.length ≤ 90000 ∧ ∀ H' v', Same H H' → Rp K H' v' (pol p ns) → Q v' H'
theorem ok_cut (T : Txt K mg) : DefOk P w K mg base "cut" 1 ["numbers"] (spCutL (K := K)) := by
  refine def_ok T.d_cut sc_cut (fun _ _ _ _ _ _ us hl => match us, hl with | [_], _ => rfl) (fun vs H Q E h => ?_) (fun f cdv A outer s H vs Q E hr h => ?_)
  · obtain ⟨p, _, v, ns, rfl, _⟩ := h; rfl
  · obtain ⟨p, hp, v, ns, rfl, ⟨a, rfl, hS⟩, hR, hL, q⟩ := h
    refine ⟨_, (pss_cons (ps_set (i := 1) sc_cut.nd rfl (Or.inl rfl) (pe_callB call_len_seq (by rfl) T.n_len (by decide +kernel) (pa_cons (pv 0) pa_nil)))
      (pss_cons (ps_while PassesOwn.never (PW.pt (pw_and (pt_cmpR op_gt (pv 1) pe_int (nomark _)) (pw_and1 (pt_cmpR op_eq (pe_ix ix_list (pv 0) (pe_op op_sub (pv 1) pe_int) (fun _ _ => rfl)) pe_int (nomark _)))))
        (pss_one (ps_aug (i := 1) sc_cut.nd rfl (Or.inl rfl) pe_int ip_sub)))
      (pss_one (ps_ret (pe_callTy call_tuple_of (by rfl) T.n_tuple (by decide +kernel) (pa_cons (pe_slice sl_list (pv 0) po_none (po_some (pv 1))) pa_nil)))))), ?_⟩
    refine ⟨_, rfl, a, _, rfl, .inl hS, ?_⟩
    refine ⟨fun m σ H' => H' = H ∧ σ = [some (.ref a), some (.int (m : Int))] ∧ m ≤ ns.length ∧ ∀ i, m ≤ i → ns.getD i 0 = 0,
      ⟨ns.length, rfl, by rw [List.length_map]; rfl, Nat.le_refl _, fun i hi => by rw [List.getD_eq_getElem?_getD, List.getElem?_eq_none hi]; rfl⟩, fun m σ H' hW => ?_⟩
    obtain ⟨rfl, rfl, hm, hz⟩ := hW
    -- the end
    have fin : (m = 0 ∨ ns.getD (m - 1) 0 ≠ 0) → tRet (tCB (fun xs H Q => ∃ p ys, xs = [.ref p] ∧ ((SqL K H p ys ∧ ∀ l, H l = none → Q (.ref l) (upd H l (.tup ys))) ∨ (SqT K H p ys ∧ Q (.ref p) H))) (tCons (tSl (rSlL K) (tVar 0) tNoPart (tPart (tVar 1))) tNil)) { nx := fun _ H' => Q .non H', rt := Q } [some (.ref a), some (.int (m : Int))] H' := by
      intro ht
      refine ⟨_, rfl, _, rfl, (m : Int), rfl, a, _, rfl, hS, fun c nc => ?_⟩
      rw [cutV_take]
      refine ⟨c, _, rfl, .inl ⟨.inl (.inl upd_same), fun l nl => ?_⟩⟩
      refine q _ _ ((same_upd nc).trans (same_upd nl)) ⟨l, rfl, ?_⟩
      rw [upd_same, ← cut_lst hR hm hz ht, List.map_take]
    refine ⟨_, rfl, _, _, rfl, rfl, _, rfl, ?_⟩
    by_cases h0 : 0 < m
    · rw [decide_eq_true (show (0 : Int) < (m : Int) by omega)]
      refine iteT ?_
      obtain ⟨n, hn⟩ : ∃ n, ns[m - 1]? = some n := ⟨_, List.getElem?_eq_getElem (by omega)⟩
      refine ⟨_, rfl, _, rfl, _, _, rfl, rfl, a, _, _, _, rfl, rfl, hS, at_of (j := m - 1) (by omega) (map_get hn), rfl, _, rfl, ?_⟩
      have hd : ns.getD (m - 1) 0 = n := by rw [List.getD_eq_getElem?_getD, hn]; rfl
      by_cases hn0 : n = 0
      · rw [decide_eq_true (congrArg V.int hn0)]
        refine ⟨_, fun σ' H' z => ⟨m - 1, by omega, z⟩, ?_⟩
        refine ⟨_, rfl, _, _, rfl, rfl, rfl, ?_, by omega, fun i hi => ?_⟩
        · show [some (V.ref a), some (V.int ((m : Int) - 1))] = _
          congr 4; omega
        · by_cases hi2 : i = m - 1
          · rw [hi2, hd, hn0]
          · exact hz i (by omega)
      · rw [decide_eq_false (fun z => hn0 (V.int.inj z))]
        exact fin (.inr (by rw [hd]; exact hn0))
    · rw [decide_eq_false (show ¬ (0 : Int) < (m : Int) by omega)]
      exact iteF (fin (.inl (by omega)))
end
end KW
end

section
set_option Elab.async false
set_option linter.all false
set_option maxRecDepth 100000
set_option maxHeartbeats 4000000
namespace KW
open PySem PySem.Spec PyProof.Rows L2 K10 K10.Po
section
variable {P : Program} {w : World} {K : PySem.W.Frag} {mg : Str → Option Value} {base : Heap}
theorem ok_cutT (T : Txt K mg) : DefOk P w K mg base "cut" 1 ["numbers"] (spCutT (K := K)) := by
  refine def_ok T.d_cut sc_cut (fun _ _ _ _ _ _ us hl => match us, hl with | [_], _ => rfl) (fun vs H Q E h => ?_) (fun f cdv A outer s H vs Q E hr h => ?_)
  · obtain ⟨p, _, v, ns, rfl, _⟩ := h; rfl
  · obtain ⟨p, hp, v, ns, rfl, ⟨a, rfl, hS⟩, hR, hL, q⟩ := h
    refine ⟨_, (pss_cons (ps_set (i := 1) sc_cut.nd rfl (Or.inl rfl) (pe_callB call_len_seq (by rfl) T.n_len (by decide +kernel) (pa_cons (pv 0) pa_nil)))
      (pss_cons (ps_while PassesOwn.never (PW.pt (pw_and (pt_cmpR op_gt (pv 1) pe_int (nomark _)) (pw_and1 (pt_cmpR op_eq (pe_ix ix_tup (pv 0) (pe_op op_sub (pv 1) pe_int) (fun _ _ => rfl)) pe_int (nomark _)))))
        (pss_one (ps_aug (i := 1) sc_cut.nd rfl (Or.inl rfl) pe_int ip_sub)))
      (pss_one (ps_ret (pe_callTy call_tuple_of (by rfl) T.n_tuple (by decide +kernel) (pa_cons (pe_slice sl_tupA (pv 0) po_none (po_some (pv 1))) pa_nil)))))), ?_⟩
    refine ⟨_, rfl, a, _, rfl, .inr hS, ?_⟩
    refine ⟨fun m σ H' => H' = H ∧ σ = [some (.ref a), some (.int (m : Int))] ∧ m ≤ ns.length ∧ ∀ i, m ≤ i → ns.getD i 0 = 0,
      ⟨ns.length, rfl, by rw [List.length_map]; rfl, Nat.le_refl _, fun i hi => by rw [List.getD_eq_getElem?_getD, List.getElem?_eq_none hi]; rfl⟩, fun m σ H' hW => ?_⟩
    obtain ⟨rfl, rfl, hm, hz⟩ := hW
    -- the end
    have fin : (m = 0 ∨ ns.getD (m - 1) 0 ≠ 0) → tRet (tCB (fun xs H Q => ∃ p ys, xs = [.ref p] ∧ ((SqL K H p ys ∧ ∀ l, H l = none → Q (.ref l) (upd H l (.tup ys))) ∨ (SqT K H p ys ∧ Q (.ref p) H))) (tCons (tSl (rSlA K) (tVar 0) tNoPart (tPart (tVar 1))) tNil)) { nx := fun _ H' => Q .non H', rt := Q } [some (.ref a), some (.int (m : Int))] H' := by
      intro ht
      have hc := cut_lst hR hm hz ht
      refine ⟨_, rfl, _, rfl, (m : Int), rfl, a, _, rfl, hS, fun hw => ?_, fun hw c nc => ?_⟩
      · refine ⟨a, _, rfl, .inr ⟨hS, ?_⟩⟩
        refine q _ _ (Same.refl _) ⟨a, rfl, ?_⟩
        rw [← hc]
        have : min m (ns.map V.int).length = (ns.map V.int).length := by rw [← HT.sIx_nat _ (ns.map V.int).length]; exact hw.2
        rw [List.length_map] at this
        rw [List.take_of_length_le (by omega)]; exact hS
      · rw [cutV_take]
        refine ⟨c, _, rfl, .inr ⟨.inl (.inl upd_same), ?_⟩⟩
        refine q _ _ (same_upd nc) ⟨c, rfl, .inl (.inl ?_)⟩
        rw [upd_same, ← hc, List.map_take]
    refine ⟨_, rfl, _, _, rfl, rfl, _, rfl, ?_⟩
    by_cases h0 : 0 < m
    · rw [decide_eq_true (show (0 : Int) < (m : Int) by omega)]
      refine iteT ?_
      obtain ⟨n, hn⟩ : ∃ n, ns[m - 1]? = some n := ⟨_, List.getElem?_eq_getElem (by omega)⟩
      refine ⟨_, rfl, _, rfl, _, _, rfl, rfl, a, _, _, _, rfl, rfl, hS, at_of (j := m - 1) (by omega) (map_get hn), rfl, _, rfl, ?_⟩
      have hd : ns.getD (m - 1) 0 = n := by rw [List.getD_eq_getElem?_getD, hn]; rfl
      by_cases hn0 : n = 0
      · rw [decide_eq_true (congrArg V.int hn0)]
        refine ⟨_, fun σ' H' z => ⟨m - 1, by omega, z⟩, ?_⟩
        refine ⟨_, rfl, _, _, rfl, rfl, rfl, ?_, by omega, fun i hi => ?_⟩
        · show [some (V.ref a), some (V.int ((m : Int) - 1))] = _
          congr 4; omega
        · by_cases hi2 : i = m - 1
          · rw [hi2, hd, hn0]
          · exact hz i (by omega)
      · rw [decide_eq_false (fun z => hn0 (V.int.inj z))]
        exact fin (.inr (by rw [hd]; exact hn0))
    · rw [decide_eq_false (show ¬ (0 : Int) < (m : Int) by omega)]
      exact iteF (fin (.inl (by omega)))
/-- rests with noughts behind them -/
def spWidened : Sp := fun vs H Q _ => ∃ (v : V) (ns : List Int) (m : Nat), vs = [v, .int (m : Int)] ∧ TI K H v ns ∧ ns.length ≤ m ∧ m ≤ 50000 ∧
  ∀ H' a, Same H H' → H a = none → H' a = some (.lst ((ns ++ List.replicate (m - ns.length) 0).map V.int)) → Q (.ref a) H'
theorem ok_widened (T : Txt K mg) : DefOk P w K mg base "widened" 1 ["one", "many"] (spWidened (K := K)) := by
  refine def_ok T.d_widened sc_widened (fun _ _ _ _ _ _ us hl => match us, hl with | [_, _], _ => rfl) (fun vs H Q E h => ?_) (fun f cdv A outer s H vs Q E hr h => ?_)
  · obtain ⟨v, ns, m, rfl, _⟩ := h; rfl
  · obtain ⟨v, ns, m, rfl, ⟨a, rfl, hS⟩, hl, hm, q⟩ := h
    refine ⟨_, (pss_one (ps_ret (pe_op op_cat (pe_callTy call_list_of (by rfl) T.n_list (by decide +kernel) (pa_cons (pv 0) pa_nil)) (pe_op op_rep (pe_lst (pa_cons pe_int pa_nil)) (pe_op op_sub (pv 1) (pe_callB call_len_seq (by rfl) T.n_len (by decide +kernel) (pa_cons (pv 0) pa_nil))))))), ?_⟩
    refine ⟨_, rfl, a, _, rfl, .inr hS, fun l nl => ?_⟩
    refine ⟨line_of (by decide), fun z nz => ?_⟩
    have s1 := same_upd (o := .lst (ns.map V.int)) nl
    have s2 := same_upd (o := .lst [.int 0]) nz
    refine ⟨_, rfl, _, rfl, a, _, rfl, .inr (same_t (s1.trans s2) hS), _, _, rfl, rfl, z, _, _, rfl, rfl, upd_same, ?_, ?_, ?_, fun r nr => ?_⟩
    · rw [List.length_map]; omega
    · rw [List.length_map]; omega
    · rw [List.length_map]; show 1 * _ ≤ _; exact line_of (by omega)
    have e1 : ((m : Int) - ((ns.map V.int).length : Int)).toNat = m - ns.length := by rw [List.length_map]; omega
    rw [e1, rep_flat]
    have s3 := same_upd (o := .lst ((List.replicate (m - ns.length) (0 : Int)).map V.int)) nr
    refine ⟨l, r, _, _, rfl, rfl, s3 _ _ (s2 _ _ upd_same), upd_same, ?_, fun c nc => ?_⟩
    · rw [List.length_map, List.length_map, List.length_replicate]; exact line_of (by omega)
    · have s4 := same_upd (o := .lst (ns.map V.int ++ (List.replicate (m - ns.length) (0 : Int)).map V.int)) nc
      have s := ((s1.trans s2).trans s3)
      refine q _ _ (s.trans s4) (s.free nc) ?_
      rw [upd_same, List.map_append]
/-- one and so many times the other -/
def spBlended : Sp := fun vs H Q _ => ∃ (p : Nat) (_ : Pr p) (f g : Po p) (v u : V) (wt : Int), vs = [v, u, .int wt, .int p] ∧ Rp K H v f ∧ Rp K H u g ∧ 0 ≤ wt ∧ wt ≤ 100 ∧ f.sz ≤ 40000 ∧ g.sz ≤ 40000 ∧
  ∀ H' v', Same H H' → Rp K H' v' (f + C (zc p wt) * g) → Q v' H'
theorem wide_getD (ns : List Int) (m i : Nat) : (ns ++ List.replicate m 0).getD i 0 = ns.getD i 0 := by
  rw [List.getD_eq_getElem?_getD, List.getD_eq_getElem?_getD]
  by_cases h : i < ns.length
  · rw [List.getElem?_append_left h]
  · rw [List.getElem?_append_right (by omega), List.getElem?_eq_none (by omega : ns.length ≤ i), List.getElem?_replicate]
    split <;> rfl
theorem ok_blended (T : Txt K mg) : DefOk P w K mg base "blended" 2 ["one", "other", "weight", "prime"] (spBlended (K := K)) := by
  have d_cut := ok_cut (P := P) (w := w) (base := base) T
  have d_widened := ok_widened (P := P) (w := w) (base := base) T
  refine def_ok T.d_blended sc_blended (fun _ _ _ _ _ _ us hl => match us, hl with | [_, _, _, _], _ => rfl) (fun vs H Q E h => ?_) (fun f cdv A outer s H vs Q E hr h => ?_)
  · obtain ⟨p, _, f, g, v, u, wt, rfl, _⟩ := h; rfl
  · obtain ⟨p, hp, f, g, v, u, wt, rfl, ⟨a, rfl, hA⟩, ⟨b, rfl, hB⟩, hw0, hw1, hf, hg, q⟩ := h
    have h2 := Pr.two p
    refine ⟨_, (pss_cons (ps_set (i := 4) sc_blended.nd rfl (Or.inl rfl) (pe_callB (call_max2 rfl) (by rfl) T.n_max (by decide +kernel) (pa_cons (pe_callB call_len_seq (by rfl) T.n_len (by decide +kernel) (pa_cons (pv 0) pa_nil)) (pa_cons (pe_callB call_len_seq (by rfl) T.n_len (by decide +kernel) (pa_cons (pv 1) pa_nil)) pa_nil))))
      (pss_one (ps_ret (pcall d_cut hr rfl (pa_cons (pe_lc (own := [("a", 5), ("b", 6)]) (g := (gTup K 2 (gCons (gName 5) (gCons (gName 6) gNil)))) (tt := tYes) rfl sc_blended.nd (RZ.pi_zipA (by rfl) T.n_zip (pa_cons (pcall d_widened hr rfl (pa_cons (pv 0) (pa_cons (pv 4) pa_nil))) (pa_cons (pcall d_widened hr rfl (pa_cons (pv 1) (pa_cons (pv 4) pa_nil))) pa_nil))) (blkOk_by (N := ["one", "other", "weight", "prime", "many", "a", "b"]) (sc := defScope s_blended) (by decide +kernel)) (fun _ _ _ _ _ => (pg_tup rfl (pgs_cons (pg_name (i := 5) sc_blended.nd rfl (Or.inl rfl)) (pgs_cons (pg_name (i := 6) sc_blended.nd rfl (Or.inl rfl)) pgs_nil)))) (fun _ _ _ _ _ => pts_nil) (fun _ _ _ _ _ => (pe_op op_mod (pe_op op_add (pv 5) (pe_op op_mul (pv 2) (pv 6))) (pv 3)))) pa_nil))))), ?_⟩
    -- many
    have eM : (if (((lst g).map V.int).length : Int) > (((lst f).map V.int).length : Int) then (((lst g).map V.int).length : Int) else (((lst f).map V.int).length : Int)) = ((max f.sz g.sz : Nat) : Int) := by
      rw [List.length_map, List.length_map, lst_len, lst_len]
      split <;> omega
    refine ⟨_, rfl, a, _, rfl, .inr hA, _, rfl, b, _, rfl, .inr hB, _, _, rfl, ?_⟩
    rw [eM]
    generalize hm : max f.sz g.sz = m
    -- the two wide ones
    refine ⟨_, rfl, _, rfl, .ref a, lst f, m, rfl, ⟨a, rfl, hA⟩, by rw [lst_len]; omega, by omega, fun H1 l1 s1 n1 e1 => ?_⟩
    refine ⟨_, rfl, _, rfl, .ref b, lst g, m, rfl, ⟨b, rfl, same_t s1 hB⟩, by rw [lst_len]; omega, by omega, fun H2 l2 s2 n2 e2 => ?_⟩
    have e1' := s2 _ _ e1
    have len1 : ((lst f ++ List.replicate (m - (lst f).length) 0).map V.int).length = m := by simp [lst_len]; omega
    have len2 : ((lst g ++ List.replicate (m - (lst g).length) 0).map V.int).length = m := by simp [lst_len]; omega
    refine ⟨l1, l2, _, _, rfl, .inl ⟨.inl (.inl e1'), .inl (.inl e2), ?_⟩⟩
    refine lc_fn (walk_zip (n := m) (by rw [len1, len2]; omega)) (fun i => .int (((lst f).getD i 0 + wt * (lst g).getD i 0) % (p : Int))) (by omega) (fun H h => ⟨.inl (.inl (h _ _ e1')), .inl (.inl (h _ _ e2))⟩) (fun i x H3 H4 R hi s3 y hR => ?_) (fun D H3 nD s3 hD => ?_)
    · obtain ⟨T', x1, x2, rfl, nT, rfl, f1, f2⟩ := y
      obtain ⟨n1, g1, rfl⟩ := get_map f1
      obtain ⟨n2, g2, rfl⟩ := get_map f2
      have c1 : (lst f).getD i 0 = n1 := by rw [← wide_getD _ (m - (lst f).length), List.getD_eq_getElem?_getD, g1]; rfl
      have c2 : (lst g).getD i 0 = n2 := by rw [← wide_getD _ (m - (lst g).length), List.getD_eq_getElem?_getD, g2]; rfl
      refine ⟨T', [.int n1, .int n2], rfl, .inl (.inl upd_same), rfl, .int n1, [.int n2], rfl, .int n2, [], rfl, rfl, rfl, ?_⟩
      refine ⟨_, rfl, _, rfl, _, rfl, _, _, rfl, rfl, .inl ⟨by omega, by omega⟩, _, _, rfl, rfl, _, rfl, _, _, rfl, rfl, by show (0 : Int) < (p : Int); omega, ?_⟩
      have := hR _ (same_upd (o := .tup [.int n1, .int n2]) nT)
      rw [c1, c2] at this; exact this
    · have sall := (s1.trans s2).trans s3
      refine ⟨p, hp, _, (List.range m).map fun i => ((lst f).getD i 0 + wt * (lst g).getD i 0) % (p : Int), rfl, ⟨D, rfl, .inl (.inl (by rw [hD, List.map_map]; rfl))⟩, fun n hn => ?_, by simp; omega, fun H4 v' s4 r4 => ?_⟩
      · obtain ⟨i, _, rfl⟩ := List.mem_map.mp hn
        exact ⟨Int.emod_nonneg _ (by omega), Int.emod_lt_of_pos _ (by omega)⟩
      · refine q _ _ (sall.trans s4) ?_
        have e : pol p ((List.range m).map fun i => ((lst f).getD i 0 + wt * (lst g).getD i 0) % (p : Int)) = f + C (zc p wt) * g := by
          apply Po.ext; intro i
          rw [pol_ap, List.getD_eq_getElem?_getD, List.getElem?_map, add_ap, Cmul_ap]
          by_cases hi : i < m
          · rw [List.getElem?_range hi]
            show zc p (((lst f).getD i 0 + wt * (lst g).getD i 0) % (p : Int)) = _
            rw [zc_mod, zc_add, zc_mul, lst_getD, lst_getD, zc_fin, zc_fin]
          · rw [List.getElem?_eq_none (by simp; omega), sz_dg f i (by omega), sz_dg g i (by omega)]
            show zc p 0 = _
            rw [zc_zero]; grind
        rw [← e]; exact r4.w
def spLess : Sp := fun vs H Q _ => ∃ (p : Nat) (_ : Pr p) (f g : Po p) (v u : V), vs = [v, u, .int p] ∧ Rp K H v f ∧ Rp K H u g ∧ f.sz ≤ 40000 ∧ g.sz ≤ 40000 ∧
  ∀ H' v', Same H H' → Rp K H' v' (f - g) → Q v' H'
theorem ok_less (T : Txt K mg) : DefOk P w K mg base "less" 3 ["one", "other", "prime"] (spLess (K := K)) := by
  have d_blended := ok_blended (P := P) (w := w) (base := base) T
  refine def_ok T.d_less sc_less (fun _ _ _ _ _ _ us hl => match us, hl with | [_, _, _], _ => rfl) (fun vs H Q E h => ?_) (fun f cdv A outer s H vs Q E hr h => ?_)
  · obtain ⟨p, _, f, g, v, u, rfl, _⟩ := h; rfl
  · obtain ⟨p, hp, f, g, v, u, rfl, hA, hB, hf, hg, q⟩ := h
    have h2 := Pr.two p
    have h97 := Pr.le p
    refine ⟨_, (pss_one (ps_ret (pcall d_blended hr rfl (pa_cons (pv 0) (pa_cons (pv 1) (pa_cons (pe_op op_sub (pv 2) pe_int) (pa_cons (pv 2) pa_nil))))))), ?_⟩
    refine ⟨_, rfl, _, rfl, _, rfl, _, _, rfl, rfl, _, rfl, p, hp, f, g, v, u, (p : Int) - 1, rfl, hA, hB, by omega, by omega, hf, hg, fun H' v' s' r' => q _ _ s' ?_⟩
    have e : f + C (zc p ((p : Int) - 1)) * g = f - g := by rw [zc_sub, zc_p, zc_one, C_sub, C_zero, C_one]; grind
    rw [← e]; exact r'
def spScaled : Sp := fun vs H Q _ => ∃ (p : Nat) (_ : Pr p) (f : Po p) (v : V) (wt : Int), vs = [v, .int wt, .int p] ∧ Rp K H v f ∧ 0 ≤ wt ∧ wt ≤ 100 ∧ f.sz ≤ 40000 ∧
  ∀ H' v', Same H H' → Rs H' v' (C (zc p wt) * f) → Q v' H'
theorem ok_scaled (T : Txt K mg) : DefOk P w K mg base "scaled" 2 ["one", "weight", "prime"] (spScaled (K := K)) := by
  have d_cut := ok_cut (P := P) (w := w) (base := base) T
  refine def_ok T.d_scaled sc_scaled (fun _ _ _ _ _ _ us hl => match us, hl with | [_, _, _], _ => rfl) (fun vs H Q E h => ?_) (fun f cdv A outer s H vs Q E hr h => ?_)
  · obtain ⟨p, _, f, v, wt, rfl, _⟩ := h; rfl
  · obtain ⟨p, hp, f, v, wt, rfl, ⟨a, rfl, hA⟩, hw0, hw1, hf, q⟩ := h
    have h2 := Pr.two p
    refine ⟨_, (pss_one (ps_ret (pcall d_cut hr rfl (pa_cons (pe_lc (own := [("part", 3)]) (g := (gName 3)) (tt := tYes) rfl sc_scaled.nd (pi_tup (pv 0)) (blkOk_by (N := ["one", "weight", "prime", "part"]) (sc := defScope s_scaled) (by decide +kernel)) (fun _ _ _ _ _ => (pg_name (i := 3) sc_scaled.nd rfl (Or.inl rfl))) (fun _ _ _ _ _ => pts_nil) (fun _ _ _ _ _ => (pe_op op_mod (pe_op op_mul (pv 3) (pv 1)) (pv 2)))) pa_nil)))), ?_⟩
    refine ⟨_, rfl, a, rfl, ⟨_, hA⟩, ?_⟩
    refine lc_fn (walk_tup (xs := (lst f).map V.int)) (fun i => .int ((lst f).getD i 0 * wt % (p : Int))) (by rw [List.length_map, lst_len]; omega) (fun H h => same_t h hA) (fun i x H3 H4 R hi s3 y hR => ?_) (fun D H3 nD s3 hD => ?_)
    · obtain ⟨rfl, hx⟩ := y
      obtain ⟨n, g, rfl⟩ := get_map hx
      have c : (lst f).getD i 0 = n := by rw [List.getD_eq_getElem?_getD, g]; rfl
      refine ⟨rfl, _, rfl, _, rfl, _, _, rfl, rfl, .inr ⟨by omega, by omega⟩, _, rfl, _, _, rfl, rfl, by show (0 : Int) < (p : Int); omega, ?_⟩
      have := hR _ (Same.refl _)
      rw [c] at this; exact this
    · rw [List.length_map, lst_len] at hD
      refine ⟨p, hp, _, (List.range f.sz).map fun i => (lst f).getD i 0 * wt % (p : Int), rfl, ⟨D, rfl, .inl (.inl (by rw [hD, List.map_map]; rfl))⟩, fun n hn => ?_, by simp; omega, fun H4 v' s4 r4 => ?_⟩
      · obtain ⟨i, _, rfl⟩ := List.mem_map.mp hn
        exact ⟨Int.emod_nonneg _ (by omega), Int.emod_lt_of_pos _ (by omega)⟩
      · refine q _ _ (s3.trans s4) ?_
        have e : pol p ((List.range f.sz).map fun i => (lst f).getD i 0 * wt % (p : Int)) = C (zc p wt) * f := by
          apply Po.ext; intro i
          rw [pol_ap, List.getD_eq_getElem?_getD, List.getElem?_map, Cmul_ap]
          by_cases hi : i < f.sz
          · rw [List.getElem?_range hi]
            show zc p ((lst f).getD i 0 * wt % (p : Int)) = _
            rw [zc_mod, zc_mul, lst_getD, zc_fin]; grind
          · rw [List.getElem?_eq_none (by simp; omega), sz_dg f i (by omega)]
            show zc p 0 = _
            rw [zc_zero]; grind
        rw [← e]; exact r4
end
end KW
end

section
set_option Elab.async false
set_option linter.all false
set_option maxRecDepth 100000
set_option maxHeartbeats 4000000
namespace KW
open PySem PySem.Spec PyProof.Rows L2 K10 K10.Po
section
variable {P : Program} {w : World} {K : PySem.W.Frag} {mg : Str → Option Value} {base : Heap}
def spMultiplied : Sp := fun vs H Q _ => ∃ (p : Nat) (_ : Pr p) (f g : Po p) (v u : V), vs = [v, u, .int p] ∧ Rp K H v f ∧ Rp K H u g ∧ f.sz ≤ 20000 ∧ g.sz ≤ 20000 ∧
  ∀ H' v', Same H H' → Rp K H' v' (f * g) → Q v' H'
theorem ok_multiplied (T : Txt K mg) : DefOk P w K mg base "multiplied" 2 ["one", "other", "prime"] (spMultiplied (K := K)) := by
  have d_cut := ok_cut (P := P) (w := w) (base := base) T
  refine def_ok T.d_multiplied sc_multiplied (fun _ _ _ _ _ _ us hl => match us, hl with | [_, _, _], _ => rfl) (fun vs H Q E h => ?_) (fun f cdv A outer s H vs Q E hr h => ?_)
  · obtain ⟨p, _, f, g, v, u, rfl, _⟩ := h; rfl
  · obtain ⟨p, hp, f, g, v, u, rfl, ⟨a, rfl, hA⟩, ⟨b, rfl, hB⟩, hf, hg, q⟩ := h
    have h2 := Pr.two p
    have h97 := Pr.le p
    refine ⟨_, (pss_cons (ps_if (PW.pt (pw_or (pt_cmpR (op_eqD hr.units) (pv 0) (pe_tup pa_nil) (nomark _)) (pw_or1 (pt_cmpR (op_eqD hr.units) (pv 1) (pe_tup pa_nil) (nomark _)))))
        (pss_one (ps_ret (pe_tup pa_nil)))
        pss_nil)
      (pss_cons (ps_set (i := 3) sc_multiplied.nd rfl (Or.inl rfl) (pe_op op_rep (pe_lst (pa_cons pe_int pa_nil)) (pe_op op_sub (pe_op op_add (pe_callB call_len_seq (by rfl) T.n_len (by decide +kernel) (pa_cons (pv 0) pa_nil)) (pe_callB call_len_seq (by rfl) T.n_len (by decide +kernel) (pa_cons (pv 1) pa_nil))) pe_int)))
      (pss_cons (ps_for PassesOwn.never rfl (KX.pi_enumT (by rfl) T.n_enumerate (pa_cons (pv 0) pa_nil)) (pg_tup rfl (pgs_cons (pg_name (i := 4) sc_multiplied.nd rfl (Or.inl rfl)) (pgs_cons (pg_name (i := 5) sc_multiplied.nd rfl (Or.inl rfl)) pgs_nil)))
        (pss_one (ps_if (pt_cmpR op_ne (pv 5) pe_int (nomark _))
          (pss_one (ps_for PassesOwn.never rfl (KX.pi_enumT (by rfl) T.n_enumerate (pa_cons (pv 1) pa_nil)) (pg_tup rfl (pgs_cons (pg_name (i := 6) sc_multiplied.nd rfl (Or.inl rfl)) (pgs_cons (pg_name (i := 7) sc_multiplied.nd rfl (Or.inl rfl)) pgs_nil)))
            (pss_one (ps_augS (pv 3) (pe_op op_add (pv 4) (pv 6)) KX.get_list (pe_op op_mul (pv 5) (pv 7)) ip_add set_list))))
          pss_nil)))
      (pss_one (ps_ret (pcall d_cut hr rfl (pa_cons (pe_lc (own := [("number", 8)]) (g := (gName 8)) (tt := tYes) rfl sc_multiplied.nd (pi_list (pv 3)) (blkOk_by (N := ["one", "other", "prime", "found", "at", "part", "place", "more", "number"]) (sc := defScope s_multiplied) (by decide +kernel)) (fun _ _ _ _ _ => (pg_name (i := 8) sc_multiplied.nd rfl (Or.inl rfl))) (fun _ _ _ _ _ => pts_nil) (fun _ _ _ _ _ => (pe_op op_mod (pv 8) (pv 2)))) pa_nil))))))), ?_⟩
    -- one == () or other == ()
    refine ⟨_, rfl, line_of (by decide), fun t0 n0 => ?_⟩
    have s0 := same_upd (o := .tup []) n0
    refine ⟨_, _, dp_T (same_t s0 hA), dp_T (ns := []) (.inl (.inl upd_same)), shaped_dT _, shaped_dT _, _, rfl, ?_⟩
    rw [eqv_dT]
    by_cases hf0 : f = 0
    · rw [decide_eq_true (lst_nil_iff.mpr hf0)]
      refine iteT ?_
      refine ⟨line_of (by decide), fun t1 n1 => ?_⟩
      have s1 := same_upd (o := .tup []) n1
      refine q _ _ (s0.trans s1) ⟨t1, rfl, .inl (.inl ?_)⟩
      rw [upd_same, hf0, show (0 : Po p) * g = 0 by grind, lst_zero]; rfl
    rw [decide_eq_false (fun z => hf0 (lst_nil_iff.mp z))]
    refine iteF ?_
    refine ⟨_, rfl, line_of (by decide), fun t1 n1 => ?_⟩
    have s1 := s0.trans (same_upd (o := .tup []) n1)
    refine ⟨_, _, dp_T (same_t s1 hB), dp_T (ns := []) (.inl (.inl upd_same)), shaped_dT _, shaped_dT _, _, rfl, ?_⟩
    rw [eqv_dT]
    by_cases hg0 : g = 0
    · rw [decide_eq_true (lst_nil_iff.mpr hg0)]
      refine ⟨line_of (by decide), fun t2 n2 => ?_⟩
      have s2 := same_upd (o := .tup []) n2
      refine q _ _ (s1.trans s2) ⟨t2, rfl, .inl (.inl ?_)⟩
      rw [upd_same, hg0, show f * (0 : Po p) = 0 by grind, lst_zero]; rfl
    rw [decide_eq_false (fun z => hg0 (lst_nil_iff.mp z))]
    have hfp := sz_pos hf0
    have hgp := sz_pos hg0
    generalize hH1 : upd (upd H t0 (.tup [])) t1 (.tup []) = H1 at s1
    -- found = [0] * ..
    refine ⟨line_of (by decide), fun z nz => ?_⟩
    have s2 := s1.trans (same_upd (o := .lst [.int 0]) nz)
    refine ⟨_, rfl, a, _, rfl, .inr (same_t s2 hA), _, rfl, b, _, rfl, .inr (same_t s2 hB), _, _, rfl, rfl, _, _, rfl, rfl, ?_⟩
    have eL : ((((lst f).map V.int).length : Int) + (((lst g).map V.int).length : Int) - 1) = ((f.sz + g.sz - 1 : Nat) : Int) := by
      rw [List.length_map, List.length_map, lst_len, lst_len]; omega
    refine ⟨z, ((f.sz + g.sz - 1 : Nat) : Int), _, rfl, congrArg V.int eL, upd_same, by omega, by omega, ?_, fun l nl => ?_⟩
    · show 1 * _ ≤ _; exact line_of (by omega)
    rw [Int.toNat_natCast, rep_flat]
    have s3 := s2.trans (same_upd (o := .lst ((List.replicate (f.sz + g.sz - 1) (0 : Int)).map V.int)) nl)
    have nlH : H l = none := s2.free nl
    generalize hH3 : upd (upd H1 z (.lst [.int 0])) l (.lst ((List.replicate (f.sz + g.sz - 1) (0 : Int)).map V.int)) = H3 at s3
    have e3 : H3 l = some (.lst ((List.replicate (f.sz + g.sz - 1) (0 : Int)).map V.int)) := by rw [← hH3, upd_same]
    refine ⟨_, rfl, a, _, rfl, same_t s3 hA, ?_⟩
    refine for_it (KX.walk_enumT (xs := (lst f).map V.int)) (fun i σ H' => ∃ (x4 x5 x6 x7 : Option V) (fs : List Int), σ = [some (.ref a), some (.ref b), some (.int p), some (.ref l), x4, x5, x6, x7, none] ∧ Same H H' ∧ H' l = some (.lst (fs.map V.int)) ∧ fs.length = f.sz + g.sz - 1 ∧ pol p fs = pol p ((lst f).take i) * g)
      ⟨none, none, none, none, _, rfl, s3, e3, by simp, by rw [pol_rep, List.take_zero, pol_nil]; grind⟩ (fun i σ H' _ h => by obtain ⟨_, _, _, _, _, _, s', _⟩ := h; exact same_t s' hA) (fun i x σ H4 H5 hi hP hy => ?_) (fun σ H' hP => ?_)
    · -- a turn
      obtain ⟨x4, x5, x6, x7, fs, rfl, s4, el, hlen, hpol⟩ := hP
      obtain ⟨Tt, _, y, rfl, nT, rfl, f1, f2⟩ := hy
      cases f1
      obtain ⟨n, hn, rfl⟩ := get_map f2
      rw [List.length_map, lst_len] at hi
      have hnr := rests_get (lst_rests f) hn
      have sT := same_upd (o := .tup [.int (i : Nat), .int n]) nT
      refine ⟨Tt, [.int (i : Nat), .int n], rfl, .inl (.inl upd_same), rfl, .int (i : Nat), [.int n], rfl, .int n, [], rfl, rfl, ?_⟩
      refine ⟨_, rfl, rfl, _, rfl, ?_⟩
      have hpt := pol_take (p := p) hn
      by_cases hn0 : n = 0
      · rw [decide_eq_true (congrArg V.int hn0)]
        refine iteF ?_
        refine ⟨_, _, _, _, fs, rfl, s4.trans sT, sT _ _ el, hlen, ?_⟩
        rw [hpt, hn0, zc_zero, C_zero, hpol]; grind
      · rw [decide_eq_false (fun z => hn0 (V.int.inj z))]
        refine iteT ?_
        generalize hH5 : upd H4 Tt (.tup [.int (i : Nat), .int n]) = H5 at sT
        refine ⟨_, rfl, b, _, rfl, same_t (s4.trans sT) hB, ?_⟩
        refine for_it (KX.walk_enumT (xs := (lst g).map V.int)) (fun j σ H' => ∃ (x6 x7 : Option V) (gs : List Int), σ = [some (.ref a), some (.ref b), some (.int p), some (.ref l), some (.int (i : Int)), some (.int n), x6, x7, none] ∧ Same H H' ∧ H' l = some (.lst (gs.map V.int)) ∧ gs.length = f.sz + g.sz - 1 ∧ pol p gs = pol p ((lst f).take i) * g + C (zc p n) * X ^ i * pol p ((lst g).take j))
          ⟨_, _, fs, rfl, s4.trans sT, sT _ _ el, hlen, by rw [List.take_zero, pol_nil, hpol]; grind⟩ (fun j σ H' _ h => by obtain ⟨_, _, _, _, s', _⟩ := h; exact same_t s' hB) (fun j x σ H6 H7 hj hP hy => ?_) (fun σ H' hP => ?_)
        · obtain ⟨x6, x7, gs, rfl, s6, el6, hlen6, hpol6⟩ := hP
          obtain ⟨T2, _, y2, rfl, nT2, rfl, f3, f4⟩ := hy
          cases f3
          obtain ⟨m, hm, rfl⟩ := get_map f4
          rw [List.length_map, lst_len] at hj
          have hmr := rests_get (lst_rests g) hm
          have sT2 := same_upd (o := .tup [.int (j : Nat), .int m]) nT2
          refine ⟨T2, [.int (j : Nat), .int m], rfl, .inl (.inl upd_same), rfl, .int (j : Nat), [.int m], rfl, .int m, [], rfl, rfl, ?_⟩
          obtain ⟨o, ho⟩ : ∃ o, gs[i + j]? = some o := ⟨_, List.getElem?_eq_getElem (by omega)⟩
          refine ⟨_, rfl, _, rfl, _, rfl, _, _, rfl, rfl, l, _, _, _, rfl, rfl, .inl (.inl (sT2 _ _ el6)), at_of (j := i + j) (by omega) (map_get ho), ?_⟩
          refine ⟨_, rfl, _, rfl, _, _, rfl, rfl, .inl ⟨by omega, by omega⟩, _, _, rfl, rfl, ?_⟩
          refine ⟨l, _, _, i + j, rfl, rfl, sT2 _ _ el6, ixN_of (by omega) (by rw [List.length_map]; omega), ?_⟩
          refine ⟨_, _, gs.set (i + j) (o + n * m), rfl, same_mut (s6.trans sT2) nlH, ?_, by rw [List.length_set]; exact hlen6, ?_⟩
          · rw [upd_same, List.map_set]
          · rw [pol_set ho, pol_take hm, hpol6, show o + n * m - o = n * m by omega, zc_mul, C_mul]
            rw [Lean.Grind.Semiring.pow_add]; grind
        · obtain ⟨x6, x7, gs, rfl, s6, el6, hlen6, hpol6⟩ := hP
          rw [List.length_map] at hpol6
          rw [pol_take_all (Nat.le_refl _), pol_lst] at hpol6
          refine ⟨_, _, _, _, gs, rfl, s6, el6, hlen6, ?_⟩
          rw [hpol6, hpt]; grind
    · obtain ⟨x4, x5, x6, x7, fs, rfl, s4, el, hlen, hpol⟩ := hP
      rw [List.length_map, pol_take_all (Nat.le_refl _), pol_lst] at hpol
      refine ⟨_, rfl, l, rfl, ⟨_, .inl (.inl el)⟩, ?_⟩
      refine lc_fn (walk_list (xs := fs.map V.int)) (fun i => .int (fs.getD i 0 % (p : Int))) (by rw [List.length_map]; omega) (fun H h => .inl (.inl (h _ _ el))) (fun i x H5 H6 R hi s5 y hR => ?_) (fun D H5 nD s5 hD => ?_)
      · obtain ⟨rfl, hx⟩ := y
        obtain ⟨n, gx, rfl⟩ := get_map hx
        have c : fs.getD i 0 = n := by rw [List.getD_eq_getElem?_getD, gx]; rfl
        refine ⟨rfl, _, rfl, _, rfl, _, _, rfl, rfl, by show (0 : Int) < (p : Int); omega, ?_⟩
        have := hR _ (Same.refl _)
        rw [c] at this; exact this
      · have eM : (List.range (fs.map V.int).length).map (fun i => V.int (fs.getD i 0 % (p : Int))) = (fs.map (· % (p : Int))).map V.int := by
          apply List.ext_getElem?
          intro i
          rw [List.length_map, List.getElem?_map, List.getElem?_map, List.getElem?_map]
          by_cases hi : i < fs.length
          · rw [List.getElem?_range hi, List.getElem?_eq_getElem hi]
            show some (V.int (fs.getD i 0 % (p : Int))) = some (V.int (fs[i] % (p : Int)))
            rw [List.getD_eq_getElem?_getD, List.getElem?_eq_getElem hi]; rfl
          · rw [List.getElem?_eq_none (by simp; omega), List.getElem?_eq_none (by omega)]; rfl
        rw [eM] at hD
        refine ⟨p, hp, _, fs.map (· % (p : Int)), rfl, ⟨D, rfl, .inl (.inl hD)⟩, rests_mod fs, by rw [List.length_map]; omega, fun H6 v' s6 r6 => q _ _ ((s4.trans s5).trans s6) ?_⟩
        rw [pol_mod, hpol] at r6; exact r6.w
end
end KW
end

section
set_option Elab.async false
set_option linter.all false
set_option maxRecDepth 100000
set_option maxHeartbeats 4000000
namespace KW
open PySem PySem.Spec PyProof.Rows L2 K10 K10.Po
section
variable {P : Program} {w : World} {K : PySem.W.Frag} {mg : Str → Option Value} {base : Heap}
theorem rests_set {p : Nat} {ns : List Int} {i : Nat} {y : Int} (h : Rests p ns) (h0 : 0 ≤ y) (h1 : y < (p : Int)) : Rests p (ns.set i y) := fun n hn => by
  rcases List.mem_or_eq_of_mem_set hn with h2 | h2
  · exact h n h2
  · rw [h2]; exact ⟨h0, h1⟩
theorem getD_of {ns : List Int} {i : Nat} {n : Int} (h : ns[i]? = some n) : ns.getD i 0 = n := by rw [List.getD_eq_getElem?_getD, h]; rfl
theorem getD_set_ne {ns : List Int} {i k : Nat} {y : Int} (h : i ≠ k) : (ns.set i y).getD k 0 = ns.getD k 0 := by
  rw [List.getD_eq_getElem?_getD, List.getD_eq_getElem?_getD, List.getElem?_set_ne h]
theorem rests_zero {p : Nat} [Pr p] {ns : List Int} (h : Rests p ns) {i : Nat} (e : zc p (ns.getD i 0) = 0) : ns.getD i 0 = 0 := by
  rw [List.getD_eq_getElem?_getD] at e ⊢
  cases hn : ns[i]? with
  | none => rfl
  | some n =>
    rw [hn] at e
    obtain ⟨a, b⟩ := rests_get h hn
    have e' : zc p n = 0 := e
    show n = 0
    apply Classical.byContradiction; intro hne
    exact zc_ne_zero a b hne e'
/-- quotient and what is left, a new pair -/
def spDivided : Sp := fun vs H Q _ => ∃ (p : Nat) (_ : Pr p) (f g : Po p) (v u : V), vs = [v, u, .int p] ∧ Rp K H v f ∧ Rp K H u g ∧ g ≠ 0 ∧ f.sz ≤ 40000 ∧ g.sz ≤ 40000 ∧
  ∀ H' t vq vr (q r : Po p), Same H H' → H' t = some (.tup [vq, vr]) → Rs H' vq q → Rp K H' vr r → f = q * g + r → r.sz < g.sz → Q (.ref t) H'
theorem ok_divided (T : Txt K mg) : DefOk P w K mg base "divided" 3 ["one", "other", "prime"] (spDivided (K := K)) := by
  have d_cut := ok_cut (P := P) (w := w) (base := base) T
  have d_turned_over := ok_turned_over (P := P) (w := w) (base := base) T
  refine def_ok T.d_divided sc_divided (fun _ _ _ _ _ _ us hl => match us, hl with | [_, _, _], _ => rfl) (fun vs H Q E h => ?_) (fun f cdv A outer s H vs Q E hr h => ?_)
  · obtain ⟨p, _, f, g, v, u, rfl, _⟩ := h; rfl
  · obtain ⟨p, hp, f, g, v, u, rfl, ⟨a, rfl, hA⟩, ⟨b, rfl, hB⟩, hg0, hf, hg, q⟩ := h
    have h2 := Pr.two p
    have h97 := Pr.le p
    have hgp := sz_pos hg0
    refine ⟨_, (pss_cons (ps_set (i := 3) sc_divided.nd rfl (Or.inl rfl) (pe_callTy call_list_of (by rfl) T.n_list (by decide +kernel) (pa_cons (pv 0) pa_nil)))
      (pss_cons (ps_set (i := 4) sc_divided.nd rfl (Or.inl rfl) (pe_callB call_len_seq (by rfl) T.n_len (by decide +kernel) (pa_cons (pv 1) pa_nil)))
      (pss_cons (ps_set (i := 5) sc_divided.nd rfl (Or.inl rfl) (pcall d_turned_over hr rfl (pa_cons (pe_ix ix_tup (pv 1) (pe_un un_neg pe_int) (fun _ _ => rfl)) (pa_cons (pv 2) pa_nil))))
      (pss_cons (ps_set (i := 6) sc_divided.nd rfl (Or.inl rfl) (pe_op op_rep (pe_lst (pa_cons pe_int pa_nil)) (pe_callB (call_max2 rfl) (by rfl) T.n_max (by decide +kernel) (pa_cons pe_int (pa_cons (pe_op op_add (pe_op op_sub (pe_callB call_len_seq (by rfl) T.n_len (by decide +kernel) (pa_cons (pv 0) pa_nil)) (pv 4)) pe_int) pa_nil)))))
      (pss_cons (ps_for PassesOwn.never rfl (pi_range3 rfl T.n_range (pa_cons (pe_op op_sub (pe_callB call_len_seq (by rfl) T.n_len (by decide +kernel) (pa_cons (pv 0) pa_nil)) (pv 4)) (pa_cons (pe_un un_neg pe_int) (pa_cons (pe_un un_neg pe_int) pa_nil)))) (pg_name (i := 7) sc_divided.nd rfl (Or.inl rfl))
        (pss_cons (ps_set (i := 8) sc_divided.nd rfl (Or.inl rfl) (pe_op op_mod (pe_op op_mul (pe_ix ix_list (pv 3) (pe_op op_sub (pe_op op_add (pv 7) (pv 4)) pe_int) (fun _ _ => rfl)) (pv 5)) (pv 2)))
        (pss_cons (ps_asg (pv 8) (pg_sub (pv 6) (pv 7) set_list))
        (pss_one (ps_if (pt_cmpR op_ne (pv 8) pe_int (nomark _))
          (pss_one (ps_for PassesOwn.never rfl (KX.pi_enumT (by rfl) T.n_enumerate (pa_cons (pv 1) pa_nil)) (pg_tup rfl (pgs_cons (pg_name (i := 9) sc_divided.nd rfl (Or.inl rfl)) (pgs_cons (pg_name (i := 10) sc_divided.nd rfl (Or.inl rfl)) pgs_nil)))
            (pss_one (ps_asg (pe_op op_mod (pe_op op_sub (pe_ix ix_list (pv 3) (pe_op op_add (pv 7) (pv 9)) (fun _ _ => rfl)) (pe_op op_mul (pv 8) (pv 10))) (pv 2)) (pg_sub (pv 3) (pe_op op_add (pv 7) (pv 9)) set_list)))))
          pss_nil)))))
      (pss_one (ps_ret (pe_tup (pa_cons (pcall d_cut hr rfl (pa_cons (pv 6) pa_nil)) (pa_cons (pcall d_cut hr rfl (pa_cons (pe_slice sl_list (pv 3) po_none (po_some (pe_op op_sub (pv 4) pe_int))) pa_nil)) pa_nil)))))))))), ?_⟩
    -- left = list(one); size
    refine ⟨_, rfl, a, _, rfl, .inr hA, fun l nl => ?_⟩
    have s1 := same_upd (o := .lst ((lst f).map V.int)) nl
    refine ⟨_, rfl, b, _, rfl, .inr (same_t s1 hB), ?_⟩
    -- back
    obtain ⟨n, hn, hn0, hn1, hnl⟩ := lst_last hg0
    have hng : ((lst g).map V.int)[((lst g).map V.int).length - 1]? = some (.int n) := by rw [List.length_map, lst_len]; exact map_get hn
    refine ⟨_, rfl, 1, rfl, b, _, -1, _, rfl, rfl, same_t s1 hB, at_neg1 hng, _, rfl, p, hp, n, hn0, hn1, rfl, fun bk hb0 hb1 hbk => ?_⟩
    rw [hnl] at hbk
    have eS : (((lst g).map V.int).length : Int) = (g.sz : Int) := by rw [List.length_map, lst_len]
    -- quotient
    refine ⟨line_of (by decide), fun z nz => ?_⟩
    have s2 := s1.trans (same_upd (o := .lst [.int 0]) nz)
    have hzl : z ≠ l := fun e => by rw [e, upd_same] at nz; cases nz
    refine ⟨_, rfl, a, _, rfl, .inr (same_t s2 hA), _, rfl, _, _, rfl, rfl, _, _, rfl, rfl, _, _, rfl, ?_⟩
    have eF : (((lst f).map V.int).length : Int) = (f.sz : Int) := by rw [List.length_map, lst_len]
    have eN : (if ((((lst f).map V.int).length : Int) - (((lst g).map V.int).length : Int) + 1) > 0 then ((((lst f).map V.int).length : Int) - (((lst g).map V.int).length : Int) + 1) else 0) = ((f.sz + 1 - g.sz : Nat) : Int) := by
      rw [eF, eS]; split <;> omega
    refine ⟨z, ((f.sz + 1 - g.sz : Nat) : Int), _, rfl, congrArg V.int eN, upd_same, by omega, by omega, ?_, fun c nc => ?_⟩
    · show 1 * _ ≤ _; exact line_of (by omega)
    rw [Int.toNat_natCast, rep_flat]
    have s3 := s2.trans (same_upd (o := .lst ((List.replicate (f.sz + 1 - g.sz) (0 : Int)).map V.int)) nc)
    have nlH : H l = none := nl
    have ncH : H c = none := s2.free nc
    have hcl : c ≠ l := fun e => by rw [e, upd_ne (Ne.symm hzl), upd_same] at nc; cases nc
    generalize hH3 : upd (upd (upd H l (.lst ((lst f).map V.int))) z (.lst [.int 0])) c (.lst ((List.replicate (f.sz + 1 - g.sz) (0 : Int)).map V.int)) = H3 at s3
    have el3 : H3 l = some (.lst ((lst f).map V.int)) := by rw [← hH3, upd_ne (Ne.symm hcl), upd_ne (Ne.symm hzl), upd_same]
    have ec3 : H3 c = some (.lst ((List.replicate (f.sz + 1 - g.sz) (0 : Int)).map V.int)) := by rw [← hH3, upd_same]
    -- the loop
    refine ⟨_, rfl, a, _, rfl, .inr (same_t s3 hA), _, rfl, _, _, rfl, rfl, 1, rfl, 1, rfl, (f.sz : Int) - (g.sz : Int), -1, -1, f.sz + 1 - g.sz, ?_, ?_, ?_⟩
    · show [V.int ((((lst f).map V.int).length : Int) - (((lst g).map V.int).length : Int)), V.int (-1), V.int (-1)] = _
      rw [eF, eS]
    · have := RgC.neg (i := (f.sz : Int) - (g.sz : Int)) (j := -1) (by omega) (by omega) (by omega) (by omega)
      rw [show ((f.sz : Int) - (g.sz : Int) - -1).toNat = f.sz + 1 - g.sz by omega] at this
      exact this
    have eS' : V.int (((lst g).map V.int).length : Int) = V.int (g.sz : Int) := congrArg V.int eS
    refine for_it (walk_rangeC (lo := (f.sz : Int) - (g.sz : Int)) (c := -1) (n := f.sz + 1 - g.sz)) (fun t σ H' => ∃ (x7 x8 x9 x10 : Option V) (ls qs : List Int), σ = [some (.ref a), some (.ref b), some (.int p), some (.ref l), some (.int (g.sz : Int)), some (.int bk), some (.ref c), x7, x8, x9, x10] ∧ Same H H' ∧
        H' l = some (.lst (ls.map V.int)) ∧ H' c = some (.lst (qs.map V.int)) ∧ ls.length = f.sz ∧ qs.length = f.sz + 1 - g.sz ∧ Rests p ls ∧ Rests p qs ∧ (∀ k, f.sz - t ≤ k → ls.getD k 0 = 0) ∧ (∀ k, k < f.sz + 1 - g.sz - t → qs.getD k 0 = 0) ∧ pol p qs * g + pol p ls = f)
      ⟨none, none, none, none, lst f, List.replicate (f.sz + 1 - g.sz) 0, ?_, s3, el3, ec3, lst_len f, by simp, lst_rests f, fun n hn => ?_, fun k hk => ?_, fun k hk => ?_, ?_⟩ (fun _ _ _ _ _ => trivial) (fun t x σ H4' H4 ht hP hy => ?_) (fun σ H' hP => ?_)
    · show [_, _, _, _, _, _, _, _, _, _, _] = [_, _, _, _, _, _, _, _, _, _, _]
      rw [← eS']
    · rw [(List.mem_replicate.mp hn).2]; omega
    · rw [List.getD_eq_getElem?_getD, List.getElem?_eq_none (by rw [lst_len]; omega)]; rfl
    · rw [List.getD_eq_getElem?_getD, List.getElem?_replicate, if_pos (by omega)]; rfl
    · rw [pol_rep, pol_lst]; grind
    · -- a turn
      obtain ⟨x7, x8, x9, x10, ls, qs, rfl, s4, el, ec, hll, hql, hlr, hqr, hlz, hqz, hinv⟩ := hP
      obtain ⟨rfl, hx⟩ := hy
      -- the place
      obtain ⟨at', hat⟩ : ∃ at' : Nat, at' = f.sz - g.sz - t := ⟨_, rfl⟩
      have eat : (f.sz : Int) - (g.sz : Int) + (t : Int) * (-1) = (at' : Int) := by omega
      have hx : x = V.int (at' : Int) := hx.trans (congrArg V.int eat)
      subst hx
      have htop : at' + g.sz - 1 < f.sz := by omega
      obtain ⟨y, hyt⟩ : ∃ y, ls[at' + g.sz - 1]? = some y := ⟨_, List.getElem?_eq_getElem (by omega)⟩
      have hyr := rests_get hlr hyt
      refine ⟨_, rfl, _, rfl, _, rfl, _, _, rfl, rfl, _, _, rfl, rfl, l, _, _, _, rfl, rfl, .inl (.inl el), at_of (j := at' + g.sz - 1) (by omega) (map_get hyt), _, rfl, _, _, rfl, rfl, .inl ⟨by omega, by omega⟩, _, rfl, _, _, rfl, rfl, by show (0 : Int) < (p : Int); omega, ?_⟩
      have hw0 : 0 ≤ y * bk % (p : Int) := Int.emod_nonneg _ (by omega)
      have hw1 : y * bk % (p : Int) < p := Int.emod_lt_of_pos _ (by omega)
      have hwz : zc p (y * bk % (p : Int)) = zc p y * zc p bk := by rw [zc_mod, zc_mul]
      show gName 8 (V.int (y * bk % (p : Int))) _ _ _
      generalize hW : y * bk % (p : Int) = W at hw0 hw1 hwz ⊢
      have hq0 : qs[at']? = some 0 := by
        have e := hqz at' (by omega)
        rw [List.getD_eq_getElem?_getD] at e
        have hlt : at' < qs.length := by omega
        rw [List.getElem?_eq_getElem hlt] at e ⊢
        exact congrArg some e
      refine ⟨V.int W, rfl, _, rfl, _, rfl, c, _, _, at', rfl, rfl, ec, ixN_of rfl (by rw [List.length_map]; omega), ?_⟩
      have nlc : l ≠ c := Ne.symm hcl
      have s5 : Same H (upd H4 c (.lst ((qs.map V.int).set at' (.int W)))) := same_mut s4 ncH
      generalize hH5 : upd H4 c (.lst ((qs.map V.int).set at' (.int W))) = H5 at s5
      have el5 : H5 l = some (.lst (ls.map V.int)) := by rw [← hH5, upd_ne nlc]; exact el
      have ec5 : H5 c = some (.lst ((qs.set at' W).map V.int)) := by rw [← hH5, upd_same, List.map_set]
      have hqp : pol p (qs.set at' W) = pol p qs + C (zc p W) * X ^ at' := by rw [pol_set hq0, Int.sub_zero]
      -- what is asked behind the turn
      have fin : ∀ (ls' : List Int) (H6 : Hp), Same H H6 → H6 l = some (.lst (ls'.map V.int)) → H6 c = some (.lst ((qs.set at' W).map V.int)) → ls'.length = f.sz → Rests p ls' → (∀ k, f.sz - t ≤ k → ls'.getD k 0 = 0) →
          pol p ls' = pol p ls - C (zc p W) * X ^ at' * g →
          ∃ (ls qs : List Int), Same H H6 ∧
        H6 l = some (.lst (ls.map V.int)) ∧ H6 c = some (.lst (qs.map V.int)) ∧ ls.length = f.sz ∧ qs.length = f.sz + 1 - g.sz ∧ Rests p ls ∧ Rests p qs ∧ (∀ k, f.sz - (t + 1) ≤ k → ls.getD k 0 = 0) ∧ (∀ k, k < f.sz + 1 - g.sz - (t + 1) → qs.getD k 0 = 0) ∧ pol p qs * g + pol p ls = f := by
        intro ls' H6 s6 el6 ec6 hl6 hr6 hz6 hp6
        refine ⟨ls', qs.set at' W, s6, el6, ec6, hl6, by rw [List.length_set]; exact hql, hr6, rests_set hqr hw0 hw1, fun k hk => ?_, fun k hk => ?_, ?_⟩
        · by_cases hk2 : f.sz - t ≤ k
          · exact hz6 k hk2
          · have hk3 : k = at' + (g.sz - 1) := by omega
            apply rests_zero (p := p) hr6
            have e1 : (pol p ls').s k = (pol p ls - C (zc p W) * X ^ at' * g).s k := by rw [hp6]
            rw [pol_ap] at e1
            rw [e1, sub_ap]
            have e2 : C (zc p W) * X ^ at' * g = C (zc p W) * (X ^ at' * g) := by grind
            rw [e2, Cmul_ap, Xpow_ap, if_neg (by omega), hk3, show at' + (g.sz - 1) - at' = g.sz - 1 by omega, pol_ap, show at' + (g.sz - 1) = at' + g.sz - 1 by omega, getD_of hyt, hwz]
            grind
        · rw [getD_set_ne (by omega)]
          exact hqz k (by omega)
        · rw [hqp, hp6]; grind
      refine ⟨V.int W, rfl, rfl, _, rfl, ?_⟩
      by_cases hW0 : W = 0
      · rw [decide_eq_true (congrArg V.int hW0)]
        refine iteF ?_
        obtain ⟨ls', qs', rr⟩ := fin ls H5 s5 el5 ec5 hll hlr hlz (by rw [hW0, zc_zero, C_zero]; grind)
        exact ⟨_, _, _, _, ls', qs', rfl, rr⟩
      · rw [decide_eq_false (fun z => hW0 (V.int.inj z))]
        refine iteT ?_
        refine ⟨_, rfl, b, _, rfl, same_t s5 hB, ?_⟩
        refine for_it (KX.walk_enumT (xs := (lst g).map V.int)) (fun j σ H' => ∃ (x9 x10 : Option V) (ms : List Int), σ = [some (.ref a), some (.ref b), some (.int p), some (.ref l), some (.int (g.sz : Int)), some (.int bk), some (.ref c), some (.int (at' : Int)), some (.int W), x9, x10] ∧ Same H H' ∧
          H' l = some (.lst (ms.map V.int)) ∧ H' c = some (.lst ((qs.set at' W).map V.int)) ∧ ms.length = f.sz ∧ Rests p ms ∧ (∀ k, f.sz - t ≤ k → ms.getD k 0 = 0) ∧ pol p ms = pol p ls - C (zc p W) * X ^ at' * pol p ((lst g).take j))
          ⟨x9, x10, ls, rfl, s5, el5, ec5, hll, hlr, hlz, by rw [List.take_zero, pol_nil]; grind⟩ (fun j σ H' _ h => by obtain ⟨_, _, _, _, s', _⟩ := h; exact same_t s' hB) (fun j x σ H6 H7 hj hP hy => ?_) (fun σ H' hP => ?_)
        · obtain ⟨x9, x10, ms, rfl, s6, el6, ec6, hl6, hr6, hz6, hp6⟩ := hP
          obtain ⟨T2, _, y2, rfl, nT2, rfl, f3, f4⟩ := hy
          cases f3
          obtain ⟨m, hm, rfl⟩ := get_map f4
          rw [List.length_map, lst_len] at hj
          have hmr := rests_get (lst_rests g) hm
          have sT2 := same_upd (o := .tup [.int (j : Nat), .int m]) nT2
          refine ⟨T2, [.int (j : Nat), .int m], rfl, .inl (.inl upd_same), rfl, .int (j : Nat), [.int m], rfl, .int m, [], rfl, rfl, ?_⟩
          obtain ⟨o, ho⟩ : ∃ o, ms[at' + j]? = some o := ⟨_, List.getElem?_eq_getElem (by omega)⟩
          have hor := rests_get hr6 ho
          refine ⟨_, rfl, _, rfl, _, rfl, _, _, rfl, rfl, l, _, _, _, rfl, rfl, .inl (.inl (sT2 _ _ el6)), at_of (j := at' + j) (by omega) (map_get ho), _, rfl, _, rfl, _, _, rfl, rfl, .inl ⟨by omega, by omega⟩, _, _, rfl, rfl, _, rfl, _, _, rfl, rfl, by show (0 : Int) < (p : Int); omega, ?_⟩
          refine ⟨_, rfl, _, rfl, _, rfl, _, _, rfl, rfl, l, _, _, at' + j, rfl, rfl, sT2 _ _ el6, ixN_of (by omega) (by rw [List.length_map]; omega), ?_⟩
          refine ⟨_, _, ms.set (at' + j) ((o - W * m) % (p : Int)), rfl, same_mut (s6.trans sT2) nlH, ?_, ?_, by rw [List.length_set]; exact hl6, rests_set hr6 (Int.emod_nonneg _ (by omega)) (Int.emod_lt_of_pos _ (by omega)), fun k hk => ?_, ?_⟩
          · rw [upd_same, List.map_set]
          · rw [upd_ne hcl]; exact sT2 _ _ ec6
          · rw [getD_set_ne (by omega)]; exact hz6 k hk
          · rw [pol_set ho, pol_take hm, hp6, zc_sub, zc_mod, zc_sub, zc_mul, C_sub, C_sub, C_mul]
            rw [Lean.Grind.Semiring.pow_add]; grind
        · obtain ⟨x9, x10, ms, rfl, s6, el6, ec6, hl6, hr6, hz6, hp6⟩ := hP
          rw [List.length_map, pol_take_all (Nat.le_refl _), pol_lst] at hp6
          obtain ⟨ls', qs', rr⟩ := fin ms H' s6 el6 ec6 hl6 hr6 hz6 hp6
          exact ⟨_, _, _, _, ls', qs', rfl, rr⟩
    · -- behind the loop
      obtain ⟨x7, x8, x9, x10, ls, qs, rfl, s4, el, ec, hll, hql, hlr, hqr, hlz, hqz, hinv⟩ := hP
      refine ⟨_, rfl, p, hp, _, qs, rfl, ⟨c, rfl, .inl (.inl ec)⟩, hqr, by omega, fun H5 vq s5 rq => ?_⟩
      refine ⟨_, rfl, _, rfl, _, _, rfl, rfl, ((g.sz - 1 : Nat) : Int), congrArg V.int (by omega), l, _, rfl, .inl (.inl (s5 _ _ el)), fun d nd => ?_⟩
      rw [cutV_take, ← List.map_take]
      have s6 := same_upd (o := .lst ((ls.take (g.sz - 1)).map V.int)) nd
      refine ⟨p, hp, _, ls.take (g.sz - 1), rfl, ⟨d, rfl, .inl (.inl upd_same)⟩, fun n hn => hlr n (List.mem_of_mem_take hn), by rw [List.length_take]; omega, fun H7 vr s7 rr => ?_⟩
      refine ⟨line_of (by show 2 ≤ 100000; decide), fun t nt => ?_⟩
      have s8 := same_upd (o := .tup [vq, vr]) nt
      have epol : pol p (ls.take (g.sz - 1)) = pol p ls := pol_take_of fun i hi => hlz i (by omega)
      refine q _ t vq vr (pol p qs) (pol p ls) ((((s4.trans s5).trans s6).trans s7).trans s8) upd_same (rq.same ((s6.trans s7).trans s8)) ?_ hinv.symm ?_
      · rw [← epol]; exact (rr.same s8).w
      · rw [← epol]
        have := pol_sz_le (p := p) (ls.take (g.sz - 1))
        rw [List.length_take] at this
        omega
end
end KW
end

section
set_option Elab.async false
set_option linter.all false
set_option maxRecDepth 100000
set_option maxHeartbeats 4000000
namespace KW
open PySem PySem.Spec PyProof.Rows L2 K10 K10.Po
section
variable {P : Program} {w : World} {K : PySem.W.Frag} {mg : Str → Option Value} {base : Heap}
def spLeftBy : Sp := fun vs H Q _ => ∃ (p : Nat) (_ : Pr p) (f g : Po p) (v u : V), vs = [v, u, .int p] ∧ Rp K H v f ∧ Rp K H u g ∧ g ≠ 0 ∧ f.sz ≤ 40000 ∧ g.sz ≤ 40000 ∧
  ∀ H' v' (q r : Po p), Same H H' → Rp K H' v' r → f = q * g + r → r.sz < g.sz → Q v' H'
theorem ok_left_by (T : Txt K mg) : DefOk P w K mg base "left_by" 4 ["one", "rule", "prime"] (spLeftBy (K := K)) := by
  have d_divided := ok_divided (P := P) (w := w) (base := base) T
  refine def_ok T.d_left_by sc_left_by (fun _ _ _ _ _ _ us hl => match us, hl with | [_, _, _], _ => rfl) (fun vs H Q E h => ?_) (fun f cdv A outer s H vs Q E hr h => ?_)
  · obtain ⟨p, _, f, g, v, u, rfl, _⟩ := h; rfl
  · obtain ⟨p, hp, f, g, v, u, rfl, hA, hB, hg0, hf, hg, q⟩ := h
    refine ⟨_, (pss_one (ps_ret (pe_ix (r := rIxT K) ix_tup (pcall d_divided hr rfl (pa_cons (pv 0) (pa_cons (pv 1) (pa_cons (pv 2) pa_nil)))) pe_int (fun _ _ => rfl)))), ?_⟩
    refine ⟨_, rfl, _, rfl, _, rfl, p, hp, f, g, v, u, rfl, hA, hB, hg0, hf, hg, fun H' t vq vr q' r' s' ht rq rr e1 e2 => ?_⟩
    exact ⟨t, _, 1, vr, rfl, rfl, .inl (.inl ht), atI_nat (j := 1) rfl, q H' vr q' r' s' rr e1 e2⟩
def spLevelled : Sp := fun vs H Q _ => ∃ (p : Nat) (_ : Pr p) (f : Po p) (v : V), vs = [v, .int p] ∧ Rp K H v f ∧ f ≠ 0 ∧ f.sz ≤ 40000 ∧
  ∀ H' v' (c : Fin p), Same H H' → c * f.s (f.sz - 1) = 1 → Rs H' v' (C c * f) → Q v' H'
theorem ok_levelled (T : Txt K mg) : DefOk P w K mg base "levelled" 3 ["one", "prime"] (spLevelled (K := K)) := by
  have d_scaled := ok_scaled (P := P) (w := w) (base := base) T
  have d_turned_over := ok_turned_over (P := P) (w := w) (base := base) T
  refine def_ok T.d_levelled sc_levelled (fun _ _ _ _ _ _ us hl => match us, hl with | [_, _], _ => rfl) (fun vs H Q E h => ?_) (fun f cdv A outer s H vs Q E hr h => ?_)
  · obtain ⟨p, _, f, v, rfl, _⟩ := h; rfl
  · obtain ⟨p, hp, f, v, rfl, ⟨a, rfl, hA⟩, hf0, hf, q⟩ := h
    have h97 := Pr.le p
    refine ⟨_, (pss_one (ps_ret (pcall d_scaled hr rfl (pa_cons (pv 0) (pa_cons (pcall d_turned_over hr rfl (pa_cons (pe_ix (r := rIxT K) ix_tup (pv 0) (pe_un un_neg pe_int) (fun _ _ => rfl)) (pa_cons (pv 1) pa_nil))) (pa_cons (pv 1) pa_nil)))))), ?_⟩
    obtain ⟨n, hn, hn0, hn1, hnl⟩ := lst_last hf0
    have hng : ((lst f).map V.int)[((lst f).map V.int).length - 1]? = some (.int n) := by rw [List.length_map, lst_len]; exact map_get hn
    refine ⟨_, rfl, _, rfl, 1, rfl, a, _, -1, _, rfl, rfl, hA, at_neg1 hng, _, rfl, p, hp, n, hn0, hn1, rfl, fun bk hb0 hb1 hbk => ?_⟩
    rw [hnl] at hbk
    exact ⟨_, rfl, p, hp, f, _, bk, rfl, ⟨a, rfl, hA⟩, hb0, by omega, hf, fun H' v' s' r' => q H' v' _ s' hbk r'⟩
/-- the greatest common one, first in a tuple of three -/
def spShared : Sp := fun vs H Q _ => ∃ (p : Nat) (_ : Pr p) (f g : Po p) (v u : V), vs = [v, u, .int p] ∧ Rp K H v f ∧ Rp K H u g ∧ f.sz ≤ 100 ∧ g.sz ≤ 100 ∧
  ∀ H' t v0 v1 v2 (d x y : Po p), Same H H' → SqT K H' t [v0, v1, v2] → Rp K H' v0 d → (f ≠ 0 → Rs H' v0 d) → d = x * f + y * g → Dv d f → Dv d g → (f ≠ 0 → Mo d) → Q (.ref t) H'
theorem ok_shared (T : Txt K mg) : DefOk P w K mg base "shared" 4 ["one", "other", "prime"] (spShared (K := K)) := by
  have d_divided := ok_divided (P := P) (w := w) (base := base) T
  have d_less := ok_less (P := P) (w := w) (base := base) T
  have d_multiplied := ok_multiplied (P := P) (w := w) (base := base) T
  have d_scaled := ok_scaled (P := P) (w := w) (base := base) T
  have d_turned_over := ok_turned_over (P := P) (w := w) (base := base) T
  refine def_ok T.d_shared sc_shared (fun _ _ _ _ _ _ us hl => match us, hl with | [_, _, _], _ => rfl) (fun vs H Q E h => ?_) (fun f cdv A outer s H vs Q E hr h => ?_)
  · obtain ⟨p, _, f, g, v, u, rfl, _⟩ := h; rfl
  · obtain ⟨p, hp, f, g, v, u, rfl, hA, hB, hf, hg, q⟩ := h
    have h2 := Pr.two p
    have h97 := Pr.le p
    refine ⟨_, (pss_cons (ps_asg (pe_tup (pa_cons (pe_tup (pa_cons (pv 0) (pa_cons (pe_tup (pa_cons pe_int pa_nil)) (pa_cons (pe_tup pa_nil) pa_nil)))) (pa_cons (pe_tup (pa_cons (pv 1) (pa_cons (pe_tup pa_nil) (pa_cons (pe_tup (pa_cons pe_int pa_nil)) pa_nil)))) pa_nil))) (pg_tup rfl (pgs_cons (pg_name (i := 3) sc_shared.nd rfl (Or.inr rfl)) (pgs_cons (pg_name (i := 4) sc_shared.nd rfl (Or.inr rfl)) pgs_nil))))
      (pss_cons (ps_while PassesOwn.never (pt_cmpR (op_neD hr.units) (pe_ix (r := rIxT K) ix_tup (pv 4) pe_int (fun _ _ => rfl)) (pe_tup pa_nil) (nomark _))
        (pss_cons (ps_asg (pcall d_divided hr rfl (pa_cons (pe_ix (r := rIxT K) ix_tup (pv 3) pe_int (fun _ _ => rfl)) (pa_cons (pe_ix (r := rIxT K) ix_tup (pv 4) pe_int (fun _ _ => rfl)) (pa_cons (pv 2) pa_nil)))) (pg_tup rfl (pgs_cons (pg_name (i := 5) sc_shared.nd rfl (Or.inr rfl)) (pgs_cons (pg_name (i := 6) sc_shared.nd rfl (Or.inl rfl)) pgs_nil))))
        (pss_cons (ps_setLc (own := [("k", 9)]) (g := (gName 9)) (tt := tYes) (i := 7) rfl sc_shared.nd rfl rfl (sw_true rfl rfl rfl (by decide +kernel)) (pi_tup (pe_tup (pa_cons pe_int (pa_cons pe_int pa_nil)))) (blkOk_by (N := ["one", "other", "prime", "here", "there", "quotient", "rest", "ahead", "back", "k", "part"]) (sc := defScope s_shared) (by decide +kernel)) (fun _ _ _ _ _ => (pg_name (i := 9) sc_shared.nd rfl (Or.inl rfl))) (fun _ _ _ _ _ => pts_nil) (fun _ _ _ _ _ => (pcall d_less hr rfl (pa_cons (pe_ix (r := rIxT K) ix_tup (pv 3) (pv 9) (fun _ _ => rfl)) (pa_cons (pcall d_multiplied hr rfl (pa_cons (pv 5) (pa_cons (pe_ix (r := rIxT K) ix_tup (pv 4) (pv 9) (fun _ _ => rfl)) (pa_cons (pv 2) pa_nil)))) (pa_cons (pv 2) pa_nil))))))
        (pss_one (ps_asg (pe_tup (pa_cons (pv 4) (pa_cons (pe_tup (pa_cons (pv 6) (pa_cons (pe_ix (r := rIxL K) ix_list (pv 7) pe_int (fun _ _ => rfl)) (pa_cons (pe_ix (r := rIxL K) ix_list (pv 7) pe_int (fun _ _ => rfl)) pa_nil)))) pa_nil))) (pg_tup rfl (pgs_cons (pg_name (i := 3) sc_shared.nd rfl (Or.inr rfl)) (pgs_cons (pg_name (i := 4) sc_shared.nd rfl (Or.inr rfl)) pgs_nil))))))))
      (pss_cons (ps_if (pt_cmpR (op_eqD hr.units) (pe_ix (r := rIxT K) ix_tup (pv 3) pe_int (fun _ _ => rfl)) (pe_tup pa_nil) (nomark _))
        (pss_one (ps_ret (pv 3)))
        pss_nil)
      (pss_cons (ps_set (i := 8) sc_shared.nd rfl (Or.inr rfl) (pcall d_turned_over hr rfl (pa_cons (pe_ix (r := rIxT K) ix_tup (pe_ix (r := rIxT K) ix_tup (pv 3) pe_int (fun _ _ => rfl)) (pe_un un_neg pe_int) (fun _ _ => rfl)) (pa_cons (pv 2) pa_nil))))
      (pss_one (ps_ret (pe_callTy call_tuple_of (by rfl) T.n_tuple (by decide +kernel) (pa_cons (pe_lc (own := [("part", 10)]) (g := (gName 10)) (tt := tYes) rfl sc_shared.nd (pi_tup (pv 3)) (blkOk_by (N := ["one", "other", "prime", "here", "there", "quotient", "rest", "ahead", "back", "k", "part"]) (sc := defScope s_shared) (by decide +kernel)) (fun _ _ _ _ _ => (pg_name (i := 10) sc_shared.nd rfl (Or.inl rfl))) (fun _ _ _ _ _ => pts_nil) (fun _ _ _ _ _ => (pcall d_scaled hr rfl (pa_cons (pv 10) (pa_cons (pv 8) (pa_cons (pv 2) pa_nil)))))) pa_nil)))))))), ?_⟩
    -- here, there
    refine ⟨_, rfl, line_of (by decide), fun t1 n1 => ⟨line_of (by decide), fun t2 n2 => ⟨line_of (by show 3 ≤ 100000; decide), fun t3 n3 => ?_⟩⟩⟩
    refine ⟨_, rfl, line_of (by decide), fun t4 n4 => ⟨line_of (by decide), fun t5 n5 => ⟨line_of (by show 3 ≤ 100000; decide), fun t6 n6 => ⟨line_of (by show 2 ≤ 100000; decide), fun t7 n7 => ?_⟩⟩⟩⟩
    refine ⟨t7, _, rfl, .inl (.inl upd_same), rfl, .ref t3, _, rfl, .ref t6, _, rfl, rfl, ?_⟩
    have s1 := same_upd (o := .tup [.int 1]) n1
    have s2 := same_upd (o := .tup []) n2
    have s3 := same_upd (o := .tup [v, .ref t1, .ref t2]) n3
    have s4 := same_upd (o := .tup []) n4
    have s5 := same_upd (o := .tup [.int 1]) n5
    have s6 := same_upd (o := .tup [u, .ref t4, .ref t5]) n6
    have s7 := same_upd (o := .tup [.ref t3, .ref t6]) n7
    have e1 : lst (1 : Po p) = [1] := lst_one
    have e0 : lst (0 : Po p) = [] := lst_zero
    refine ⟨fun m σ H' => ∃ (th tt : Addr) (h0 h1 h2 r0 r1 r2 : V) (a0 a1 a2 b0 b1 b2 x y x' y' : Po p) (x5 x6 x7 : Option V), σ = [some v, some u, some (.int p), some (.ref th), some (.ref tt), x5, x6, x7, none, none, none] ∧ Same H H' ∧
        SqT K H' th [h0, h1, h2] ∧ SqT K H' tt [r0, r1, r2] ∧ Rp K H' h0 a0 ∧ Rp K H' h1 a1 ∧ Rp K H' h2 a2 ∧ Rp K H' r0 b0 ∧ Rp K H' r1 b1 ∧ Rp K H' r2 b2 ∧
        m = b0.sz ∧ m ≤ 100 ∧ a0.sz ≤ 100 ∧ a1.sz ≤ 1 + 100 * (101 - m) ∧ a2.sz ≤ 1 + 100 * (101 - m) ∧ b1.sz ≤ 1 + 100 * (101 - m) ∧ b2.sz ≤ 1 + 100 * (101 - m) ∧
        a0 = a1 * f + a2 * g ∧ b0 = b1 * f + b2 * g ∧ f = x * a0 + y * b0 ∧ g = x' * a0 + y' * b0,
      ⟨g.sz, t3, t6, v, .ref t1, .ref t2, u, .ref t4, .ref t5, f, 1, 0, g, 0, 1, 1, 0, 0, 1, none, none, none, rfl, ?_⟩, fun m σ H' hW => ?_⟩
    · refine ⟨((((((s1.trans s2).trans s3).trans s4).trans s5).trans s6).trans s7), same_t ((s4.trans s5).trans (s6.trans s7)) (.inl (.inl upd_same)), same_t s7 (.inl (.inl upd_same)),
        hA.same ((((((s1.trans s2).trans s3).trans s4).trans s5).trans s6).trans s7), ⟨t1, rfl, same_t (((s2.trans s3).trans s4).trans ((s5.trans s6).trans s7)) (.inl (.inl ?_))⟩, ⟨t2, rfl, same_t ((s3.trans s4).trans ((s5.trans s6).trans s7)) (.inl (.inl ?_))⟩,
        hB.same ((((((s1.trans s2).trans s3).trans s4).trans s5).trans s6).trans s7), ⟨t4, rfl, same_t ((s5.trans s6).trans s7) (.inl (.inl ?_))⟩, ⟨t5, rfl, same_t (s6.trans s7) (.inl (.inl ?_))⟩, rfl, hg, hf, ?_, ?_, ?_, ?_, ?_, ?_, ?_, ?_⟩
      · rw [upd_same, e1]; rfl
      · rw [upd_same, e0]; rfl
      · rw [upd_same, e0]; rfl
      · rw [upd_same, e1]; rfl
      · rw [Po.sz_one]; omega
      · rw [sz_zero]; omega
      · rw [sz_zero]; omega
      · rw [Po.sz_one]; omega
      all_goals grind
    · obtain ⟨th, tt, h0, h1, h2, r0, r1, r2, a0, a1, a2, b0, b1, b2, x, y, x', y', x5, x6, x7, rfl, s', hth, htt, ra0, ra1, ra2, rb0, rb1, rb2, hm, hm100, ha0, ha1, ha2, hb1, hb2, ea, eb, ef, eg⟩ := hW
      -- there[0] != ()
      refine ⟨_, rfl, _, _, _, _, rfl, rfl, htt, atI_nat (j := 0) rfl, line_of (by decide), fun c nc => ?_⟩
      have sc := same_upd (o := .tup []) nc
      refine ⟨_, _, (rb0.same sc).dp, dp_T (ns := []) (.inl (.inl upd_same)), shaped_dT _, shaped_dT _, _, rfl, ?_⟩
      rw [eqv_dT]
      generalize hH2 : upd H' c (.tup []) = H2 at sc
      by_cases hb0 : b0 = 0
      · rw [decide_eq_true (lst_nil_iff.mpr hb0)]
        refine iteF ?_
        have hda : Dv a0 f := ⟨x, by rw [hb0] at ef; grind⟩
        have hdg : Dv a0 g := ⟨x', by rw [hb0] at eg; grind⟩
        have sH := s'.trans sc
        -- if here[0] == ()
        refine ⟨_, rfl, _, _, _, _, rfl, rfl, same_t sc hth, atI_nat (j := 0) rfl, line_of (by decide), fun d nd => ?_⟩
        have sd := same_upd (o := .tup []) nd
        refine ⟨_, _, (ra0.same (sc.trans sd)).dp, dp_T (ns := []) (.inl (.inl upd_same)), shaped_dT _, shaped_dT _, _, rfl, ?_⟩
        rw [eqv_dT]
        generalize hH3 : upd H2 d (.tup []) = H3 at sd
        by_cases ha0z : a0 = 0
        · rw [decide_eq_true (lst_nil_iff.mpr ha0z)]
          refine iteT ?_
          refine ⟨_, rfl, ?_⟩
          refine q H3 th h0 h1 h2 a0 a1 a2 (sH.trans sd) (same_t (sc.trans sd) hth) (ra0.same (sc.trans sd)) (fun hf0 => ?_) ea hda hdg fun hf0 => ?_
          all_goals
            rw [ha0z] at hda
            obtain ⟨z, hz⟩ := hda
            exact absurd (by rw [hz]; grind) hf0
        · rw [decide_eq_false (fun z => ha0z (lst_nil_iff.mp z))]
          refine iteF ?_
          obtain ⟨n, hn, hn0, hn1, hnl⟩ := lst_last ha0z
          obtain ⟨ah, rfl, hah⟩ := ra0
          have hng : ((lst a0).map V.int)[((lst a0).map V.int).length - 1]? = some (.int n) := by rw [List.length_map, lst_len]; exact map_get hn
          have scd := sc.trans sd
          refine ⟨_, rfl, _, _, _, _, rfl, rfl, same_t scd hth, atI_nat (j := 0) rfl, 1, rfl, ah, _, -1, _, rfl, rfl, same_t scd hah, at_neg1 hng, _, rfl, p, hp, n, hn0, hn1, rfl, fun bk hbk0 hbk1 hbk => ?_⟩
          rw [hnl] at hbk
          refine ⟨_, rfl, th, rfl, ⟨_, same_t scd hth⟩, ?_⟩
          refine lc_rel (walk_tup (xs := [.ref ah, h1, h2])) (fun D i y H => (i = 0 → Rs H y (C (zc p bk) * a0))) (by show 3 ≤ 50000; decide) (fun D i y H H' _ k h e => (h e).tk k) (fun H h => same_t (scd.trans h) hth) (fun D i x H4 H5 R hi s4 hy hR => ?_) (fun D H4 ys nD s4 hl hr hD => ?_)
          · obtain ⟨rfl, hx⟩ := hy
            have hi3 : i = 0 ∨ i = 1 ∨ i = 2 := by
              have : i < 3 := hi
              omega
            obtain ⟨cc, hcc, hsz⟩ : ∃ cc : Po p, Rp K H5 x cc ∧ (i = 0 → cc = a0) ∧ cc.sz ≤ 40000 := by
              rcases hi3 with rfl | rfl | rfl
              · cases hx; exact ⟨a0, ⟨ah, rfl, same_t (scd.trans s4) hah⟩, fun _ => rfl, by omega⟩
              · cases hx; exact ⟨a1, ra1.same (scd.trans s4), fun h => by omega, by omega⟩
              · cases hx; exact ⟨a2, ra2.same (scd.trans s4), fun h => by omega, by omega⟩
            refine ⟨rfl, _, rfl, _, rfl, _, rfl, p, hp, cc, _, bk, rfl, hcc, hbk0, by omega, hsz.2, fun H6 v' s6 r6 => hR v' H6 s6 fun e => ?_⟩
            rw [← hsz.1 e]; exact r6
          · obtain ⟨w0, w1, w2, rfl⟩ : ∃ w0 w1 w2, ys = [w0, w1, w2] := by
              match ys, hl with
              | [w0, w1, w2], _ => exact ⟨w0, w1, w2, rfl⟩
            refine ⟨D, _, rfl, .inl ⟨.inl (.inl hD), fun t nt => ?_⟩⟩
            have s5 := same_upd (o := .tup [w0, w1, w2]) nt
            have hbz : C (zc p bk) ≠ 0 := fun z => by
              have z2 := C_inj (z.trans C_zero.symm)
              rw [z2] at hbk
              exact fin_one_ne (p := p) (by rw [← hbk]; grind)
            have hinv : C (zc p bk) * C (a0.s (a0.sz - 1)) = 1 := by rw [← C_mul, hbk, C_one]
            refine q _ t w0 w1 w2 (C (zc p bk) * a0) (C (zc p bk) * a1) (C (zc p bk) * a2) (((sH.trans sd).trans s4).trans s5) (.inl (.inl upd_same)) ((hr 0 w0 rfl rfl).same s5).w (fun _ => (hr 0 w0 rfl rfl).same s5) (by rw [ea]; grind) ?_ ?_ fun _ => ?_
            · obtain ⟨z, hz⟩ := hda
              exact ⟨C (a0.s (a0.sz - 1)) * z, by grind⟩
            · obtain ⟨z, hz⟩ := hdg
              exact ⟨C (a0.s (a0.sz - 1)) * z, by grind⟩
            · have hsz : (C (zc p bk) * a0).sz = a0.sz := by
                have := (sz_mul hbz ha0z).1
                have h1 := sz_C_le (zc p bk)
                have h2 := sz_pos hbz
                omega
              exact ⟨mul_ne hbz ha0z, by rw [hsz, Cmul_ap, hbk]⟩
      · rw [decide_eq_false (fun z => hb0 (lst_nil_iff.mp z))]
        refine iteT ?_
        refine ⟨_, fun σ' H' z => z, ?_⟩
        -- quotient, rest = divided(..)
        have sH := s'.trans sc
        refine ⟨_, rfl, _, _, _, _, rfl, rfl, same_t sc hth, atI_nat (j := 0) rfl, _, rfl, _, _, _, _, rfl, rfl, same_t sc htt, atI_nat (j := 0) rfl, _, rfl, p, hp, a0, b0, h0, r0, rfl, ra0.same sc, rb0.same sc, hb0, by omega, by omega, fun H3 t vq vr qq rr s3 ht rq rrr eq1 eq2 => ?_⟩
        refine ⟨t, _, rfl, .inl (.inl ht), rfl, vq, [vr], rfl, vr, [], rfl, rfl, ?_⟩
        have hqsz : qq.sz ≤ 100 := by
          by_cases hq0 : qq = 0
          · rw [hq0, sz_zero]; omega
          · have h1 := (sz_mul hq0 hb0).1
            have h2 := sz_pos hb0
            apply Nat.le_of_not_lt; intro hlt
            have e3 : qq * b0 = a0 - rr := by grind
            have h3 := sz_sub_le a0 rr
            rw [← e3] at h3
            omega
        -- ahead
        refine ⟨line_of (by show 2 ≤ 100000; decide), fun c2 nc2 => ⟨c2, rfl, ⟨_, .inl (.inl upd_same)⟩, ?_⟩⟩
        have sc2 := same_upd (o := .tup [.int 1, .int 2]) nc2
        generalize hH4 : upd H3 c2 (.tup [.int 1, .int 2]) = H4 at sc2
        have ec2 : H4 c2 = some (.tup [.int 1, .int 2]) := by rw [← hH4, upd_same]
        have sA := (sc.trans s3).trans sc2
        have hM : (101 - m) ≤ 101 := Nat.sub_le _ _
        refine lc_rel (walk_tup (xs := [.int 1, .int 2])) (fun D i y H => (i = 0 → Rp K H y (a1 - qq * b1)) ∧ (i = 1 → Rp K H y (a2 - qq * b2))) (by show 2 ≤ 50000; decide) (fun D i y H H' _ k h => ⟨fun e => (h.1 e).tk k, fun e => (h.2 e).tk k⟩) (fun H h => .inl (.inl (h _ _ ec2))) (fun D i z H5 H6 R hi s5 hy hR => ?_) (fun D H5 ys nD s5 hl hr hD => ?_)
        · obtain ⟨rfl, hx⟩ := hy
          have hi3 : i = 0 ∨ i = 1 := by
            have : i < 2 := hi
            omega
          have sB := sA.trans s5
          have hqb1 : (qq * b1).sz ≤ 40000 := by
            by_cases h0 : qq = 0 ∨ b1 = 0
            · have : qq * b1 = 0 := by rcases h0 with h | h <;> (rw [h]; grind)
              rw [this, sz_zero]; omega
            · have := (sz_mul (f := qq) (g := b1) (fun z => h0 (.inl z)) (fun z => h0 (.inr z))).1
              omega
          have hqb2 : (qq * b2).sz ≤ 40000 := by
            by_cases h0 : qq = 0 ∨ b2 = 0
            · have : qq * b2 = 0 := by rcases h0 with h | h <;> (rw [h]; grind)
              rw [this, sz_zero]; omega
            · have := (sz_mul (f := qq) (g := b2) (fun z => h0 (.inl z)) (fun z => h0 (.inr z))).1
              omega
          rcases hi3 with rfl | rfl
          · cases hx
            refine ⟨rfl, _, rfl, _, rfl, _, _, _, _, rfl, rfl, same_t sB hth, atI_nat (j := 1) rfl, ?_⟩
            refine ⟨_, rfl, _, rfl, _, rfl, _, _, _, _, rfl, rfl, same_t sB htt, atI_nat (j := 1) rfl, _, rfl, p, hp, qq, b1, vq, r1, rfl, (rq.same (sc2.trans s5)).w, rb1.same sB, by omega, by omega, fun H7 v7 s7 r7 => ?_⟩
            exact ⟨_, rfl, p, hp, a1, qq * b1, h1, v7, rfl, ra1.same (sB.trans s7), r7, by omega, hqb1, fun H8 v8 s8 r8 => hR v8 H8 (s7.trans s8) ⟨fun _ => r8, fun h => by omega⟩⟩
          · cases hx
            refine ⟨rfl, _, rfl, _, rfl, _, _, _, _, rfl, rfl, same_t sB hth, atI_nat (j := 2) rfl, ?_⟩
            refine ⟨_, rfl, _, rfl, _, rfl, _, _, _, _, rfl, rfl, same_t sB htt, atI_nat (j := 2) rfl, _, rfl, p, hp, qq, b2, vq, r2, rfl, (rq.same (sc2.trans s5)).w, rb2.same sB, by omega, by omega, fun H7 v7 s7 r7 => ?_⟩
            exact ⟨_, rfl, p, hp, a2, qq * b2, h2, v7, rfl, ra2.same (sB.trans s7), r7, by omega, hqb2, fun H8 v8 s8 r8 => hR v8 H8 (s7.trans s8) ⟨fun h => by omega, fun _ => r8⟩⟩
        · obtain ⟨w0, w1, rfl⟩ : ∃ w0 w1, ys = [w0, w1] := by
            match ys, hl with
            | [w0, w1], _ => exact ⟨w0, w1, rfl⟩
          have sB := sA.trans s5
          -- here, there = there, (rest, ahead[0], ahead[1])
          refine ⟨_, rfl, _, rfl, _, rfl, _, _, _, _, rfl, rfl, .inl (.inl hD), atI_nat (j := 0) rfl, _, rfl, _, _, _, _, rfl, rfl, .inl (.inl hD), atI_nat (j := 1) rfl, line_of (by show 3 ≤ 100000; decide), fun t8 n8 => ⟨line_of (by show 2 ≤ 100000; decide), fun t9 n9 => ?_⟩⟩
          have s8 := same_upd (o := .tup [vr, w0, w1]) n8
          have s9 := same_upd (o := .tup [.ref tt, .ref t8]) n9
          have s89 := s8.trans s9
          refine ⟨t9, _, rfl, .inl (.inl upd_same), rfl, .ref tt, _, rfl, .ref t8, _, rfl, rfl, ?_⟩
          have hw0 := (hr 0 w0 rfl).1 rfl
          have hw1 := (hr 1 w1 rfl).2 rfl
          have k1 := sz_sub_le a1 (qq * b1)
          have k2 := sz_sub_le a2 (qq * b2)
          have sq : ∀ b : Po p, (qq * b).sz ≤ qq.sz + b.sz := fun b => by
            by_cases h0 : qq = 0 ∨ b = 0
            · have : qq * b = 0 := by rcases h0 with h | h <;> (rw [h]; grind)
              rw [this, sz_zero]; omega
            · have := (sz_mul (f := qq) (g := b) (fun z => h0 (.inl z)) (fun z => h0 (.inr z))).1
              omega
          have k3 := sq b1
          have k4 := sq b2
          refine ⟨rr.sz, by omega, tt, t8, r0, r1, r2, vr, w0, w1, b0, b1, b2, rr, a1 - qq * b1, a2 - qq * b2, y + x * qq, x, y' + x' * qq, x', _, _, _, rfl, ((sH.trans s3).trans sc2).trans (s5.trans s89), same_t (sB.trans s89) htt, same_t s9 (.inl (.inl upd_same)),
            rb0.same (sB.trans s89), rb1.same (sB.trans s89), rb2.same (sB.trans s89), rrr.same ((sc2.trans s5).trans s89), hw0.same s89, hw1.same s89, rfl, by omega, by omega, by omega, by omega, by omega, by omega, eb, by grind, by grind, by grind⟩
end
end KW
end

section
set_option Elab.async false
set_option linter.all false
set_option maxRecDepth 100000
set_option maxHeartbeats 4000000
namespace KW
open PySem PySem.Spec PyProof.Rows L2 K10 K10.Po
section
variable {P : Program} {w : World} {K : PySem.W.Frag} {mg : Str → Option Value} {base : Heap}
/-- the power of x times so much less one that leaves alike -/
theorem sz_mul_le {p : Nat} [Pr p] (f g : Po p) : (f * g).sz ≤ f.sz + g.sz := by
  by_cases h0 : f = 0 ∨ g = 0
  · have : f * g = 0 := by rcases h0 with h | h <;> (rw [h]; grind)
    rw [this, sz_zero]; omega
  · have := (sz_mul (f := f) (g := g) (fun z => h0 (.inl z)) (fun z => h0 (.inr z))).1
    omega
def spLeftRaised : Sp := fun vs H Q _ => ∃ (p : Nat) (_ : Pr p) (f g : Po p) (e : Nat) (v u : V), vs = [v, .int (e : Int), u, .int p] ∧ Rp K H v f ∧ Rp K H u g ∧ g ≠ 0 ∧ f.sz ≤ 1000 ∧ g.sz ≤ 1000 ∧
  ∀ H' v' (r : Po p), Same H H' → Rp K H' v' r → Dv g (f ^ e - r) → r.sz < g.sz → Q v' H'
theorem ok_left_raised (T : Txt K mg) : DefOk P w K mg base "left_raised" 5 ["one", "exponent", "rule", "prime"] (spLeftRaised (K := K)) := by
  have d_left_by := ok_left_by (P := P) (w := w) (base := base) T
  have d_multiplied := ok_multiplied (P := P) (w := w) (base := base) T
  refine def_ok T.d_left_raised sc_left_raised (fun _ _ _ _ _ _ us hl => match us, hl with | [_, _, _, _], _ => rfl) (fun vs H Q E h => ?_) (fun f cdv A outer s H vs Q E hr h => ?_)
  · obtain ⟨p, _, f, g, e, v, u, rfl, _⟩ := h; rfl
  · obtain ⟨p, hp, f, g, e, v, u, rfl, hA, hB, hg0, hf, hg, q⟩ := h
    have h2 := Pr.two p
    refine ⟨_, (pss_cons (ps_set (i := 4) sc_left_raised.nd rfl (Or.inl rfl) (pcall d_left_by hr rfl (pa_cons (pe_tup (pa_cons pe_int pa_nil)) (pa_cons (pv 2) (pa_cons (pv 3) pa_nil)))))
      (pss_cons (ps_set (i := 5) sc_left_raised.nd rfl (Or.inl rfl) (pcall d_left_by hr rfl (pa_cons (pv 0) (pa_cons (pv 2) (pa_cons (pv 3) pa_nil)))))
      (pss_cons (ps_while PassesOwn.never (pt_cmpR op_gt (pv 1) pe_int (nomark _))
        (pss_cons (ps_if (pt_cmpR op_eq (pe_op op_mod (pv 1) pe_int) pe_int (nomark _))
          (pss_one (ps_set (i := 4) sc_left_raised.nd rfl (Or.inl rfl) (pcall d_left_by hr rfl (pa_cons (pcall d_multiplied hr rfl (pa_cons (pv 4) (pa_cons (pv 5) (pa_cons (pv 3) pa_nil)))) (pa_cons (pv 2) (pa_cons (pv 3) pa_nil))))))
          pss_nil)
        (pss_cons (ps_set (i := 5) sc_left_raised.nd rfl (Or.inl rfl) (pcall d_left_by hr rfl (pa_cons (pcall d_multiplied hr rfl (pa_cons (pv 5) (pa_cons (pv 5) (pa_cons (pv 3) pa_nil)))) (pa_cons (pv 2) (pa_cons (pv 3) pa_nil)))))
        (pss_one (ps_aug (i := 1) sc_left_raised.nd rfl (Or.inl rfl) pe_int iop_fdiv)))))
      (pss_one (ps_ret (pv 4)))))), ?_⟩
    refine ⟨line_of (by decide), fun t1 n1 => ?_⟩
    have s1 := same_upd (o := .tup [.int 1]) n1
    refine ⟨_, rfl, _, rfl, p, hp, 1, g, .ref t1, u, rfl, ⟨t1, rfl, .inl (.inl ?_)⟩, hB.same s1, hg0, by rw [Po.sz_one]; omega, by omega, fun H2 v2 q2 r2 s2 rp2 e2 l2 => ?_⟩
    · rw [upd_same, lst_one]; rfl
    refine ⟨_, rfl, _, rfl, _, rfl, p, hp, f, g, v, u, rfl, hA.same (s1.trans s2), hB.same (s1.trans s2), hg0, by omega, by omega, fun H3 v3 q3 r3 s3 rp3 e3 l3 => ?_⟩
    refine ⟨fun m σ H' => ∃ (vf vb : V) (fo b : Po p), σ = [some v, some (.int (m : Int)), some u, some (.int p), some vf, some vb] ∧ Same H H' ∧ Rp K H' vf fo ∧ Rp K H' vb b ∧ fo.sz < g.sz ∧ b.sz < g.sz ∧ Dv g (f ^ e - fo * b ^ m),
      ⟨e, v2, v3, r2, r3, rfl, (s1.trans s2).trans s3, rp2.same s3, rp3, l2, l3, ?_⟩, fun m σ H' hW => ?_⟩
    · obtain ⟨z, hz⟩ := dv_pow_sub f r3 e
      have e4 : f - r3 = g * q3 := by grind
      exact ⟨q3 * z + q2 * r3 ^ e, by grind⟩
    · obtain ⟨vf, vb, fo, b, rfl, s', rf, rb, lf, lb, hd⟩ := hW
      refine ⟨_, rfl, _, _, rfl, rfl, _, rfl, ?_⟩
      by_cases hm : 0 < m
      · rw [decide_eq_true (show (0 : Int) < (m : Int) by omega)]
        refine ⟨_, fun σ' H' z => ⟨m / 2, by omega, z⟩, ?_⟩
        refine ⟨_, rfl, _, _, rfl, rfl, by show (0 : Int) < 2; decide, rfl, _, rfl, ?_⟩
        have kb := sz_mul_le b b
        have kf := sz_mul_le fo b
        refine ite2 (fun hodd => ?_) (fun hev => ?_)
        · have hodd : (m : Int) % 2 = 1 := V.int.inj (of_decide_eq_true hodd)
          refine ⟨_, rfl, _, rfl, _, rfl, p, hp, fo, b, vf, vb, rfl, rf, rb, by omega, by omega, fun H4 v4 s4 r4 => ?_⟩
          refine ⟨_, rfl, _, rfl, p, hp, fo * b, g, v4, u, rfl, r4, hB.same (s'.trans s4), hg0, by omega, by omega, fun H5 v5 q5 r5 s5 rp5 e5 l5 => ?_⟩
          have s45 := s4.trans s5
          refine ⟨_, rfl, _, rfl, _, rfl, p, hp, b, b, vb, vb, rfl, rb.same s45, rb.same s45, by omega, by omega, fun H6 v6 s6 r6 => ?_⟩
          refine ⟨_, rfl, _, rfl, p, hp, b * b, g, v6, u, rfl, r6, hB.same ((s'.trans s45).trans s6), hg0, by omega, by omega, fun H7 v7 q7 r7 s7 rp7 e7 l7 => ?_⟩
          refine ⟨_, rfl, _, _, rfl, rfl, ⟨by decide, by decide⟩, v5, v7, r5, r7, rfl, ((s'.trans s45).trans s6).trans s7, rp5.same (s6.trans s7), rp7, l5, l7, ?_⟩
          have em : m = (m / 2) + (m / 2) + 1 := by omega
          have eb : b ^ m = b * (b * b) ^ (m / 2) := by
            rw [em, Lean.Grind.Semiring.pow_succ, Lean.Grind.Semiring.pow_add, mul_pow, ← em]; grind
          obtain ⟨z, hz⟩ := dv_pow_sub (b * b) r7 (m / 2)
          have e8 : b * b - r7 = g * q7 := by grind
          obtain ⟨y, hy⟩ := hd
          rw [eb] at hy
          exact ⟨y + q5 * r7 ^ (m / 2) + fo * b * (q7 * z), by grind⟩
        · have hev : (m : Int) % 2 = 0 := by
            have : ¬ (m : Int) % 2 = 1 := fun z => hev (decide_eq_true (congrArg V.int z))
            omega
          refine ⟨_, rfl, _, rfl, _, rfl, p, hp, b, b, vb, vb, rfl, rb, rb, by omega, by omega, fun H6 v6 s6 r6 => ?_⟩
          refine ⟨_, rfl, _, rfl, p, hp, b * b, g, v6, u, rfl, r6, hB.same (s'.trans s6), hg0, by omega, by omega, fun H7 v7 q7 r7 s7 rp7 e7 l7 => ?_⟩
          refine ⟨_, rfl, _, _, rfl, rfl, ⟨by decide, by decide⟩, vf, v7, fo, r7, rfl, (s'.trans s6).trans s7, rf.same (s6.trans s7), rp7, lf, l7, ?_⟩
          have em : m = (m / 2) + (m / 2) := by omega
          have eb : b ^ m = (b * b) ^ (m / 2) := by
            rw [em, Lean.Grind.Semiring.pow_add, mul_pow, ← em]
          obtain ⟨z, hz⟩ := dv_pow_sub (b * b) r7 (m / 2)
          have e8 : b * b - r7 = g * q7 := by grind
          obtain ⟨y, hy⟩ := hd
          rw [eb] at hy
          exact ⟨y + fo * (q7 * z), by grind⟩
      · rw [decide_eq_false (show ¬ (0 : Int) < (m : Int) by omega)]
        have : m = 0 := by omega
        subst this
        refine ⟨_, rfl, q H' vf fo s' rf ?_ lf⟩
        rw [Lean.Grind.Semiring.pow_zero] at hd
        obtain ⟨y, hy⟩ := hd
        exact ⟨y, by grind⟩
/-- what a polynomial is at a rest -/
def spWorth : Sp := fun vs H Q _ => ∃ (p : Nat) (_ : Pr p) (f : Po p) (a : Nat) (v : V), vs = [v, .int (a : Int), .int p] ∧ Rp K H v f ∧ a < p ∧ f.sz ≤ 50000 ∧
  ∀ H' (n : Int), Same H H' → 0 ≤ n → n < p → zc p n = ev f (zc p a) → Q (.int n) H'
theorem ok_worth_at (T : Txt K mg) : DefOk P w K mg base "worth_at" 1 ["one", "number", "prime"] (spWorth (K := K)) := by
  refine def_ok T.d_worth_at sc_worth_at (fun _ _ _ _ _ _ us hl => match us, hl with | [_, _, _], _ => rfl) (fun vs H Q E h => ?_) (fun f cdv A outer s H vs Q E hr h => ?_)
  · obtain ⟨p, _, f, a, v, rfl, _⟩ := h; rfl
  · obtain ⟨p, hp, f, a, v, rfl, ⟨b, rfl, hB⟩, ha, hf, q⟩ := h
    have h2 := Pr.two p
    have h97 := Pr.le p
    refine ⟨_, (pss_cons (ps_set (i := 3) sc_worth_at.nd rfl (Or.inl rfl) pe_int)
      (pss_cons (ps_for PassesOwn.never rfl (pi_tup (KX.pe_revT (pv 0))) (pg_name (i := 4) sc_worth_at.nd rfl (Or.inl rfl))
        (pss_one (ps_set (i := 3) sc_worth_at.nd rfl (Or.inl rfl) (pe_op op_mod (pe_op op_add (pe_op op_mul (pv 3) (pv 1)) (pv 4)) (pv 2)))))
      (pss_one (ps_ret (pv 3))))), ?_⟩
    refine ⟨_, rfl, b, _, rfl, hB, fun c nc => ?_⟩
    have s1 := same_upd (o := .tup ((lst f).map V.int).reverse) nc
    refine ⟨c, rfl, ⟨_, .inl (.inl upd_same)⟩, ?_⟩
    generalize hH1 : upd H c (.tup ((lst f).map V.int).reverse) = H1 at s1
    have ec : H1 c = some (.tup ((lst f).map V.int).reverse) := by rw [← hH1, upd_same]
    have hn : ((lst f).map V.int).reverse.length = f.sz := by rw [List.length_reverse, List.length_map, lst_len]
    refine for_it (walk_tup (xs := ((lst f).map V.int).reverse)) (fun i σ H' => H' = H1 ∧ ∃ (x4 : Option V) (n : Int), σ = [some (.ref b), some (.int (a : Int)), some (.int p), some (.int n), x4] ∧ 0 ≤ n ∧ n < p ∧ zc p n = ev (pol p ((lst f).drop (f.sz - i))) (zc p a))
      ⟨rfl, none, 0, rfl, by omega, by omega, ?_⟩ (fun i σ H' _ h => by rw [h.1]; exact .inl (.inl ec)) (fun i x σ H4 H5 hi hP hy => ?_) (fun σ H' hP => ?_)
    · rw [List.drop_of_length_le (by rw [lst_len]; omega), ev_nil, zc_zero]
    · obtain ⟨rfl, x4, n, rfl, hn0, hn1, hz⟩ := hP
      obtain ⟨rfl, hx⟩ := hy
      rw [hn] at hi
      rw [List.getElem?_reverse (by rw [List.length_map, lst_len]; omega), List.length_map, lst_len] at hx
      obtain ⟨m, hm, rfl⟩ := get_map hx
      have hmr := rests_get (lst_rests f) hm
      refine ⟨_, rfl, _, rfl, _, _, rfl, rfl, .inl ⟨by omega, by omega⟩, _, rfl, _, _, rfl, rfl, _, rfl, _, _, rfl, rfl, by show (0 : Int) < (p : Int); omega, rfl, _, _, rfl, Int.emod_nonneg _ (by omega), Int.emod_lt_of_pos _ (by omega), ?_⟩
      have e1 : (lst f).drop (f.sz - (i + 1)) = m :: (lst f).drop (f.sz - i) := by
        rw [show f.sz - (i + 1) = f.sz - 1 - i by omega, List.drop_eq_getElem_cons (by rw [lst_len]; omega)]
        rw [List.getElem?_eq_getElem (by rw [lst_len]; omega)] at hm
        rw [Option.some.inj hm]
        congr 2; omega
      rw [e1, ev_cons, zc_mod, zc_add, zc_mul, hz]; grind
    · obtain ⟨rfl, x4, n, rfl, hn0, hn1, hz⟩ := hP
      rw [hn, Nat.sub_self, List.drop_zero, pol_lst] at hz
      exact ⟨_, rfl, q H' n s1 hn0 hn1 hz⟩
def spSloped : Sp := fun vs H Q _ => ∃ (p : Nat) (_ : Pr p) (f : Po p) (v : V), vs = [v, .int p] ∧ Rp K H v f ∧ f.sz ≤ 50000 ∧ ∀ H' v', Same H H' → Rp K H' v' (der f) → Q v' H'
theorem ok_sloped (T : Txt K mg) : DefOk P w K mg base "sloped" 2 ["one", "prime"] (spSloped (K := K)) := by
  have d_cut := ok_cut (P := P) (w := w) (base := base) T
  refine def_ok T.d_sloped sc_sloped (fun _ _ _ _ _ _ us hl => match us, hl with | [_, _], _ => rfl) (fun vs H Q E h => ?_) (fun f cdv A outer s H vs Q E hr h => ?_)
  · obtain ⟨p, _, f, v, rfl, _⟩ := h; rfl
  · obtain ⟨p, hp, f, v, rfl, ⟨a, rfl, hA⟩, hf, q⟩ := h
    have h2 := Pr.two p
    have h97 := Pr.le p
    refine ⟨_, (pss_one (ps_ret (pcall d_cut hr rfl (pa_cons (pe_slice sl_list (pe_lc (own := [("at", 2), ("part", 3)]) (g := (gTup K 2 (gCons (gName 2) (gCons (gName 3) gNil)))) (tt := tYes) rfl sc_sloped.nd (KX.pi_enumT (by rfl) T.n_enumerate (pa_cons (pv 0) pa_nil)) (blkOk_by (N := ["one", "prime", "at", "part"]) (sc := defScope s_sloped) (by decide +kernel)) (fun _ _ _ _ _ => (pg_tup rfl (pgs_cons (pg_name (i := 2) sc_sloped.nd rfl (Or.inl rfl)) (pgs_cons (pg_name (i := 3) sc_sloped.nd rfl (Or.inl rfl)) pgs_nil)))) (fun _ _ _ _ _ => pts_nil) (fun _ _ _ _ _ => (pe_op op_mod (pe_op op_mul (pv 2) (pv 3)) (pv 1)))) (po_some pe_int) po_none) pa_nil)))), ?_⟩
    refine ⟨_, rfl, a, _, rfl, hA, ?_⟩
    refine lc_fn (KX.walk_enumT (xs := (lst f).map V.int)) (fun i => .int ((i : Int) * (lst f).getD i 0 % (p : Int))) (by rw [List.length_map, lst_len]; omega) (fun H h => same_t h hA) (fun i x H3 H4 R hi s3 hy hR => ?_) (fun D H3 nD s3 hD => ?_)
    · obtain ⟨Tt, _, y, rfl, nT, rfl, f1, f2⟩ := hy
      cases f1
      obtain ⟨n, hn, rfl⟩ := get_map f2
      rw [List.length_map, lst_len] at hi
      have hnr := rests_get (lst_rests f) hn
      refine ⟨Tt, [.int (i : Nat), .int n], rfl, .inl (.inl upd_same), rfl, .int (i : Nat), [.int n], rfl, .int n, [], rfl, rfl, rfl, ?_⟩
      refine ⟨_, rfl, _, rfl, _, _, rfl, rfl, .inl ⟨by omega, by omega⟩, _, rfl, _, _, rfl, rfl, by show (0 : Int) < (p : Int); omega, ?_⟩
      have := hR _ (same_upd (o := .tup [.int (i : Nat), .int n]) nT)
      rw [getD_of hn] at this; exact this
    · rw [List.length_map, lst_len] at hD
      refine ⟨1, rfl, D, _, rfl, .inl (.inl hD), fun c nc => ?_⟩
      rw [show (1 : Int) = ((1 : Nat) : Int) by rfl, cutV_drop]
      have e1 : ((List.range f.sz).map fun (i : Nat) => V.int ((i : Int) * (lst f).getD i 0 % (p : Int))).drop 1 = (((List.range f.sz).map fun (i : Nat) => ((i : Int) * (lst f).getD i 0 % (p : Int))).drop 1).map V.int := by rw [List.map_drop, List.map_map]; rfl
      have s4 := same_upd (o := .lst ((((List.range f.sz).map fun (i : Nat) => ((i : Int) * (lst f).getD i 0 % (p : Int))).drop 1).map V.int)) nc
      refine ⟨p, hp, _, ((List.range f.sz).map fun (i : Nat) => ((i : Int) * (lst f).getD i 0 % (p : Int))).drop 1, rfl, ⟨c, rfl, .inl (.inl ?_)⟩, fun n hn => ?_, by simp; omega, fun H5 v5 s5 r5 => ?_⟩
      · rw [upd_same, e1]
      · have hn := List.mem_of_mem_drop hn
        obtain ⟨i, _, rfl⟩ := List.mem_map.mp hn
        exact ⟨Int.emod_nonneg _ (by omega), Int.emod_lt_of_pos _ (by omega)⟩
      · rw [e1] at s5
        refine q _ _ ((s3.trans s4).trans s5) ?_
        have e : pol p (((List.range f.sz).map fun (i : Nat) => ((i : Int) * (lst f).getD i 0 % (p : Int))).drop 1) = der f := by
          apply Po.ext; intro i
          rw [pol_ap, der_ap, List.getD_eq_getElem?_getD, List.getElem?_drop, List.getElem?_map]
          by_cases hi : 1 + i < f.sz
          · rw [List.getElem?_range hi]
            show zc p (((1 + i : Nat) : Int) * (lst f).getD (1 + i) 0 % (p : Int)) = _
            rw [zc_mod, zc_mul, lst_getD, zc_fin, Nat.add_comm 1 i]; rfl
          · rw [List.getElem?_eq_none (by simp; omega), sz_dg f (i + 1) (by omega)]
            show zc p 0 = _
            rw [zc_zero]; grind
        rw [← e]; exact r5.w
end
end KW
end

section
set_option Elab.async false
set_option linter.all false
set_option maxRecDepth 100000
set_option maxHeartbeats 4000000
namespace KW
open PySem PySem.Spec PyProof.Rows L2 K10 K10.Po
/-- a row of a width -/
def wl {p : Nat} [Pr p] (n : Nat) (f : Po p) : List Int := (List.range n).map fun i => ((f.s i).val : Int)
theorem wl_len {p : Nat} [Pr p] (n : Nat) (f : Po p) : (wl n f).length = n := by unfold wl; simp
theorem wl_get {p : Nat} [Pr p] {n i : Nat} (f : Po p) (h : i < n) : (wl n f)[i]? = some ((f.s i).val : Int) := by unfold wl; simp [h]
theorem wl_rests {p : Nat} [Pr p] (n : Nat) (f : Po p) : Rests p (wl n f) := fun x hx => by
  unfold wl at hx
  obtain ⟨i, _, rfl⟩ := List.mem_map.mp hx
  exact ⟨by omega, by have := (f.s i).isLt; omega⟩
theorem wl_ext {p : Nat} [Pr p] {n : Nat} {f : Po p} {ns : List Int} (hr : Rests p ns) (hl : ns.length = n) (h : ∀ i, i < n → zc p (ns.getD i 0) = f.s i) : ns = wl n f := by
  apply List.ext_getElem?
  intro i
  by_cases hi : i < n
  · rw [wl_get f hi]
    have h1 : i < ns.length := by omega
    have e := h i hi
    rw [List.getD_eq_getElem?_getD, List.getElem?_eq_getElem h1] at e
    rw [List.getElem?_eq_getElem h1]
    congr 1
    obtain ⟨a, b⟩ := hr ns[i] (List.getElem_mem h1)
    have e2 := congrArg (fun x : Fin p => (x.val : Int)) e
    have e3 : ((zc p ns[i]).val : Int) = ((f.s i).val : Int) := e2
    rw [zc_val, Int.emod_eq_of_lt a b] at e3
    exact e3
  · rw [List.getElem?_eq_none (by omega), List.getElem?_eq_none (by rw [wl_len]; omega)]
theorem pol_wl {p : Nat} [Pr p] {n : Nat} {f : Po p} (h : f.sz ≤ n) : pol p (wl n f) = f := Po.ext fun i => by
  rw [pol_ap, List.getD_eq_getElem?_getD]
  by_cases hi : i < n
  · rw [wl_get f hi]; exact zc_fin _
  · rw [List.getElem?_eq_none (by rw [wl_len]; omega), sz_dg f i (by omega)]; exact zc_zero
def Vw {p : Nat} [Pr p] (K : PySem.W.Frag) (H : Hp) (v : V) (n : Nat) (f : Po p) : Prop := TI K H v (wl n f)
section
variable {K : PySem.W.Frag}
theorem Vw.tk {p : Nat} [Pr p] {H H' : Hp} {v : V} {n : Nat} {f : Po p} (h : Vw K H v n f) (e : Tk H H') : Vw K H' v n f := TI.tk h e
theorem Vw.same {p : Nat} [Pr p] {H H' : Hp} {v : V} {n : Nat} {f : Po p} (h : Vw K H v n f) (e : Same H H') : Vw K H' v n f := TI.same h e
/-- the pairs of a dict of steps -/
def Kv {p : Nat} [Pr p] (K : PySem.W.Frag) (H : Hp) (n : Nat) (kvs : List (Key × V)) (L : List (Nat × Po p)) : Prop :=
  kvs.length = L.length ∧ ∀ (i : Nat) (x : Nat × Po p), L[i]? = some x → ∃ v, kvs[i]? = some (Sum.inl (x.1 : Int), v) ∧ Vw K H v n x.2
theorem Kv.tk {p : Nat} [Pr p] {H H' : Hp} {n : Nat} {kvs : List (Key × V)} {L : List (Nat × Po p)} (h : Kv K H n kvs L) (e : Tk H H') : Kv K H' n kvs L :=
  ⟨h.1, fun i x hx => let ⟨v, a, b⟩ := h.2 i x hx; ⟨v, a, b.tk e⟩⟩
theorem Kv.keys {p : Nat} [Pr p] {H : Hp} {n : Nat} {kvs : List (Key × V)} {L : List (Nat × Po p)} (h : Kv K H n kvs L) : kvs.map (·.1) = (L.map fun x => (x.1 : Int)).map Sum.inl := by
  apply List.ext_getElem?
  intro i
  rw [List.getElem?_map, List.getElem?_map, List.getElem?_map]
  cases hx : L[i]? with
  | none => rw [List.getElem?_eq_none (by have := List.getElem?_eq_none_iff.mp hx; have := h.1; omega)]; rfl
  | some x =>
    obtain ⟨v, hv, _⟩ := h.2 i x hx
    rw [hv]; rfl
theorem valV_at {κ : Type} [DecidableEq κ] : ∀ {kvs : List (κ × V)} {i : Nat} {k : κ} {v : V}, (kvs.map (·.1)).Nodup → kvs[i]? = some (k, v) → valV kvs k = some v
  | [], _, _, _, _, h => by simp at h
  | q :: r, 0, k, v, _, h => by
    have e : q = (k, v) := Option.some.inj h
    rw [e]; exact valV_pos rfl
  | q :: r, i + 1, k, v, hn, h => by
    have hn : (q.1 :: r.map (·.1)).Nodup := hn
    obtain ⟨h1, h2⟩ := List.nodup_cons.mp hn
    have h3 : r[i]? = some (k, v) := by simpa using h
    have hne : ¬ q.1 = k := fun e => h1 (List.mem_map.mpr ⟨(k, v), List.mem_of_getElem? h3, e.symm⟩)
    rw [valV_neg hne]
    exact valV_at h2 h3
theorem Kv.nd {p : Nat} [Pr p] {H : Hp} {n : Nat} {kvs : List (Key × V)} {L : List (Nat × Po p)} (h : Kv K H n kvs L) (hn : (L.map (·.1)).Nodup) : (kvs.map (·.1)).Nodup := by
  rw [h.keys, List.map_map]
  rw [List.Nodup, List.pairwise_map] at hn ⊢
  refine hn.imp fun {a b} hab e => hab ?_
  have : (Sum.inl (a.1 : Int) : Key) = Sum.inl (b.1 : Int) := e
  have := Sum.inl.inj this
  omega
theorem Kv.get {p : Nat} [Pr p] {H : Hp} {n : Nat} {kvs : List (Key × V)} {L : List (Nat × Po p)} (h : Kv K H n kvs L) (hn : (L.map (·.1)).Nodup) {a : Nat} {g : Po p} (hm : (a, g) ∈ L) :
    ∃ v, valV kvs (Sum.inl (a : Int) : Key) = some v ∧ Vw K H v n g := by
  obtain ⟨i, hi⟩ := List.getElem?_of_mem hm
  obtain ⟨v, hv, hw⟩ := h.2 i _ hi
  exact ⟨v, valV_at (h.nd hn) hv, hw⟩
theorem Kv.none {p : Nat} [Pr p] {H : Hp} {n : Nat} {kvs : List (Key × V)} {L : List (Nat × Po p)} (h : Kv K H n kvs L) {a : Nat} (hm : ∀ g, (a, g) ∉ L) : valV kvs (Sum.inl (a : Int) : Key) = Option.none := by
  cases e : valV kvs (Sum.inl (a : Int) : Key) with
  | none => rfl
  | some v =>
    have h1 := valV_in e
    rw [h.keys, List.map_map] at h1
    obtain ⟨⟨b, g⟩, hb, e2⟩ := List.mem_map.mp h1
    have e3 : (Sum.inl (b : Int) : Key) = Sum.inl (a : Int) := e2
    have : b = a := by have := Sum.inl.inj e3; omega
    subst this
    exact absurd hb (hm g)
/-- a dict that was locked and is free again -/
theorem same_unlock {H H' : Hp} {d : Addr} {u : HO} {od : Obj} (h : H d = some u) (s : Same (upd H d (.frz od u)) H') : Same H (upd H' d u) := fun b o e => by
  by_cases hb : b = d
  · subst hb; rw [upd_same]; rw [h] at e; exact e
  · rw [upd_ne hb]
    exact s b o (by rw [upd_ne hb]; exact e)
theorem TI.unlock {H' : Hp} {d : Addr} {u : HO} {od : Obj} {v : V} {ns : List Int} (h : H' d = some (.frz od u)) (hu : ∀ xs, u ≠ .tup xs) (t : TI K H' v ns) : TI K (upd H' d u) v ns := by
  obtain ⟨a, rfl, (q | ⟨o, q⟩) | q⟩ := t
  · refine ⟨a, rfl, .inl (.inl ?_)⟩
    rw [upd_ne (ne_of q h (by intro z; cases z))]; exact q
  · refine ⟨a, rfl, .inl (.inr ⟨o, ?_⟩)⟩
    rw [upd_ne (ne_of q h (by intro z; injection z with z1 z2; exact hu _ z2.symm))]; exact q
  · exact ⟨a, rfl, .inr q⟩
end
theorem low_snoc {p : Nat} [Pr p] (a : Nat) (g : Po p) : ∀ (L : List (Nat × Po p)) (f : Po p), low f (L ++ [(a, g)]) = low f L - C ((low f L).s a) * g
  | [], f => rfl
  | (b, h) :: r, f => low_snoc a g r _
section
variable {P : Program} {w : World} {K : PySem.W.Frag} {mg : Str → Option Value} {base : Heap}
def spLessened : Sp := fun vs H Q _ => ∃ (p : Nat) (_ : Pr p) (n : Nat) (f g : Po p) (v u : V) (wt : Int), vs = [v, u, .int wt, .int p] ∧ Vw K H v n f ∧ Vw K H u n g ∧ 0 ≤ wt ∧ wt < p ∧ n ≤ 1000 ∧
  ∀ H' v', Same H H' → Vw K H' v' n (f - C (zc p wt) * g) → Q v' H'
theorem ok_lessened (T : Txt K mg) : DefOk P w K mg base "lessened" 1 ["row", "other", "weight", "prime"] (spLessened (K := K)) := by
  refine def_ok T.d_lessened sc_lessened (fun _ _ _ _ _ _ us hl => match us, hl with | [_, _, _, _], _ => rfl) (fun vs H Q E h => ?_) (fun f cdv A outer s H vs Q E hr h => ?_)
  · obtain ⟨p, _, n, f, g, v, u, wt, rfl, _⟩ := h; rfl
  · obtain ⟨p, hp, n, f, g, v, u, wt, rfl, hA, ⟨b, rfl, hB⟩, hw0, hw1, hn, q⟩ := h
    have h2 := Pr.two p
    have h97 := Pr.le p
    refine ⟨_, (pss_cons (ps_if (pt_cmpR op_eq (pv 2) pe_int (nomark _))
        (pss_one (ps_ret (pv 0)))
        pss_nil)
      (pss_one (ps_ret (pe_callTy call_tuple_of (by rfl) T.n_tuple (by decide +kernel) (pa_cons (pe_lc (own := [("a", 4), ("b", 5)]) (g := (gTup K 2 (gCons (gName 4) (gCons (gName 5) gNil)))) (tt := tYes) rfl sc_lessened.nd (RZ.pi_zipA (by rfl) T.n_zip (pa_cons (pv 0) (pa_cons (pv 1) pa_nil))) (blkOk_by (N := ["row", "other", "weight", "prime", "a", "b"]) (sc := defScope s_lessened) (by decide +kernel)) (fun _ _ _ _ _ => (pg_tup rfl (pgs_cons (pg_name (i := 4) sc_lessened.nd rfl (Or.inl rfl)) (pgs_cons (pg_name (i := 5) sc_lessened.nd rfl (Or.inl rfl)) pgs_nil)))) (fun _ _ _ _ _ => pts_nil) (fun _ _ _ _ _ => (pe_op op_mod (pe_op op_sub (pv 4) (pe_op op_mul (pv 2) (pv 5))) (pv 3)))) pa_nil))))), ?_⟩
    refine ⟨_, rfl, rfl, _, rfl, ?_⟩
    by_cases hw : wt = 0
    · rw [decide_eq_true (congrArg V.int hw)]
      refine iteT ⟨_, rfl, q H v (Same.refl _) ?_⟩
      rw [hw, zc_zero, C_zero, show f - 0 * g = f by grind]; exact hA
    · rw [decide_eq_false (fun z => hw (V.int.inj z))]
      refine iteF ?_
      obtain ⟨a, rfl, hA⟩ := hA
      have la : ((wl n f).map V.int).length = n := by rw [List.length_map, wl_len]
      have lb : ((wl n g).map V.int).length = n := by rw [List.length_map, wl_len]
      refine ⟨_, rfl, _, rfl, a, b, _, _, rfl, .inr ⟨hA, hB, ?_⟩⟩
      refine lc_fn (KX.walk_zipT (n := n) (by rw [la, lb]; omega)) (fun i => .int ((((f.s i).val : Int) - wt * ((g.s i).val : Int)) % (p : Int))) (by omega) (fun H h => ⟨same_t h hA, same_t h hB⟩) (fun i x H3 H4 R hi s3 y hR => ?_) (fun D H3 nD s3 hD => ?_)
      · obtain ⟨T', x1, x2, rfl, nT, rfl, f1, f2⟩ := y
        obtain ⟨n1, g1, rfl⟩ := get_map f1
        obtain ⟨n2, g2, rfl⟩ := get_map f2
        rw [wl_get f hi] at g1
        rw [wl_get g hi] at g2
        have c1 := Option.some.inj g1
        have c2 := Option.some.inj g2
        refine ⟨T', [.int n1, .int n2], rfl, .inl (.inl upd_same), rfl, .int n1, [.int n2], rfl, .int n2, [], rfl, rfl, rfl, ?_⟩
        refine ⟨_, rfl, _, rfl, _, rfl, _, _, rfl, rfl, .inl ⟨by omega, by omega⟩, _, _, rfl, rfl, _, rfl, _, _, rfl, rfl, by show (0 : Int) < (p : Int); omega, ?_⟩
        have := hR _ (same_upd (o := .tup [.int n1, .int n2]) nT)
        rw [c1, c2] at this; exact this
      · refine ⟨D, _, rfl, .inl ⟨.inl (.inl hD), fun t nt => ?_⟩⟩
        refine q _ _ (s3.trans (same_upd nt)) ⟨t, rfl, .inl (.inl ?_)⟩
        have e : (List.range n).map (fun i => (((f.s i).val : Int) - wt * ((g.s i).val : Int)) % (p : Int)) = wl n (f - C (zc p wt) * g) := by
          refine wl_ext (fun x hx => ?_) (by simp) fun i hi => ?_
          · obtain ⟨i, _, rfl⟩ := List.mem_map.mp hx
            exact ⟨Int.emod_nonneg _ (by omega), Int.emod_lt_of_pos _ (by omega)⟩
          · rw [List.getD_eq_getElem?_getD, List.getElem?_map, List.getElem?_range hi]
            show zc p ((((f.s i).val : Int) - wt * ((g.s i).val : Int)) % (p : Int)) = _
            rw [zc_mod, zc_sub, zc_mul, zc_fin, zc_fin, sub_ap, Cmul_ap]
        rw [upd_same, ← e, List.map_map]; rfl
/-- a row with 0 at all steps -/
def spLowered : Sp := fun vs H Q _ => ∃ (p : Nat) (_ : Pr p) (n : Nat) (f : Po p) (L : List (Nat × Po p)) (kvs : List (Key × V)) (v : V) (d : Addr), vs = [v, .ref d, .int p] ∧ Vw K H v n f ∧ H d = some (.dK kvs) ∧ Kv K H n kvs L ∧ (L.map (·.1)).Nodup ∧ (∀ a g, (a, g) ∈ L → a < n) ∧ n ≤ 1000 ∧
  ∀ H' v', Same H H' → Vw K H' v' n (low f L) → Q v' H'
theorem ok_lowered (T : Txt K mg) : DefOk P w K mg base "lowered" 2 ["row", "found", "prime"] (spLowered (K := K)) := by
  have d_lessened := ok_lessened (P := P) (w := w) (base := base) T
  refine def_ok T.d_lowered sc_lowered (fun _ _ _ _ _ _ us hl => match us, hl with | [_, _, _], _ => rfl) (fun vs H Q E h => ?_) (fun f cdv A outer s H vs Q E hr h => ?_)
  · obtain ⟨p, _, n, f, L, kvs, v, d, rfl, _⟩ := h; rfl
  · obtain ⟨p, hp, n, f, L, kvs, v, d, rfl, hA, hD, hK, hnd, hlt, hn, q⟩ := h
    have hu := hu_of hr
    refine ⟨_, (pss_cons (ps_lock (ps_for PassesOwn.never rfl (pi_keys (pv 1)) (pg_name (i := 3) sc_lowered.nd rfl (Or.inl rfl))
        (pss_one (ps_set (i := 0) sc_lowered.nd rfl (Or.inl rfl) (pcall d_lessened hr rfl (pa_cons (pv 0) (pa_cons (pe_dget hu (pv 1) (pv 3) (fun _ _ => rfl)) (pa_cons (pe_ix (r := rIxT K) ix_tup (pv 0) (pv 3) (fun _ _ => rfl)) (pa_cons (pv 2) pa_nil)))))))))
      (pss_one (ps_ret (pv 0)))), ?_⟩
    refine ⟨d, _, hD, trivial, fun od => ?_⟩
    have tkd := tk_dK (o := .frz od (.dK kvs)) hD
    refine ⟨_, rfl, d, od, rfl, .inl ⟨kvs, upd_same, ?_⟩⟩
    generalize hH1 : upd H d (.frz od (.dK kvs)) = H1 at tkd
    have e1 : H1 d = some (.frz od (.dK kvs)) := by rw [← hH1, upd_same]
    have hA1 := hA.tk tkd
    have hK1 := hK.tk tkd
    refine for_it (walk_keys (kvs := kvs) (o := od)) (fun i σ H' => ∃ (v' : V) (x3 : Option V), σ = [some v', some (.ref d), some (.int p), x3] ∧ Same H1 H' ∧ Vw K H' v' n (low f (L.take i)))
      ⟨v, none, rfl, Same.refl _, by rw [List.take_zero]; exact hA1⟩ (fun i σ H' _ h => by obtain ⟨_, _, _, s', _⟩ := h; exact s' _ _ e1) (fun i x σ H4 H5 hi hP hy => ?_) (fun σ H' hP => ?_)
    · obtain ⟨v', x3, rfl, s', hv⟩ := hP
      obtain ⟨rfl, k, vv, hkv, rfl⟩ := hy
      obtain ⟨⟨a, g⟩, hL⟩ : ∃ x, L[i]? = some x := ⟨_, List.getElem?_eq_getElem (by have := hK.1; omega)⟩
      obtain ⟨v2, hv2, hw2⟩ := hK1.2 i _ hL
      rw [hkv] at hv2
      cases hv2
      have hmem := List.mem_of_getElem? hL
      have han := hlt a g hmem
      obtain ⟨ra, rfl, hra⟩ := hv
      have hval : valV kvs (Sum.inl (a : Int) : Key) = some vv := valV_at (hK.nd hnd) hkv
      refine ⟨_, rfl, _, rfl, _, rfl, d, vv, rfl, .inl ⟨kvs, Sum.inl (a : Int), .inr ⟨od, s' _ _ e1⟩, rfl, hval.symm⟩, _, rfl, _, rfl, ra, _, _, _, rfl, rfl, hra, atI_nat (map_get (wl_get _ han)), _, rfl, ?_⟩
      have hlt2 := ((low f (L.take i)).s a).isLt
      refine ⟨p, hp, n, low f (L.take i), g, _, vv, _, rfl, ⟨ra, rfl, hra⟩, hw2.same s', by omega, by omega, hn, fun H6 v6 s6 r6 => ?_⟩
      refine ⟨v6, _, rfl, s'.trans s6, ?_⟩
      rw [zc_fin] at r6
      rw [List.take_add_one, hL]
      show Vw K H6 v6 n (low f (L.take i ++ [(a, g)]))
      rw [low_snoc]; exact r6
    · obtain ⟨v', x3, rfl, s', hv⟩ := hP
      refine ⟨s' _ _ e1, _, rfl, ?_⟩
      rw [hK.1, List.take_of_length_le (Nat.le_refl _)] at hv
      refine q _ _ (same_unlock (od := od) hD (by rw [hH1]; exact s')) (TI.unlock (s' _ _ e1) (fun xs z => by cases z) hv)
end
end KW
end

section
set_option Elab.async false
set_option linter.all false
set_option maxRecDepth 100000
set_option maxHeartbeats 4000000
namespace KW
open PySem PySem.Spec PyProof.Rows L2 K10 K10.Po
/-- a list of ints as data -/
def dL (ns : List Int) : PyData := .list (ns.map .int)
theorem plain_dL (ns : List Int) : plain (dL ns) = true := by unfold dL plain; exact plain_ints ns
theorem depth_dL (ns : List Int) : (dL ns).depth = 1 := by unfold dL; simp only [PyData.depth, depth_ints]
theorem shaped_dL (ns : List Int) : SeqAt.shaped (dL ns) = true := shaped_plain (plain_dL ns) (by rw [depth_dL]; decide)
theorem dL_inj {ns ms : List Int} (h : dL ns = dL ms) : ns = ms := by
  unfold dL at h
  injection h with h
  exact ints_inj h
theorem eqv_dL (ns ms : List Int) : PyData.eqv (dL ns) (dL ms) = decide (ns = ms) := by
  have h := eqv_plain (dL ns) (dL ms) (plain_dL ns) (plain_dL ms)
  by_cases e : ns = ms
  · rw [decide_eq_true e, h, e]
  · rw [decide_eq_false e]
    cases q : PyData.eqv (dL ns) (dL ms) with
    | false => rfl
    | true => exact absurd (dL_inj (h.mp q)) e
theorem dp_L {K : PySem.W.Frag} {H : Hp} {a : Addr} {ns : List Int} (h : SqL K H a (ns.map V.int)) : Dp K H (.ref a) (dL ns) := .lst h (dpAll_ints ns)
theorem nd_false {P : Prop} [Decidable P] (h : (!decide P) = false) : P := by
  by_cases hp : P
  · exact hp
  · rw [decide_eq_false hp] at h; cases h
theorem nd_true {P : Prop} [Decidable P] (h : (!decide P) = true) : ¬ P := fun hp => by rw [decide_eq_true hp] at h; cases h
theorem nd_mk {P : Prop} [Decidable P] (h : ¬ P) : (!decide P) = true := by rw [decide_eq_false h]; rfl
theorem nodup_lt_len : ∀ (n : Nat) (l : List Nat), l.Nodup → (∀ x ∈ l, x < n) → l.length ≤ n
  | 0, l, _, h => by
    cases l with
    | nil => simp
    | cons x r => exact absurd (h x List.mem_cons_self) (by omega)
  | n + 1, l, hn, h => by
    by_cases hm : n ∈ l
    · obtain ⟨A, B, rfl⟩ := List.append_of_mem hm
      have hp : (A ++ n :: B).Perm (n :: (A ++ B)) := List.perm_middle
      have hn2 := hp.nodup_iff.mp hn
      obtain ⟨h1, h2⟩ := List.nodup_cons.mp hn2
      have := nodup_lt_len n (A ++ B) h2 fun x hx => by
        have h3 := h x (hp.mem_iff.mpr (List.mem_cons_of_mem _ hx))
        have h4 : x ≠ n := fun e => h1 (e ▸ hx)
        omega
      rw [hp.length_eq, List.length_cons]; omega
    · have := nodup_lt_len n l hn fun x hx => by
        have h3 := h x hx
        have h4 : x ≠ n := fun e => hm (e ▸ hx)
        omega
      omega
theorem ech_len {p : Nat} [Pr p] {n : Nat} {L : List (Nat × Po p)} (E : Ech n L) : L.length ≤ n := by
  have := nodup_lt_len n (L.map (·.1)) E.nd fun b hb => by
    obtain ⟨⟨b', g'⟩, hm, rfl⟩ := List.mem_map.mp hb
    exact E.lt _ _ hm
  rw [List.length_map] at this; exact this
theorem filter_first {n : Nat} {f : Nat → Bool} {s : Nat} {r : List Nat} (h : (List.range n).filter f = s :: r) : s < n ∧ f s = true ∧ ∀ j, j < s → f j = false := by
  have hm : s ∈ (List.range n).filter f := by rw [h]; exact List.mem_cons_self
  obtain ⟨h1, h2⟩ := List.mem_filter.mp hm
  refine ⟨List.mem_range.mp h1, h2, fun j hj => ?_⟩
  cases e : f j with
  | false => rfl
  | true =>
    have hjm : j ∈ (List.range n).filter f := List.mem_filter.mpr ⟨List.mem_range.mpr (by have := List.mem_range.mp h1; omega), e⟩
    rw [h] at hjm
    rcases List.mem_cons.mp hjm with e2 | e2
    · omega
    · have hp : ((List.range n).filter f).Pairwise (· < ·) := List.Pairwise.filter _ List.pairwise_lt_range
      rw [h] at hp
      have := (List.pairwise_cons.mp hp).1 j e2
      omega
theorem zc_natv {p : Nat} [Pr p] (x : Fin p) (h : ((x.val : Int)) = 0) : x = 0 := by
  apply Fin.ext
  show x.val = 0 % p
  rw [Nat.zero_mod]; omega
section
variable {P : Program} {w : World} {K : PySem.W.Frag} {mg : Str → Option Value} {base : Heap}
/-- rows of a width, as they stand in a list -/
def Rw {p : Nat} [Pr p] (K : PySem.W.Frag) (H : Hp) (n : Nat) (vs : List V) (R : List (Po p)) : Prop :=
  vs.length = R.length ∧ ∀ (i : Nat) (f : Po p), R[i]? = some f → ∃ v, vs[i]? = some v ∧ Vw K H v n f
theorem Rw.tk {p : Nat} [Pr p] {H H' : Hp} {n : Nat} {vs : List V} {R : List (Po p)} (h : Rw K H n vs R) (e : Tk H H') : Rw K H' n vs R :=
  ⟨h.1, fun i x hx => let ⟨v, a, b⟩ := h.2 i x hx; ⟨v, a, b.tk e⟩⟩
def spSteps : Sp := fun vs H Q _ => ∃ (p : Nat) (_ : Pr p) (n : Nat) (R : List (Po p)) (rv : List V) (a : Addr), vs = [.ref a, .int p] ∧ SqL K H a rv ∧ Rw K H n rv R ∧ (∀ f ∈ R, f.sz ≤ n) ∧ n ≤ 1000 ∧
  ∀ H' d kvs (L : List (Nat × Po p)), Same H H' → H d = none → H' d = some (.dK kvs) → Kv K H' n kvs L → Ech n L → (∀ S, Sb S → ((∀ f ∈ R, S f) ↔ ∀ a g, (a, g) ∈ L → S g)) → Q (.ref d) H'
theorem ok_steps_of (T : Txt K mg) : DefOk P w K mg base "steps_of" 3 ["rows", "prime"] (spSteps (K := K)) := by
  have d_lowered := ok_lowered (P := P) (w := w) (base := base) T
  have d_lessened := ok_lessened (P := P) (w := w) (base := base) T
  have d_turned_over := ok_turned_over (P := P) (w := w) (base := base) T
  refine def_ok T.d_steps_of sc_steps_of (fun _ _ _ _ _ _ us hl => match us, hl with | [_, _], _ => rfl) (fun vs H Q E h => ?_) (fun f cdv A outer s H vs Q E hr h => ?_)
  · obtain ⟨p, _, n, R, rv, a, rfl, _⟩ := h; rfl
  · obtain ⟨p, hp, n, R, rv, a, rfl, hA, hR, hRs, hn, q⟩ := h
    have hu := hu_of hr
    have h2 := Pr.two p
    have h97 := Pr.le p
    refine ⟨_, (pss_cons (ps_set (i := 2) sc_steps_of.nd rfl (Or.inr rfl) pe_dnewK)
      (pss_cons (ps_for PassesOwn.never rfl (pi_list (pv 0)) (pg_name (i := 3) sc_steps_of.nd rfl (Or.inl rfl))
        (pss_cons (ps_set (i := 4) sc_steps_of.nd rfl (Or.inr rfl) (pcall d_lowered hr rfl (pa_cons (pv 3) (pa_cons (pv 2) (pa_cons (pv 1) pa_nil)))))
        (pss_cons (ps_setLc (own := [("at", 8), ("one", 9)]) (g := (gTup K 2 (gCons (gName 8) (gCons (gName 9) gNil)))) (i := 5) rfl sc_steps_of.nd rfl rfl (sw_true rfl rfl rfl (by decide +kernel)) (KX.pi_enumT (by rfl) T.n_enumerate (pa_cons (pv 4) pa_nil)) (blkOk_by (N := ["rows", "prime", "found", "row", "left", "spots", "step", "back", "at", "one"]) (sc := defScope s_steps_of) (by decide +kernel)) (fun _ _ _ _ _ => (pg_tup rfl (pgs_cons (pg_name (i := 8) sc_steps_of.nd rfl (Or.inl rfl)) (pgs_cons (pg_name (i := 9) sc_steps_of.nd rfl (Or.inl rfl)) pgs_nil)))) (fun _ _ _ _ _ => (pts_one (pt_cmpR op_ne (pv 9) pe_int (nomark _)))) (fun _ _ _ _ _ => (pv 8)))
        (pss_one (ps_if (pt_cmpR (op_neD hr.units) (pv 5) (pe_lst pa_nil) (nomark _))
          (pss_cons (ps_set (i := 6) sc_steps_of.nd rfl (Or.inr rfl) (pe_ix (r := rIxL K) ix_list (pv 5) pe_int (fun _ _ => rfl)))
          (pss_cons (ps_set (i := 7) sc_steps_of.nd rfl (Or.inr rfl) (pcall d_turned_over hr rfl (pa_cons (pe_ix (r := rIxT K) ix_tup (pv 4) (pv 6) (fun _ _ => rfl)) (pa_cons (pv 1) pa_nil))))
          (pss_cons (ps_set (i := 4) sc_steps_of.nd rfl (Or.inr rfl) (pe_callTy call_tuple_of (by rfl) T.n_tuple (by decide +kernel) (pa_cons (pe_lc (own := [("one", 9)]) (g := (gName 9)) (tt := tYes) rfl sc_steps_of.nd (pi_tup (pv 4)) (blkOk_by (N := ["rows", "prime", "found", "row", "left", "spots", "step", "back", "at", "one"]) (sc := defScope s_steps_of) (by decide +kernel)) (fun _ _ _ _ _ => (pg_name (i := 9) sc_steps_of.nd rfl (Or.inl rfl))) (fun _ _ _ _ _ => pts_nil) (fun _ _ _ _ _ => (pe_op op_mod (pe_op op_mul (pv 9) (pv 7)) (pv 1)))) pa_nil)))
          (pss_cons (ps_set (i := 2) sc_steps_of.nd rfl (Or.inr rfl) (pe_lock (pe_dc (own := [("at", 8)]) (g := (gName 8)) (tt := tYes) rfl sc_steps_of.nd (pi_keys (pv 2)) (blkOk_by (N := ["rows", "prime", "found", "row", "left", "spots", "step", "back", "at", "one"]) (sc := defScope s_steps_of) (by decide +kernel)) (fun _ _ _ _ _ => (pg_name (i := 8) sc_steps_of.nd rfl (Or.inl rfl))) (fun _ _ _ _ _ => pts_nil) (fun _ _ _ _ _ => (pv 8)) (fun _ _ _ _ _ => (pcall d_lessened hr rfl (pa_cons (pe_dget hu (pv 2) (pv 8) (fun _ _ => rfl)) (pa_cons (pv 4) (pa_cons (pe_ix (r := rIxT K) ix_tup (pe_dget hu (pv 2) (pv 8) (fun _ _ => rfl)) (pv 6) (fun _ _ => rfl)) (pa_cons (pv 1) pa_nil)))))))))
          (pss_one (ps_dput hu (pv 2) (pv 6) (pv 4) rfl))))))
          pss_nil)))))
      (pss_one (ps_ret (pv 2))))), ?_⟩
    intro d0 nd0
    have s0 := same_upd (o := .dK []) nd0
    refine ⟨_, rfl, a, rfl, ⟨_, same_l s0 hA⟩, ?_⟩
    refine for_it (walk_list (xs := rv)) (fun i σ H' => ∃ (d : Addr) (kvs : List (Key × V)) (L : List (Nat × Po p)) (x3 x4 x5 x6 x7 : Option V), σ = [some (.ref a), some (.int p), some (.ref d), x3, x4, x5, x6, x7, none, none] ∧ Same H H' ∧ H d = none ∧ H' d = some (.dK kvs) ∧ Kv K H' n kvs L ∧ Ech n L ∧
        ∀ S, Sb S → ((∀ f ∈ R.take i, S f) ↔ ∀ a g, (a, g) ∈ L → S g))
      ⟨d0, [], [], none, none, none, none, none, rfl, s0, nd0, upd_same, ⟨rfl, fun i x h => by simp at h⟩, Ech.nil n, fun S _ => ⟨fun _ _ _ h => (nomatch h), fun _ f h => by simp at h⟩⟩
      (fun i σ H' _ h => by obtain ⟨_, _, _, _, _, _, _, _, _, s', _⟩ := h; exact same_l s' hA) (fun i x σ H4 H5 hi hP hy => ?_) (fun σ H' hP => ?_)
    · obtain ⟨d, kvs, L, x3, x4, x5, x6, x7, rfl, s4, hdn, hd, hK, hE, hsp⟩ := hP
      obtain ⟨rfl, hx⟩ := hy
      obtain ⟨f, hf⟩ : ∃ f, R[i]? = some f := ⟨_, List.getElem?_eq_getElem (by have := hR.1; omega)⟩
      obtain ⟨v, hv, hvw⟩ := hR.2 i f hf
      rw [hx] at hv
      cases hv
      have hfz := hRs f (List.mem_of_getElem? hf)
      -- left = lowered(row, found, prime)
      refine ⟨_, rfl, _, rfl, _, rfl, p, hp, n, f, L, kvs, x, d, rfl, hvw.same s4, hd, hK, hE.nd, hE.lt, hn, fun H6 v6 s6 r6 => ?_⟩
      have hlz := low_sz L f hfz hE.sz
      have hl0 := low_zero L f hE.nd hE.one hE.apart
      have htk : R.take (i + 1) = R.take i ++ [f] := by rw [List.take_add_one, hf]; rfl
      have hspan : ∀ S, Sb S → (∀ a g, (a, g) ∈ L → S g) → (S (low f L) ↔ S f) := fun S hS k => low_span hS L f k
      generalize low f L = u at r6 hlz hl0 hspan
      obtain ⟨ua, rfl, hua⟩ := r6
      have hd6 := s6 _ _ hd
      have hK6 := hK.tk (Same.tk s6)
      -- spots
      have lu : ((wl n u).map V.int).length = n := by rw [List.length_map, wl_len]
      refine ⟨_, rfl, ua, _, rfl, hua, ?_⟩
      refine lc_flt (KX.walk_enumT (xs := (wl n u).map V.int)) (fun j => !decide (V.int ((u.s j).val : Int) = V.int 0)) (fun j => V.int (j : Int)) (by rw [lu]; omega) (fun H h => same_t h hua) (fun j y H7 H8 Ry Rn hj s7 hy2 hyes hno => ?_) (fun D H7 nD s7 hD => ?_)
      · obtain ⟨Tt, _, z, rfl, nT, rfl, f1, f2⟩ := hy2
        cases f1
        obtain ⟨m, hm, rfl⟩ := get_map f2
        rw [lu] at hj
        rw [wl_get u hj] at hm
        have em := Option.some.inj hm
        have sT := same_upd (o := .tup [.int (j : Nat), .int m]) nT
        refine ⟨Tt, [.int (j : Nat), .int m], rfl, .inl (.inl upd_same), rfl, .int (j : Nat), [.int m], rfl, .int m, [], rfl, rfl, rfl, ?_⟩
        refine ⟨_, rfl, rfl, _, rfl, ?_⟩
        rw [em] at hyes hno
        cases hc : (!decide (V.int m = V.int 0)) with
        | true =>
          refine iteT ?_
          exact ⟨_, rfl, hyes hc _ sT⟩
        | false =>
          refine iteF ?_
          exact hno hc _ sT
      · rw [lu] at hD
        generalize hfl : (List.range n).filter (fun j => !decide (V.int ((u.s j).val : Int) = V.int 0)) = fl at hD
        have eD : fl.map (fun j : Nat => V.int (j : Int)) = (fl.map fun j : Nat => (j : Int)).map V.int := by rw [List.map_map]; rfl
        rw [eD] at hD
        -- if spots != []
        refine ⟨_, rfl, line_of (by decide), fun c nc => ?_⟩
        have s8 := same_upd (o := .lst []) nc
        refine ⟨_, _, dp_L (.inl (.inl (s8 _ _ hD))), dp_L (ns := []) (.inl (.inl upd_same)), shaped_dL _, shaped_dL _, _, rfl, ?_⟩
        rw [eqv_dL]
        generalize hH8 : upd H7 c (.lst []) = H8 at s8
        have s48 := ((s4.trans s6).trans s7).trans s8
        have s68 := s7.trans s8
        have hd8 := s68 _ _ hd6
        have hK8 := hK6.tk (Same.tk s68)
        have hua8 := same_t s68 hua
        have hD8 := s8 _ _ hD
        match fl, hfl with
        | [], hfl =>
          rw [decide_eq_true (show ([].map fun j : Nat => (j : Int)) = ([] : List Int) from rfl)]
          refine iteF ?_
          have hu0 : u = 0 := by
            apply Po.ext; intro j
            rw [zero_ap]
            by_cases hj : j < n
            · have hnm : j ∉ (List.range n).filter (fun j => !decide (V.int ((u.s j).val : Int) = V.int 0)) := by rw [hfl]; simp
              apply zc_natv
              apply Classical.byContradiction; intro hne
              exact hnm (List.mem_filter.mpr ⟨List.mem_range.mpr hj, nd_mk fun z => hne (V.int.inj z)⟩)
            · exact sz_dg u j (by omega)
          refine ⟨d, kvs, L, _, _, _, _, _, rfl, s48, hdn, hd8, hK8, hE, fun S hS => ?_⟩
          rw [htk]
          constructor
          · intro k
            exact (hsp S hS).mp fun g hg => k g (List.mem_append_left _ hg)
          · intro k g hg
            rcases List.mem_append.mp hg with hg | hg
            · exact (hsp S hS).mpr k g hg
            · rw [List.mem_singleton.mp hg]
              exact (hspan S hS k).mp (by rw [hu0]; exact hS.zero)
        | st :: fr', hfl =>
          rw [decide_eq_false (show ¬ ((st :: fr').map fun j : Nat => (j : Int)) = [] by simp)]
          refine iteT ?_
          obtain ⟨hst, hfst, hbefore⟩ := filter_first hfl
          have hsne : ((u.s st).val : Int) ≠ 0 := fun e => nd_true hfst (congrArg V.int e)
          have hzero : ∀ j, j < st → u.s j = 0 := fun j hj => zc_natv _ (V.int.inj (nd_false (hbefore j hj)))
          have hlts := (u.s st).isLt
          -- step = spots[0]
          refine ⟨_, rfl, _, _, _, _, rfl, rfl, .inl (.inl hD8), atI_nat (j := 0) rfl, ?_⟩
          -- back
          refine ⟨_, rfl, _, rfl, ua, _, _, _, rfl, rfl, hua8, atI_nat (map_get (wl_get u hst)), _, rfl, p, hp, ((u.s st).val : Int), by omega, by omega, rfl, fun bk hb0 hb1 hbk => ?_⟩
          rw [zc_fin] at hbk
          -- left
          refine ⟨_, rfl, ua, rfl, ⟨_, hua8⟩, ?_⟩
          refine lc_fn (walk_tup (xs := (wl n u).map V.int)) (fun j => V.int (((u.s j).val : Int) * bk % (p : Int))) (by rw [lu]; omega) (fun H h => same_t h hua8) (fun j y H9 H10 Rr hj s9 hy2 hRr => ?_) (fun D2 H9 nD2 s9 hD2 => ?_)
          · obtain ⟨rfl, hy2⟩ := hy2
            obtain ⟨m, hm, rfl⟩ := get_map hy2
            rw [lu] at hj
            rw [wl_get u hj] at hm
            have em := Option.some.inj hm
            have hltj := (u.s j).isLt
            refine ⟨rfl, _, rfl, _, rfl, _, _, rfl, rfl, .inl ⟨by omega, by omega⟩, _, rfl, _, _, rfl, rfl, by show (0 : Int) < (p : Int); omega, ?_⟩
            have := hRr _ (Same.refl _)
            rw [em] at this; exact this
          rw [lu] at hD2
          refine ⟨D2, _, rfl, .inl ⟨.inl (.inl hD2), fun t nt => ?_⟩⟩
          have hbz : zc p bk ≠ 0 := fun z => by
            rw [z] at hbk
            exact fin_one_ne (p := p) (by rw [← hbk]; grind)
          have hleft : (List.range n).map (fun j => ((u.s j).val : Int) * bk % (p : Int)) = wl n (C (zc p bk) * u) := by
            refine wl_ext (fun x hx => ?_) (by simp) fun j hj => ?_
            · obtain ⟨j, _, rfl⟩ := List.mem_map.mp hx
              exact ⟨Int.emod_nonneg _ (by omega), Int.emod_lt_of_pos _ (by omega)⟩
            · rw [List.getD_eq_getElem?_getD, List.getElem?_map, List.getElem?_range hj]
              show zc p (((u.s j).val : Int) * bk % (p : Int)) = _
              rw [zc_mod, zc_mul, zc_fin, Cmul_ap]; grind
          have s10 := same_upd (o := .tup ((List.range n).map fun j => V.int (((u.s j).val : Int) * bk % (p : Int)))) nt
          have et : (upd H9 t (.tup ((List.range n).map fun j => V.int (((u.s j).val : Int) * bk % (p : Int))))) t = some (.tup ((wl n (C (zc p bk) * u)).map V.int)) := by
            rw [upd_same, ← hleft, List.map_map]; rfl
          generalize hH10 : upd H9 t (.tup ((List.range n).map fun j => V.int (((u.s j).val : Int) * bk % (p : Int)))) = H10 at s10 et
          have s8_10 := s9.trans s10
          have hd10 := s8_10 _ _ hd8
          have hK10 := hK8.tk (Same.tk s8_10)
          have hD10 := s8_10 _ _ hD8
          generalize hu2 : C (zc p bk) * u = u2 at et
          have hu2z : u2.sz ≤ n := by rw [← hu2]; have := Cmul_sz (zc p bk) u; omega
          have hu21 : u2.s st = 1 := by rw [← hu2, Cmul_ap]; exact hbk
          have hu20 : ∀ j, j < st → u2.s j = 0 := fun j hj => by rw [← hu2, Cmul_ap, hzero j hj]; grind
          have hu2p : ∀ a g, (a, g) ∈ L → u2.s a = 0 := fun a g hm => by rw [← hu2, Cmul_ap, hl0 a g hm]; grind
          have hLt := hE.step hst hu2z hu21 hu20 hu2p
          -- found = {..}
          refine ⟨d, _, hd10, trivial, fun od => ?_⟩
          have tkd := tk_dK (o := .frz od (.dK kvs)) hd10
          refine ⟨_, rfl, d, od, rfl, .inl ⟨kvs, upd_same, fun D3 nD3 => ?_⟩⟩
          generalize hH11 : upd H10 d (.frz od (.dK kvs)) = H11 at tkd nD3
          have e11 : H11 d = some (.frz od (.dK kvs)) := by rw [← hH11, upd_same]
          have hK11 := hK10.tk tkd
          have et11 : H11 t = some (.tup ((wl n u2).map V.int)) := (tkd t).1 _ et
          have hD3d : D3 ≠ d := fun e => by rw [e, e11] at nD3; cases nD3
          refine KX.dc_it (walk_keys (kvs := kvs) (o := od)) (fun j H' => Same H11 H' ∧ ∃ kvs', H' D3 = some (.dK kvs') ∧ Kv K H' n kvs' ((L.take j).map fun x => (x.1, x.2 - C (x.2.s st) * u2)))
            ⟨same_upd nD3, [], upd_same, ⟨rfl, fun i x h => by simp at h⟩⟩ (fun j H' _ h => h.1 _ _ e11) (fun j y H12' H12 hj hP hy2 => ?_) (fun H12 hP => ?_)
          · obtain ⟨s12, kvs', hD3', hK12⟩ := hP
            obtain ⟨rfl, k, vv, hkv, rfl⟩ := hy2
            obtain ⟨⟨b, g⟩, hL⟩ : ∃ x, L[j]? = some x := ⟨_, List.getElem?_eq_getElem (by have := hK.1; omega)⟩
            obtain ⟨v2, hv2, hw2⟩ := hK11.2 j _ hL
            rw [hkv] at hv2
            cases hv2
            have hmem := List.mem_of_getElem? hL
            have hval : valV kvs (Sum.inl (b : Int) : Key) = some vv := valV_at (hK.nd hE.nd) hkv
            obtain ⟨va, rfl, hva⟩ := hw2
            have hltg := (g.s st).isLt
            refine ⟨rfl, _, rfl, ?_⟩
            refine ⟨_, rfl, _, rfl, d, _, rfl, .inl ⟨kvs, Sum.inl (b : Int), .inr ⟨od, s12 _ _ e11⟩, rfl, hval.symm⟩, _, rfl, _, rfl, _, rfl, d, _, rfl, .inl ⟨kvs, Sum.inl (b : Int), .inr ⟨od, s12 _ _ e11⟩, rfl, hval.symm⟩, _, rfl, va, _, _, _, rfl, rfl, same_t s12 hva, atI_nat (map_get (wl_get g hst)), _, rfl, ?_⟩
            refine ⟨p, hp, n, g, u2, .ref va, .ref t, _, rfl, ⟨va, rfl, same_t s12 hva⟩, ⟨t, rfl, .inl (.inl (s12 _ _ et11))⟩, by omega, by omega, hn, fun H14 v14 s14 r14 => ?_⟩
            rw [zc_fin] at r14
            have hnone : valV kvs' (Sum.inl (b : Int) : Key) = none := by
              refine hK12.none fun g' hm => ?_
              obtain ⟨⟨b', g''⟩, hm2, e2⟩ := List.mem_map.mp hm
              have eb : b' = b := congrArg Prod.fst e2
              have hnd := hE.nd
              obtain ⟨i2, hi2⟩ := List.getElem?_of_mem hm2
              rw [List.getElem?_take] at hi2
              split at hi2
              · rename_i hlt
                have q1 : (L.map (·.1))[i2]? = some b := by rw [List.getElem?_map, hi2, ← eb]; rfl
                have q2 : (L.map (·.1))[j]? = some b := by rw [List.getElem?_map, hL]; rfl
                have := nd_ix hnd q1 q2
                omega
              · cases hi2
            have hle : kvs'.length ≤ 1000 := by
              rw [hK12.1, List.length_map, List.length_take]
              have := hK.1
              have h3 := ech_len hE
              omega
            refine ⟨kvs', Sum.inl (b : Int), rfl, s14 _ _ hD3', small1000 hle, same_mut (s12.trans s14) nD3, _, upd_same, ?_⟩
            rw [putK_new _ hnone]
            have tk14 : Tk H12 (upd H14 D3 (.dK (kvs' ++ [((Sum.inl (b : Int) : Key), v14)]))) := Tk.trans (Same.tk s14) (tk_dK (s14 _ _ hD3'))
            refine ⟨?_, fun i2 x2 hx2 => ?_⟩
            · rw [List.length_append, hK12.1, List.length_map, List.length_map, List.length_take, List.length_take]
              have := (List.getElem?_eq_some_iff.mp hL).1
              show _ + 1 = _
              omega
            · rw [List.take_add_one, hL, List.map_append] at hx2
              by_cases hlt : i2 < kvs'.length
              · rw [List.getElem?_append_left (by rw [← hK12.1]; exact hlt)] at hx2
                obtain ⟨v3, hv3, hw3⟩ := hK12.2 i2 x2 hx2
                exact ⟨v3, by rw [List.getElem?_append_left hlt]; exact hv3, hw3.tk tk14⟩
              · rw [List.getElem?_append_right (by rw [← hK12.1]; omega), ← hK12.1] at hx2
                have hz : i2 - kvs'.length = 0 := by
                  have := (List.getElem?_eq_some_iff.mp hx2).1
                  simp at this; omega
                rw [hz] at hx2
                have e3 : (b, g - C (g.s st) * u2) = x2 := Option.some.inj hx2
                subst e3
                refine ⟨v14, by rw [List.getElem?_append_right (by omega), hz]; rfl, r14.tk (tk_dK (s14 _ _ hD3'))⟩
          · obtain ⟨s12, kvs', hD3', hK12⟩ := hP
            rw [hK.1, List.take_of_length_le (Nat.le_refl _)] at hK12
            refine ⟨s12 _ _ e11, ?_⟩
            -- found[step] = left
            have sFin : Same H10 (upd H12 d (.dK kvs)) := same_unlock (od := od) hd10 (by rw [hH11]; exact s12)
            have hD3'' : (upd H12 d (.dK kvs)) D3 = some (.dK kvs') := by rw [upd_ne hD3d]; exact hD3'
            have nD3' : H D3 = none := by
              have : H10 D3 = none := by rw [← hH11, upd_ne hD3d] at nD3; exact nD3
              exact (s48.trans s8_10).free this
            have hK12' : Kv K (upd H12 d (.dK kvs)) n kvs' (L.map fun x => (x.1, x.2 - C (x.2.s st) * u2)) := ⟨hK12.1, fun i2 x2 hx2 => by
              obtain ⟨v3, hv3, hw3⟩ := hK12.2 i2 x2 hx2
              exact ⟨v3, hv3, TI.unlock (s12 _ _ e11) (fun xs z => by cases z) hw3⟩⟩
            have ett : (upd H12 d (.dK kvs)) t = some (.tup ((wl n u2).map V.int)) := sFin _ _ et
            generalize hH13 : upd H12 d (.dK kvs) = H13 at sFin hD3'' hK12' ett
            have hnone : valV kvs' (Sum.inl (st : Int) : Key) = none := by
              refine hK12'.none fun g' hm => ?_
              obtain ⟨⟨b', g''⟩, hm2, e2⟩ := List.mem_map.mp hm
              cases e2
              have := hu2p _ _ hm2
              rw [hu21] at this
              exact fin_one_ne this
            have hle : kvs'.length ≤ 1000 := by
              rw [hK12'.1, List.length_map]
              have h3 := ech_len hE
              omega
            refine ⟨_, rfl, _, rfl, _, rfl, D3, _, rfl, DPut.k (k := Sum.inl (st : Int)) hD3'' (small1000 hle), ?_⟩
            rw [putK_new _ hnone]
            have tk13 := tk_dK (o := .dK (kvs' ++ [((Sum.inl (st : Int) : Key), V.ref t)])) hD3''
            refine ⟨D3, _, stepL L st u2, _, _, _, _, _, rfl, same_mut ((s48.trans s8_10).trans sFin) nD3', nD3', upd_same, ⟨?_, fun i2 x2 hx2 => ?_⟩, hLt, fun S hS => ?_⟩
            · unfold stepL
              rw [List.length_append, List.length_append, hK12'.1]; rfl
            · unfold stepL at hx2
              by_cases hlt : i2 < kvs'.length
              · rw [List.getElem?_append_left (by rw [← hK12'.1]; exact hlt)] at hx2
                obtain ⟨v3, hv3, hw3⟩ := hK12'.2 i2 x2 hx2
                exact ⟨v3, by rw [List.getElem?_append_left hlt]; exact hv3, hw3.tk tk13⟩
              · rw [List.getElem?_append_right (by rw [← hK12'.1]; omega), ← hK12'.1] at hx2
                have hz : i2 - kvs'.length = 0 := by
                  have := (List.getElem?_eq_some_iff.mp hx2).1
                  simp at this; omega
                rw [hz] at hx2
                have e3 : (st, u2) = x2 := Option.some.inj hx2
                subst e3
                exact ⟨.ref t, by rw [List.getElem?_append_right (by omega), hz]; rfl, t, rfl, .inl (.inl ((tk13 t).1 _ ett))⟩
            · rw [htk, step_span hS]
              have key : (∀ a g, (a, g) ∈ L → S g) → (S u2 ↔ S f) := fun k => by
                rw [← hspan S hS k, ← hu2]
                constructor
                · intro h3
                  have := hS.mul (u.s st) h3
                  have e : C (u.s st) * (C (zc p bk) * u) = u := by
                    have : C (u.s st) * C (zc p bk) = (1 : Po p) := by rw [← C_mul, ← C_one]; congr 1; grind
                    grind
                  rw [e] at this; exact this
                · intro h3; exact hS.mul _ h3
              constructor
              · intro k
                have k1 := (hsp S hS).mp fun g hg => k g (List.mem_append_left _ hg)
                exact ⟨k1, (key k1).mpr (k f (List.mem_append_right _ (List.mem_singleton.mpr rfl)))⟩
              · rintro ⟨k1, k2⟩ g hg
                rcases List.mem_append.mp hg with hg | hg
                · exact (hsp S hS).mpr k1 g hg
                · rw [List.mem_singleton.mp hg]; exact (key k1).mp k2
    · obtain ⟨d, kvs, L, x3, x4, x5, x6, x7, rfl, s4, hdn, hd, hK, hE, hsp⟩ := hP
      refine ⟨_, rfl, q H' d kvs L s4 hdn hd hK hE fun S hS => ?_⟩
      have := hsp S hS
      rw [hR.1, List.take_of_length_le (Nat.le_refl _)] at this
      exact this
end
end KW
end

section
set_option Elab.async false
set_option linter.all false
set_option maxRecDepth 100000
set_option maxHeartbeats 4000000
namespace KW
open PySem PySem.Spec PyProof.Rows L2 K10 K10.Po
theorem perm_map_inv {α β : Type} {f : α → β} {q m : List β} (h : m.Perm q) : ∀ l : List α, l.map f = q → ∃ l' : List α, l'.Perm l ∧ l'.map f = m := by
  induction h with
  | nil => intro l e; exact ⟨[], by cases l with | nil => exact .nil | cons a l => simp at e, rfl⟩
  | cons x h ih =>
    intro l e
    cases l with
    | nil => simp at e
    | cons a l =>
      rw [List.map_cons] at e
      injection e with e1 e2
      obtain ⟨l', hp, hm⟩ := ih l e2
      exact ⟨a :: l', hp.cons a, by rw [List.map_cons, hm, e1]⟩
  | swap x y t =>
    intro l e
    match l, e with
    | a :: b :: l, e =>
      rw [List.map_cons, List.map_cons] at e
      injection e with e1 e2
      injection e2 with e2 e3
      exact ⟨b :: a :: l, .swap a b l, by rw [List.map_cons, List.map_cons, e1, e2, e3]⟩
  | trans h1 h2 ih1 ih2 =>
    intro l e
    obtain ⟨l2, hp2, hm2⟩ := ih2 l e
    obtain ⟨l1, hp1, hm1⟩ := ih1 l2 hm2
    exact ⟨l1, hp1.trans hp2, hm1⟩
section
variable {P : Program} {w : World} {K : PySem.W.Frag} {mg : Str → Option Value} {base : Heap}
def spInOrder : Sp := fun vs H Q _ => ∃ (p : Nat) (_ : Pr p) (n : Nat) (L : List (Nat × Po p)) (kvs : List (Key × V)) (d : Addr), vs = [.ref d] ∧ H d = some (.dK kvs) ∧ Kv K H n kvs L ∧ (L.map (·.1)).Nodup ∧ L.length < 64 ∧
  ∀ H' D ws R, Same H H' → H D = none → H' D = some (.lst ws) → Rw K H' n ws R → R.Perm (L.map (·.2)) → Q (.ref D) H'
theorem ok_in_order (T : Txt K mg) : DefOk P w K mg base "in_order" 1 ["found"] (spInOrder (K := K)) := by
  refine def_ok T.d_in_order sc_in_order (fun _ _ _ _ _ _ us hl => match us, hl with | [_], _ => rfl) (fun vs H Q E h => ?_) (fun f cdv A outer s H vs Q E hr h => ?_)
  · obtain ⟨p, _, n, L, kvs, d, rfl, _⟩ := h; rfl
  · obtain ⟨p, hp, n, L, kvs, d, rfl, hd, hK, hnd, h64, q⟩ := h
    have hu := hu_of hr
    refine ⟨_, (pss_one (ps_ret (pe_lc (own := [("at", 1)]) (g := (gName 1)) (tt := tYes) rfl sc_in_order.nd (pi_list (pe_callB (call_sortedDI rfl) (by rfl) T.n_sorted (by decide +kernel) (pa_cons (pv 0) pa_nil))) (blkOk_by (N := ["found", "at"]) (sc := defScope s_in_order) (by decide +kernel)) (fun _ _ _ _ _ => (pg_name (i := 1) sc_in_order.nd rfl (Or.inl rfl))) (fun _ _ _ _ _ => pts_nil) (fun _ _ _ _ _ => (pe_dget hu (pv 0) (pv 1) (fun _ _ => rfl)))))), ?_⟩
    refine ⟨_, rfl, d, kvs, L.map fun x => (x.1 : Int), rfl, .inl hd, hK.keys, by rw [List.length_map]; exact h64, fun ys a0 hperm hsort na0 => ?_⟩
    obtain ⟨L', hL', hmap⟩ := perm_map_inv hperm L rfl
    have s0 := same_upd (o := .lst (ys.map V.int)) na0
    have hly : ys.length = L'.length := by rw [← hmap, List.length_map]
    refine ⟨a0, rfl, ⟨_, .inl (.inl upd_same)⟩, ?_⟩
    generalize hH0 : upd H a0 (.lst (ys.map V.int)) = H0 at s0
    have e0 : H0 a0 = some (.lst (ys.map V.int)) := by rw [← hH0, upd_same]
    refine lc_rel (walk_list (xs := ys.map V.int)) (fun D i y H' => ∀ x, L'[i]? = some x → Vw K H' y n x.2) (by rw [List.length_map, hly, hL'.length_eq]; omega) (fun D i y H1 H2 _ tk h x hx => (h x hx).tk tk) (fun H' s' => .inl (.inl (s' _ _ e0))) (fun D i x H1 H2 R hi s1 hy hR => ?_) (fun D H1 ws nD s1 hl hrel hD => ?_)
    · obtain ⟨rfl, hx⟩ := hy
      obtain ⟨m, hm, rfl⟩ := get_map hx
      rw [← hmap, List.getElem?_map] at hm
      cases hLx : L'[i]? with
      | none => rw [hLx] at hm; cases hm
      | some x =>
        rw [hLx] at hm
        obtain ⟨b, g⟩ := x
        have eb : ((b : Nat) : Int) = m := Option.some.inj hm
        have hmem : (b, g) ∈ L := hL'.mem_iff.mp (List.mem_of_getElem? hLx)
        obtain ⟨v, hv, hw⟩ := hK.get hnd hmem
        refine ⟨rfl, _, rfl, _, rfl, d, v, rfl, .inl ⟨kvs, Sum.inl m, .inl ((s0.trans s1) _ _ hd), rfl, by rw [← eb]; exact hv.symm⟩, ?_⟩
        refine hR v _ (Same.refl _) fun x hx => ?_
        rw [hLx] at hx
        cases hx
        exact hw.same (s0.trans s1)
    · refine q H1 D ws (L'.map (·.2)) (s0.trans s1) (s0.free nD) hD ⟨?_, fun i f hf => ?_⟩ (hL'.map _)
      · rw [hl, List.length_map, List.length_map, hly]
      · rw [List.getElem?_map] at hf
        cases hLx : L'[i]? with
        | none => rw [hLx] at hf; cases hf
        | some x =>
          rw [hLx] at hf
          have e := Option.some.inj hf
          have hi : i < ws.length := by
            rw [hl, List.length_map, hly]
            exact (List.getElem?_eq_some_iff.mp hLx).1
          refine ⟨ws[i], List.getElem?_eq_getElem hi, ?_⟩
          rw [← e]
          exact hrel i _ (List.getElem?_eq_getElem hi) x hLx
end
end KW
end

section
set_option Elab.async false
set_option linter.all false
set_option maxRecDepth 100000
set_option maxHeartbeats 4000000
namespace KW
open PySem PySem.Spec PyProof.Rows L2 K10 K10.Po
theorem Rw.nil {p : Nat} [Pr p] {K : PySem.W.Frag} {H : Hp} {n : Nat} : Rw (p := p) K H n [] [] := ⟨rfl, fun i f h => by simp at h⟩
theorem Rw.snoc {p : Nat} [Pr p] {K : PySem.W.Frag} {H : Hp} {n : Nat} {vs : List V} {R : List (Po p)} {v : V} {f : Po p} (h : Rw K H n vs R) (hv : Vw K H v n f) : Rw K H n (vs ++ [v]) (R ++ [f]) := by
  refine ⟨by rw [List.length_append, List.length_append, h.1]; rfl, fun i g hg => ?_⟩
  by_cases hlt : i < R.length
  · rw [List.getElem?_append_left hlt] at hg
    obtain ⟨u, hu, hw⟩ := h.2 i g hg
    exact ⟨u, by rw [List.getElem?_append_left (by rw [h.1]; exact hlt)]; exact hu, hw⟩
  · rw [List.getElem?_append_right (by omega)] at hg
    have hz : i - R.length = 0 := by
      have := (List.getElem?_eq_some_iff.mp hg).1
      simp at this; omega
    rw [hz] at hg
    have e := Option.some.inj hg
    exact ⟨v, by rw [List.getElem?_append_right (by rw [h.1]; omega), h.1, hz]; rfl, e ▸ hv⟩
section
variable {P : Program} {w : World} {K : PySem.W.Frag} {mg : Str → Option Value} {base : Heap}
def spIdle : Sp := fun vs H Q _ => ∃ (p : Nat) (_ : Pr p) (n : Nat) (R : List (Po p)) (rv : List V) (a : Addr), vs = [.ref a, .int (n : Int), .int p] ∧ SqL K H a rv ∧ Rw K H n rv R ∧ (∀ f ∈ R, f.sz ≤ n) ∧ n ≤ 60 ∧
  ∀ H' D ws (B : List (Po p)), Same H H' → H D = none → H' D = some (.lst ws) → Rw K H' n ws B → (∃ L2, Ech n L2 ∧ B.Perm (L2.map (·.2))) → (∀ g ∈ B, g.sz ≤ n ∧ ∀ f ∈ R, dot n f g = 0) →
    (∀ S, Sb S → (∀ g ∈ B, S g) → ∀ v, v.sz ≤ n → (∀ f ∈ R, dot n f v = 0) → S v) → Q (.ref D) H'
theorem ok_idle_of (T : Txt K mg) : DefOk P w K mg base "idle_of" 4 ["rows", "width", "prime"] (spIdle (K := K)) := by
  have d_steps_of := ok_steps_of (P := P) (w := w) (base := base) T
  have d_in_order := ok_in_order (P := P) (w := w) (base := base) T
  refine def_ok T.d_idle_of sc_idle_of (fun _ _ _ _ _ _ us hl => match us, hl with | [_, _, _], _ => rfl) (fun vs H Q E h => ?_) (fun f cdv A outer s H vs Q E hr h => ?_)
  · obtain ⟨p, _, n, R, rv, a, rfl, _⟩ := h; rfl
  · obtain ⟨p, hp, n, R, rv, a, rfl, hA, hR, hRs, hn, q⟩ := h
    have hu := hu_of hr
    have h2 := Pr.two p
    have h97 := Pr.le p
    refine ⟨_, (pss_cons (ps_set (i := 3) sc_idle_of.nd rfl (Or.inr rfl) (pcall d_steps_of hr rfl (pa_cons (pv 0) (pa_cons (pv 2) pa_nil))))
      (pss_cons (ps_set (i := 4) sc_idle_of.nd rfl (Or.inl rfl) (pe_lst pa_nil))
      (pss_cons (ps_for PassesOwn.never rfl (pi_list (pe_lc (own := [("at", 7)]) (g := (gName 7)) rfl sc_idle_of.nd (pi_range1 rfl T.n_range (pa_cons (pv 1) pa_nil)) (blkOk_by (N := ["rows", "width", "prime", "found", "some", "free", "numbers", "at"]) (sc := defScope s_idle_of) (by decide +kernel)) (fun _ _ _ _ _ => (pg_name (i := 7) sc_idle_of.nd rfl (Or.inl rfl))) (fun _ _ _ _ _ => (pts_one (pt_cmp (pc_dnotin hu (pv 7) (pv 3))))) (fun _ _ _ _ _ => (pv 7)))) (pg_name (i := 5) sc_idle_of.nd rfl (Or.inl rfl))
        (pss_cons (ps_set (i := 6) sc_idle_of.nd rfl (Or.inl rfl) (pe_op op_rep (pe_lst (pa_cons pe_int pa_nil)) (pv 1)))
        (pss_cons (ps_asg pe_int (pg_sub (pv 6) (pv 5) set_list))
        (pss_cons (ps_lock (ps_for PassesOwn.never rfl (pi_keys (pv 3)) (pg_name (i := 7) sc_idle_of.nd rfl (Or.inl rfl))
          (pss_one (ps_asg (pe_op op_mod (pe_op op_sub pe_int (pe_ix (r := rIxT K) ix_tup (pe_dget hu (pv 3) (pv 7) (fun _ _ => rfl)) (pv 5) (fun _ _ => rfl))) (pv 2)) (pg_sub (pv 6) (pv 7) set_list)))))
        (pss_one (ps_expr (pe_bm PySem.F.plainAttrs_list PySem.F.slot_list_append PySem.F.type_list_append mt_append (pv 4) (pa_cons (pe_callTy call_tuple_of (by rfl) T.n_tuple (by decide +kernel) (pa_cons (pv 6) pa_nil)) pa_nil))))))))
      (pss_one (ps_ret (pcall d_in_order hr rfl (pa_cons (pcall d_steps_of hr rfl (pa_cons (pv 4) (pa_cons (pv 2) pa_nil))) pa_nil))))))), ?_⟩
    refine ⟨_, rfl, _, rfl, p, hp, n, R, rv, a, rfl, hA, hR, hRs, by omega, fun H1 d kvs L s1 hdn hd hK hE hsp => ?_⟩
    refine ⟨line_of (by decide), fun a4 n4 => ?_⟩
    have s2 := same_upd (o := .lst []) n4
    have e4 : (upd H1 a4 (.lst [])) a4 = some (.lst []) := upd_same
    have hd2 := s2 _ _ hd
    have hK2 := hK.tk (Same.tk s2)
    generalize hH2 : upd H1 a4 (.lst []) = H2 at s2 e4 hd2 hK2
    have hEl := ech_len hE
    refine ⟨_, rfl, (n : Int), rfl, by omega, by omega, ?_⟩
    rw [Int.toNat_natCast]
    refine lc_flt (n := n) walk_range (fun j => !(valV kvs (Sum.inl (j : Int) : Key)).isSome) (fun j => V.int (j : Int)) (by omega) (fun _ _ => trivial) (fun j y H3 H4 Ry Rn hj s3 hy hyes hno => ?_) (fun D1 H3 nD1 s3 hD1 => ?_)
    · obtain ⟨rfl, rfl⟩ := hy
      have ej : (0 : Int) + (j : Int) = (j : Int) := by omega
      show gName 7 (V.int (0 + (j : Int))) _ _ _
      rw [ej]
      refine ⟨rfl, _, rfl, _, rfl, d, _, rfl, .inl ⟨kvs, Sum.inl (j : Int), .inl (s3 _ _ hd2), rfl, rfl⟩, ?_⟩
      cases hc : (!(valV kvs (Sum.inl (j : Int) : Key)).isSome) with
      | true => exact ⟨_, rfl, iteT ⟨_, rfl, hyes hc _ (Same.refl _)⟩⟩
      | false => exact ⟨_, rfl, iteF (hno hc _ (Same.refl _))⟩
    · generalize hfl : (List.range n).filter (fun j : Nat => !(valV kvs (Sum.inl (j : Int) : Key)).isSome) = fl at hD1
      have hfl1 : ∀ i ∈ fl, i < n ∧ ∀ a g, (a, g) ∈ L → a ≠ i := fun i hi => by
        rw [← hfl] at hi
        obtain ⟨h1, h2⟩ := List.mem_filter.mp hi
        refine ⟨List.mem_range.mp h1, fun a g hm e => ?_⟩
        subst e
        obtain ⟨v, hv, _⟩ := hK.get hE.nd hm
        rw [hv] at h2; cases h2
      have hfl2 : ∀ j, j < n → (∀ a g, (a, g) ∈ L → a ≠ j) → j ∈ fl := fun j hj hk => by
        rw [← hfl]
        refine List.mem_filter.mpr ⟨List.mem_range.mpr hj, ?_⟩
        rw [hK.none fun g hm => hk j g hm rfl]; rfl
      have hfl3 : fl.length ≤ n := by
        rw [← hfl]
        have := List.length_filter_le (fun j => !(valV kvs (Sum.inl ((j : Nat) : Int) : Key)).isSome) (List.range n)
        rw [List.length_range] at this; exact this
      have e43 := s3 _ _ e4
      have hd3 := s3 _ _ hd2
      have hK3 := hK2.tk (Same.tk s3)
      have hne4 : a4 ≠ d := fun e => by rw [e, hd] at n4; cases n4
      have n4H : H a4 = none := s1.free n4
      have s03 : Same H H3 := fun b o e => by
        exact s3 _ _ (s2 _ _ (s1 _ _ e))
      refine ⟨D1, rfl, ⟨_, .inl (.inl hD1)⟩, ?_⟩
      have hD1n : D1 ≠ a4 := fun e => by rw [e, e4] at nD1; cases nD1
      have hD1d : D1 ≠ d := fun e => by rw [e, hd2] at nD1; cases nD1
      refine for_it (walk_list (xs := fl.map fun j : Nat => V.int (j : Int))) (fun i σ H' => ∃ (ws : List V) (x5 x6 x7 : Option V), σ = [some (.ref a), some (.int (n : Int)), some (.int p), some (.ref d), some (.ref a4), x5, x6, x7] ∧ Same H H' ∧ H' d = some (.dK kvs) ∧ Kv K H' n kvs L ∧ H' D1 = some (.lst (fl.map fun j : Nat => V.int (j : Int))) ∧ H' a4 = some (.lst ws) ∧ Rw K H' n ws ((fl.take i).map (fr L)))
        ⟨[], none, none, none, rfl, s03, hd3, hK3, hD1, e43, by rw [List.take_zero]; exact Rw.nil⟩ (fun i σ H' _ h => by obtain ⟨_, _, _, _, _, _, _, _, h', _⟩ := h; exact .inl (.inl h')) (fun i x σ H4 H5 hi hP hy => ?_) (fun σ H' hP => ?_)
      · obtain ⟨ws, x5, x6, x7, rfl, s4, hd4, hK4, hD14, h44, hR4⟩ := hP
        obtain ⟨rfl, hx⟩ := hy
        rw [List.length_map] at hi
        obtain ⟨j, hj⟩ : ∃ j, fl[i]? = some j := ⟨_, List.getElem?_eq_getElem hi⟩
        rw [List.getElem?_map, hj] at hx
        cases hx
        obtain ⟨hjn, hjk⟩ := hfl1 j (List.mem_of_getElem? hj)
        -- numbers = [0] * width
        refine ⟨line_of (by decide), fun z nz => ?_⟩
        have sz := same_upd (o := .lst [.int 0]) nz
        refine ⟨_, rfl, z, (n : Int), _, rfl, rfl, upd_same, by omega, by omega, ?_, fun N nN => ?_⟩
        · show 1 * _ ≤ _; exact line_of (by omega)
        rw [Int.toNat_natCast, rep_flat]
        have sN := sz.trans (same_upd (o := .lst ((List.replicate n (0 : Int)).map V.int)) nN)
        have nNH : H5 N = none := sz.free nN
        have eN : (upd (upd H5 z (.lst [.int 0])) N (.lst ((List.replicate n (0 : Int)).map V.int))) N = some (.lst ((List.replicate n (0 : Int)).map V.int)) := upd_same
        generalize hH6 : upd (upd H5 z (.lst [.int 0])) N (.lst ((List.replicate n (0 : Int)).map V.int)) = H6 at sN eN
        -- numbers[free] = 1
        refine ⟨_, rfl, _, rfl, N, _, (j : Int), j, rfl, rfl, eN, ixN_nat (by rw [List.length_map, List.length_replicate]; exact hjn), ?_⟩
        have e1 : ((List.replicate n (0 : Int)).map V.int).set j (V.int 1) = (wl n (X ^ j : Po p)).map V.int := by
          rw [← List.map_set]
          congr 1
          refine wl_ext (rests_set (fun x hx => by have := List.eq_of_mem_replicate hx; omega) (by omega) (by omega)) (by simp) fun k hk => ?_
          rw [Xpow_s]
          by_cases hkj : k = j
          · subst hkj
            rw [if_pos rfl, List.getD_eq_getElem?_getD, List.getElem?_set_self (by simpa using hk)]
            exact zc_one
          · rw [if_neg hkj, getD_set_ne (Ne.symm hkj), List.getD_eq_getElem?_getD, List.getElem?_replicate, if_pos hk]
            exact zc_zero
        rw [e1]
        have s7 : Same H5 (upd H6 N (.lst ((wl n (X ^ j : Po p)).map V.int))) := same_mut sN nNH
        have eN7 : (upd H6 N (.lst ((wl n (X ^ j : Po p)).map V.int))) N = some (.lst ((wl n (X ^ j : Po p)).map V.int)) := upd_same
        generalize hH7 : upd H6 N (.lst ((wl n (X ^ j : Po p)).map V.int)) = H7 at s7 eN7
        have hd7 := s7 _ _ hd4
        have hK7 := hK4.tk (Same.tk s7)
        have hNd : N ≠ d := fun e => by rw [e, hd4] at nNH; cases nNH
        -- for at in found
        refine ⟨d, _, hd7, trivial, fun od => ?_⟩
        refine ⟨_, rfl, d, od, rfl, .inl ⟨kvs, upd_same, ?_⟩⟩
        have tk8 := tk_dK (o := .frz od (.dK kvs)) hd7
        have e8 : (upd H7 d (.frz od (.dK kvs))) d = some (.frz od (.dK kvs)) := upd_same
        have eN8 : (upd H7 d (.frz od (.dK kvs))) N = some (.lst ((wl n (X ^ j : Po p)).map V.int)) := by rw [upd_ne hNd]; exact eN7
        have hK8 := hK7.tk tk8
        generalize hH8 : upd H7 d (.frz od (.dK kvs)) = H8 at tk8 e8 eN8 hK8
        refine for_it (walk_keys (kvs := kvs) (o := od)) (fun i2 σ H' => ∃ (x7 : Option V), σ = [some (.ref a), some (.int (n : Int)), some (.int p), some (.ref d), some (.ref a4), some (.int (j : Int)), some (.ref N), x7] ∧ But N H8 H' ∧ Tk H8 H' ∧ H' N = some (.lst ((wl n (fr (L.take i2) j)).map V.int)))
          ⟨_, rfl, But.of (Same.refl _), Tk.refl _, by rw [List.take_zero]; exact eN8⟩ (fun i2 σ H' _ h => by obtain ⟨_, _, s', _⟩ := h; exact s' _ (Ne.symm hNd) _ e8) (fun i2 x σ H9 H10 hi2 hP hy => ?_) (fun σ H' hP => ?_)
        · obtain ⟨x7, rfl, b9, tk9, hN9⟩ := hP
          obtain ⟨rfl, k, vv, hkv, rfl⟩ := hy
          obtain ⟨⟨c, g⟩, hL⟩ : ∃ x, L[i2]? = some x := ⟨_, List.getElem?_eq_getElem (by have := hK.1; omega)⟩
          obtain ⟨v2, hv2, hw2⟩ := hK8.2 i2 _ hL
          rw [hkv] at hv2
          cases hv2
          have hmem := List.mem_of_getElem? hL
          have hcn := hE.lt c g hmem
          have hval : valV kvs (Sum.inl (c : Int) : Key) = some vv := valV_at (hK.nd hE.nd) hkv
          obtain ⟨ra, rfl, hra⟩ := hw2.tk tk9
          have hgl := (g.s j).isLt
          refine ⟨_, rfl, _, rfl, d, _, rfl, .inl ⟨kvs, Sum.inl (c : Int), .inr ⟨od, b9 _ (Ne.symm hNd) _ e8⟩, rfl, hval.symm⟩, _, rfl, ra, _, _, _, rfl, rfl, hra, atI_nat (map_get (wl_get g hjn)), _, _, rfl, rfl, _, rfl, _, _, rfl, rfl, by show (0 : Int) < (p : Int); omega, ?_⟩
          refine ⟨_, rfl, _, rfl, N, _, (c : Int), c, rfl, rfl, hN9, ixN_nat (by rw [List.length_map, wl_len]; exact hcn), ?_⟩
          have hc0 : (fr (L.take i2) j).s c = 0 := by
            have h1 : ∀ a' g', (a', g') ∈ L.take i2 → a' ≠ c := fun a' g' hm e => by
              subst e
              obtain ⟨i3, hi3⟩ := List.getElem?_of_mem hm
              rw [List.getElem?_take] at hi3
              split at hi3
              · have q1 : (L.map (·.1))[i3]? = some a' := by rw [List.getElem?_map, hi3]; rfl
                have q2 : (L.map (·.1))[i2]? = some a' := by rw [List.getElem?_map, hL]; rfl
                have := nd_ix hE.nd q1 q2
                omega
              · cases hi3
            rw [fr_s h1, if_neg (hjk c g hmem)]
          have e2 : ((wl n (fr (L.take i2) j)).map V.int).set c (V.int ((0 - ((g.s j).val : Int)) % (p : Int))) = (wl n (fr (L.take (i2 + 1)) j)).map V.int := by
            rw [← List.map_set]
            congr 1
            have e3 : fr (L.take (i2 + 1)) j = fr (L.take i2) j - C (g.s j) * X ^ c := by
              rw [List.take_add_one, hL]
              unfold fr
              rw [show (some (c, g) : Option (Nat × Po p)).toList = [(c, g)] from rfl, List.foldl_append]; rfl
            refine wl_ext (rests_set (wl_rests n _) (Int.emod_nonneg _ (by omega)) (Int.emod_lt_of_pos _ (by omega))) (by rw [List.length_set, wl_len]) fun k hk => ?_
            rw [e3, sub_ap, Cmul_ap, Xpow_s]
            by_cases hkc : k = c
            · subst hkc
              rw [if_pos rfl, List.getD_eq_getElem?_getD, List.getElem?_set_self (by rw [wl_len]; exact hk)]
              show zc p ((0 - ((g.s j).val : Int)) % (p : Int)) = _
              rw [zc_mod, zc_sub, zc_zero, zc_fin, hc0]; grind
            · rw [if_neg hkc, getD_set_ne (Ne.symm hkc), List.getD_eq_getElem?_getD, wl_get _ hk]
              show zc p (((fr (L.take i2) j).s k).val : Int) = _
              rw [zc_fin]; grind
          refine ⟨_, rfl, b9.trans (But.upd N _ _), tk9.trans (tk_lst hN9), ?_⟩
          rw [upd_same, e2]
        · obtain ⟨x7, rfl, b9, tk9, hN9⟩ := hP
          rw [hK.1, List.take_of_length_le (Nat.le_refl _)] at hN9
          have hd9 := b9 _ (Ne.symm hNd) _ e8
          refine ⟨hd9, ?_⟩
          have s10 : Same H5 (upd H' d (.dK kvs)) := fun b o e => by
            by_cases hb : b = d
            · subst hb; rw [upd_same]; rw [hd4] at e; exact e
            · rw [upd_ne hb]
              have hbN : b ≠ N := fun e' => by rw [e', nNH] at e; cases e
              refine b9 b hbN o ?_
              rw [← hH8, upd_ne hb]; exact s7 b o e
          have eN10 : (upd H' d (.dK kvs)) N = some (.lst ((wl n (fr L j)).map V.int)) := by rw [upd_ne hNd]; exact hN9
          generalize hH10 : upd H' d (.dK kvs) = H10 at s10 eN10
          -- some.append(tuple(numbers))
          have h410 := s10 _ _ h44
          refine ⟨_, rfl, .inl ⟨rfl, _, .inl (.inl h410)⟩, _, rfl, N, _, rfl, .inl ⟨.inl (.inl eN10), fun t nt => ?_⟩⟩
          have st := same_upd (o := .tup ((wl n (fr L j)).map V.int)) nt
          have et : (upd H10 t (.tup ((wl n (fr L j)).map V.int))) t = some (.tup ((wl n (fr L j)).map V.int)) := upd_same
          generalize hH11 : upd H10 t (.tup ((wl n (fr L j)).map V.int)) = H11 at st et
          have s11 := s10.trans st
          have h411 := s11 _ _ h44
          refine ⟨a4, ws, _, rfl, rfl, h411, ?_, ?_⟩
          · have := hR4.1
            rw [List.length_map, List.length_take] at this
            exact line_lt (by omega)
          have tk12 := tk_lst (o := .lst (ws ++ [V.ref t])) h411
          refine ⟨ws ++ [V.ref t], _, _, _, rfl, same_mut (s4.trans s11) n4H, by rw [upd_ne (Ne.symm hne4)]; exact s11 _ _ hd4, hK4.tk ((Same.tk s11).trans tk12), by rw [upd_ne hD1n]; exact s11 _ _ hD14, upd_same, ?_⟩
          rw [List.take_add_one, hj, List.map_append]
          exact (hR4.tk ((Same.tk s11).trans tk12)).snoc ⟨t, rfl, .inl (.inl ((tk12 t).1 _ et))⟩
      · obtain ⟨ws, x5, x6, x7, rfl, s4, hd4, hK4, hD14, h44, hR4⟩ := hP
        rw [List.length_map, List.take_of_length_le (Nat.le_refl _)] at hR4
        -- in_order(steps_of(some, prime))
        refine ⟨_, rfl, _, rfl, p, hp, n, fl.map (fr L), ws, a4, rfl, .inl (.inl h44), hR4, fun g hg => ?_, by omega, fun H6 d6 kvs6 L6 s6 hdn6 hd6 hK6 hE6 hsp6 => ?_⟩
        · obtain ⟨i, hi, rfl⟩ := List.mem_map.mp hg
          exact (fr_kr hE (hfl1 i hi).1).1
        refine ⟨p, hp, n, L6, kvs6, d6, rfl, hd6, hK6, hE6.nd, by have := ech_len hE6; omega, fun H7 D7 ws7 R7 s7 nD7 hD7 hR7 hperm => ?_⟩
        have key : ∀ S, Sb S → ((∀ g ∈ R7, S g) ↔ ∀ i ∈ fl, S (fr L i)) := fun S hS => by
          have := hsp6 S hS
          constructor
          · intro k i hi
            exact this.mpr (fun b g hm => k g (hperm.mem_iff.mpr (List.mem_map.mpr ⟨(b, g), hm, rfl⟩))) _ (List.mem_map.mpr ⟨i, hi, rfl⟩)
          · intro k g hg
            obtain ⟨⟨b, g'⟩, hm, rfl⟩ := List.mem_map.mp (hperm.mem_iff.mp hg)
            exact this.mp (fun x hx => by obtain ⟨i, hi, rfl⟩ := List.mem_map.mp hx; exact k i hi) b g' hm
        have krR : ∀ v, Kr n L v ↔ v.sz ≤ n ∧ ∀ f ∈ R, dot n f v = 0 := fun v => by
          have := hsp _ (sb_dot n v)
          exact ⟨fun k => ⟨k.1, this.mpr fun a g hm => k.2 a g hm⟩, fun k => ⟨k.1, fun a g hm => this.mp k.2 a g hm⟩⟩
        refine q H7 D7 ws7 R7 ((s4.trans s6).trans s7) ((s4.trans s6).free nD7) hD7 hR7 ⟨L6, hE6, hperm⟩ (fun g hg => ?_) (fun S hS hB v hv hz => ?_)
        · exact (krR g).mp ((key _ (sb_kr n L)).mpr (fun i hi => fr_kr hE (hfl1 i hi).1) g hg)
        · exact kr_span hE hS fl (fun i hi => ⟨(hfl1 i hi).1, (hfl1 i hi).2, (key S hS).mp hB i hi⟩) v ((krR v).mpr ⟨hv, hz⟩) fun j hj hk hjf => absurd (hfl2 j hj hk) hjf
end
end KW
end

section
set_option Elab.async false
set_option linter.all false
set_option maxRecDepth 100000
set_option maxHeartbeats 4000000
namespace KW
open PySem PySem.Spec PyProof.Rows L2 K10 K10.Po
/-- values that stand for things, one by one -/
def Rl {α : Type} (φ : Hp → V → α → Prop) (H : Hp) (vs : List V) (R : List α) : Prop := vs.length = R.length ∧ ∀ (i : Nat) (x : α), R[i]? = some x → ∃ v, vs[i]? = some v ∧ φ H v x
section
variable {α : Type} {φ : Hp → V → α → Prop} {H H' : Hp} {vs : List V} {R : List α}
theorem Rl.nil : Rl φ H [] [] := ⟨rfl, fun i x h => by simp at h⟩
theorem Rl.imp (h : Rl φ H vs R) (k : ∀ v x, φ H v x → φ H' v x) : Rl φ H' vs R := ⟨h.1, fun i x hx => let ⟨v, a, b⟩ := h.2 i x hx; ⟨v, a, k v x b⟩⟩
theorem Rl.snoc {v : V} {x : α} (h : Rl φ H vs R) (hv : φ H v x) : Rl φ H (vs ++ [v]) (R ++ [x]) := by
  refine ⟨by rw [List.length_append, List.length_append, h.1]; rfl, fun i g hg => ?_⟩
  by_cases hlt : i < R.length
  · rw [List.getElem?_append_left hlt] at hg
    obtain ⟨u, hu, hw⟩ := h.2 i g hg
    exact ⟨u, by rw [List.getElem?_append_left (by rw [h.1]; exact hlt)]; exact hu, hw⟩
  · rw [List.getElem?_append_right (by omega)] at hg
    have hz : i - R.length = 0 := by
      have := (List.getElem?_eq_some_iff.mp hg).1
      simp at this; omega
    rw [hz] at hg
    have e := Option.some.inj hg
    exact ⟨v, by rw [List.getElem?_append_right (by rw [h.1]; omega), h.1, hz]; rfl, e ▸ hv⟩
theorem Rl.one {v : V} {x : α} (hv : φ H v x) : Rl φ H [v] [x] := Rl.snoc Rl.nil hv
theorem Rl.at {i : Nat} {v : V} (h : Rl φ H vs R) (hv : vs[i]? = some v) : ∃ x, R[i]? = some x ∧ φ H v x := by
  have hi := (List.getElem?_eq_some_iff.mp hv).1
  have e : R[i]? = some (R[i]'(by rw [← h.1]; exact hi)) := List.getElem?_eq_getElem _
  obtain ⟨u, hu, hw⟩ := h.2 i _ e
  rw [hv] at hu
  cases hu
  exact ⟨_, e, hw⟩
theorem Rl.mem {v : V} (h : Rl φ H vs R) (hv : v ∈ vs) : ∃ x ∈ R, φ H v x := by
  obtain ⟨i, hi⟩ := List.getElem?_of_mem hv
  obtain ⟨x, hx, hp⟩ := h.at hi
  exact ⟨x, List.mem_of_getElem? hx, hp⟩
theorem Rl.pop {n : Nat} (h : Rl φ H vs R) (hn : R.length = n + 1) : ∃ vs' v R' x, vs = vs' ++ [v] ∧ R = R' ++ [x] ∧ Rl φ H vs' R' ∧ φ H v x := by
  have hR : R ≠ [] := fun e => by rw [e] at hn; simp at hn
  have hv : vs ≠ [] := fun e => by have := h.1; rw [e, hn] at this; simp at this
  obtain ⟨R', x, rfl⟩ : ∃ R' x, R = R' ++ [x] := ⟨_, _, (List.dropLast_concat_getLast hR).symm⟩
  obtain ⟨vs', u, rfl⟩ : ∃ vs' u, vs = vs' ++ [u] := ⟨_, _, (List.dropLast_concat_getLast hv).symm⟩
  have hl : vs'.length = R'.length := by have := h.1; simp at this; exact this
  refine ⟨vs', u, R', x, rfl, rfl, ⟨hl, fun i y hy => ?_⟩, ?_⟩
  · have hi := (List.getElem?_eq_some_iff.mp hy).1
    obtain ⟨z, hz, hw⟩ := h.2 i y (by rw [List.getElem?_append_left hi]; exact hy)
    rw [List.getElem?_append_left (by omega)] at hz
    exact ⟨z, hz, hw⟩
  · obtain ⟨z, hz, hw⟩ := h.2 R'.length x (by rw [List.getElem?_append_right (by omega)]; simp)
    rw [List.getElem?_append_right (by omega), hl] at hz
    simp at hz
    rw [hz]; exact hw
end
section
variable {P : Program} {w : World} {K : PySem.W.Frag} {mg : Str → Option Value} {base : Heap}
abbrev Rps {p : Nat} [Pr p] (K : PySem.W.Frag) (H : Hp) (vs : List V) (R : List (Po p)) : Prop := Rl (fun H v f => Rp K H v f) H vs R
theorem Rps.tk {p : Nat} [Pr p] {H H' : Hp} {vs : List V} {R : List (Po p)} (h : Rps K H vs R) (e : Tk H H') : Rps K H' vs R := Rl.imp h fun v x hx => Rp.tk hx e
def spPowers : Sp := fun vs H Q _ => ∃ (p : Nat) (_ : Pr p) (f : Po p) (v : V), vs = [v, .int p] ∧ Rp K H v f ∧ 2 ≤ f.sz ∧ f.sz ≤ 60 ∧
  ∀ H' D ws (R : List (Po p)), Same H H' → H D = none → H' D = some (.lst ws) → Rps K H' ws R → R.length = f.sz - 1 → (∀ i r, R[i]? = some r → Dv f (X ^ (p * i) - r) ∧ r.sz < f.sz) → Q (.ref D) H'
theorem ok_powers_left (T : Txt K mg) : DefOk P w K mg base "powers_left" 6 ["rule", "prime"] (spPowers (K := K)) := by
  have d_left_raised := ok_left_raised (P := P) (w := w) (base := base) T
  have d_left_by := ok_left_by (P := P) (w := w) (base := base) T
  have d_multiplied := ok_multiplied (P := P) (w := w) (base := base) T
  refine def_ok T.d_powers_left sc_powers_left (fun _ _ _ _ _ _ us hl => match us, hl with | [_, _], _ => rfl) (fun vs H Q E h => ?_) (fun f cdv A outer s H vs Q E hr h => ?_)
  · obtain ⟨p, _, f, v, rfl, _⟩ := h; rfl
  · obtain ⟨p, hp, f, v, rfl, ⟨va, rfl, hA⟩, hf, hf6, q⟩ := h
    have h2 := Pr.two p
    have h97 := Pr.le p
    have hf0 : f ≠ 0 := fun e => by rw [e, sz_zero] at hf; omega
    obtain ⟨a_PLAIN_X, g_PLAIN_X, hX⟩ := T.g_PLAIN_X
    have rX : ∀ H : Hp, Rp K H (.ref a_PLAIN_X) (X : Po p) := fun H => ⟨_, rfl, by rw [lst_X]; exact hX H⟩
    refine ⟨_, (pss_cons (ps_set (i := 2) sc_powers_left.nd rfl (Or.inl rfl) (pcall d_left_raised hr rfl (pa_cons (pe_glob (v := .ref a_PLAIN_X) rfl g_PLAIN_X rfl) (pa_cons (pv 1) (pa_cons (pv 0) (pa_cons (pv 1) pa_nil))))))
      (pss_cons (ps_set (i := 3) sc_powers_left.nd rfl (Or.inl rfl) (pe_lst (pa_cons (pcall d_left_by hr rfl (pa_cons (pe_tup (pa_cons pe_int pa_nil)) (pa_cons (pv 0) (pa_cons (pv 1) pa_nil)))) pa_nil)))
      (pss_cons (ps_while PassesOwn.never (pt_cmpR op_lt (pe_callB call_len_seq (by rfl) T.n_len (by decide +kernel) (pa_cons (pv 3) pa_nil)) (pe_op op_sub (pe_callB call_len_seq (by rfl) T.n_len (by decide +kernel) (pa_cons (pv 0) pa_nil)) pe_int) (nomark _))
        (pss_one (ps_expr (pe_bm PySem.F.plainAttrs_list PySem.F.slot_list_append PySem.F.type_list_append mt_append (pv 3) (pa_cons (pcall d_left_by hr rfl (pa_cons (pcall d_multiplied hr rfl (pa_cons (pe_ix (r := rIxL K) ix_list (pv 3) (pe_un un_neg pe_int) (fun _ _ => rfl)) (pa_cons (pv 2) (pa_cons (pv 1) pa_nil)))) (pa_cons (pv 0) (pa_cons (pv 1) pa_nil)))) pa_nil)))))
      (pss_one (ps_ret (pv 3)))))), ?_⟩
    refine ⟨_, rfl, _, rfl, _, rfl, p, hp, X, f, p, .ref a_PLAIN_X, .ref va, rfl, rX H, ⟨va, rfl, hA⟩, hf0, by rw [X_sz]; omega, by omega, fun H1 v1 st s1 r1 hst hstl => ?_⟩
    refine ⟨line_of (by decide), fun t nt => ?_⟩
    have st1 := same_upd (o := .tup [.int 1]) nt
    refine ⟨_, rfl, _, rfl, p, hp, 1, f, .ref t, .ref va, rfl, ⟨t, rfl, .inl (.inl (by rw [upd_same, lst_one]; rfl))⟩, ⟨va, rfl, same_t (s1.trans st1) hA⟩, hf0, by rw [Po.sz_one]; omega, by omega, fun H2 v2 q2 r2 s2 rp2 e2 l2 => ?_⟩
    refine ⟨line_of (by show 1 ≤ 100000; decide), fun l nl => ?_⟩
    have s3 := ((s1.trans st1).trans s2).trans (same_upd (o := .lst [v2]) nl)
    have nlH : H l = none := ((s1.trans st1).trans s2).free nl
    have sl := same_upd (o := .lst [v2]) nl
    have el : (upd H2 l (.lst [v2])) l = some (.lst [v2]) := upd_same
    have r13 := r1.same ((st1.trans s2).trans sl)
    have rp3 := rp2.same sl
    generalize hH3 : upd H2 l (.lst [v2]) = H3 at s3 el r13 rp3
    refine ⟨fun m σ H' => ∃ (ws : List V) (R : List (Po p)), σ = [some (.ref va), some (.int (p : Int)), some v1, some (.ref l)] ∧ Same H H' ∧ H' l = some (.lst ws) ∧ Rp K H' v1 st ∧ Rps K H' ws R ∧ (∀ i r, R[i]? = some r → Dv f (X ^ (p * i) - r) ∧ r.sz < f.sz) ∧ 1 ≤ R.length ∧ R.length + m = f.sz - 1,
      ⟨f.sz - 1 - 1, [v2], [r2], rfl, s3, el, r13, Rl.one rp3, fun i r hi => ?_, by simp, by simp; omega⟩, fun m σ H' hW => ?_⟩
    · match i, hi with
      | 0, hi =>
        have e := Option.some.inj hi
        subst e
        refine ⟨⟨q2, ?_⟩, l2⟩
        rw [Nat.mul_zero, Lean.Grind.Semiring.pow_zero]; grind
      | i + 1, hi => simp at hi
    · obtain ⟨ws, R, rfl, s', hl, rs, hR, hall, h1, hm⟩ := hW
      have hlen := hR.1
      refine ⟨_, rfl, l, _, rfl, .inl (.inl (.inl hl)), _, rfl, va, _, rfl, .inr (same_t s' hA), _, _, rfl, rfl, _, _, rfl, rfl, _, rfl, ?_⟩
      have eF : (((lst f).map V.int).length : Int) - 1 = ((f.sz - 1 : Nat) : Int) := by rw [List.length_map, lst_len]; omega
      rw [eF]
      match m, hm with
      | 0, hm =>
        rw [decide_eq_false (show ¬ ((ws.length : Int) < ((f.sz - 1 : Nat) : Int)) by omega)]
        exact ⟨_, rfl, q H' l ws R s' nlH hl hR (by omega) hall⟩
      | m + 1, hm =>
        rw [decide_eq_true (show ((ws.length : Int) < ((f.sz - 1 : Nat) : Int)) by omega)]
        obtain ⟨r, hr2⟩ : ∃ r, R[R.length - 1]? = some r := ⟨_, List.getElem?_eq_getElem (by omega)⟩
        obtain ⟨vr, hvr, hrp⟩ := hR.2 _ r hr2
        obtain ⟨hd, hz⟩ := hall _ r hr2
        rw [← hlen] at hvr
        refine ⟨_, fun σ' H' z => ⟨m, by omega, z⟩, ?_⟩
        refine ⟨_, rfl, .inl ⟨rfl, _, .inl (.inl hl)⟩, _, rfl, 1, rfl, l, _, -1, _, rfl, rfl, .inl (.inl hl), at_neg1 hvr, _, rfl, _, rfl, p, hp, r, st, vr, v1, rfl, hrp, rs, by omega, by omega, fun H5 v5 s5 r5 => ?_⟩
        refine ⟨_, rfl, _, rfl, p, hp, r * st, f, v5, .ref va, rfl, r5, ⟨va, rfl, same_t (s'.trans s5) hA⟩, hf0, by have := sz_mul_le r st; omega, by omega, fun H6 v6 q6 r6 s6 rp6 e6 l6 => ?_⟩
        have hl6 := s6 _ _ (s5 _ _ hl)
        refine ⟨l, ws, v6, rfl, rfl, hl6, line_lt (by omega), ?_⟩
        have tk := Tk.trans (Same.tk (s5.trans s6)) (tk_lst (o := .lst (ws ++ [v6])) hl6)
        refine ⟨ws ++ [v6], R ++ [r6], rfl, same_mut ((s'.trans s5).trans s6) nlH, upd_same, rs.tk tk, (hR.tk tk).snoc (rp6.tk (tk_lst hl6)), fun i r' hi => ?_, by simp, by simp; omega⟩
        by_cases hlt : i < R.length
        · rw [List.getElem?_append_left hlt] at hi
          exact hall i r' hi
        · rw [List.getElem?_append_right (by omega)] at hi
          have hz2 : i - R.length = 0 := by
            have := (List.getElem?_eq_some_iff.mp hi).1
            simp at this; omega
          rw [hz2] at hi
          have e := Option.some.inj hi
          subst e
          refine ⟨?_, l6⟩
          obtain ⟨x, hx⟩ := hd
          obtain ⟨y, hy⟩ := hst
          have ei : p * i = p * (R.length - 1) + p := by
            have : i = (R.length - 1) + 1 := by omega
            rw [this, Nat.mul_add, Nat.mul_one]
          rw [ei, Lean.Grind.Semiring.pow_add]
          refine ⟨x * X ^ p + r * y + q6, ?_⟩
          have ea : X ^ (p * (R.length - 1)) = r + f * x := by grind
          have eb : (X : Po p) ^ p = st + f * y := by grind
          rw [ea, eb]
          have ec : r6 = r * st - q6 * f := by grind
          rw [ec]; grind
end
end KW
end

section
set_option Elab.async false
set_option linter.all false
set_option maxRecDepth 100000
set_option maxHeartbeats 4000000
namespace KW
open PySem PySem.Spec PyProof.Rows L2 K10 K10.Po
def rTupOf (K : PySem.W.Frag) : List V → Hp → VK → Prop := fun xs H Q => ∃ p ys, xs = [.ref p] ∧ ((SqL K H p ys ∧ ∀ l, H l = none → Q (.ref l) (upd H l (.tup ys))) ∨ (SqT K H p ys ∧ Q (.ref p) H))
theorem tup_of {X : Cx} {K : PySem.W.Frag} (hK : X.K = K) : CallR X (.type "tuple") (rTupOf K) := by subst hK; exact call_tuple_of
theorem pi_listK {X : Cx} {K : PySem.W.Frag} (hK : X.K = K) {tg l : Expr} {tl : TE} (hl : PE X l tl) : PI X tg l (iList K tl) := by subst hK; exact pi_list hl
theorem pi_tupK {X : Cx} {K : PySem.W.Frag} (hK : X.K = K) {tg l : Expr} {tl : TE} (hl : PE X l tl) : PI X tg l (iTup K tl) := by subst hK; exact pi_tup hl
section
variable {P : Program} {w : World} {K : PySem.W.Frag} {mg : Str → Option Value} {base : Heap}
/-- a list of a width, not at a place -/
def Im {p : Nat} [Pr p] (I : Addr) (n : Nat) (H : Hp) (v : V) (f : Po p) : Prop := ∃ a, v = .ref a ∧ a ≠ I ∧ H a = some (.lst ((wl n f).map V.int))
def spStill : Sp := fun vs H Q _ => ∃ (p : Nat) (_ : Pr p) (f : Po p) (v : V), vs = [v, .int p] ∧ Rp K H v f ∧ 2 ≤ f.sz ∧ f.sz ≤ 60 ∧
  ∀ H' D ws (B : List (Po p)), Same H H' → H D = none → H' D = some (.lst ws) → Rps K H' ws B → (∃ L2, Ech (f.sz - 1) L2 ∧ B.Perm (L2.map (·.2))) → (∀ g ∈ B, Still f g ∧ g.sz < f.sz) →
    (∀ S, Sb S → (∀ g ∈ B, S g) → ∀ v, v.sz < f.sz → Still f v → S v) → Q (.ref D) H'
theorem ok_still_of (T : Txt K mg) : DefOk P w K mg base "still_of" 7 ["rule", "prime"] (spStill (K := K)) := by
  have d_powers_left := ok_powers_left (P := P) (w := w) (base := base) T
  have d_widened := ok_widened (P := P) (w := w) (base := base) T
  have d_less := ok_less (P := P) (w := w) (base := base) T
  have d_cut := ok_cut (P := P) (w := w) (base := base) T
  have d_cutT := ok_cutT (P := P) (w := w) (base := base) T
  have d_idle_of := ok_idle_of (P := P) (w := w) (base := base) T
  refine def_ok T.d_still_of sc_still_of (fun _ _ _ _ _ _ us hl => match us, hl with | [_, _], _ => rfl) (fun vs H Q E h => ?_) (fun f cdv A outer s H vs Q E hr h => ?_)
  · obtain ⟨p, _, f, v, rfl, _⟩ := h; rfl
  · obtain ⟨p, hp, f, v, rfl, ⟨va, rfl, hA⟩, hf, hf6, q⟩ := h
    have h2 := Pr.two p
    have h97 := Pr.le p
    refine ⟨_, (pss_cons (ps_set (i := 2) sc_still_of.nd rfl (Or.inl rfl) (pe_op op_sub (pe_callB call_len_seq (by rfl) T.n_len (by decide +kernel) (pa_cons (pv 0) pa_nil)) pe_int))
      (pss_cons (ps_set (i := 3) sc_still_of.nd rfl (Or.inr rfl) (pe_lst pa_nil))
      (pss_cons (ps_for PassesOwn.never rfl (pi_enum (by rfl) T.n_enumerate (pa_cons (pcall d_powers_left hr rfl (pa_cons (pv 0) (pa_cons (pv 1) pa_nil))) pa_nil)) (pg_tup rfl (pgs_cons (pg_name (i := 4) sc_still_of.nd rfl (Or.inl rfl)) (pgs_cons (pg_name (i := 5) sc_still_of.nd rfl (Or.inl rfl)) pgs_nil)))
        (pss_one (ps_expr (pe_bm PySem.F.plainAttrs_list PySem.F.slot_list_append PySem.F.type_list_append mt_append (pv 3) (pa_cons (pcall d_widened hr rfl (pa_cons (pcall d_less hr rfl (pa_cons (pv 5) (pa_cons (pcall d_cut hr rfl (pa_cons (pe_op op_cat (pe_op op_rep (pe_lst (pa_cons pe_int pa_nil)) (pv 4)) (pe_lst (pa_cons pe_int pa_nil))) pa_nil)) (pa_cons (pv 1) pa_nil)))) (pa_cons (pv 2) pa_nil))) pa_nil)))))
      (pss_cons (ps_setLc (own := [("place", 8)]) (g := (gName 8)) (tt := tYes) (te := tCB (rTupOf K) (tCons (tLc (iList K (tVar 3)) (gName 7) tYes (tOp (rIxL K) (tVar 7) (tVar 8)) [7]) tNil)) (i := 6) rfl sc_still_of.nd rfl rfl (sw_true rfl rfl rfl (by decide +kernel)) (pi_range1 rfl T.n_range (pa_cons (pv 2) pa_nil)) (blkOk_by (N := ["rule", "prime", "many", "images", "at", "one", "rows", "image", "place", "row"]) (sc := defScope s_still_of) (by decide +kernel)) (fun _ _ _ _ _ => (pg_name (i := 8) sc_still_of.nd rfl (Or.inr rfl))) (fun _ _ _ _ _ => pts_nil) (fun _ _ _ _ _ => (pe_callTy (tup_of rfl) (by rfl) T.n_tuple (by decide +kernel) (pa_cons (pe_lc (own := [("image", 7)]) (g := (gName 7)) (tt := tYes) rfl sc_still_of.nd (pi_listK rfl (pv 3)) (blkOk_by (N := ["rule", "prime", "many", "images", "at", "one", "rows", "image", "place", "row"]) (sc := relS { kind := ScopeKind.function, names := [(Str.ofString ".0", NameKind.local), (Str.ofString "place", NameKind.cell), (Str.ofString "tuple", NameKind.globalImplicit), (Str.ofString "images", NameKind.free)], isGenerator := false, isCoroutine := false } (defScope s_still_of)) (by decide +kernel)) (fun _ _ _ _ _ => (pg_name (i := 7) sc_still_of.nd rfl (Or.inl rfl))) (fun _ _ _ _ _ => pts_nil) (fun _ _ _ _ _ => (pe_ix (r := rIxL K) ix_list (pv 7) (pv 8) (fun _ _ => rfl)))) pa_nil))))
      (pss_one (ps_ret (pe_lc (own := [("row", 9)]) (g := (gName 9)) (tt := tYes) rfl sc_still_of.nd (pi_list (pcall d_idle_of hr rfl (pa_cons (pv 6) (pa_cons (pv 2) (pa_cons (pv 1) pa_nil))))) (blkOk_by (N := ["rule", "prime", "many", "images", "at", "one", "rows", "image", "place", "row"]) (sc := defScope s_still_of) (by decide +kernel)) (fun _ _ _ _ _ => (pg_name (i := 9) sc_still_of.nd rfl (Or.inl rfl))) (fun _ _ _ _ _ => pts_nil) (fun _ _ _ _ _ => (pcall d_cutT hr rfl (pa_cons (pv 9) pa_nil)))))))))), ?_⟩
    obtain ⟨n, hn⟩ : ∃ n, f.sz = n + 1 := ⟨f.sz - 1, by omega⟩
    have eF : (((lst f).map V.int).length : Int) - 1 = (n : Int) := by rw [List.length_map, lst_len]; omega
    refine ⟨_, rfl, va, _, rfl, .inr hA, _, _, rfl, rfl, ?_⟩
    show gName 2 (V.int ((((lst f).map V.int).length : Int) - 1)) _ _ _
    rw [eF]
    refine ⟨line_of (by decide), fun I nI => ?_⟩
    have s1 := same_upd (o := .lst []) nI
    have eI : (upd H I (.lst [])) I = some (.lst []) := upd_same
    generalize hH1 : upd H I (.lst []) = H1 at s1 eI
    refine ⟨_, rfl, _, rfl, p, hp, f, .ref va, rfl, ⟨va, rfl, same_t s1 hA⟩, hf, hf6, fun H2 D ws R s2 nD hD hR hRl hRall => ?_⟩
    have hDI : D ≠ I := fun e => by rw [e, eI] at nD; cases nD
    obtain ⟨rf, hrf⟩ : ∃ rf : Nat → Po p, ∀ i, rf i = R.getD i 0 := ⟨_, fun _ => rfl⟩
    have hrget : ∀ i, i < n → R[i]? = some (rf i) := fun i hi => by
      rw [hrf, List.getD_eq_getElem?_getD, List.getElem?_eq_getElem (by omega)]; rfl
    have hr : ∀ i, i < f.sz - 1 → Dv f (X ^ (p * i) - rf i) ∧ (rf i).sz < f.sz := fun i hi => hRall i _ (hrget i (by omega))
    have hsz : ∀ i, i < n → (rf i - X ^ i).sz ≤ n := fun i hi => by
      have h1 := sz_sub_le (rf i) (X ^ i)
      have h2 := Xpow_sz (p := p) i
      have h3 := (hr i (by omega)).2
      omega
    refine ⟨D, ws, rfl, .inl (.inl hD), ?_⟩
    have hlw : ws.length = n := by rw [hR.1]; omega
    refine for_it (walk_enum (xs := ws)) (fun i σ H' => ∃ (is : List V) (x4 x5 : Option V), σ = [some (.ref va), some (.int (p : Int)), some (.int (n : Int)), some (.ref I), x4, x5, none, none, none, none] ∧ Same H H' ∧ H' D = some (.lst ws) ∧ Rps K H' ws R ∧ H' I = some (.lst is) ∧ Rl (Im I n) H' is ((List.range i).map fun j => rf j - X ^ j))
      ⟨[], none, none, rfl, s1.trans s2, hD, hR, s2 _ _ eI, Rl.nil⟩ (fun i σ H' _ h => by obtain ⟨_, _, _, _, _, h', _⟩ := h; exact .inl (.inl h')) (fun i x σ H4 H5 hi hP hy => ?_) (fun σ H' hP => ?_)
    · obtain ⟨is, x4, x5, rfl, s4, hD4, hR4, hI4, hIm⟩ := hP
      obtain ⟨Tt, _, y, rfl, nT, rfl, f1, f2⟩ := hy
      cases f1
      rw [hlw] at hi
      obtain ⟨y', hy1, hy2⟩ := hR4.2 i _ (hrget i hi)
      have f2 : ws[i]? = some y := f2
      rw [f2] at hy1
      cases hy1
      have sT := same_upd (o := .tup [.int (i : Nat), y]) nT
      refine ⟨Tt, [.int (i : Nat), y], rfl, .inl (.inl upd_same), rfl, .int (i : Nat), [y], rfl, y, [], rfl, rfl, ?_⟩
      have hI5 := sT _ _ hI4
      have hy5 := hy2.same sT
      generalize hH5 : upd H4 Tt (.tup [.int (i : Nat), y]) = H5 at sT hI5 hy5
      refine ⟨_, rfl, .inl ⟨rfl, _, .inl (.inl hI5)⟩, _, rfl, line_of (by decide), fun z nz => ?_⟩
      have sz1 := same_upd (o := .lst [.int 0]) nz
      refine ⟨_, rfl, z, (i : Int), _, rfl, rfl, upd_same, by omega, by omega, ?_, fun l nl => ?_⟩
      · show 1 * _ ≤ _; exact line_of (by omega)
      rw [Int.toNat_natCast, rep_flat]
      have sl := sz1.trans (same_upd (o := .lst ((List.replicate i (0 : Int)).map V.int)) nl)
      have el : (upd (upd H5 z (.lst [.int 0])) l (.lst ((List.replicate i (0 : Int)).map V.int))) l = some (.lst ((List.replicate i (0 : Int)).map V.int)) := upd_same
      generalize hH6 : upd (upd H5 z (.lst [.int 0])) l (.lst ((List.replicate i (0 : Int)).map V.int)) = H6 at sl el
      refine ⟨line_of (by decide), fun o no => ?_⟩
      have so := same_upd (o := .lst [.int 1]) no
      refine ⟨l, o, _, _, rfl, rfl, so _ _ el, upd_same, ?_, fun c nc => ?_⟩
      · rw [List.length_map, List.length_replicate]; exact line_of (by show i + 1 ≤ 100000; omega)
      have sc := (sl.trans so).trans (same_upd (o := .lst ((List.replicate i (0 : Int)).map V.int ++ [V.int 1])) nc)
      have ec : (upd (upd H6 o (.lst [.int 1])) c (.lst ((List.replicate i (0 : Int)).map V.int ++ [V.int 1]))) c = some (.lst ((List.replicate i (0 : Int) ++ [1]).map V.int)) := by rw [upd_same, List.map_append]; rfl
      generalize hH7 : upd (upd H6 o (.lst [.int 1])) c (.lst ((List.replicate i (0 : Int)).map V.int ++ [V.int 1])) = H7 at sc ec
      refine ⟨p, hp, .ref c, List.replicate i 0 ++ [1], rfl, ⟨c, rfl, .inl (.inl ec)⟩, ?_, ?_, fun H8 v8 s8 r8 => ?_⟩
      · intro x hx
        rcases List.mem_append.mp hx with hx | hx
        · have := List.eq_of_mem_replicate hx; omega
        · have := List.mem_singleton.mp hx; omega
      · rw [List.length_append, List.length_replicate]; show i + 1 ≤ 90000; omega
      have eX : pol p (List.replicate i 0 ++ [1]) = X ^ i := by
        apply Po.ext; intro j
        rw [pol_ap, Xpow_s, List.getD_eq_getElem?_getD]
        by_cases hj : j < i
        · rw [List.getElem?_append_left (by simpa using hj), List.getElem?_replicate, if_pos hj, if_neg (by omega)]; exact zc_zero
        · rw [List.getElem?_append_right (by simpa using hj), List.length_replicate]
          by_cases hji : j = i
          · subst hji; rw [if_pos rfl, Nat.sub_self]; exact zc_one
          · rw [if_neg hji, List.getElem?_eq_none (by simp; omega)]; exact zc_zero
      rw [eX] at r8
      have hX := Xpow_sz (p := p) i
      have hri := (hr i (by omega)).2
      refine ⟨_, rfl, p, hp, rf i, X ^ i, y, v8, rfl, hy5.same (sc.trans s8), r8.w, by omega, by omega, fun H9 v9 s9 r9 => ?_⟩
      have hsi := hsz i hi
      refine ⟨_, rfl, v9, lst (rf i - X ^ i), n, rfl, r9, by rw [lst_len]; omega, by omega, fun H10 a10 s10 n10 e10 => ?_⟩
      have s5 := ((sc.trans s8).trans s9).trans s10
      have hI10 := s5 _ _ hI5
      have hne : a10 ≠ I := fun e => by
        have := ((sc.trans s8).trans s9) _ _ hI5
        rw [e, this] at n10; cases n10
      have ew : lst (rf i - X ^ i) ++ List.replicate (n - (lst (rf i - X ^ i)).length) 0 = wl n (rf i - X ^ i) := by
        refine wl_ext (fun x hx => ?_) (by rw [List.length_append, List.length_replicate, lst_len]; omega) fun j hj => ?_
        · rcases List.mem_append.mp hx with hx | hx
          · exact lst_rests _ x hx
          · have := List.eq_of_mem_replicate hx; omega
        · rw [wide_getD, lst_getD, zc_fin]
      rw [ew] at e10
      have hisl : is.length = i := by rw [hIm.1, List.length_map, List.length_range]
      refine ⟨I, is, .ref a10, rfl, rfl, hI10, line_lt (by omega), ?_⟩
      have nIH : H I = none := nI
      refine ⟨is ++ [.ref a10], _, _, rfl, same_mut (s4.trans (sT.trans s5)) nIH, by rw [upd_ne hDI]; exact s5 _ _ (sT _ _ hD4), hR4.tk ((Same.tk (sT.trans s5)).trans (tk_lst hI10)), upd_same, ?_⟩
      rw [List.range_succ, List.map_append]
      refine Rl.snoc (Rl.imp hIm fun v x hx => ?_) ⟨a10, rfl, hne, by rw [upd_ne hne]; exact e10⟩
      obtain ⟨b, eb, hbI, hb⟩ := hx
      exact ⟨b, eb, hbI, by rw [upd_ne hbI]; exact s5 _ _ (sT _ _ hb)⟩
    · obtain ⟨is, x4, x5, rfl, s4, hD4, hR4, hI4, hIm⟩ := hP
      rw [hlw] at hIm
      have hisl : is.length = n := by rw [hIm.1, List.length_map, List.length_range]
      obtain ⟨Row, hRow⟩ : ∃ Row : Nat → Po p, ∀ j, Row j = pol p ((List.range n).map fun i => (((rf i - X ^ i).s j).val : Int)) := ⟨_, fun _ => rfl⟩
      have hwl : ∀ j, (List.range n).map (fun i => (((rf i - X ^ i).s j).val : Int)) = wl n (Row j) := fun j => by
        refine wl_ext (fun x hx => ?_) (by simp) fun i hi => ?_
        · obtain ⟨i, _, rfl⟩ := List.mem_map.mp hx
          have := ((rf i - X ^ i).s j).isLt
          omega
        · rw [hRow, pol_ap]
      have hRs : ∀ j i, j < f.sz - 1 → i < f.sz - 1 → (Row j).s i = (rf i - X ^ i).s j := fun j i _ hi => by
        rw [hRow, pol_ap, List.getD_eq_getElem?_getD, List.getElem?_map, List.getElem?_range (by omega)]
        exact zc_fin _
      -- rows
      refine ⟨_, rfl, (n : Int), rfl, by omega, by omega, ?_⟩
      rw [Int.toNat_natCast]
      refine lc_rel (n := n) walk_range (fun D i y H' => Vw K H' y n (Row i)) (by omega) (fun D i y H1 H2 _ tk h => h.tk tk) (fun _ _ => trivial) (fun D i x H5 H6 R' hi s5 hy hR' => ?_) (fun D5 H5 rv nD5 s5 hl hrel hD5 => ?_)
      · obtain ⟨rfl, rfl⟩ := hy
        have ei : (0 : Int) + (i : Int) = (i : Int) := by omega
        show gName 8 (V.int (0 + (i : Int))) _ _ _
        rw [ei]
        refine ⟨rfl, ?_⟩
        refine ⟨_, rfl, I, rfl, ⟨_, .inl (.inl (s5 _ _ hI4))⟩, ?_⟩
        have hI6 := s5 _ _ hI4
        refine lc_fn (n := is.length) (walk_list (xs := is)) (fun k => V.int (((rf k - X ^ k).s i).val : Int)) (by omega) (fun H h => .inl (.inl (h _ _ hI6))) (fun k x H7 H8 R2 hk s7 hy2 hR2 => ?_) (fun D7 H7 nD7 s7 hD7 => ?_)
        · obtain ⟨rfl, hx⟩ := hy2
          obtain ⟨z, hz, a9, rfl, _, ha9⟩ := hIm.at hx
          rw [List.getElem?_map, List.getElem?_range (by omega)] at hz
          have ez := Option.some.inj hz
          subst ez
          refine ⟨rfl, _, rfl, _, rfl, a9, _, (i : Int), _, rfl, rfl, .inl (.inl (s7 _ _ (s5 _ _ ha9))), atI_nat (map_get (wl_get _ hi)), hR2 _ (Same.refl _)⟩
        · rw [hisl] at hD7
          refine ⟨D7, _, rfl, .inl ⟨.inl (.inl hD7), fun t nt => ?_⟩⟩
          refine hR' _ _ (s7.trans (same_upd nt)) ⟨t, rfl, .inl (.inl ?_)⟩
          rw [upd_same, ← hwl, List.map_map]; rfl
      · -- the kernel
        have hRw : Rw K H5 n rv ((List.range n).map Row) := ⟨by rw [hl, List.length_map, List.length_range], fun i g hg => by
          have hi := (List.getElem?_eq_some_iff.mp hg).1
          rw [List.length_map, List.length_range] at hi
          rw [List.getElem?_map, List.getElem?_range hi] at hg
          have e := Option.some.inj hg
          subst e
          exact ⟨_, List.getElem?_eq_getElem (by omega), hrel i _ (List.getElem?_eq_getElem (by omega))⟩⟩
        refine ⟨_, rfl, _, rfl, _, rfl, p, hp, n, (List.range n).map Row, rv, D5, rfl, .inl (.inl hD5), hRw, fun g hg => ?_, by omega, fun H6 D6 ws6 B s6 nD6 hD6 hB hEch hker hspan => ?_⟩
        · obtain ⟨i, _, rfl⟩ := List.mem_map.mp hg
          rw [hRow]
          have := pol_sz_le (p := p) ((List.range n).map fun k => (((rf k - X ^ k).s i).val : Int))
          rw [List.length_map, List.length_range] at this; exact this
        refine ⟨D6, rfl, ⟨_, .inl (.inl hD6)⟩, ?_⟩
        have hB60 : B.length ≤ 60 := by
          obtain ⟨L2, hE2, hp2⟩ := hEch
          have := ech_len hE2
          rw [hp2.length_eq, List.length_map]; omega
        refine lc_rel (walk_list (xs := ws6)) (fun D i y H' => ∀ g, B[i]? = some g → Rp K H' y g) (by rw [hB.1]; omega) (fun D i y H1 H2 _ tk h g hg => (h g hg).tk tk) (fun H' s' => .inl (.inl (s' _ _ hD6))) (fun D i x H7 H8 R' hi s7 hy hR' => ?_) (fun D7 H7 ws7 nD7 s7 hl7 hrel7 hD7 => ?_)
        · obtain ⟨rfl, hx⟩ := hy
          obtain ⟨g, hg⟩ : ∃ g, B[i]? = some g := ⟨_, List.getElem?_eq_getElem (by have := hB.1; omega)⟩
          obtain ⟨v, hv, hw⟩ := hB.2 i g hg
          have hx : ws6[i]? = some x := hx
          rw [hx] at hv
          cases hv
          have hgz := (hker g (List.mem_of_getElem? hg)).1
          refine ⟨rfl, _, rfl, p, hp, x, wl n g, rfl, hw.same s7, wl_rests n g, by rw [wl_len]; omega, fun H9 v9 s9 r9 => hR' v9 _ s9 fun g' hg' => ?_⟩
          rw [hg] at hg'
          cases hg'
          rw [pol_wl hgz] at r9
          exact r9
        · have key : ∀ v : Po p, v.sz ≤ n → (Still f v ↔ ∀ g ∈ (List.range n).map Row, dot n g v = 0) := fun v hv => by
            have := still_iff hf rf hr (by omega) Row hRs (v := v)
            have e1 : f.sz - 1 = n := by omega
            rw [e1] at this
            rw [this]
            constructor
            · intro h g hg
              obtain ⟨j, hj, rfl⟩ := List.mem_map.mp hg
              exact h j (List.mem_range.mp hj)
            · intro h j hj
              exact h _ (List.mem_map.mpr ⟨j, List.mem_range.mpr hj, rfl⟩)
          have e1 : f.sz - 1 = n := by omega
          refine q H7 D7 ws7 B (((s4.trans s5).trans s6).trans s7) (((s4.trans s5).trans s6).free nD7) hD7 ⟨?_, fun i g hg => ?_⟩ (by rw [e1]; exact hEch) (fun g hg => ?_) (fun S hS hBS v hv hst => ?_)
          · rw [hl7, hB.1]
          · have hi : i < ws7.length := by rw [hl7, hB.1]; exact (List.getElem?_eq_some_iff.mp hg).1
            exact ⟨_, List.getElem?_eq_getElem hi, hrel7 i _ (List.getElem?_eq_getElem hi) g hg⟩
          · obtain ⟨h1, h2⟩ := hker g hg
            exact ⟨(key g h1).mpr h2, by omega⟩
          · exact hspan S hS hBS v (by omega) ((key v (by omega)).mp hst)
end
end KW
end

section
set_option Elab.async false
set_option linter.all false
set_option maxRecDepth 100000
set_option maxHeartbeats 4000000
namespace KW
open PySem PySem.Spec PyProof.Rows L2 K10 K10.Po
section
variable {P : Program} {w : World} {K : PySem.W.Frag} {mg : Str → Option Value} {base : Heap}
def spHalved : Sp := fun vs H Q _ => ∃ (p : Nat) (_ : Pr p) (f : Po p) (v : V), vs = [v, .int p] ∧ Rs H v f ∧ 2 ≤ f.sz ∧ f.sz ≤ 60 ∧ Mo f ∧ Sqf f ∧
  (∀ H', Same H H' → Irr f → Q .non H') ∧
  ∀ H' t va vb (a b : Po p), Same H H' → H' t = some (.tup [va, vb]) → Rs H' va a → Rs H' vb b → f = a * b → Mo a → 2 ≤ a.sz → a.sz < f.sz → Q (.ref t) H'
theorem sb_sz {p : Nat} [Pr p] (n : Nat) : Sb (fun v : Po p => v.sz ≤ n) := ⟨by rw [sz_zero]; omega, fun x y c hx hy => by
  have h1 := sz_sub_le x (C c * y)
  have h2 := Cmul_sz c y
  show (x - C c * y).sz ≤ n
  omega⟩
theorem ok_halved (T : Txt K mg) : DefOk P w K mg base "halved" 8 ["one", "prime"] (spHalved) := by
  have d_still_of := ok_still_of (P := P) (w := w) (base := base) T
  have d_shared := ok_shared (P := P) (w := w) (base := base) T
  have d_blended := ok_blended (P := P) (w := w) (base := base) T
  have d_divided := ok_divided (P := P) (w := w) (base := base) T
  refine def_ok T.d_halved sc_halved (fun _ _ _ _ _ _ us hl => match us, hl with | [_, _], _ => rfl) (fun vs H Q E h => ?_) (fun f cdv A outer s H vs Q E hr h => ?_)
  · obtain ⟨p, _, f, v, rfl, _⟩ := h; rfl
  · obtain ⟨p, hp, f, v, rfl, hA, hf, hf6, hmo, hsq, qn, qt⟩ := h
    have h2 := Pr.two p
    have h97 := Pr.le p
    have hf0 := hmo.1
    have hAw : Rp K H v f := hA.w
    refine ⟨_, (pss_cons (ps_for PassesOwn.never rfl (pi_list (pcall d_still_of hr rfl (pa_cons (pv 0) (pa_cons (pv 1) pa_nil)))) (pg_name (i := 2) sc_halved.nd rfl (Or.inl rfl))
        (pss_one (ps_if (pt_cmpR op_gt (pe_callB call_len_seq (by rfl) T.n_len (by decide +kernel) (pa_cons (pv 2) pa_nil)) pe_int (nomark _))
          (pss_one (ps_for PassesOwn.never rfl (pi_range1 rfl T.n_range (pa_cons (pv 1) pa_nil)) (pg_name (i := 3) sc_halved.nd rfl (Or.inl rfl))
            (pss_cons (ps_set (i := 4) sc_halved.nd rfl (Or.inl rfl) (pe_ix (r := rIxT K) ix_tup (pcall d_shared hr rfl (pa_cons (pv 0) (pa_cons (pcall d_blended hr rfl (pa_cons (pv 2) (pa_cons (pe_tup (pa_cons pe_int pa_nil)) (pa_cons (pe_op op_sub (pv 1) (pv 3)) (pa_cons (pv 1) pa_nil))))) (pa_cons (pv 1) pa_nil)))) pe_int (fun _ _ => rfl)))
            (pss_one (ps_if (pt_chain op_lt op_lt pe_int (pe_callB call_len_seq (by rfl) T.n_len (by decide +kernel) (pa_cons (pv 4) pa_nil)) (pe_callB call_len_seq (by rfl) T.n_len (by decide +kernel) (pa_cons (pv 0) pa_nil)))
              (pss_one (ps_ret (pe_tup (pa_cons (pv 4) (pa_cons (pe_ix (r := rIxT K) ix_tup (pcall d_divided hr rfl (pa_cons (pv 0) (pa_cons (pv 4) (pa_cons (pv 1) pa_nil)))) pe_int (fun _ _ => rfl)) pa_nil)))))
              pss_nil)))))
          pss_nil)))
      (pss_one (ps_ret pe_non))), ?_⟩
    refine ⟨_, rfl, _, rfl, p, hp, f, v, rfl, hAw, hf, hf6, fun H1 D ws B s1 nD hD hB hEch hst hspan => ?_⟩
    refine ⟨D, rfl, ⟨_, .inl (.inl hD)⟩, ?_⟩
    refine for_it (walk_list (xs := ws)) (fun i σ H' => ∃ (x2 x3 x4 : Option V), σ = [some v, some (.int (p : Int)), x2, x3, x4] ∧ Same H1 H' ∧ ∀ g ∈ B.take i, g.sz ≤ 1)
      ⟨none, none, none, rfl, Same.refl _, fun g hg => by simp at hg⟩ (fun i σ H' _ h => by obtain ⟨_, _, _, _, s', _⟩ := h; exact .inl (.inl (s' _ _ hD))) (fun i x σ H4 H5 hi hP hy => ?_) (fun σ H' hP => ?_)
    · obtain ⟨x2, x3, x4, rfl, s4, hall⟩ := hP
      obtain ⟨rfl, hx⟩ := hy
      obtain ⟨h, hh, hrp⟩ := hB.at hx
      obtain ⟨xa, rfl, hxa⟩ := hrp.same s4
      have hmem := List.mem_of_getElem? hh
      obtain ⟨hstill, hhz⟩ := hst h hmem
      have htk : B.take (i + 1) = B.take i ++ [h] := by rw [List.take_add_one, hh]; rfl
      refine ⟨_, rfl, xa, _, rfl, .inr hxa, _, _, rfl, rfl, _, rfl, ?_⟩
      by_cases hc : h.sz ≤ 1
      · rw [decide_eq_false (show ¬ ((1 : Int) < (((lst h).map V.int).length : Int)) by rw [List.length_map, lst_len]; omega)]
        refine iteF ⟨_, _, _, rfl, s4, fun g hg => ?_⟩
        rw [htk] at hg
        rcases List.mem_append.mp hg with hg | hg
        · exact hall g hg
        · rw [List.mem_singleton.mp hg]; exact hc
      · rw [decide_eq_true (show ((1 : Int) < (((lst h).map V.int).length : Int)) by rw [List.length_map, lst_len]; omega)]
        refine iteT ?_
        refine ⟨_, rfl, (p : Int), rfl, by omega, by omega, ?_⟩
        rw [Int.toNat_natCast]
        refine for_it (n := p) walk_range (fun j σ H' => ∃ (x3 x4 : Option V), σ = [some v, some (.int (p : Int)), some (.ref xa), x3, x4] ∧ Same H1 H' ∧ SqT K H' xa ((lst h).map V.int) ∧
            ∀ s, s < j → ∃ d u w : Po p, Mo d ∧ d = u * f + w * (h - C (zc p (s : Int))) ∧ Dv d (h - C (zc p (s : Int))) ∧ ¬ (1 < d.sz ∧ d.sz < f.sz))
          ⟨_, _, rfl, s4, hxa, fun s hs => absurd hs (by omega)⟩ (fun _ _ _ _ _ => trivial) (fun j x σ H6 H7 hj hP hy => ?_) (fun σ H' hP => ?_)
        · obtain ⟨x3, x4, rfl, s6, hxa6, hbad⟩ := hP
          obtain ⟨rfl, rfl⟩ := hy
          have ej : (0 : Int) + (j : Int) = (j : Int) := by omega
          show gName 3 (V.int (0 + (j : Int))) _ _ _
          rw [ej]
          refine ⟨_, rfl, _, rfl, line_of (by decide), fun t nt => ?_⟩
          have st := same_upd (o := .tup [.int 1]) nt
          refine ⟨_, rfl, _, rfl, _, _, rfl, rfl, _, rfl, p, hp, h, 1, .ref xa, .ref t, (p : Int) - (j : Int), rfl, ⟨xa, rfl, same_t st hxa6⟩, ⟨t, rfl, .inl (.inl (by rw [upd_same, lst_one]; rfl))⟩, by omega, by omega, by omega, by rw [Po.sz_one]; omega, fun H8 v8 s8 r8 => ?_⟩
          have ez : h + C (zc p ((p : Int) - (j : Int))) * 1 = h - C (zc p (j : Int)) := by
            rw [zc_sub, show zc p (p : Int) = 0 from ?_]
            · rw [show (0 : Fin p) - zc p (j : Int) = -zc p (j : Int) by grind, C_neg]; grind
            · rw [← zc_mod, Int.emod_self]; exact zc_zero
          rw [ez] at r8
          have hz8 : (h - C (zc p (j : Int))).sz ≤ 100 := by
            have h1 := sz_sub_le h (C (zc p (j : Int)))
            have h3 := sz_C_le (zc p (j : Int))
            omega
          have s18 := (s6.trans st).trans s8
          refine ⟨_, rfl, p, hp, f, h - C (zc p (j : Int)), v, v8, rfl, hAw.same (s1.trans s18), r8, by omega, hz8, fun H9 t9 v0 v1 v2 d u w s9 ht9 rp9 rs9 e9 dv1 dv2 hmd => ?_⟩
          refine ⟨t9, _, 0, _, rfl, rfl, ht9, atI_nat (j := 0) rfl, ?_⟩
          have hmd := hmd hf0
          obtain ⟨da, rfl, hda⟩ := rs9 hf0
          have s19 := s18.trans s9
          obtain ⟨va, rfl, hva⟩ := hA.same (s1.trans s19)
          have hdaw : SqT K H9 da ((lst d).map V.int) := .inl (.inl hda)
          have hvaw : SqT K H9 va ((lst f).map V.int) := .inl (.inl hva)
          refine ⟨_, rfl, da, _, rfl, .inr hdaw, _, _, rfl, rfl, _, rfl, ?_⟩
          have lenD : (((lst d).map V.int).length : Int) = (d.sz : Int) := by rw [List.length_map, lst_len]
          have lenF : (((lst f).map V.int).length : Int) = (f.sz : Int) := by rw [List.length_map, lst_len]
          have hno : ¬ (1 < d.sz ∧ d.sz < f.sz) → ∃ (x3' x4' : Option V), [some (V.ref va), some (.int (p : Int)), some (.ref xa), some (V.int (j : Int)), some (V.ref da)] = [some (V.ref va), some (.int (p : Int)), some (.ref xa), x3', x4'] ∧ Same H1 H9 ∧ SqT K H9 xa ((lst h).map V.int) ∧
            ∀ s, s < j + 1 → ∃ d u w : Po p, Mo d ∧ d = u * f + w * (h - C (zc p (s : Int))) ∧ Dv d (h - C (zc p (s : Int))) ∧ ¬ (1 < d.sz ∧ d.sz < f.sz) := fun hn => by
            refine ⟨_, _, rfl, s19, same_t ((st.trans s8).trans s9) hxa6, fun s hs => ?_⟩
            by_cases hsj : s = j
            · subst hsj; exact ⟨d, u, w, hmd, e9, dv2, hn⟩
            · exact hbad s (by omega)
          by_cases h1 : 1 < d.sz
          · rw [decide_eq_true (show (1 : Int) < (((lst d).map V.int).length : Int) by omega)]
            refine iteT ⟨_, rfl, va, _, rfl, .inr hvaw, _, _, rfl, rfl, _, rfl, ?_⟩
            by_cases h2' : d.sz < f.sz
            · rw [decide_eq_true (show (((lst d).map V.int).length : Int) < (((lst f).map V.int).length : Int) by omega)]
              refine iteT ?_
              refine ⟨_, rfl, _, rfl, _, rfl, _, rfl, p, hp, f, d, .ref va, .ref da, rfl, ⟨va, rfl, hvaw⟩, ⟨da, rfl, hdaw⟩, hmd.1, by omega, by omega, fun H10 t10 vq vr qq rr s10 ht10 rq rr' e10 l10 => ?_⟩
              refine ⟨t10, _, 0, _, rfl, rfl, .inl (.inl ht10), atI_nat (j := 0) rfl, line_of (by show 2 ≤ 100000; decide), fun t11 nt11 => ?_⟩
              have s11 := same_upd (o := .tup [.ref da, vq]) nt11
              have hr0 : rr = 0 := by
                obtain ⟨c, hc⟩ := dv1
                have : Dv d rr := ⟨c - qq, by grind⟩
                exact this.of_sz_lt l10
              refine qt _ t11 (.ref da) vq d qq ((s1.trans s19).trans (s10.trans s11)) upd_same ⟨da, rfl, s11 _ _ (s10 _ _ hda)⟩ (rq.same s11) (by rw [e10, hr0]; grind) hmd (by omega) h2'
            · rw [decide_eq_false (show ¬ ((((lst d).map V.int).length : Int) < (((lst f).map V.int).length : Int)) by omega)]
              exact iteF (hno fun z => h2' z.2)
          · rw [decide_eq_false (show ¬ ((1 : Int) < (((lst d).map V.int).length : Int)) by omega)]
            exact iteF ⟨_, rfl, iteF (hno fun z => h1 z.1)⟩
        · obtain ⟨x3, x4, rfl, s6, hxa6, hbad⟩ := hP
          exfalso
          have hbad' : ∀ s, ∃ x : Po p × Po p × Po p, s < p → Mo x.1 ∧ x.1 = x.2.1 * f + x.2.2 * (h - C (zc p (s : Int))) ∧ Dv x.1 (h - C (zc p (s : Int))) ∧ ¬ (1 < x.1.sz ∧ x.1.sz < f.sz) := fun s => by
            by_cases hs : s < p
            · obtain ⟨d, u, w, k⟩ := hbad s hs
              exact ⟨(d, u, w), fun _ => k⟩
            · exact ⟨(0, 0, 0), fun z => absurd z hs⟩
          obtain ⟨F, hF⟩ := Classical.axiomOfChoice hbad'
          obtain ⟨s, hs, k1, k2⟩ := split_of_still hstill (by omega) hhz (fun s => (F s).1) (fun s => (F s).2.1) (fun s => (F s).2.2) (fun s hs => (hF s hs).1) (fun s hs => (hF s hs).2.1) (fun s hs => (hF s hs).2.2.1)
          exact (hF s hs).2.2.2 ⟨k1, k2⟩
    · obtain ⟨x2, x3, x4, rfl, s4, hall⟩ := hP
      rw [hB.1, List.take_of_length_le (Nat.le_refl _)] at hall
      refine qn _ (s1.trans s4) (irr_of_still hf hsq fun h hh hst' => ?_)
      exact hspan _ (sb_sz 1) hall h hh hst'
end
end KW
end

section
set_option Elab.async false
set_option linter.all false
set_option maxRecDepth 100000
set_option maxHeartbeats 4000000
namespace KW
open PySem PySem.Spec PyProof.Rows L2 K10 K10.Po
/-! ### lists of plain data -/
theorem Rl.tail {α : Type} {φ : Hp → V → α → Prop} {H : Hp} {v : V} {vs : List V} {x : α} {R : List α} (h : Rl φ H (v :: vs) (x :: R)) : φ H v x ∧ Rl φ H vs R := by
  refine ⟨?_, by have := h.1; simpa using this, fun i y hy => h.2 (i + 1) y (by simpa using hy)⟩
  obtain ⟨u, hu, hp⟩ := h.2 0 x rfl
  have e : v = u := Option.some.inj hu
  rw [e]; exact hp
theorem Rl.cons {α : Type} {φ : Hp → V → α → Prop} {H : Hp} {v : V} {vs : List V} {x : α} {R : List α} (hv : φ H v x) (h : Rl φ H vs R) : Rl φ H (v :: vs) (x :: R) := by
  refine ⟨by rw [List.length_cons, List.length_cons, h.1], fun i y hy => ?_⟩
  cases i with
  | zero => exact ⟨v, rfl, by have e : x = y := Option.some.inj hy; rw [← e]; exact hv⟩
  | succ i => obtain ⟨u, hu, hp⟩ := h.2 i y (by simpa using hy); exact ⟨u, by simpa using hu, hp⟩
theorem dpAll_of {α : Type} {K : PySem.W.Frag} {φ : Hp → V → α → Prop} {H : Hp} {d : α → PyData} (hd : ∀ v x, φ H v x → Dp K H v (d x)) : ∀ {vs : List V} {R : List α}, Rl φ H vs R → DpAll K H vs (R.map d)
  | [], [], _ => .nil
  | v :: vs, x :: R, h => .cons (hd v x h.tail.1) (dpAll_of hd h.tail.2)
  | [], _ :: _, h => by have := h.1; simp at this
  | _ :: _, [], h => by have := h.1; simp at this
theorem plainAll_map {α : Type} {d : α → PyData} : ∀ {R : List α}, (∀ x ∈ R, plain (d x) = true) → plainAll (R.map d) = true
  | [], _ => rfl
  | x :: R, h => by
    show (plain (d x) && plainAll (R.map d)) = true
    rw [h x List.mem_cons_self, plainAll_map fun y hy => h y (List.mem_cons_of_mem _ hy)]; rfl
theorem depthAll_map {α : Type} {d : α → PyData} {m : Nat} : ∀ {R : List α}, (∀ x ∈ R, (d x).depth ≤ m) → PyData.depthAll (R.map d) ≤ m
  | [], _ => by simp [PyData.depthAll]
  | x :: R, h => by
    have h1 := h x List.mem_cons_self
    have h2 := depthAll_map (R := R) fun y hy => h y (List.mem_cons_of_mem _ hy)
    simp only [List.map_cons, PyData.depthAll]
    omega
theorem eqv_nil {ds : List PyData} (h : plainAll ds = true) : PyData.eqv (.list ds) (.list []) = decide (ds = []) := by
  have k := eqv_plain (.list ds) (.list []) (by unfold plain; exact h) rfl
  by_cases e : ds = []
  · rw [decide_eq_true e, k, e]
  · rw [decide_eq_false e]
    cases q : PyData.eqv (.list ds) (.list []) with
    | false => rfl
    | true => exact absurd (by have := k.mp q; injection this) e
theorem shaped_list {ds : List PyData} (h : plainAll ds = true) (hd : PyData.depthAll ds ≤ 60) : SeqAt.shaped (.list ds) = true := shaped_plain (by unfold plain; exact h) (by simp only [PyData.depth]; omega)
theorem sum_append' (A B : List Nat) : (A ++ B).sum = A.sum + B.sum := by
  induction A with
  | nil => simp
  | cons a r ih => rw [List.cons_append, List.sum_cons, List.sum_cons, ih]; omega
section
variable {P : Program} {w : World} {K : PySem.W.Frag} {mg : Str → Option Value} {base : Heap}
abbrev Rsl {p : Nat} [Pr p] (H : Hp) (vs : List V) (R : List (Po p)) : Prop := Rl (fun H v f => Rs H v f) H vs R
theorem Rsl.tk {p : Nat} [Pr p] {H H' : Hp} {vs : List V} {R : List (Po p)} (h : Rsl H vs R) (e : Tk H H') : Rsl H' vs R := Rl.imp h fun v x hx => Rs.tk hx e
noncomputable def dPs {p : Nat} [Pr p] (R : List (Po p)) : List PyData := R.map fun g => dT (lst g)
theorem plain_dPs {p : Nat} [Pr p] (R : List (Po p)) : plainAll (dPs R) = true := plainAll_map fun g _ => plain_dT _
theorem depth_dPs {p : Nat} [Pr p] (R : List (Po p)) : PyData.depthAll (dPs R) ≤ 60 := depthAll_map fun g _ => by rw [depth_dT]; omega
/-- degrees -/
noncomputable def dg1 {p : Nat} [Pr p] (R : List (Po p)) : Nat := (R.map fun g => g.sz - 1).sum
noncomputable def mu1 {p : Nat} [Pr p] (R : List (Po p)) : Nat := (R.map fun g => 2 * (g.sz - 1) - 1).sum
theorem dg1_append {p : Nat} [Pr p] (A B : List (Po p)) : dg1 (A ++ B) = dg1 A + dg1 B := by unfold dg1; rw [List.map_append, sum_append']
theorem mu1_append {p : Nat} [Pr p] (A B : List (Po p)) : mu1 (A ++ B) = mu1 A + mu1 B := by unfold mu1; rw [List.map_append, sum_append']
theorem len_dg1 {p : Nat} [Pr p] : ∀ {R : List (Po p)}, (∀ g ∈ R, 2 ≤ g.sz) → R.length ≤ dg1 R
  | [], _ => by simp
  | g :: R, h => by
    have h1 := h g List.mem_cons_self
    have h2 := len_dg1 (R := R) fun y hy => h y (List.mem_cons_of_mem _ hy)
    show R.length + 1 ≤ (g.sz - 1) + dg1 R
    omega
noncomputable def ones {p : Nat} [Pr p] (R : List (Po p)) : List (Po p × Nat) := R.map fun g => (g, 1)
theorem fpr_ones_append {p : Nat} [Pr p] (A B : List (Po p)) : fpr (ones (A ++ B)) = fpr (ones A) * fpr (ones B) := by unfold ones; rw [List.map_append, fpr_append]
theorem fpr_ones_one {p : Nat} [Pr p] (g : Po p) : fpr (ones [g]) = g := by
  show g ^ 1 * 1 = g
  have : g ^ 1 = g := by rw [Lean.Grind.Semiring.pow_succ, Lean.Grind.Semiring.pow_zero]; grind
  rw [this]; grind
def spPieces : Sp := fun vs H Q _ => ∃ (p : Nat) (_ : Pr p) (f : Po p) (v : V), vs = [v, .int p] ∧ Rs H v f ∧ 2 ≤ f.sz ∧ f.sz ≤ 60 ∧ Mo f ∧ Sqf f ∧
  ∀ H' D ws (R : List (Po p)), Same H H' → H D = none → H' D = some (.lst ws) → Rsl H' ws R → (∀ q ∈ R, Irr q ∧ Mo q) → fpr (ones R) = f → R.length ≤ f.sz - 1 → Q (.ref D) H'
theorem ok_pieces_of (T : Txt K mg) : DefOk P w K mg base "pieces_of" 9 ["one", "prime"] (spPieces) := by
  have d_halved := ok_halved (P := P) (w := w) (base := base) T
  refine def_ok T.d_pieces_of sc_pieces_of (fun _ _ _ _ _ _ us hl => match us, hl with | [_, _], _ => rfl) (fun vs H Q E h => ?_) (fun f cdv A outer s H vs Q E hr h => ?_)
  · obtain ⟨p, _, f, v, rfl, _⟩ := h; rfl
  · obtain ⟨p, hp, f, v, rfl, hA, hf, hf6, hmo, hsq, q⟩ := h
    have h2 := Pr.two p
    have h97 := Pr.le p
    refine ⟨_, (pss_cons (ps_set (i := 2) sc_pieces_of.nd rfl (Or.inl rfl) (pe_lst pa_nil))
      (pss_cons (ps_set (i := 3) sc_pieces_of.nd rfl (Or.inl rfl) (pe_lst (pa_cons (pv 0) pa_nil)))
      (pss_cons (ps_while PassesOwn.never (pt_cmpR (op_neD hr.units) (pv 3) (pe_lst pa_nil) (nomark _))
        (pss_cons (ps_set (i := 4) sc_pieces_of.nd rfl (Or.inl rfl) (pe_bm0 PySem.F.plainAttrs_list PySem.F.slot_list_pop PySem.F.type_list_pop mt_pop (pv 3)))
        (pss_cons (ps_set (i := 5) sc_pieces_of.nd rfl (Or.inl rfl) (pe_ifExp (pt_cmpR op_gt (pe_callB call_len_seq (by rfl) T.n_len (by decide +kernel) (pa_cons (pv 4) pa_nil)) pe_int (nomark _)) (pcall d_halved hr rfl (pa_cons (pv 4) (pa_cons (pv 1) pa_nil))) pe_non))
        (pss_one (ps_if (pt_cmpR op_isN (pv 5) pe_non (nomark _))
          (pss_one (ps_expr (pe_bm PySem.F.plainAttrs_list PySem.F.slot_list_append PySem.F.type_list_append mt_append (pv 2) (pa_cons (pv 4) pa_nil))))
          (pss_one (ps_expr (pe_bm PySem.F.plainAttrs_list PySem.F.slot_list_extend PySem.F.type_list_extend KX.mt_extendT (pv 3) (pa_cons (pv 5) pa_nil)))))))))
      (pss_one (ps_ret (pv 2)))))), ?_⟩
    refine ⟨line_of (by decide), fun fo nfo => ?_⟩
    have s1 := same_upd (o := .lst []) nfo
    refine ⟨_, rfl, line_of (by show 1 ≤ 100000; decide), fun l nl => ?_⟩
    have s2 := s1.trans (same_upd (o := .lst [v]) nl)
    have nlH : H l = none := s1.free nl
    have el : (upd (upd H fo (.lst [])) l (.lst [v])) l = some (.lst [v]) := upd_same
    have hne : fo ≠ l := fun e => by rw [← e, upd_same] at nl; cases nl
    have efo : (upd (upd H fo (.lst [])) l (.lst [v])) fo = some (.lst []) := by rw [upd_ne hne, upd_same]
    generalize hH2 : upd (upd H fo (.lst [])) l (.lst [v]) = H2 at s2 el efo
    refine ⟨fun m σ H' => ∃ (ls fs : List V) (L F : List (Po p)) (x4 x5 : Option V), σ = [some v, some (.int (p : Int)), some (.ref fo), some (.ref l), x4, x5] ∧ Same H H' ∧ H' l = some (.lst ls) ∧ H' fo = some (.lst fs) ∧ Rsl H' ls L ∧ Rsl H' fs F ∧
        (∀ g ∈ L, 2 ≤ g.sz ∧ g.sz ≤ 60 ∧ Mo g ∧ Sqf g) ∧ (∀ g ∈ F, Irr g ∧ Mo g) ∧ fpr (ones F) * fpr (ones L) = f ∧ mu1 L ≤ m ∧ dg1 L + dg1 F = f.sz - 1,
      ⟨_, [v], [], [f], [], none, none, rfl, s2, el, efo, Rl.one (hA.same s2), Rl.nil, fun g hg => ?_, fun g hg => (nomatch hg), ?_, Nat.le_refl _, ?_⟩, fun m σ H' hW => ?_⟩
    · rw [List.mem_singleton.mp hg]; exact ⟨hf, hf6, hmo, hsq⟩
    · rw [fpr_ones_one]; show (1 : Po p) * f = f; grind
    · show (f.sz - 1) + 0 + 0 = f.sz - 1; omega
    · obtain ⟨ls, fs, L, F, x4, x5, rfl, s', hl, hfo, hL, hF, hLall, hFall, hprod, hm, hdg⟩ := hW
      have hLlen := len_dg1 fun g hg => (hLall g hg).1
      have hFlen := len_dg1 fun g hg => (hFall g hg).1.1
      refine ⟨_, rfl, line_of (by decide), fun c nc => ?_⟩
      have sc := same_upd (o := .lst []) nc
      refine ⟨_, _, .lst (.inl (.inl (sc _ _ hl))) (dpAll_of (d := fun g : Po p => dT (lst g)) (fun v x h => TI.dp (K := K) h.w) (Rsl.tk hL (Same.tk sc))), .lst (.inl (.inl upd_same)) .nil, shaped_list (plain_dPs L) (depth_dPs L), shaped_list rfl (by decide), _, rfl, ?_⟩
      rw [show PyData.eqv (.list (L.map fun g : Po p => dT (lst g))) (.list []) = decide (dPs L = []) from eqv_nil (plain_dPs L)]
      have hlc := sc _ _ hl
      have hfoc := sc _ _ hfo
      have hLc := Rsl.tk hL (Same.tk sc)
      have hFc := Rsl.tk hF (Same.tk sc)
      have s3 := s'.trans sc
      generalize hH3 : upd H' c (.lst []) = H3 at sc hlc hfoc hLc hFc s3
      by_cases hL0 : L = []
      · rw [decide_eq_true (show dPs L = [] by rw [hL0]; rfl)]
        refine iteF ⟨_, rfl, q H3 fo fs F s3 nfo hfoc hFc hFall ?_ ?_⟩
        · rw [hL0] at hprod
          have e1 : fpr (ones ([] : List (Po p))) = 1 := rfl
          rw [e1] at hprod; rw [← hprod]; grind
        · rw [hL0] at hdg
          have : dg1 ([] : List (Po p)) = 0 := rfl
          omega
      · rw [decide_eq_false (show ¬ dPs L = [] from fun z => hL0 (List.map_eq_nil_iff.mp z))]
        refine iteT ?_
        obtain ⟨k, hk⟩ : ∃ k, L.length = k + 1 := ⟨L.length - 1, by have := List.length_pos_iff.mpr hL0; omega⟩
        obtain ⟨ls', vg, L', g, els, eL, hL', hg⟩ := Rl.pop hLc hk
        rw [els] at hlc
        rw [eL] at hLall hm hdg hprod
        obtain ⟨hg2, hg6, hgm, hgs⟩ := hLall g (List.mem_append_right _ (List.mem_singleton.mpr rfl))
        have hL'all : ∀ g ∈ L', 2 ≤ g.sz ∧ g.sz ≤ 60 ∧ Mo g ∧ Sqf g := fun x hx => hLall x (List.mem_append_left _ hx)
        rw [mu1_append] at hm
        rw [dg1_append] at hdg
        rw [fpr_ones_append, fpr_ones_one] at hprod
        have hmg : mu1 [g] = 2 * (g.sz - 1) - 1 := by show (2 * (g.sz - 1) - 1) + 0 = _; omega
        have hdgg : dg1 [g] = g.sz - 1 := by show (g.sz - 1) + 0 = _; omega
        refine ⟨_, fun σ' H' z => ⟨m - 1, by omega, z⟩, ?_⟩
        refine ⟨_, rfl, .inl ⟨rfl, _, .inl (.inl hlc)⟩, l, _, vg, rfl, rfl, hlc, by simp, ?_⟩
        rw [List.dropLast_concat]
        have tk4 := tk_lst (o := .lst ls') hlc
        have s4 : Same H (upd H3 l (.lst ls')) := same_mut s3 nlH
        have hl4 : (upd H3 l (.lst ls')) l = some (.lst ls') := upd_same
        have hfo4 : (upd H3 l (.lst ls')) fo = some (.lst fs) := by rw [upd_ne hne]; exact hfoc
        have hL4 := Rsl.tk hL' tk4
        have hF4 := Rsl.tk hFc tk4
        have hg4 := Rs.tk hg tk4
        generalize hH4 : upd H3 l (.lst ls') = H4 at tk4 s4 hl4 hfo4 hL4 hF4 hg4
        obtain ⟨ga, rfl, hga⟩ := hg4
        have hlen : (((lst g).map V.int).length : Int) = (g.sz : Int) := by rw [List.length_map, lst_len]
        refine ⟨_, rfl, ga, _, rfl, .inr (.inl (.inl hga)), _, _, rfl, rfl, _, rfl, ?_⟩
        have hlf := len_dg1 fun g hg => (hL'all g hg).1
        by_cases hg3 : 2 < g.sz
        · rw [decide_eq_true (show (2 : Int) < (((lst g).map V.int).length : Int) by omega)]
          refine iteT ?_
          refine ⟨_, rfl, _, rfl, p, hp, g, .ref ga, rfl, ⟨ga, rfl, hga⟩, hg2, hg6, hgm, hgs, fun H5 s5 hirr => ?_, fun H5 t va vb a b s5 ht ra rb eab hma ha2 halt => ?_⟩
          · have s5' : Same H4 H5 := s5
            refine ⟨_, rfl, rfl, _, rfl, ?_⟩
            rw [decide_eq_true (show V.non = V.non from rfl)]
            refine iteT ?_
            refine ⟨_, rfl, .inl ⟨rfl, _, .inl (.inl (s5' _ _ hfo4))⟩, _, rfl, fo, fs, .ref ga, rfl, rfl, s5' _ _ hfo4, line_lt (by have := hF4.1; omega), ?_⟩
            have tk6 := Tk.trans (Same.tk s5') (tk_lst (o := .lst (fs ++ [V.ref ga])) (s5' _ _ hfo4))
            refine ⟨ls', fs ++ [.ref ga], L', F ++ [g], _, _, rfl, same_mut (s4.trans s5') nfo, by rw [upd_ne (Ne.symm hne)]; exact s5' _ _ hl4, upd_same, Rsl.tk hL4 tk6, Rl.snoc (Rsl.tk hF4 tk6) ⟨ga, rfl, (tk6 ga).1 _ hga⟩, hL'all, fun x hx => ?_, ?_, by omega, by rw [dg1_append]; omega⟩
            · rcases List.mem_append.mp hx with hx | hx
              · exact hFall x hx
              · rw [List.mem_singleton.mp hx]; exact ⟨hirr, hgm⟩
            · rw [fpr_ones_append, fpr_ones_one, ← hprod]; grind
          · have hb0 : b ≠ 0 := fun z => hgm.1 (by rw [eab, z]; grind)
            have hsz := (sz_mul hma.1 hb0).1
            rw [← eab] at hsz
            have hmb : Mo b := by rw [eab] at hgm; exact Mo.of_mul hma hgm
            refine ⟨_, rfl, rfl, _, rfl, ?_⟩
            rw [decide_eq_false (show ¬ V.ref t = V.non from fun z => by cases z)]
            refine iteF ?_
            have hl5 := s5 _ _ hl4
            have hlsl : ls'.length = L'.length := hL'.1
            refine ⟨_, rfl, .inl ⟨rfl, _, .inl (.inl hl5)⟩, _, rfl, l, t, ls', [va, vb], rfl, rfl, hl5, .inl (.inl ht), line_of (by show ls'.length + 2 ≤ 100000; omega), ?_⟩
            have tk6 := Tk.trans (Same.tk s5) (tk_lst (o := .lst (ls' ++ [va, vb])) hl5)
            have tk5 := tk_lst (o := .lst (ls' ++ [va, vb])) hl5
            refine ⟨ls' ++ [va, vb], fs, L' ++ [a, b], F, _, _, rfl, same_mut (s4.trans s5) nlH, upd_same, by rw [upd_ne hne]; exact s5 _ _ hfo4, ?_, Rsl.tk hF4 tk6, fun x hx => ?_, hFall, ?_, ?_, ?_⟩
            · have := (Rl.snoc (Rl.snoc (Rsl.tk hL4 tk6) (Rs.tk ra tk5)) (Rs.tk rb tk5))
              rw [List.append_assoc, List.append_assoc] at this; exact this
            · rcases List.mem_append.mp hx with hx | hx
              · exact hL'all x hx
              · rcases List.mem_cons.mp hx with hx | hx
                · rw [hx]; exact ⟨ha2, by omega, hma, hgs.of_dv ⟨b, eab⟩⟩
                · rw [List.mem_singleton.mp hx]; exact ⟨by omega, by omega, hmb, hgs.of_dv ⟨a, by rw [eab]; grind⟩⟩
            · rw [fpr_ones_append, show [a, b] = [a] ++ [b] from rfl, fpr_ones_append, fpr_ones_one, fpr_ones_one, ← hprod, eab]
            · rw [mu1_append]
              have : mu1 [a, b] = (2 * (a.sz - 1) - 1) + ((2 * (b.sz - 1) - 1) + 0) := rfl
              omega
            · rw [dg1_append]
              have : dg1 [a, b] = (a.sz - 1) + ((b.sz - 1) + 0) := rfl
              omega
        · rw [decide_eq_false (show ¬ ((2 : Int) < (((lst g).map V.int).length : Int)) by omega)]
          refine iteF ?_
          have s5' : Same H4 H4 := Same.refl _
          refine ⟨_, rfl, rfl, _, rfl, ?_⟩
          rw [decide_eq_true (show V.non = V.non from rfl)]
          refine iteT ?_
          refine ⟨_, rfl, .inl ⟨rfl, _, .inl (.inl (s5' _ _ hfo4))⟩, _, rfl, fo, fs, .ref ga, rfl, rfl, s5' _ _ hfo4, line_lt (by have := hF4.1; omega), ?_⟩
          have tk6 := Tk.trans (Same.tk s5') (tk_lst (o := .lst (fs ++ [V.ref ga])) (s5' _ _ hfo4))
          refine ⟨ls', fs ++ [.ref ga], L', F ++ [g], _, _, rfl, same_mut (s4.trans s5') nfo, by rw [upd_ne (Ne.symm hne)]; exact s5' _ _ hl4, upd_same, Rsl.tk hL4 tk6, Rl.snoc (Rsl.tk hF4 tk6) ⟨ga, rfl, (tk6 ga).1 _ hga⟩, hL'all, fun x hx => ?_, ?_, by omega, by rw [dg1_append]; omega⟩
          · rcases List.mem_append.mp hx with hx | hx
            · exact hFall x hx
            · rw [List.mem_singleton.mp hx]; exact ⟨irr_of_two (by omega), hgm⟩
          · rw [fpr_ones_append, fpr_ones_one, ← hprod]; grind
end
end KW
end

section
set_option Elab.async false
set_option linter.all false
set_option maxRecDepth 100000
set_option maxHeartbeats 4000000
namespace KW
open PySem PySem.Spec PyProof.Rows L2 K10 K10.Po
theorem filter_mult {p : Nat} (hp : 2 ≤ p) : ∀ (n m r : Nat), 1 ≤ r → r ≤ p → n = m * p + r → (List.range n).filter (fun j => decide (j % p = 0)) = (List.range (m + 1)).map (· * p)
  | 0, m, r, h1, _, e => by omega
  | n + 1, m, r, h1, h2, e => by
    rw [List.range_succ, List.filter_append]
    by_cases hr : r = 1
    · subst hr
      have en : n = m * p := by omega
      have hm : n % p = 0 := by rw [en]; exact Nat.mul_mod_left m p
      rw [List.filter_cons_of_pos (by rw [decide_eq_true hm])]
      rw [List.range_succ, List.map_append]
      show List.filter (fun j => decide (j % p = 0)) (List.range n) ++ [n] = List.map (· * p) (List.range m) ++ [m * p]
      rw [en]
      congr 1
      match m, en with
      | 0, en => simp
      | k + 1, en =>
        have := filter_mult hp n k p (by omega) (Nat.le_refl _) (by rw [en, Nat.succ_mul])
        rw [en] at this; exact this
    · have hm : n % p ≠ 0 := by
        have en : n = (r - 1) + m * p := by omega
        rw [en, Nat.add_mul_mod_self_right, Nat.mod_eq_of_lt (by omega)]; omega
      rw [List.filter_cons_of_neg (by rw [decide_eq_false hm]; decide), filter_mult hp n m (r - 1) (by omega) (by omega) (by omega)]
      show _ ++ [] = _
      rw [List.append_nil]
theorem thin_sz {p : Nat} [Pr p] {f : Po p} (hf : 2 ≤ f.sz) (hd : der f = 0) (hm : Mo f) : ∃ (g : Po p) (m : Nat), f = g ^ p ∧ (∀ i, g.s i = f.s (i * p)) ∧ f.sz = m * p + 1 ∧ g.sz = m + 1 ∧ Mo g := by
  have h2 := Pr.two p
  have hlead : f.s (f.sz - 1) ≠ 0 := by rw [hm.2]; exact fin_one_ne
  have hmod : (f.sz - 1) % p = 0 := by
    apply Classical.byContradiction; intro hne
    have h1 := congrArg (fun g : Po p => g.s (f.sz - 2)) hd
    have h1 : (der f).s (f.sz - 2) = 0 := h1.trans (zero_ap _)
    rw [der_ap, show f.sz - 2 + 1 = f.sz - 1 by omega] at h1
    have h3 := zc_ne_of_mod (p := p) hne
    have e : ((f.sz - 1 : Nat) : Int) = ((f.sz - 2 : Nat) : Int) + 1 := by omega
    rw [e] at h3
    exact fin_mul_ne h3 hlead h1
  have eg : ∃ g : Po p, ∀ i, g.s i = f.s (i * p) := ⟨⟨fun i => f.s (i * p), by
    obtain ⟨n, k⟩ := f.fin
    exact ⟨n, fun i hi => k _ (Nat.le_trans hi (Nat.le_mul_of_pos_right _ (by omega)))⟩⟩, fun i => rfl⟩
  obtain ⟨g, hg⟩ := eg
  have hdm := Nat.div_add_mod (f.sz - 1) p
  rw [hmod] at hdm
  generalize (f.sz - 1) / p = m at hdm
  have em : m * p = f.sz - 1 := by rw [Nat.mul_comm]; omega
  have hgs : g.sz = m + 1 := by
    refine sz_eq (fun j hj => ?_) (.inr ?_)
    · rw [hg]
      refine sz_dg f _ ?_
      have : (m + 1) * p ≤ j * p := Nat.mul_le_mul_right _ hj
      rw [Nat.succ_mul] at this; omega
    · rw [Nat.add_sub_cancel, hg, em]; exact hlead
  refine ⟨g, m, thin hd hg, hg, by omega, hgs, fun z => ?_, ?_⟩
  · rw [z, sz_zero] at hgs; omega
  · rw [hgs, Nat.add_sub_cancel, hg, em]; exact hm.2
section
variable {P : Program} {w : World} {K : PySem.W.Frag} {mg : Str → Option Value} {base : Heap}
def spThinned : Sp := fun vs H Q _ => ∃ (p : Nat) (_ : Pr p) (f : Po p) (v : V), vs = [v, .int p] ∧ Rs H v f ∧ 2 ≤ f.sz ∧ f.sz ≤ 60 ∧ Mo f ∧ der f = 0 ∧
  ∀ H' v' (g : Po p), Same H H' → Rs H' v' g → f = g ^ p → Mo g → f.sz = (g.sz - 1) * p + 1 → Q v' H'
theorem ok_thinned (T : Txt K mg) : DefOk P w K mg base "thinned" 1 ["one", "prime"] (spThinned) := by
  refine def_ok T.d_thinned sc_thinned (fun _ _ _ _ _ _ us hl => match us, hl with | [_, _], _ => rfl) (fun vs H Q E h => ?_) (fun f cdv A outer s H vs Q E hr h => ?_)
  · obtain ⟨p, _, f, v, rfl, _⟩ := h; rfl
  · obtain ⟨p, hp, f, v, rfl, ⟨a, rfl, hA⟩, hf, hf6, hmo, hder, q⟩ := h
    have h2 := Pr.two p
    have h97 := Pr.le p
    have hAw : SqT K H a ((lst f).map V.int) := .inl (.inl hA)
    refine ⟨_, (pss_one (ps_ret (pe_callTy call_tuple_of (by rfl) T.n_tuple (by decide +kernel) (pa_cons (pe_lc (own := [("at", 2), ("part", 3)]) (g := (gTup K 2 (gCons (gName 2) (gCons (gName 3) gNil)))) rfl sc_thinned.nd (KX.pi_enumT (by rfl) T.n_enumerate (pa_cons (pv 0) pa_nil)) (blkOk_by (N := ["one", "prime", "at", "part"]) (sc := defScope s_thinned) (by decide +kernel)) (fun _ _ _ _ _ => (pg_tup rfl (pgs_cons (pg_name (i := 2) sc_thinned.nd rfl (Or.inl rfl)) (pgs_cons (pg_name (i := 3) sc_thinned.nd rfl (Or.inl rfl)) pgs_nil)))) (fun _ _ _ _ _ => (pts_one (pt_cmpR op_eq (pe_op op_mod (pv 2) (pv 1)) pe_int (nomark _)))) (fun _ _ _ _ _ => (pv 3))) pa_nil)))), ?_⟩
    have lF : ((lst f).map V.int).length = f.sz := by rw [List.length_map, lst_len]
    refine ⟨_, rfl, a, _, rfl, hAw, ?_⟩
    refine lc_flt (KX.walk_enumT (xs := (lst f).map V.int)) (fun j => decide (V.int ((j : Int) % (p : Int)) = V.int 0)) (fun j => V.int (((f.s j).val : Int))) (by omega) (fun H h => same_t h hAw) (fun j y H3 H4 Ry Rn hj s3 hy hyes hno => ?_) (fun D H3 nD s3 hD => ?_)
    · obtain ⟨Tt, _, z, rfl, nT, rfl, f1, f2⟩ := hy
      cases f1
      obtain ⟨m, hm, rfl⟩ := get_map f2
      rw [lF] at hj
      rw [lst_get hj] at hm
      have em := Option.some.inj hm
      have sT := same_upd (o := .tup [.int (j : Nat), .int m]) nT
      refine ⟨Tt, [.int (j : Nat), .int m], rfl, .inl (.inl upd_same), rfl, .int (j : Nat), [.int m], rfl, .int m, [], rfl, rfl, rfl, ?_⟩
      refine ⟨_, rfl, _, rfl, _, _, rfl, rfl, by show (0 : Int) < (p : Int); omega, rfl, _, rfl, ?_⟩
      rw [em] at hyes
      cases hc : decide (V.int ((j : Int) % (p : Int)) = V.int 0) with
      | true => exact iteT ⟨_, rfl, hyes hc _ sT⟩
      | false => exact iteF (hno hc _ sT)
    · obtain ⟨g, m, hfg, hg, hfm, hgm, hmg⟩ := thin_sz hf hder hmo
      refine ⟨D, _, rfl, .inl ⟨.inl (.inl hD), fun t nt => ?_⟩⟩
      refine q _ _ g (s3.trans (same_upd nt)) ⟨t, rfl, ?_⟩ hfg hmg (by rw [hfm, hgm]; simp)
      rw [upd_same, lF, hfm]
      have e1 : (fun j : Nat => decide (V.int ((j : Int) % (p : Int)) = V.int 0)) = fun j => decide (j % p = 0) := by
        funext j
        by_cases hj : j % p = 0
        · rw [decide_eq_true hj]; exact decide_eq_true (congrArg V.int (by omega))
        · rw [decide_eq_false hj]; exact decide_eq_false fun z => hj (by have := V.int.inj z; omega)
      rw [e1, filter_mult h2 _ m 1 (Nat.le_refl _) (by omega) rfl]
      congr 2
      rw [List.map_map]
      unfold lst
      rw [hgm, List.map_map]
      apply List.map_congr_left
      intro i _
      show V.int ((f.s (i * p)).val : Int) = V.int ((g.s i).val : Int)
      rw [hg]
end
end KW
end

section
set_option Elab.async false
set_option linter.all false
set_option maxRecDepth 100000
set_option maxHeartbeats 4000000
namespace KW
open PySem PySem.Spec PyProof.Rows L2 K10 K10.Po
section
variable {p : Nat} [Pr p]
open Classical in
noncomputable def addL (q : Po p) (n : Nat) : List (Po p × Nat) → List (Po p × Nat)
  | [] => [(q, n)]
  | (k, c) :: r => if k = q then (k, c + n) :: r else (k, c) :: addL q n r
open Classical in
noncomputable def getL (q : Po p) : List (Po p × Nat) → Option Nat
  | [] => none
  | (k, c) :: r => if k = q then some c else getL q r
theorem addL_pos {q k : Po p} {n c : Nat} {r : List (Po p × Nat)} (e : k = q) : addL q n ((k, c) :: r) = (k, c + n) :: r := by unfold addL; rw [if_pos e]
theorem addL_neg {q k : Po p} {n c : Nat} {r : List (Po p × Nat)} (e : ¬ k = q) : addL q n ((k, c) :: r) = (k, c) :: addL q n r := by rw [addL, if_neg e]
theorem getL_pos {q k : Po p} {c : Nat} {r : List (Po p × Nat)} (e : k = q) : getL q ((k, c) :: r) = some c := by unfold getL; rw [if_pos e]
theorem getL_neg {q k : Po p} {c : Nat} {r : List (Po p × Nat)} (e : ¬ k = q) : getL q ((k, c) :: r) = getL q r := by rw [getL, if_neg e]
theorem fpr_addL (q : Po p) (n : Nat) : ∀ L : List (Po p × Nat), fpr (addL q n L) = fpr L * q ^ n
  | [] => by show q ^ n * 1 = 1 * q ^ n; grind
  | (k, c) :: r => by
    by_cases e : k = q
    · rw [addL_pos e]
      show k ^ (c + n) * fpr r = k ^ c * fpr r * q ^ n
      rw [e, Lean.Grind.Semiring.pow_add]; grind
    · rw [addL_neg e]
      show k ^ c * fpr (addL q n r) = k ^ c * fpr r * q ^ n
      rw [fpr_addL q n r]; grind
theorem mem_addL {q : Po p} {n : Nat} {x : Po p × Nat} : ∀ {L : List (Po p × Nat)}, x ∈ addL q n L → x ∈ L ∨ (x.1 = q ∧ n ≤ x.2)
  | [], h => by rw [List.mem_singleton.mp h]; exact .inr ⟨rfl, Nat.le_refl _⟩
  | (k, c) :: r, h => by
    by_cases e : k = q
    · rw [addL_pos e] at h
      rcases List.mem_cons.mp h with h | h
      · rw [h]; exact .inr ⟨e, by show n ≤ c + n; omega⟩
      · exact .inl (List.mem_cons_of_mem _ h)
    · rw [addL_neg e] at h
      rcases List.mem_cons.mp h with h | h
      · rw [h]; exact .inl List.mem_cons_self
      · rcases mem_addL h with h | h
        · exact .inl (List.mem_cons_of_mem _ h)
        · exact .inr h
theorem keys_addL {q k : Po p} {n : Nat} : ∀ {L : List (Po p × Nat)}, k ∈ (addL q n L).map (·.1) → k ∈ L.map (·.1) ∨ k = q
  | L, h => by
    obtain ⟨x, hx, rfl⟩ := List.mem_map.mp h
    rcases mem_addL hx with h | h
    · exact .inl (List.mem_map.mpr ⟨x, h, rfl⟩)
    · exact .inr h.1
theorem nodup_addL {q : Po p} {n : Nat} : ∀ {L : List (Po p × Nat)}, (L.map (·.1)).Nodup → ((addL q n L).map (·.1)).Nodup
  | [], _ => by show [q].Nodup; simp
  | (k, c) :: r, h => by
    have h : (k :: r.map (·.1)).Nodup := h
    obtain ⟨h1, h2⟩ := List.nodup_cons.mp h
    by_cases e : k = q
    · rw [addL_pos e]; exact h
    · rw [addL_neg e]
      refine List.nodup_cons.mpr ⟨fun hm => ?_, nodup_addL h2⟩
      rcases keys_addL hm with h | h
      · exact h1 h
      · exact e h
theorem wh_addL {q : Po p} {n : Nat} {L : List (Po p × Nat)} (h : Wh L) (hq : Irr q) (mq : Mo q) : Wh (addL q n L) := fun x hx => by
  rcases mem_addL hx with h1 | h1
  · exact h x h1
  · rw [h1.1]; exact ⟨hq, mq⟩
/-- a polynomial as a key -/
noncomputable def kOf (q : Po p) : List Key := (lst q).map Sum.inl
theorem kOf_kV (q : Po p) : (kOf q).map kV = (lst q).map V.int := by unfold kOf; rw [List.map_map]; rfl
theorem kOf_inj {q r : Po p} (h : kOf q = kOf r) : q = r := by
  apply lst_inj
  have : ∀ a b : List Int, a.map (Sum.inl : Int → Key) = b.map Sum.inl → a = b := by
    intro a
    induction a with
    | nil => intro b e; cases b with | nil => rfl | cons y b => cases e
    | cons x a ih =>
      intro b e
      cases b with
      | nil => cases e
      | cons y b =>
        rw [List.map_cons, List.map_cons] at e
        injection e with e1 e2
        rw [Sum.inl.inj e1, ih b e2]
  exact this _ _ h
noncomputable def kvL (L : List (Po p × Nat)) : List (List Key × V) := L.map fun x => (kOf x.1, V.int (x.2 : Int))
theorem val_kvL (q : Po p) : ∀ L : List (Po p × Nat), valV (kvL L) (kOf q) = (getL q L).map fun c => V.int (c : Int)
  | [] => rfl
  | (k, c) :: r => by
    by_cases e : k = q
    · rw [getL_pos e]; exact valV_pos (congrArg kOf e)
    · rw [getL_neg e, ← val_kvL q r]
      exact valV_neg fun z => e (kOf_inj z)
theorem put_kvL (q : Po p) (n : Nat) : ∀ L : List (Po p × Nat), (L.map (·.1)).Nodup → putK (kvL L) (kOf q) (V.int ((((getL q L).getD 0 : Nat) : Int) + (n : Int))) = kvL (addL q n L)
  | L, hn => by
    unfold putK
    rw [valV_any, val_kvL]
    have new : ∀ L : List (Po p × Nat), getL q L = none → kvL L ++ [(kOf q, V.int ((n : Nat) : Int))] = kvL (addL q n L) := by
      intro L
      induction L with
      | nil => intro _; rfl
      | cons x r ih =>
        obtain ⟨k, c⟩ := x
        intro h
        by_cases e : k = q
        · rw [getL_pos e] at h; cases h
        · rw [getL_neg e] at h
          rw [addL_neg e]
          show (kOf k, V.int (c : Int)) :: (kvL r ++ _) = (kOf k, V.int (c : Int)) :: kvL (addL q n r)
          rw [ih h]
    have same : ∀ L : List (Po p × Nat), q ∉ L.map (·.1) → ∀ v, (kvL L).map (fun kv => if kv.1 = kOf q then (kv.1, v) else kv) = kvL L := by
      intro L
      induction L with
      | nil => intro _ _; rfl
      | cons x r ih =>
        intro h v
        have h1 : ¬ kOf x.1 = kOf q := fun z => h (by rw [← kOf_inj z]; exact List.mem_cons_self)
        have e := ih (fun z => h (List.mem_cons_of_mem _ z)) v
        show (if kOf x.1 = kOf q then (kOf x.1, v) else (kOf x.1, V.int (x.2 : Int))) :: (kvL r).map (fun kv => if kv.1 = kOf q then (kv.1, v) else kv) = (kOf x.1, V.int (x.2 : Int)) :: kvL r
        rw [if_neg h1, e]
    have old : ∀ (L : List (Po p × Nat)) (c : Nat), (L.map (·.1)).Nodup → getL q L = some c → (kvL L).map (fun kv => if kv.1 = kOf q then (kv.1, V.int ((c : Int) + (n : Int))) else kv) = kvL (addL q n L) := by
      intro L
      induction L with
      | nil => intro c _ h; cases h
      | cons x r ih =>
        obtain ⟨k, d⟩ := x
        intro c hn h
        have hn : (k :: r.map (·.1)).Nodup := hn
        obtain ⟨h1, h2⟩ := List.nodup_cons.mp hn
        by_cases e : k = q
        · rw [getL_pos e] at h
          have e2 := Option.some.inj h
          subst e2
          rw [addL_pos e]
          show (if kOf k = kOf q then (kOf k, V.int ((d : Int) + (n : Int))) else (kOf k, V.int (d : Int))) :: (kvL r).map (fun kv => if kv.1 = kOf q then (kv.1, V.int ((d : Int) + (n : Int))) else kv) = (kOf k, V.int ((d + n : Nat) : Int)) :: kvL r
          rw [if_pos (congrArg kOf e), same r (by rw [← e]; exact h1)]
          rw [Int.natCast_add]
        · rw [getL_neg e] at h
          rw [addL_neg e]
          show (if kOf k = kOf q then (kOf k, V.int ((c : Int) + (n : Int))) else (kOf k, V.int (d : Int))) :: (kvL r).map (fun kv => if kv.1 = kOf q then (kv.1, V.int ((c : Int) + (n : Int))) else kv) = (kOf k, V.int (d : Int)) :: kvL (addL q n r)
          rw [if_neg (fun z => e (kOf_inj z)), ih c h2 h]
    cases h : getL q L with
    | none =>
      rw [if_neg (by simp)]
      have := new L h
      rw [← this]
      congr 3
      simp
    | some c =>
      rw [if_pos (by simp)]
      exact old L c hn h
theorem len_fpr : ∀ {L : List (Po p × Nat)}, Wh L → (∀ x ∈ L, 1 ≤ x.2) → L.length + 1 ≤ (fpr L).sz
  | [], _, _ => by show 0 + 1 ≤ (1 : Po p).sz; rw [Po.sz_one]; omega
  | (k, c) :: r, h, hc => by
    have h1 := len_fpr (L := r) (fun x hx => h x (List.mem_cons_of_mem _ hx)) fun x hx => hc x (List.mem_cons_of_mem _ hx)
    obtain ⟨hk, mk⟩ := h (k, c) List.mem_cons_self
    have hc1 := hc (k, c) List.mem_cons_self
    have h2 : k.sz ≤ (k ^ c).sz := by
      obtain ⟨d, rfl⟩ : ∃ d, c = d + 1 := ⟨c - 1, by have : 1 ≤ c := hc1; omega⟩
      exact pow_sz_le mk.1 d
    have h3 := hk.1
    have hr : fpr r ≠ 0 := fun z => by rw [z, sz_zero] at h1; omega
    have h4 : (k ^ c * fpr r).sz + 1 = (k ^ c).sz + (fpr r).sz := (sz_mul (pow_ne mk.1 c) hr).1
    show r.length + 1 + 1 ≤ (k ^ c * fpr r).sz
    have h3 : 2 ≤ k.sz := h3
    omega
theorem fpr_one (g : Po p) (n : Nat) : fpr [(g, n)] = g ^ n := by show g ^ n * 1 = g ^ n; grind
/-- the parts of a product, each so often -/
theorem fpr_times (n : Nat) : ∀ R : List (Po p), fpr (R.map fun g => (g, n)) = fpr (ones R) ^ n
  | [] => by show (1 : Po p) = (1 : Po p) ^ n; exact (Lean.Grind.Semiring.one_pow n).symm
  | g :: R => by
    show g ^ n * fpr (R.map fun g => (g, n)) = (g ^ 1 * fpr (ones R)) ^ n
    have e1 : g ^ 1 = g := by rw [Lean.Grind.Semiring.pow_succ, Lean.Grind.Semiring.pow_zero]; grind
    rw [fpr_times n R, mul_pow, e1]
end
end KW
end

section
set_option Elab.async false
set_option linter.all false
set_option maxRecDepth 100000
set_option maxHeartbeats 4000000
namespace KW
open PySem PySem.Spec PyProof.Rows L2 K10 K10.Po
section
variable {P : Program} {w : World} {K : PySem.W.Frag} {mg : Str → Option Value} {base : Heap}
/-- a polynomial with a number -/
def Pn {p : Nat} [Pr p] (H : Hp) (v : V) (x : Po p × Nat) : Prop := ∃ t vg, v = .ref t ∧ H t = some (.tup [vg, .int (x.2 : Int)]) ∧ Rs H vg x.1
theorem Pn.tk {p : Nat} [Pr p] {H H' : Hp} {v : V} {x : Po p × Nat} (h : Pn H v x) (e : Tk H H') : Pn H' v x := let ⟨t, vg, a, b, c⟩ := h; ⟨t, vg, a, (e t).1 _ b, c.tk e⟩
noncomputable def dPn {p : Nat} [Pr p] (x : Po p × Nat) : PyData := .tuple [dT (lst x.1), .int (x.2 : Int)]
theorem Pn.dp {p : Nat} [Pr p] {H : Hp} {v : V} {x : Po p × Nat} (h : Pn H v x) : Dp K H v (dPn x) := by
  obtain ⟨t, vg, rfl, ht, hg⟩ := h
  exact .tup (.inl (.inl ht)) (.cons (TI.dp hg.w) (.cons (.int _) .nil))
theorem plain_dPn {p : Nat} [Pr p] (x : Po p × Nat) : plain (dPn x) = true := by
  unfold dPn plain plainAll plainAll plainAll
  rw [plain_dT]; rfl
theorem depth_dPn {p : Nat} [Pr p] (x : Po p × Nat) : (dPn x).depth ≤ 2 := by
  unfold dPn
  simp only [PyData.depth, PyData.depthAll, depth_dT]
  decide
noncomputable def dPns {p : Nat} [Pr p] (R : List (Po p × Nat)) : List PyData := R.map dPn
theorem plain_dPns {p : Nat} [Pr p] (R : List (Po p × Nat)) : plainAll (dPns R) = true := plainAll_map fun g _ => plain_dPn _
theorem depth_dPns {p : Nat} [Pr p] (R : List (Po p × Nat)) : PyData.depthAll (dPns R) ≤ 2 := depthAll_map fun g _ => depth_dPn _
abbrev Pns {p : Nat} [Pr p] (H : Hp) (vs : List V) (R : List (Po p × Nat)) : Prop := Rl (fun H v x => Pn H v x) H vs R
theorem Pns.tk {p : Nat} [Pr p] {H H' : Hp} {vs : List V} {R : List (Po p × Nat)} (h : Pns H vs R) (e : Tk H H') : Pns H' vs R := Rl.imp h fun v x hx => Pn.tk hx e
noncomputable def mu2 {p : Nat} [Pr p] (R : List (Po p × Nat)) : Nat := (R.map fun x => max 1 (2 * (x.1.sz - 1) - 1)).sum
theorem mu2_append {p : Nat} [Pr p] (A B : List (Po p × Nat)) : mu2 (A ++ B) = mu2 A + mu2 B := by unfold mu2; rw [List.map_append, sum_append']
theorem mu2_one {p : Nat} [Pr p] (x : Po p × Nat) : mu2 [x] = max 1 (2 * (x.1.sz - 1) - 1) := by show max 1 (2 * (x.1.sz - 1) - 1) + 0 = _; omega
theorem len_mu2 {p : Nat} [Pr p] : ∀ {R : List (Po p × Nat)}, R.length ≤ mu2 R
  | [] => by simp
  | g :: R => by
    have h2 := len_mu2 (R := R)
    show R.length + 1 ≤ max 1 (2 * (g.1.sz - 1) - 1) + mu2 R
    omega
def spAllParts : Sp := fun vs H Q _ => ∃ (p : Nat) (_ : Pr p) (f : Po p) (v : V), vs = [v, .int p] ∧ Rs H v f ∧ f.sz ≤ 60 ∧ Mo f ∧
  ∀ H' d (L : List (Po p × Nat)), Same H H' → H d = none → H' d = some (.dT (kvL L)) → Wh L → (∀ x ∈ L, 1 ≤ x.2) → (L.map (·.1)).Nodup → fpr L = f → Q (.ref d) H'
theorem ok_all_parts (T : Txt K mg) : DefOk P w K mg base "all_parts" 10 ["one", "prime"] (spAllParts) := by
  have d_sloped := ok_sloped (P := P) (w := w) (base := base) T
  have d_thinned := ok_thinned (P := P) (w := w) (base := base) T
  have d_shared := ok_shared (P := P) (w := w) (base := base) T
  have d_pieces_of := ok_pieces_of (P := P) (w := w) (base := base) T
  have d_divided := ok_divided (P := P) (w := w) (base := base) T
  refine def_ok T.d_all_parts sc_all_parts (fun _ _ _ _ _ _ us hl => match us, hl with | [_, _], _ => rfl) (fun vs H Q E h => ?_) (fun f cdv A outer s H vs Q E hr h => ?_)
  · obtain ⟨p, _, f, v, rfl, _⟩ := h; rfl
  · obtain ⟨p, hp, f, v, rfl, hA, hf6, hmo, q⟩ := h
    have hu := hu_of hr
    have h2 := Pr.two p
    have h97 := Pr.le p
    refine ⟨_, (pss_cons (ps_set (i := 2) sc_all_parts.nd rfl (Or.inl rfl) pe_dnewT)
      (pss_cons (ps_set (i := 3) sc_all_parts.nd rfl (Or.inl rfl) (pe_lst (pa_cons (pe_tup (pa_cons (pv 0) (pa_cons pe_int pa_nil))) pa_nil)))
      (pss_cons (ps_while PassesOwn.never (pt_cmpR (op_neD hr.units) (pv 3) (pe_lst pa_nil) (nomark _))
        (pss_cons (ps_asg (pe_bm0 PySem.F.plainAttrs_list PySem.F.slot_list_pop PySem.F.type_list_pop mt_pop (pv 3)) (pg_tup rfl (pgs_cons (pg_name (i := 4) sc_all_parts.nd rfl (Or.inl rfl)) (pgs_cons (pg_name (i := 5) sc_all_parts.nd rfl (Or.inl rfl)) pgs_nil))))
        (pss_cons (ps_set (i := 6) sc_all_parts.nd rfl (Or.inl rfl) (pcall d_sloped hr rfl (pa_cons (pv 4) (pa_cons (pv 1) pa_nil))))
        (pss_one (ps_if (PW.pt (pw_and (pt_cmpR op_gt (pe_callB call_len_seq (by rfl) T.n_len (by decide +kernel) (pa_cons (pv 4) pa_nil)) pe_int (nomark _)) (pw_and1 (pt_cmpR (op_eqD hr.units) (pv 6) (pe_tup pa_nil) (nomark _)))))
          (pss_one (ps_expr (pe_bm PySem.F.plainAttrs_list PySem.F.slot_list_append PySem.F.type_list_append mt_append (pv 3) (pa_cons (pe_tup (pa_cons (pcall d_thinned hr rfl (pa_cons (pv 4) (pa_cons (pv 1) pa_nil))) (pa_cons (pe_op op_mul (pv 5) (pv 1)) pa_nil))) pa_nil))))
          (pss_one (ps_if (pt_cmpR op_gt (pe_callB call_len_seq (by rfl) T.n_len (by decide +kernel) (pa_cons (pv 4) pa_nil)) pe_int (nomark _))
            (pss_cons (ps_set (i := 7) sc_all_parts.nd rfl (Or.inl rfl) (pe_ix (r := rIxT K) ix_tup (pcall d_shared hr rfl (pa_cons (pv 4) (pa_cons (pv 6) (pa_cons (pv 1) pa_nil)))) pe_int (fun _ _ => rfl)))
            (pss_one (ps_if (pt_cmpR (op_eqD hr.units) (pv 7) (pe_tup (pa_cons pe_int pa_nil)) (nomark _))
              (pss_one (ps_for PassesOwn.never rfl (pi_list (pcall d_pieces_of hr rfl (pa_cons (pv 4) (pa_cons (pv 1) pa_nil)))) (pg_name (i := 8) sc_all_parts.nd rfl (Or.inl rfl))
                (pss_one (ps_dput hu (pv 2) (pv 8) (pe_op op_add (pe_dget2 hu (pv 2) (pv 8) pe_int ⟨by rfl, by rfl, by rfl, by rfl⟩) (pv 5)) rfl))))
              (pss_cons (ps_expr (pe_bm PySem.F.plainAttrs_list PySem.F.slot_list_append PySem.F.type_list_append mt_append (pv 3) (pa_cons (pe_tup (pa_cons (pv 7) (pa_cons (pv 5) pa_nil))) pa_nil)))
              (pss_one (ps_expr (pe_bm PySem.F.plainAttrs_list PySem.F.slot_list_append PySem.F.type_list_append mt_append (pv 3) (pa_cons (pe_tup (pa_cons (pe_ix (r := rIxT K) ix_tup (pcall d_divided hr rfl (pa_cons (pv 4) (pa_cons (pv 7) (pa_cons (pv 1) pa_nil)))) pe_int (fun _ _ => rfl)) (pa_cons (pv 5) pa_nil))) pa_nil))))))))
            pss_nil)))))))
      (pss_one (ps_ret (pv 2)))))), ?_⟩
    have hfz := sz_pos hmo.1
    intro d nd
    have s1 := same_upd (o := .dT []) nd
    refine ⟨_, rfl, line_of (by show 2 ≤ 100000; decide), fun t nt => ?_⟩
    have s2 := same_upd (o := .tup [v, .int 1]) nt
    refine ⟨line_of (by show 1 ≤ 100000; decide), fun l nl => ?_⟩
    have s3 := same_upd (o := .lst [.ref t]) nl
    have s123 := (s1.trans s2).trans s3
    have nlH : H l = none := (s1.trans s2).free nl
    have ed : (upd (upd (upd H d (.dT [])) t (.tup [v, .int 1])) l (.lst [.ref t])) d = some (.dT []) := s3 _ _ (s2 _ _ upd_same)
    have et : (upd (upd (upd H d (.dT [])) t (.tup [v, .int 1])) l (.lst [.ref t])) t = some (.tup [v, .int 1]) := s3 _ _ upd_same
    have el : (upd (upd (upd H d (.dT [])) t (.tup [v, .int 1])) l (.lst [.ref t])) l = some (.lst [.ref t]) := upd_same
    generalize hH2 : upd (upd (upd H d (.dT [])) t (.tup [v, .int 1])) l (.lst [.ref t]) = H2 at s123 ed et el
    have hne : d ≠ l := fun e => by rw [e, el] at ed; cases ed
    refine ⟨fun m σ H' => ∃ (ls : List V) (L F : List (Po p × Nat)) (x4 x5 x6 x7 x8 : Option V), σ = [some v, some (.int (p : Int)), some (.ref d), some (.ref l), x4, x5, x6, x7, x8] ∧ Same H H' ∧ H' l = some (.lst ls) ∧ H' d = some (.dT (kvL F)) ∧ Pns H' ls L ∧
        (∀ x ∈ L, 1 ≤ x.1.sz ∧ x.1.sz ≤ 60 ∧ Mo x.1 ∧ 1 ≤ x.2) ∧ Wh F ∧ (∀ x ∈ F, 1 ≤ x.2) ∧ (F.map (·.1)).Nodup ∧ fpr F * fpr L = f ∧ mu2 L ≤ m ∧ m ≤ 200,
      ⟨_, [.ref t], [(f, 1)], [], none, none, none, none, none, rfl, s123, el, ed, Rl.one ⟨t, v, rfl, et, hA.same s123⟩, fun x hx => ?_, fun x hx => (nomatch hx), fun x hx => (nomatch hx), List.nodup_nil, ?_, Nat.le_refl _, ?_⟩, fun m σ H' hW => ?_⟩
    · rw [List.mem_singleton.mp hx]; exact ⟨hfz, hf6, hmo, Nat.le_refl _⟩
    · show (1 : Po p) * fpr [(f, 1)] = f
      rw [fpr_one]
      rw [show f ^ 1 = f by rw [Lean.Grind.Semiring.pow_succ, Lean.Grind.Semiring.pow_zero]; grind]; grind
    · rw [mu2_one]; show max 1 (2 * (f.sz - 1) - 1) ≤ 200; omega
    · obtain ⟨ls, L, F, x4, x5, x6, x7, x8, rfl, s', hl, hd, hL, hLall, hFw, hFc, hFn, hprod, hm, hm2⟩ := hW
      have hLlen := len_mu2 (R := L)
      refine ⟨_, rfl, line_of (by decide), fun c nc => ?_⟩
      have sc := same_upd (o := .lst []) nc
      refine ⟨_, _, .lst (.inl (.inl (sc _ _ hl))) (dpAll_of (d := dPn) (fun v x h => Pn.dp (K := K) h) (Pns.tk hL (Same.tk sc))), .lst (.inl (.inl upd_same)) .nil, shaped_list (plain_dPns L) (Nat.le_trans (depth_dPns L) (by decide)), shaped_list rfl (by decide), _, rfl, ?_⟩
      rw [show PyData.eqv (.list (L.map dPn)) (.list []) = decide (dPns L = []) from eqv_nil (plain_dPns L)]
      have hlc := sc _ _ hl
      have hdc := sc _ _ hd
      have hLc := Pns.tk hL (Same.tk sc)
      have s3 := s'.trans sc
      generalize hH3 : upd H' c (.lst []) = H3 at sc hlc hdc hLc s3
      by_cases hL0 : L = []
      · rw [decide_eq_true (show dPns L = [] by rw [hL0]; rfl)]
        refine iteF ⟨_, rfl, q H3 d F s3 nd hdc hFw hFc hFn ?_⟩
        rw [hL0] at hprod
        have e1 : fpr ([] : List (Po p × Nat)) = 1 := rfl
        rw [e1] at hprod; rw [← hprod]; grind
      · rw [decide_eq_false (show ¬ dPns L = [] from fun z => hL0 (List.map_eq_nil_iff.mp z))]
        refine iteT ?_
        obtain ⟨k, hk⟩ : ∃ k, L.length = k + 1 := ⟨L.length - 1, by have := List.length_pos_iff.mpr hL0; omega⟩
        obtain ⟨ls', vt, L', ⟨g, n⟩, els, eL, hL', hg⟩ := Rl.pop hLc hk
        rw [els] at hlc
        rw [eL] at hLall hm hprod
        obtain ⟨hg1, hg6, hgm, hn1⟩ := hLall (g, n) (List.mem_append_right _ (List.mem_singleton.mpr rfl))
        have hg1 : 1 ≤ g.sz := hg1
        have hg6 : g.sz ≤ 60 := hg6
        have hgm : Mo g := hgm
        have hn1 : 1 ≤ n := hn1
        have hL'all : ∀ x ∈ L', 1 ≤ x.1.sz ∧ x.1.sz ≤ 60 ∧ Mo x.1 ∧ 1 ≤ x.2 := fun x hx => hLall x (List.mem_append_left _ hx)
        rw [mu2_append, mu2_one] at hm
        have hm : mu2 L' + max 1 (2 * (g.sz - 1) - 1) ≤ m := hm
        rw [fpr_append, fpr_one] at hprod
        refine ⟨_, fun σ' H' z => ⟨m - 1, by omega, z⟩, ?_⟩
        refine ⟨_, rfl, .inl ⟨rfl, _, .inl (.inl hlc)⟩, l, _, vt, rfl, rfl, hlc, by simp, ?_⟩
        rw [List.dropLast_concat]
        have tk4 := tk_lst (o := .lst ls') hlc
        have s4 : Same H (upd H3 l (.lst ls')) := same_mut s3 nlH
        have hl4 : (upd H3 l (.lst ls')) l = some (.lst ls') := upd_same
        have hd4 : (upd H3 l (.lst ls')) d = some (.dT (kvL F)) := by rw [upd_ne hne]; exact hdc
        have hL4 := Pns.tk hL' tk4
        have hg4 := Pn.tk hg tk4
        generalize hH4 : upd H3 l (.lst ls') = H4 at tk4 s4 hl4 hd4 hL4 hg4
        obtain ⟨ta, vg, rfl, hta, hvg⟩ := hg4
        refine ⟨ta, _, rfl, .inl (.inl hta), rfl, vg, [.int (n : Int)], rfl, .int (n : Int), [], rfl, rfl, ?_⟩
        -- slope
        refine ⟨_, rfl, _, rfl, p, hp, g, vg, rfl, Rs.w hvg, by omega, fun H5 v5 s5 r5 => ?_⟩
        have hl5 := s5 _ _ hl4
        have hd5 := s5 _ _ hd4
        have hL5 := Pns.tk hL4 (Same.tk s5)
        have hg5 := Rs.same hvg s5
        have s45 := s4.trans s5
        have hlL : ls'.length = L'.length := hL5.1
        have hlL2 := len_mu2 (R := L')
        obtain ⟨ga, rfl, hga⟩ := hg5
        have hlen : (((lst g).map V.int).length : Int) = (g.sz : Int) := by rw [List.length_map, lst_len]
        refine ⟨_, rfl, ga, _, rfl, .inr (.inl (.inl hga)), _, _, rfl, rfl, _, rfl, ?_⟩
        by_cases hgz : 1 < g.sz
        · rw [decide_eq_true (show (1 : Int) < (((lst g).map V.int).length : Int) by omega)]
          refine iteT ?_
          refine ⟨_, rfl, line_of (by decide), fun e ne => ?_⟩
          have se := same_upd (o := .tup []) ne
          refine ⟨_, _, (Rp.same r5 se).dp, dp_T (ns := []) (.inl (.inl upd_same)), shaped_dT _, shaped_dT _, _, rfl, ?_⟩
          rw [eqv_dT]
          have s56 := s5.trans se
          have hl6 := se _ _ hl5
          have hd6 := se _ _ hd5
          have hL6 := Pns.tk hL5 (Same.tk se)
          have hga6 := se _ _ hga
          have r6 := Rp.same r5 se
          have s6 := s45.trans se
          generalize hH6 : upd H5 e (.tup []) = H6 at se s56 hl6 hd6 hL6 hga6 r6 s6
          by_cases hder : der g = 0
          · rw [decide_eq_true (lst_nil_iff.mpr hder)]
            refine iteT ?_
            -- a power
            refine ⟨_, rfl, .inl ⟨rfl, _, .inl (.inl hl6)⟩, _, rfl, _, rfl, p, hp, g, .ref ga, rfl, ⟨ga, rfl, hga6⟩, by omega, hg6, hgm, hder, fun H7 v7 h s7 r7 eh hmh hsz => ?_⟩
            refine ⟨_, rfl, _, rfl, _, _, rfl, rfl, .inr ⟨by omega, by omega⟩, line_of (by show 2 ≤ 100000; decide), fun t8 n8 => ?_⟩
            have s8 := same_upd (o := .tup [v7, .int ((n : Int) * (p : Int))]) n8
            have et8 : (upd H7 t8 (.tup [v7, .int ((n : Int) * (p : Int))])) t8 = some (.tup [v7, .int ((n * p : Nat) : Int)]) := by rw [upd_same, Int.natCast_mul]
            have r8 := Rs.same r7 s8
            have s78 := s7.trans s8
            generalize hH8 : upd H7 t8 (.tup [v7, .int ((n : Int) * (p : Int))]) = H8 at s8 et8 r8 s78
            refine ⟨l, ls', .ref t8, rfl, rfl, s78 _ _ hl6, line_lt (by omega), ?_⟩
            have tk9 := tk_lst (o := .lst (ls' ++ [V.ref t8])) (s78 _ _ hl6)
            have hdeg : (h.sz - 1) * 2 ≤ (h.sz - 1) * p := Nat.mul_le_mul_left _ h2
            have hhz : 2 ≤ h.sz := by
              apply Classical.byContradiction; intro z
              have : h.sz - 1 = 0 := by omega
              rw [this, Nat.zero_mul] at hsz; omega
            refine ⟨ls' ++ [.ref t8], L' ++ [(h, n * p)], F, _, _, _, _, _, rfl, same_mut (s6.trans s78) nlH, upd_same, by rw [upd_ne hne]; exact s78 _ _ hd6, (Pns.tk hL6 (Tk.trans (Same.tk s78) tk9)).snoc ⟨t8, v7, rfl, (tk9 t8).1 _ et8, r8.tk tk9⟩, fun x hx => ?_, hFw, hFc, hFn, ?_, ?_, by omega⟩
            · rcases List.mem_append.mp hx with hx | hx
              · exact hL'all x hx
              · rw [List.mem_singleton.mp hx]
                refine ⟨by show 1 ≤ h.sz; omega, by show h.sz ≤ 60; omega, hmh, ?_⟩
                exact Nat.mul_pos hn1 (by omega)
            · rw [fpr_append, fpr_one, ← hprod, eh, pow_pow, Nat.mul_comm n p]
            · rw [mu2_append, mu2_one]
              show mu2 L' + max 1 (2 * (h.sz - 1) - 1) ≤ m - 1
              omega
          · rw [decide_eq_false (fun z => hder (lst_nil_iff.mp z))]
            refine iteF ?_
            refine ⟨_, rfl, ga, _, rfl, .inr (.inl (.inl hga6)), _, _, rfl, rfl, _, rfl, ?_⟩
            rw [decide_eq_true (show (1 : Int) < (((lst g).map V.int).length : Int) by omega)]
            refine iteT ?_
            have hdz := der_sz g
            refine ⟨_, rfl, _, rfl, _, rfl, p, hp, g, der g, .ref ga, v5, rfl, ⟨ga, rfl, .inl (.inl hga6)⟩, r6, by omega, by omega, fun H7 t7 v0 v1 v2 dd x y s7 ht7 rp7 rs7 e7 dv1 dv2 hmd => ?_⟩
            have hmd := hmd hgm.1
            obtain ⟨da, rfl, hda⟩ := rs7 hgm.1
            refine ⟨t7, _, 0, _, rfl, rfl, ht7, atI_nat (j := 0) rfl, ?_⟩
            -- twice == (1,)
            refine ⟨_, rfl, line_of (by show 1 ≤ 100000; decide), fun e' ne' => ?_⟩
            have se' := same_upd (o := .tup [.int 1]) ne'
            have rp8 := Rp.same rp7 se'
            refine ⟨_, _, rp8.dp, dp_T (ns := [1]) (.inl (.inl upd_same)), shaped_dT _, shaped_dT _, _, rfl, ?_⟩
            rw [eqv_dT]
            have s78 := s7.trans se'
            have hl8 := s78 _ _ hl6
            have hd8 := s78 _ _ hd6
            have hL8 := Pns.tk hL6 (Same.tk s78)
            have hga8 := s78 _ _ hga6
            have hda8 := se' _ _ hda
            have s8 := s6.trans s78
            generalize hH8 : upd H7 e' (.tup [.int 1]) = H8 at se' s78 hl8 hd8 hL8 hga8 hda8 s8 rp8
            have hfn : f ≠ 0 := hmo.1
            by_cases hd1 : dd = 1
            · rw [decide_eq_true (show lst dd = [1] by rw [hd1, lst_one])]
              refine iteT ?_
              have hsq : Sqf g := sqf_of (u := x) (v := y) (by rw [← hd1]; exact e7)
              refine ⟨_, rfl, _, rfl, p, hp, g, .ref ga, rfl, ⟨ga, rfl, hga8⟩, by omega, hg6, hgm, hsq, fun H9 D9 ws R s9 nD9 hD9 hR9 hRall hRf hRlen => ?_⟩
              refine ⟨D9, rfl, ⟨_, .inl (.inl hD9)⟩, ?_⟩
              have hl9 := s9 _ _ hl8
              have hd9 := s9 _ _ hd8
              have hL9 := Pns.tk hL8 (Same.tk s9)
              have hDd : D9 ≠ d := fun z => by rw [z, hd8] at nD9; cases nD9
              have hdl : l ≠ d := Ne.symm hne
              have s89 := s8.trans s9
              refine for_it (walk_list (xs := ws)) (fun j σ H' => ∃ (F' : List (Po p × Nat)) (x8 : Option V), σ = [some v, some (.int (p : Int)), some (.ref d), some (.ref l), some (V.ref ga), some (.int (n : Int)), some v5, some (V.ref da), x8] ∧ Same H H' ∧ H' l = some (.lst ls') ∧ H' D9 = some (.lst ws) ∧ H' d = some (.dT (kvL F')) ∧ Pns H' ls' L' ∧ Rsl H' ws R ∧
                  Wh F' ∧ (∀ x ∈ F', 1 ≤ x.2) ∧ (F'.map (·.1)).Nodup ∧ fpr F' = fpr F * fpr ((R.take j).map fun g => (g, n)))
                ⟨F, _, rfl, s89, hl9, hD9, hd9, hL9, hR9, hFw, hFc, hFn, by rw [List.take_zero]; show fpr F = fpr F * 1; grind⟩ (fun j σ H' _ h => by obtain ⟨_, _, _, _, _, h', _⟩ := h; exact .inl (.inl h')) (fun j x σ H10 H11 hj hP hy => ?_) (fun σ H' hP => ?_)
              · obtain ⟨F', x8, rfl, s10, hl10, hD10, hd10, hL10, hR10, hF'w, hF'c, hF'n, hF'p⟩ := hP
                obtain ⟨rfl, hx⟩ := hy
                obtain ⟨qq, hq, hqr⟩ := hR10.at hx
                obtain ⟨qa, rfl, hqa⟩ := hqr
                have hqm := List.mem_of_getElem? hq
                have hkey : H11 qa = some (.tup ((kOf qq).map kV)) := by rw [kOf_kV]; exact hqa
                have hdvf : Dv (fpr F') f := by
                  have e1 : fpr (R.map fun g => (g, n)) = fpr ((R.take j).map fun g => (g, n)) * fpr ((R.drop j).map fun g => (g, n)) := by
                    rw [← fpr_append, ← List.map_append, List.take_append_drop]
                  have e2 := fpr_times n R
                  rw [hRf] at e2
                  refine ⟨fpr ((R.drop j).map fun g => (g, n)) * fpr L', ?_⟩
                  rw [hF'p, ← hprod, ← e2, e1]; grind
                have hlenF := len_fpr hF'w hF'c
                have hszF := hdvf.sz_le hfn
                refine ⟨_, rfl, d, rfl, .inr ⟨_, .inl hd10⟩, _, rfl, _, .inr ⟨kvL F', kOf qq, qa, .inl hd10, rfl, hkey, rfl⟩, _, rfl, ((getL qq F').getD 0 : Nat), (n : Int), ?_, rfl, ?_⟩
                · rw [val_kvL]; cases getL qq F' <;> rfl
                refine ⟨_, rfl, _, rfl, d, _, rfl, DPut.t (k := kOf qq) hd10 hkey (line_lt (by unfold kvL; rw [List.length_map]; omega)), ?_⟩
                rw [put_kvL qq n F' hF'n]
                have tk12 := tk_dT (o := .dT (kvL (addL qq n F'))) hd10
                refine ⟨addL qq n F', _, rfl, same_mut s10 nd, by rw [upd_ne hdl]; exact hl10, by rw [upd_ne hDd]; exact hD10, upd_same, Pns.tk hL10 tk12, Rsl.tk hR10 tk12, wh_addL hF'w (hRall qq hqm).1 (hRall qq hqm).2, fun x hx => ?_, nodup_addL hF'n, ?_⟩
                · rcases mem_addL hx with h | h
                  · exact hF'c x h
                  · exact Nat.le_trans hn1 h.2
                · rw [fpr_addL, hF'p, List.take_add_one, hq, List.map_append, fpr_append]
                  show fpr F * fpr ((R.take j).map fun g => (g, n)) * qq ^ n = fpr F * (fpr ((R.take j).map fun g => (g, n)) * fpr [(qq, n)])
                  rw [fpr_one]; grind
              · obtain ⟨F', x8, rfl, s10, hl10, hD10, hd10, hL10, hR10, hF'w, hF'c, hF'n, hF'p⟩ := hP
                rw [hR9.1, List.take_of_length_le (Nat.le_refl _), fpr_times, hRf] at hF'p
                refine ⟨ls', L', F', _, _, _, _, _, rfl, s10, hl10, hd10, hL10, hL'all, hF'w, hF'c, hF'n, ?_, by omega, by omega⟩
                rw [hF'p, ← hprod]; grind
            · rw [decide_eq_false (show ¬ lst dd = [1] from fun z => hd1 (lst_inj (z.trans lst_one.symm)))]
              refine iteF ?_
              have hdd2 : 2 ≤ dd.sz := by
                apply Classical.byContradiction; intro z
                exact hd1 (hmd.eq_one (by omega))
              have hddle := dv2.sz_le hder
              refine ⟨_, rfl, .inl ⟨rfl, _, .inl (.inl hl8)⟩, _, rfl, _, rfl, line_of (by show 2 ≤ 100000; decide), fun t9 nt9 => ?_⟩
              have s9 := same_upd (o := .tup [.ref da, .int (n : Int)]) nt9
              have et9 : (upd H8 t9 (.tup [.ref da, .int (n : Int)])) t9 = some (.tup [.ref da, .int (n : Int)]) := upd_same
              have hl9 := s9 _ _ hl8
              have hd9 := s9 _ _ hd8
              have hL9 := Pns.tk hL8 (Same.tk s9)
              have hga9 := s9 _ _ hga8
              have hda9 := s9 _ _ hda8
              have s89 := s8.trans s9
              generalize hH9 : upd H8 t9 (.tup [.ref da, .int (n : Int)]) = H9 at s9 et9 hl9 hd9 hL9 hga9 hda9 s89
              refine ⟨l, ls', .ref t9, rfl, rfl, hl9, line_lt (by omega), ?_⟩
              have tkA := tk_lst (o := .lst (ls' ++ [V.ref t9])) hl9
              have sA : Same H (upd H9 l (.lst (ls' ++ [V.ref t9]))) := same_mut s89 nlH
              have hlA : (upd H9 l (.lst (ls' ++ [V.ref t9]))) l = some (.lst (ls' ++ [V.ref t9])) := upd_same
              have hdA : (upd H9 l (.lst (ls' ++ [V.ref t9]))) d = some (.dT (kvL F)) := by rw [upd_ne hne]; exact hd9
              have hLA : Pns (upd H9 l (.lst (ls' ++ [V.ref t9]))) (ls' ++ [V.ref t9]) (L' ++ [(dd, n)]) := (Pns.tk hL9 tkA).snoc ⟨t9, .ref da, rfl, (tkA t9).1 _ et9, da, rfl, (tkA da).1 _ hda9⟩
              have hgaA := (tkA ga).1 _ hga9
              have hdaA := (tkA da).1 _ hda9
              generalize hHA : upd H9 l (.lst (ls' ++ [V.ref t9])) = HA at tkA sA hlA hdA hLA hgaA hdaA
              refine ⟨_, rfl, .inl ⟨rfl, _, .inl (.inl hlA)⟩, _, rfl, _, rfl, _, rfl, p, hp, g, dd, .ref ga, .ref da, rfl, ⟨ga, rfl, .inl (.inl hgaA)⟩, ⟨da, rfl, .inl (.inl hdaA)⟩, hmd.1, by omega, by omega, fun HB tB vq vr qq rr sB htB rq rr' eB lB => ?_⟩
              refine ⟨tB, _, 0, _, rfl, rfl, .inl (.inl htB), atI_nat (j := 0) rfl, _, rfl, line_of (by show 2 ≤ 100000; decide), fun tC nC => ?_⟩
              have sC := same_upd (o := .tup [vq, .int (n : Int)]) nC
              have etC : (upd HB tC (.tup [vq, .int (n : Int)])) tC = some (.tup [vq, .int (n : Int)]) := upd_same
              have sBC := sB.trans sC
              have rqC := Rs.same rq sC
              generalize hHC : upd HB tC (.tup [vq, .int (n : Int)]) = HC at sC etC sBC rqC
              have hlC := sBC _ _ hlA
              refine ⟨l, ls' ++ [.ref t9], .ref tC, rfl, rfl, hlC, line_lt (by rw [List.length_append]; show ls'.length + 1 < 100000; omega), ?_⟩
              have tkD := tk_lst (o := .lst ((ls' ++ [V.ref t9]) ++ [V.ref tC])) hlC
              have hr0 : rr = 0 := by
                obtain ⟨c, hc⟩ := dv1
                have : Dv dd rr := ⟨c - qq, by grind⟩
                exact this.of_sz_lt lB
              have eg : g = dd * qq := by rw [eB, hr0]; grind
              have hqn : qq ≠ 0 := fun z => hgm.1 (by rw [eg, z]; grind)
              have hsz := (sz_mul hmd.1 hqn).1
              rw [← eg] at hsz
              have hmq : Mo qq := by rw [eg] at hgm; exact Mo.of_mul hmd hgm
              refine ⟨(ls' ++ [.ref t9]) ++ [.ref tC], (L' ++ [(dd, n)]) ++ [(qq, n)], F, _, _, _, _, _, rfl, same_mut (sA.trans sBC) nlH, upd_same, by rw [upd_ne hne]; exact sBC _ _ hdA, (Pns.tk hLA (Tk.trans (Same.tk sBC) tkD)).snoc ⟨tC, vq, rfl, (tkD tC).1 _ etC, rqC.tk tkD⟩, fun x hx => ?_, hFw, hFc, hFn, ?_, ?_, by omega⟩
              · rcases List.mem_append.mp hx with hx | hx
                · rcases List.mem_append.mp hx with hx | hx
                  · exact hL'all x hx
                  · rw [List.mem_singleton.mp hx]; exact ⟨by show 1 ≤ dd.sz; omega, by show dd.sz ≤ 60; omega, hmd, hn1⟩
                · rw [List.mem_singleton.mp hx]; exact ⟨by show 1 ≤ qq.sz; omega, by show qq.sz ≤ 60; omega, hmq, hn1⟩
              · rw [fpr_append, fpr_append, fpr_one, fpr_one, ← hprod, eg, mul_pow]; grind
              · rw [mu2_append, mu2_append, mu2_one, mu2_one]
                show mu2 L' + max 1 (2 * (dd.sz - 1) - 1) + max 1 (2 * (qq.sz - 1) - 1) ≤ m - 1
                omega
        · rw [decide_eq_false (show ¬ ((1 : Int) < (((lst g).map V.int).length : Int)) by omega)]
          refine iteF ?_
          refine iteF ?_
          refine ⟨_, rfl, ga, _, rfl, .inr (.inl (.inl hga)), _, _, rfl, rfl, _, rfl, ?_⟩
          rw [decide_eq_false (show ¬ ((1 : Int) < (((lst g).map V.int).length : Int)) by omega)]
          refine iteF ?_
          have eg : g = 1 := hgm.eq_one (by omega)
          refine ⟨ls', L', F, _, _, _, _, _, rfl, s45, hl5, hd5, hL5, hL'all, hFw, hFc, hFn, ?_, by omega, by omega⟩
          rw [eg, Lean.Grind.Semiring.one_pow] at hprod
          rw [← hprod]; grind
end
end KW
end

section
set_option Elab.async false
set_option linter.all false
set_option maxRecDepth 100000
set_option maxHeartbeats 4000000
namespace KW
open PySem PySem.Spec PyProof.Rows L2 K10 K10.Po LamX
/-! ### a def whose code object is known -/
def DefAtC (K : PySem.W.Frag) (mg : Str → Option Value) (x : Str) (st : Stmt) (c : Addr) : Prop :=
  ∃ (f : Addr) (oc : Value) (od an : Option Addr) (osl : Array (Option Value)) (kV doc pm ct : Value), mg x = some (.ref f) ∧
    K.lookup f = some ⟨oc, od, .func (PySem.W.fnOf x x (defArgs st) (defBody st) (defScope st) .none kV doc pm an (.ref c) ct), osl⟩ ∧ PySem.W.codeIn K (.ref c) x = true ∧ PySem.W.keepIn K (.ref f) = true
theorem defC_mk {K : PySem.W.Frag} {mg : Str → Option Value} {h : Heap} {x : Str} {st : Stmt} {f c : Addr} {oc : Value} {od an : Option Addr} {osl : Array (Option Value)} {kV doc pm ct : Value}
    (X : K.In h) (G : h.Ns mainGlobals mg)
    (a : PySem.W.nsIn K mainGlobals x = some (some (.ref f))) (l : K.lookup f = some ⟨oc, od, .func (PySem.W.fnOf x x (defArgs st) (defBody st) (defScope st) .none kV doc pm an (.ref c) ct), osl⟩)
    (cc : PySem.W.codeIn K (.ref c) x = true) (k : PySem.W.keepIn K (.ref f) = true) : DefAtC K mg x st c :=
  ⟨f, oc, od, an, osl, kV, doc, pm, ct, PySem.W.mg_of X G a, l, cc, k⟩
section
variable {P : Program} {w : World} {K : PySem.W.Frag} {mg : Str → Option Value} {base : Heap}
theorem def_okC {x : Str} {st : Stmt} {N ps : List Str} {k : Nat} {sp : Sp} {c : Addr} (D : DefAtC K mg x st c) (S : FnScope N ps (defScope st))
    (hb : ∀ (kV doc pm : Value) (an : Option Addr) (cdv ct : Value) (us : List Value), us.length = ps.length → bindArgs (PySem.W.fnOf x x (defArgs st) (defBody st) (defScope st) .none kV doc pm an cdv ct) ⟨us, []⟩ = pure (ps.zip us))
    (len : ∀ vs H Q E, sp vs H Q E → vs.length = ps.length)
    (hbody : ∀ (f : Addr) (A : Around) (outer : List Env) (s : Shared) (H : Hp) (vs : List V) (Q : VK) (E : XK), Room k (A.deeper (envOfC x (defScope st) s.heap.objs.size f (.ref c))) → sp vs H Q E →
      ∃ t, PSs (cxOf CX0 P w K mg base N x (defScope st) f (.ref c) A outer s H E).nox (defBody st) t ∧ t { nx := fun _ H' => Q .non H', rt := Q } (start N vs) H) : DefOk P w K mg base x (k + 1) ps sp := by
  obtain ⟨f, oc, od, an, osl, kV, doc, pm, ct, hm, lk, hcd, hk⟩ := D
  refine ⟨f, _, hm, hk, .all (hb kV doc pm an (.ref c) ct), fn_of lk hcd S len fun A outer s H vs Q E hr h => ?_⟩
  obtain ⟨t, ht, q⟩ := hbody f A outer s H vs Q E hr h
  exact ⟨t, ht.nox, q⟩
end
def rLenK (K : PySem.W.Frag) : List V → Hp → VK → Prop := fun xs H Q => ∃ p ys, xs = [.ref p] ∧ (SqL K H p ys ∨ SqT K H p ys) ∧ Q (.int ys.length) H
theorem len_of {X : Cx} {K : PySem.W.Frag} (hK : X.K = K) : CallR X (.builtin "len") (rLenK K) := by subst hK; exact call_len_seq
theorem ints_injV : ∀ {a b : List Int}, a.map V.int = b.map V.int → a = b
  | [], [], _ => rfl
  | [], _ :: _, h => by cases h
  | _ :: _, [], h => by cases h
  | x :: a, y :: b, h => by
    rw [List.map_cons, List.map_cons] at h
    injection h with h1 h2
    rw [V.int.inj h1, ints_injV h2]
/-- values in another order -/
theorem Rl.perm {α : Type} {φ : Hp → V → α → Prop} {H : Hp} {vs vs' : List V} {R : List α} (h : Rl φ H vs R) (p : vs'.Perm vs) : ∃ R' : List α, R'.Perm R ∧ Rl φ H vs' R' := by
  have e1 : (vs.zip R).map (·.1) = vs := List.map_fst_zip (by rw [h.1]; omega)
  have e2 : (vs.zip R).map (·.2) = R := List.map_snd_zip (by rw [h.1]; omega)
  obtain ⟨zs, hz, hm⟩ := perm_map_inv p (vs.zip R) e1
  refine ⟨zs.map (·.2), by have := hz.map (·.2); rw [e2] at this; exact this, by rw [← hm, List.length_map, List.length_map], fun i x hx => ?_⟩
  rw [List.getElem?_map] at hx
  cases hzi : zs[i]? with
  | none => rw [hzi] at hx; cases hx
  | some z =>
    rw [hzi] at hx
    have ex := Option.some.inj hx
    refine ⟨z.1, by rw [← hm, List.getElem?_map, hzi]; rfl, ?_⟩
    obtain ⟨j, h1, h2⟩ := KX.zip_ix (hz.mem_iff.mp (List.mem_of_getElem? hzi))
    obtain ⟨v, hv, hp⟩ := h.2 j _ h2
    rw [h1] at hv
    rw [Option.some.inj hv, ← ex]; exact hp
/-- the rank of a polynomial: its length, then its rests -/
noncomputable def rk {p : Nat} [Pr p] (g : Po p) : List Int := (g.sz : Int) :: (lst g ++ [])
theorem rk_inj {p : Nat} [Pr p] {f g : Po p} (h : rk f = rk g) : f = g := by
  unfold rk at h
  injection h with _ h
  rw [List.append_nil, List.append_nil] at h
  exact lst_inj h
def lamQ : Str := ("in_rank" : Str) ++ ".<locals>." ++ "<lambda>"
def lamT (c : Addr × Addr) : List (Addr × Str) := [(c.2, lamQ)]
theorem extN_tk {H H' : Hp} (e : ExtN H H') : Tk H H' := fun a => ⟨fun xs h => e a _ h (fun ps z => by cases z), fun o u h => e a _ h (fun ps z => by cases z)⟩
section
variable {P : Program} {w : World} {K : PySem.W.Frag} {mg : Str → Option Value} {base : Heap}
structure RkAt (K : PySem.W.Frag) (mg : Str → Option Value) (base : Heap) (c : Addr × Addr) : Prop where
  d : DefAtC K mg "in_rank" s_in_rank c.1
  t : TabB base mg c.1 c.2
def Ranked {p : Nat} [Pr p] (R : List (Po p × Nat)) : Prop := R.Pairwise fun x y => KX.lexL (rk y.1) (rk x.1) = false
def spInRank (c : Addr × Addr) : Sp := fun vs H Q _ => ∃ (p : Nat) (_ : Pr p) (L : List (Po p × Nat)) (d : Addr), vs = [.ref d] ∧ H d = some (.dT (kvL L)) ∧ L.length ≤ 100 ∧ (L.map (·.1)).Nodup ∧ Tabs (lamT c) H ∧
  ∀ H' D ws (R : List (Po p × Nat)), ExtN H H' → Tabs (lamT c) H' → (∀ xs, H D ≠ some (.lst xs)) → H' D = some (.lst ws) → Pns H' ws R → R.Perm L → Ranked R → Q (.ref D) H'
theorem ok_in_rank {c : Addr × Addr} (T : Txt K mg) (TR : RkAt K mg base c) : DefOk P w K mg base "in_rank" 4 ["found"] (spInRank c) := by
  refine def_okC TR.d sc_in_rank (fun _ _ _ _ _ _ us hl => match us, hl with | [_], _ => rfl) (fun vs H Q E h => ?_) (fun f A outer s H vs Q E hr h => ?_)
  · obtain ⟨p, _, L, d, rfl, _⟩ := h; rfl
  · obtain ⟨p, hp, L, d, rfl, hd, hlen, hnd, hT, q⟩ := h
    have hu := hu_of hr
    refine ⟨_, (pss_one (ps_ret (KX.pe_sortLam (T := lamT c) (c := c.1) (P := c.2) (N := ["row"]) (a := "row") (k := 0) (by rfl) T.n_sorted (pe_lock (pe_lc (own := [("part", 1)]) (g := (gName 1)) (tt := tYes) rfl sc_in_rank.nd (pi_keys (pv 0)) (blkOk_by (N := ["found", "part"]) (sc := defScope s_in_rank) (by decide +kernel)) (fun _ _ _ _ _ => (pg_name (i := 1) sc_in_rank.nd rfl (Or.inl rfl))) (fun _ _ _ _ _ => pts_nil) (fun _ _ _ _ _ => (pe_tup (pa_cons (pv 1) (pa_cons (pe_dget hu (pv 0) (pv 1) (fun _ _ => rfl)) pa_nil))))))
      TR.t rfl (List.mem_singleton.mpr rfl) (fun p hp _ => by rw [List.mem_singleton.mp hp]; rfl) hr ⟨rfl, rfl, rfl, by decide +kernel, rfl, by decide +kernel, by decide +kernel⟩ (by rfl) (by rfl) (fun _ _ _ _ _ => by rfl)
      (fun A outer s H f c' hr2 => pe_tup (pa_cons (pe_callB (len_of (K := K) rfl) (by rfl) T.n_len (by decide +kernel) (pa_cons (pe_ix (r := rIxT K) ix_tup (pv 0) pe_int (fun _ _ => rfl)) pa_nil)) (pa_cons (pe_ix (r := rIxT K) ix_tup (pv 0) pe_int (fun _ _ => rfl)) pa_nil)))))), ?_⟩
    -- the pairs
    have tk1 : ∀ od, Tk H (upd H d (.frz od (.dT (kvL L)))) := fun od => tk_dT hd
    refine ⟨d, _, hd, trivial, fun od => ?_⟩
    have tk1 := tk1 od
    have e1 : (upd H d (.frz od (.dT (kvL L)))) d = some (.frz od (.dT (kvL L))) := upd_same
    have at1 : ∀ b, b ≠ d → (upd H d (.frz od (.dT (kvL L)))) b = H b := fun b hb => upd_ne hb
    generalize hH1 : upd H d (.frz od (.dT (kvL L))) = H1 at tk1 e1 at1
    refine ⟨_, rfl, d, od, rfl, .inr ⟨kvL L, e1, ?_⟩⟩
    have hkl : (kvL L).length = L.length := by unfold kvL; rw [List.length_map]
    refine lc_rel (walk_keysT (kvs := kvL L) (o := od)) (fun D i y H' => ∀ x, L[i]? = some x → Pn H' y x) (by omega) (fun D i y H1 H2 _ tk h x hx => (h x hx).tk tk) (fun H' s' => s' _ _ e1) (fun D0 i y H3 H4 R' hi s3 hy hR' => ?_) (fun D0 H3 ys nD0 s3 hl hrel hD0 => ?_)
    · obtain ⟨rfl, k, vv, kq, hkv, rfl, hkq⟩ := hy
      obtain ⟨⟨g, n⟩, hL⟩ : ∃ x, L[i]? = some x := ⟨_, List.getElem?_eq_getElem (by omega)⟩
      have hkv2 : (kvL L)[i]? = some (kOf g, V.int (n : Int)) := by unfold kvL; rw [List.getElem?_map, hL]; rfl
      have hkv : (kvL L)[i]? = some (k, vv) := hkv
      rw [hkv] at hkv2
      obtain ⟨rfl, rfl⟩ : k = kOf g ∧ vv = V.int (n : Int) := by cases hkv2; exact ⟨rfl, rfl⟩
      have hval : valV (kvL L) (kOf g) = some (V.int (n : Int)) := by
        refine valV_at ?_ hkv
        unfold kvL
        rw [List.map_map]
        rw [List.Nodup, List.pairwise_map] at hnd ⊢
        exact hnd.imp fun {a b} hab e => hab (kOf_inj e)
      refine ⟨rfl, _, rfl, _, rfl, _, rfl, d, _, rfl, .inr ⟨kvL L, kOf g, kq, .inr ⟨od, s3 _ _ e1⟩, rfl, hkq, hval.symm⟩, line_of (by show 2 ≤ 100000; decide), fun t nt => ?_⟩
      refine hR' _ _ (same_upd nt) fun x hx => ?_
      rw [hL] at hx
      cases hx
      have st := same_upd (o := .tup [.ref kq, .int (n : Int)]) nt
      exact ⟨t, .ref kq, rfl, upd_same, kq, rfl, st _ _ (by rw [← kOf_kV]; exact hkq)⟩
    · have e3 := s3 _ _ e1
      refine ⟨e3, ?_⟩
      have hDd : D0 ≠ d := fun z => by rw [z, e1] at nD0; cases nD0
      have hys : Pns H3 ys L := ⟨by rw [hl, hkl], fun i x hx => by
        have hi : i < ys.length := by rw [hl, hkl]; exact (List.getElem?_eq_some_iff.mp hx).1
        exact ⟨_, List.getElem?_eq_getElem hi, hrel i _ (List.getElem?_eq_getElem hi) x hx⟩⟩
      -- unlocked
      have s04 : Same H (upd H3 d (.dT (kvL L))) := same_unlock (od := od) hd (by rw [hH1]; exact s3)
      have unl : ∀ t xs, H3 t = some (.tup xs) → upd H3 d (.dT (kvL L)) t = some (.tup xs) := fun t xs h => by
        rw [upd_ne (ne_of h e3 (by intro z; cases z))]; exact h
      have hys4 : Pns (upd H3 d (.dT (kvL L))) ys L := Rl.imp hys fun v x hx => by
        obtain ⟨t, vg, rfl, ht, a, rfl, ha⟩ := hx
        exact ⟨t, .ref a, rfl, unl _ _ ht, a, rfl, unl _ _ ha⟩
      have hD4 : (upd H3 d (.dT (kvL L))) D0 = some (.lst ys) := by rw [upd_ne hDd]; exact hD0
      generalize hH4 : upd H3 d (.dT (kvL L)) = H4 at s04 hys4 hD4
      have hT4 : Tabs (lamT c) H4 := hT.ext fun b o e => s04 b o e
      -- what stands in the items
      have hch : ∀ x : V, ∃ y : (List V × List KX.Kd) × (Po p × Nat), x ∈ ys → ∃ t a, x = .ref t ∧ H4 t = some (.tup [.ref a, .int (y.2.2 : Int)]) ∧ H4 a = some (.tup ((lst y.2.1).map V.int)) ∧ y.1.1 = [.int (y.2.1.sz : Int), .ref a] ∧ y.1.2 = [.inl (y.2.1.sz : Int), .inr (lst y.2.1)] := fun x => by
        by_cases hx : x ∈ ys
        · obtain ⟨z, _, t, vg, rfl, ht, a, rfl, ha⟩ := Rl.mem hys4 hx
          exact ⟨(([.int (z.1.sz : Int), .ref a], [.inl (z.1.sz : Int), .inr (lst z.1)]), z), fun _ => ⟨t, a, rfl, ht, ha, rfl, rfl⟩⟩
        · exact ⟨(([], []), (0, 0)), fun h => absurd h hx⟩
      obtain ⟨F, hF⟩ := Classical.axiomOfChoice hch
      refine ⟨D0, ys, fun x => (F x).1.1, fun x => (F x).1.2, rfl, hT4, fun H2 e2 T2 => ⟨.inl (.inl (e2 _ _ hD4 (fun ps z => by cases z))), by rw [hl, hkl]; omega, fun x hx => ?_, fun x hx H' k' => ?_, fun x hx H' t k' ht => ?_, fun x hx => ?_, fun x hx y hy => ?_, fun H' zs D k' nD hD hpw hperm => ?_⟩⟩
      · obtain ⟨t, a, rfl, _⟩ := hF x hx; exact ⟨t, rfl⟩
      · obtain ⟨t, a, rfl, ht, ha, e4, _⟩ := hF x hx
        have ht' := k' _ _ (e2 _ _ ht (fun ps z => by cases z))
        have ha' := k' _ _ (e2 _ _ ha (fun ps z => by cases z))
        refine ⟨_, rfl, t, _, 0, _, rfl, rfl, .inl (.inl ht'), atI_nat (j := 0) rfl, a, _, rfl, .inr (.inl (.inl ha')), _, rfl, t, _, 0, _, rfl, rfl, .inl (.inl ht'), atI_nat (j := 0) rfl, line_of (by show 2 ≤ 100000; decide), fun t5 n5 => ⟨t5, rfl, n5, ?_⟩⟩
        show _ = upd H' t5 (.tup (F (V.ref t)).1.1)
        rw [List.length_map, lst_len, e4]
      · obtain ⟨t0, a, _, ht0, ha, e4, e5⟩ := hF x hx
        have ht : H' t = some (.tup (F x).1.1) := ht
        rw [e4] at ht
        show Dp K H' (.ref t) (.tuple ((F x).1.2.map KX.dat))
        rw [e5]
        have ha' := k' _ _ (e2 _ _ ha (fun ps z => by cases z))
        exact .tup (.inl (.inl ht)) (.cons (.int _) (.cons (dp_T (.inl (.inl ha'))) .nil))
      · obtain ⟨t0, a, _, ht0, ha, e4, e5⟩ := hF x hx
        exact ⟨_, _, e5⟩
      · obtain ⟨_, _, _, _, _, _, e5⟩ := hF x hx
        obtain ⟨_, _, _, _, _, _, e6⟩ := hF y hy
        show KX.Shp (F x).1.2 (F y).1.2 ∧ (F x).1.2.length = (F y).1.2.length
        rw [e5, e6]
        refine ⟨fun ez => ⟨?_, fun _ => trivial⟩, rfl⟩
        rw [lst_len, lst_len]; omega
      · -- sorted
        have k4 : Tk H4 H' := fun a => ⟨fun xs h => k' _ _ (e2 _ _ h (fun ps z => by cases z)), fun o u h => k' _ _ (e2 _ _ h (fun ps z => by cases z))⟩
        obtain ⟨R, hR, hzs⟩ := Rl.perm hys4 hperm
        refine q H' D zs R (fun b o e n => k' _ _ (e2 _ _ (s04 b o e) n)) (T2.ext k') (fun xs z => by have := e2 _ _ (s04 _ _ z) (fun ps y => by cases y); rw [this] at nD; cases nD) hD (Pns.tk hzs k4) hR ?_
        · rw [Ranked, List.pairwise_iff_getElem]
          rw [List.pairwise_iff_getElem] at hpw
          intro i j hi hj hij
          have hi2 : i < zs.length := by rw [hzs.1]; exact hi
          have hj2 : j < zs.length := by rw [hzs.1]; exact hj
          have h1 := hpw i j hi2 hj2 hij
          have key : ∀ (i : Nat) (hi : i < R.length) (hi2 : i < zs.length), KX.enc ((F zs[i]).1.2) = rk (R[i]).1 := fun i hi hi2 => by
            obtain ⟨x, hx, t, vg, et, ht, a, ea, ha⟩ := hzs.at (List.getElem?_eq_getElem hi2)
            rw [List.getElem?_eq_getElem hi] at hx
            have hx := Option.some.inj hx
            obtain ⟨t2, a2, et2, ht2, ha2, _, e6⟩ := hF _ (hperm.mem_iff.mp (List.getElem_mem hi2))
            rw [et] at et2
            cases et2
            rw [ht] at ht2
            have h2 := Option.some.inj ht2
            rw [ea] at h2
            injection h2 with h2
            injection h2 with h3 h4
            cases h3
            rw [ha] at ha2
            have h5 : (lst x.1).map V.int = (lst (F zs[i]).2.1).map V.int := by
              have := Option.some.inj ha2
              injection this
            have h6 : lst x.1 = lst (F zs[i]).2.1 := ints_injV h5
            rw [e6, hx, lst_inj h6]; rfl
          have h2 : KX.lexL (KX.enc ((F zs[j]).1.2)) (KX.enc ((F zs[i]).1.2)) = false := h1
          rw [key i hi hi2, key j hj hj2] at h2
          exact h2
end
end KW
end

section
set_option Elab.async false
set_option linter.all false
set_option maxRecDepth 100000
set_option maxHeartbeats 4000000
namespace KW
open PySem PySem.Spec PyProof.Rows L2 K10 K10.Po LamX
theorem all_trues (n : Nat) : (List.replicate n true).all id = true := by
  rw [List.all_replicate]; simp
theorem map_trues (n : Nat) : (List.range n).map (fun _ => V.bl true) = (List.replicate n true).map V.bl := by
  rw [List.map_replicate]; exact List.map_const' .. |>.trans (by rw [List.length_range])
theorem map_falses (n : Nat) : (List.range n).map (fun _ => V.bl false) = (List.replicate n false).map V.bl := by
  rw [List.map_replicate]; exact List.map_const' .. |>.trans (by rw [List.length_range])
theorem any_falses (n : Nat) : (List.replicate n false).any id = false := by
  rw [List.any_replicate]; simp
section
variable {P : Program} {w : World} {K : PySem.W.Frag} {mg : Str → Option Value} {base : Heap}
def spIsPoly : Sp := fun vs H Q _ => ∃ (p : Nat) (_ : Pr p) (f : Po p) (v : V), vs = [v, .int p] ∧ Rp K H v f ∧ f.sz ≤ 25 ∧ ∀ H', Same H H' → Q (.bl true) H'
theorem ok_is_poly (T : Txt K mg) : DefOk P w K mg base "is_poly" 2 ["thing", "prime"] (spIsPoly (K := K)) := by
  have d_is_rest := ok_is_rest (P := P) (w := w) (base := base) T
  obtain ⟨_, g_MOST_PLACES⟩ := T.g_MOST_PLACES
  refine def_ok T.d_is_poly sc_is_poly (fun _ _ _ _ _ _ us hl => match us, hl with | [_, _], _ => rfl) (fun vs H Q E h => ?_) (fun f cdv A outer s H vs Q E hr h => ?_)
  · obtain ⟨p, _, f, v, rfl, _⟩ := h; rfl
  · obtain ⟨p, hp, f, v, rfl, ⟨a, rfl, hA⟩, hf, q⟩ := h
    have h2 := Pr.two p
    refine ⟨_, (pss_cons (ps_if (PW.pt (pw_or (pt_cmpR op_gt (pe_callB call_len_seq (by rfl) T.n_len (by decide +kernel) (pa_cons (pv 0) pa_nil)) (pe_glob (v := .int 25) rfl g_MOST_PLACES ⟨_, rfl⟩) (nomark _)) (pw_or1 (pt_not (pt_val (pe_callB (cr_all rfl) (by rfl) T.n_all (by decide +kernel) (pa_cons (pe_lc (own := [("part", 2)]) (g := (gName 2)) (tt := tYes) rfl sc_is_poly.nd (pi_tup (pv 0)) (blkOk_by (N := ["thing", "prime", "part"]) (sc := defScope s_is_poly) (by decide +kernel)) (fun _ _ _ _ _ => (pg_name (i := 2) sc_is_poly.nd rfl (Or.inl rfl))) (fun _ _ _ _ _ => pts_nil) (fun _ _ _ _ _ => (pcall d_is_rest hr rfl (pa_cons (pv 2) (pa_cons (pv 1) pa_nil))))) pa_nil)))))))
        (pss_one (ps_ret pe_bl))
        pss_nil)
      (pss_one (ps_ret (pe_or (pe_cmpR (op_eqD hr.units) (pv 0) (pe_tup pa_nil) (nomark _)) (pe_one (pe_cmpR op_ne (pe_ix (r := rIxT K) ix_tup (pv 0) (pe_un un_neg pe_int) (fun _ _ => rfl)) pe_int (nomark _))))))), ?_⟩
    have lF : ((lst f).map V.int).length = f.sz := by rw [List.length_map, lst_len]
    refine ⟨_, rfl, a, _, rfl, .inr hA, _, _, rfl, rfl, _, rfl, ?_⟩
    rw [decide_eq_false (show ¬ ((25 : Int) < (((lst f).map V.int).length : Int)) by omega)]
    refine iteF ?_
    refine ⟨_, rfl, a, rfl, ⟨_, hA⟩, ?_⟩
    refine lc_fn (walk_tup (xs := (lst f).map V.int)) (fun _ => V.bl true) (by omega) (fun H h => same_t h hA) (fun j y H3 H4 R hj s3 hy hR => ?_) (fun D H3 nD s3 hD => ?_)
    · obtain ⟨rfl, hx⟩ := hy
      obtain ⟨m, hm, rfl⟩ := get_map hx
      have hmr := rests_get (lst_rests f) hm
      exact ⟨rfl, _, rfl, _, rfl, m, (p : Int), rfl, hmr.1, hmr.2, hR _ (Same.refl _)⟩
    · rw [map_trues] at hD
      refine ⟨D, _, rfl, .inl (.inl hD), _, rfl, ?_⟩
      rw [all_trues]
      refine iteF ?_
      refine ⟨_, rfl, line_of (by decide), fun t nt => ?_⟩
      have st := same_upd (o := .tup []) nt
      refine ⟨_, _, dp_T (same_t (s3.trans st) hA), dp_T (ns := []) (.inl (.inl upd_same)), shaped_dT _, shaped_dT _, _, rfl, ?_⟩
      rw [eqv_dT]
      by_cases hf0 : f = 0
      · rw [decide_eq_true (lst_nil_iff.mpr hf0)]
        exact iteT (q _ (s3.trans st))
      · rw [decide_eq_false (fun z => hf0 (lst_nil_iff.mp z))]
        refine iteF ?_
        obtain ⟨n, hn, hn0, hn1, hnl⟩ := lst_last hf0
        have hng : ((lst f).map V.int)[((lst f).map V.int).length - 1]? = some (.int n) := by rw [lF]; exact map_get hn
        refine ⟨_, rfl, 1, rfl, a, _, -1, _, rfl, rfl, same_t (s3.trans st) hA, at_neg1 hng, ?_⟩
        refine ⟨rfl, ?_⟩
        rw [decide_eq_false (fun z => by have := V.int.inj z; omega)]
        exact q _ (s3.trans st)
def spNeedPolys : Sp := fun vs H Q _ => ∃ (p : Nat) (_ : Pr p) (R : List (Po p)) (rv : List V) (t : Addr), vs = [.ref t, .int p] ∧ SqT K H t rv ∧ Rps K H rv R ∧ R.length ≤ 100 ∧ (∀ f ∈ R, f.sz ≤ 25) ∧ ∀ H', Same H H' → Q .non H'
theorem ok_need_polys (T : Txt K mg) : DefOk P w K mg base "need_polys" 3 ["some", "prime"] (spNeedPolys (K := K)) := by
  have d_is_poly := ok_is_poly (P := P) (w := w) (base := base) T
  have d_need_prime := ok_need_prime (P := P) (w := w) (base := base) T
  refine def_ok T.d_need_polys sc_need_polys (fun _ _ _ _ _ _ us hl => match us, hl with | [_, _], _ => rfl) (fun vs H Q E h => ?_) (fun f cdv A outer s H vs Q E hr h => ?_)
  · obtain ⟨p, _, R, rv, t, rfl, _⟩ := h; rfl
  · obtain ⟨p, hp, R, rv, t, rfl, hA, hR, hRl, hRs, q⟩ := h
    refine ⟨_, (pss_cons (ps_expr (pcall d_need_prime hr rfl (pa_cons (pv 1) pa_nil)))
      (pss_one (ps_if (pt_not (pt_val (pe_callB (cr_all rfl) (by rfl) T.n_all (by decide +kernel) (pa_cons (pe_lc (own := [("one", 2)]) (g := (gName 2)) (tt := tYes) rfl sc_need_polys.nd (pi_tup (pv 0)) (blkOk_by (N := ["some", "prime", "one"]) (sc := defScope s_need_polys) (by decide +kernel)) (fun _ _ _ _ _ => (pg_name (i := 2) sc_need_polys.nd rfl (Or.inl rfl))) (fun _ _ _ _ _ => pts_nil) (fun _ _ _ _ _ => (pcall d_is_poly hr rfl (pa_cons (pv 2) (pa_cons (pv 1) pa_nil))))) pa_nil))))
        (pss_one ps_never)
        pss_nil))), ?_⟩
    refine ⟨_, rfl, p, hp, rfl, ?_⟩
    refine ⟨_, rfl, t, rfl, ⟨_, hA⟩, ?_⟩
    refine lc_fn (walk_tup (xs := rv)) (fun _ => V.bl true) (by rw [hR.1]; omega) (fun H h => same_t h hA) (fun j y H3 H4 R' hj s3 hy hR' => ?_) (fun D H3 nD s3 hD => ?_)
    · obtain ⟨rfl, hx⟩ := hy
      obtain ⟨f, hf, hfp⟩ := hR.at hx
      exact ⟨rfl, _, rfl, _, rfl, p, hp, f, y, rfl, hfp.same s3, hRs f (List.mem_of_getElem? hf), fun H5 s5 => hR' _ s5⟩
    · rw [map_trues] at hD
      refine ⟨D, _, rfl, .inl (.inl hD), _, rfl, ?_⟩
      rw [all_trues]
      exact iteF (q _ s3)
theorem one_still {p : Nat} [Pr p] {f : Po p} (hf : Irr f) {n : Nat} {B : List (Po p)} {L2 : List (Nat × Po p)} (hE : Ech n L2) (hp : B.Perm (L2.map (·.2))) (h1 : ∀ g ∈ B, Still f g ∧ g.sz < f.sz)
    (h2 : ∀ S, Sb S → (∀ g ∈ B, S g) → ∀ v, v.sz < f.sz → Still f v → S v) : B.length = 1 := by
  have ha : ∀ a g, (a, g) ∈ L2 → a = 0 := fun a g hm => by
    obtain ⟨hs, hz⟩ := h1 g (hp.mem_iff.mpr (List.mem_map.mpr ⟨_, hm, rfl⟩))
    have := hf.still hs hz
    apply Classical.byContradiction; intro hne
    have e := hE.one a g hm
    rw [sz_dg g a (by omega)] at e
    exact fin_one_ne e.symm
  have hle : L2.length ≤ 1 := by
    have := nodup_lt_len 1 (L2.map (·.1)) hE.nd fun x hx => by
      obtain ⟨⟨a, g⟩, hm, rfl⟩ := List.mem_map.mp hx
      rw [show (a, g).1 = a from rfl, ha a g hm]; omega
    rw [List.length_map] at this; exact this
  have hne : B ≠ [] := fun z => by
    have := h2 (fun v => v = 0) ⟨rfl, fun x y c hx hy => by rw [hx, hy]; grind⟩ (fun g hg => by rw [z] at hg; cases hg) 1 (by rw [Po.sz_one]; have := hf.1; omega) ⟨0, by rw [Lean.Grind.Semiring.one_pow]; grind⟩
    exact one_ne this
  have := hp.length_eq
  rw [List.length_map] at this
  have := List.length_pos_iff.mpr hne
  omega
def spStands : Sp := fun vs H Q _ => ∃ (p : Nat) (_ : Pr p) (f : Po p) (v : V), vs = [v, .int p] ∧ Rp K H v f ∧ f.sz ≤ 60 ∧ Irr f ∧ Mo f ∧ ∀ H', Same H H' → Q (.bl true) H'
theorem ok_stands_whole (T : Txt K mg) : DefOk P w K mg base "stands_whole" 8 ["one", "prime"] (spStands (K := K)) := by
  have d_worth_at := ok_worth_at (P := P) (w := w) (base := base) T
  have d_shared := ok_shared (P := P) (w := w) (base := base) T
  have d_sloped := ok_sloped (P := P) (w := w) (base := base) T
  have d_still_of := ok_still_of (P := P) (w := w) (base := base) T
  refine def_ok T.d_stands_whole sc_stands_whole (fun _ _ _ _ _ _ us hl => match us, hl with | [_, _], _ => rfl) (fun vs H Q E h => ?_) (fun f cdv A outer s H vs Q E hr h => ?_)
  · obtain ⟨p, _, f, v, rfl, _⟩ := h; rfl
  · obtain ⟨p, hp, f, v, rfl, ⟨a, rfl, hA⟩, hf, hirr, hmo, q⟩ := h
    have h2 := Pr.two p
    have h97 := Pr.le p
    have hf2 := hirr.1
    refine ⟨_, (pss_cons (ps_if (pt_cmpR op_eq (pe_callB call_len_seq (by rfl) T.n_len (by decide +kernel) (pa_cons (pv 0) pa_nil)) pe_int (nomark _))
        (pss_one (ps_ret pe_bl))
        pss_nil)
      (pss_cons (ps_if (pt_val (pe_callB (cr_any rfl) (by rfl) T.n_any (by decide +kernel) (pa_cons (pe_lc (own := [("rest", 2)]) (g := (gName 2)) (tt := tYes) rfl sc_stands_whole.nd (pi_range1 rfl T.n_range (pa_cons (pv 1) pa_nil)) (blkOk_by (N := ["one", "prime", "rest"]) (sc := defScope s_stands_whole) (by decide +kernel)) (fun _ _ _ _ _ => (pg_name (i := 2) sc_stands_whole.nd rfl (Or.inl rfl))) (fun _ _ _ _ _ => pts_nil) (fun _ _ _ _ _ => (pe_cmpR op_eq (pcall d_worth_at hr rfl (pa_cons (pv 0) (pa_cons (pv 2) (pa_cons (pv 1) pa_nil)))) pe_int (nomark _)))) pa_nil)))
        (pss_one (ps_ret pe_bl))
        pss_nil)
      (pss_cons (ps_if (pt_cmpR (op_neD hr.units) (pe_ix (r := rIxT K) ix_tup (pcall d_shared hr rfl (pa_cons (pv 0) (pa_cons (pcall d_sloped hr rfl (pa_cons (pv 0) (pa_cons (pv 1) pa_nil))) (pa_cons (pv 1) pa_nil)))) pe_int (fun _ _ => rfl)) (pe_tup (pa_cons pe_int pa_nil)) (nomark _))
        (pss_one (ps_ret pe_bl))
        pss_nil)
      (pss_one (ps_ret (pe_cmpR op_eq (pe_callB call_len_seq (by rfl) T.n_len (by decide +kernel) (pa_cons (pcall d_still_of hr rfl (pa_cons (pv 0) (pa_cons (pv 1) pa_nil))) pa_nil)) pe_int (nomark _))))))), ?_⟩
    have lF : ((lst f).map V.int).length = f.sz := by rw [List.length_map, lst_len]
    refine ⟨_, rfl, a, _, rfl, .inr hA, rfl, _, rfl, ?_⟩
    by_cases hf2' : f.sz = 2
    · rw [decide_eq_true (show V.int (((lst f).map V.int).length : Int) = V.int 2 from congrArg V.int (by omega))]
      exact iteT (q _ (Same.refl _))
    rw [decide_eq_false (fun z => by have := V.int.inj z; omega)]
    refine iteF ?_
    refine ⟨_, rfl, (p : Int), rfl, by omega, by omega, ?_⟩
    rw [Int.toNat_natCast]
    refine lc_fn (n := p) walk_range (fun _ => V.bl false) (by omega) (fun _ _ => trivial) (fun j y H3 H4 R hj s3 hy hR => ?_) (fun D H3 nD s3 hD => ?_)
    · obtain ⟨rfl, rfl⟩ := hy
      have ej : (0 : Int) + (j : Int) = (j : Int) := by omega
      show gName 2 (V.int (0 + (j : Int))) _ _ _
      rw [ej]
      refine ⟨rfl, _, rfl, _, rfl, _, rfl, p, hp, f, j, .ref a, rfl, ⟨a, rfl, same_t s3 hA⟩, hj, by omega, fun H5 n s5 hn0 hn1 hnv => ?_⟩
      refine ⟨rfl, ?_⟩
      rw [decide_eq_false (fun z => ?_)]
      · exact hR _ s5
      · have ez := V.int.inj z
        rw [ez, zc_zero] at hnv
        have hdv := (dv_lin_iff f (zc p (j : Int))).mpr hnv.symm
        have := (lin_irr (zc p (j : Int))).eq_of_dv hirr (lin_mo _) hmo hdv
        rw [← this, lin_sz] at hf2'
        exact hf2' rfl
    · rw [map_falses] at hD
      refine ⟨D, _, rfl, .inl (.inl hD), _, rfl, ?_⟩
      rw [any_falses]
      refine iteF ?_
      have hA3 := same_t s3 hA
      have hdz := der_sz f
      refine ⟨_, rfl, _, rfl, _, rfl, p, hp, f, .ref a, rfl, ⟨a, rfl, hA3⟩, by omega, fun H5 v5 s5 r5 => ?_⟩
      refine ⟨_, rfl, p, hp, f, der f, .ref a, v5, rfl, ⟨a, rfl, same_t s5 hA3⟩, r5, by omega, by omega, fun H7 t7 v0 v1 v2 dd x y s7 ht7 rp7 rs7 e7 dv1 dv2 hmd => ?_⟩
      refine ⟨t7, _, 0, _, rfl, rfl, ht7, atI_nat (j := 0) rfl, line_of (by show 1 ≤ 100000; decide), fun t8 n8 => ?_⟩
      have s8 := same_upd (o := .tup [.int 1]) n8
      refine ⟨_, _, (Rp.same rp7 s8).dp, dp_T (ns := [1]) (.inl (.inl upd_same)), shaped_dT _, shaped_dT _, _, rfl, ?_⟩
      rw [eqv_dT]
      have hd1 : dd = 1 := hirr.sep (hmd hmo.1) e7 dv1 dv2
      rw [decide_eq_true (show lst dd = [1] by rw [hd1, lst_one])]
      refine iteF ?_
      have s38 := (s5.trans s7).trans s8
      refine ⟨_, rfl, _, rfl, p, hp, f, .ref a, rfl, ⟨a, rfl, same_t s38 hA3⟩, hf2, hf, fun H9 D9 ws B s9 nD9 hD9 hB hEch hst hspan => ?_⟩
      obtain ⟨L2, hE, hperm⟩ := hEch
      have hB1 := one_still hirr hE hperm hst hspan
      refine ⟨D9, _, rfl, .inl (.inl (.inl hD9)), rfl, ?_⟩
      rw [decide_eq_true (show V.int (ws.length : Int) = V.int 1 from congrArg V.int (by rw [hB.1, hB1]; rfl))]
      exact q _ ((s3.trans s38).trans s9)
end
end KW
end

section
set_option Elab.async false
set_option linter.all false
set_option maxRecDepth 100000
set_option maxHeartbeats 4000000
namespace KW
open PySem PySem.Spec PyProof.Rows L2 K10 K10.Po LamX
/-! ### a def with one parameter and the prime by its keyword -/
def g1 : List Value → List Value → List Value
  | [u], [w] => [u, w]
  | _, _ => []
def g1V : List V → List V → List V
  | [u], [w] => [u, w]
  | _, _ => []
def DefK (P : Program) (w : World) (K : PySem.W.Frag) (mg : Str → Option Value) (base : Heap) (x : Str) (k : Nat) (sp : Sp) : Prop :=
  ∃ (f : Addr) (fd : FuncData), mg x = some (.ref f) ∧ PySem.W.keepIn K (.ref f) = true ∧ KBinds K fd ["poly", "prime"] ["prime"] g1 g1V ∧ FnOk P w K mg base CX0 k f fd ["poly", "prime"] sp
section
variable {P : Program} {w : World} {K : PySem.W.Frag} {mg : Str → Option Value} {base : Heap}
theorem def_okK {x : Str} {st : Stmt} {N : List Str} {k : Nat} {sp : Sp} (D : DefAt K mg x st) (S : FnScope N ["poly", "prime"] (defScope st))
    (hb : ∀ (kV doc pm : Value) (an : Option Addr) (cdv ct u v : Value), bindArgs (PySem.W.fnOf x x (defArgs st) (defBody st) (defScope st) .none kV doc pm an cdv ct) ⟨[u], [(("prime" : Str), v)]⟩ = pure [(("poly" : Str), u), (("prime" : Str), v)])
    (len : ∀ vs H Q E, sp vs H Q E → vs.length = 2)
    (hbody : ∀ (f : Addr) (cdv : Value) (A : Around) (outer : List Env) (s : Shared) (H : Hp) (vs : List V) (Q : VK) (E : XK), Room k (A.deeper (envOfC x (defScope st) s.heap.objs.size f cdv)) → sp vs H Q E →
      ∃ t, PSs (cxOf CX0 P w K mg base N x (defScope st) f cdv A outer s H E).nox (defBody st) t ∧ t { nx := fun _ H' => Q .non H', rt := Q } (start N vs) H) : DefK P w K mg base x (k + 1) sp := by
  obtain ⟨f, fd, hm, F⟩ := D
  refine ⟨f, fd, hm, F.kp, ?_, F.ok S len (fun cdv A outer s H vs Q E hr h => hbody f cdv A outer s H vs Q E hr h)⟩
  obtain ⟨oc, od, kV, doc, pm, an, cdv, ct, osl, rfl, lk, hcd⟩ := F.ex
  refine ⟨fun s us ws _ hl => ?_, fun {vs us zs ws} r q => ?_⟩
  · match us, ws, hl with
    | [u], [v], _ => exact .of_eq (hb kV doc pm an cdv ct u v)
    | [], _, h => exact absurd h (by simp [g1])
    | [_], [], h => exact absurd h (by simp [g1])
    | [_], _ :: _ :: _, h => exact absurd h (by simp [g1])
    | _ :: _ :: _, _, h => exact absurd h (by simp [g1])
  · cases r with
    | nil => exact .nil
    | cons r1 r2 =>
      cases r2 with
      | nil =>
        cases q with
        | nil => exact .nil
        | cons q1 q2 =>
          cases q2 with
          | nil => exact .cons r1 (.cons q1 .nil)
          | cons q3 q4 => exact .nil
      | cons r3 r4 => exact .nil
end
section
variable {X : Cx} {x : Str} {p pos : Pos} {e : Expr} {es : List Expr} {kws : List Keyword} {t tk : TA} {j k : Nat} {sp : Sp}
theorem pcallK (D : DefK X.prog X.w X.K X.mg X.base x k sp) (hr : Room j X.A) (hg : Gl X x) (ha : PA X (e :: es) t) (hkw : PK X kws tk) (hj : k ≤ j := by decide) (hall : (backToKw pos (keywordEach kws X.env)).all (·.1.isSome) = true := by rfl)
    (hks : (backToKw pos (keywordEach kws X.env)).filterMap (·.1) = [("prime" : Str)] := by rfl) (hdb : (x == ("__debug__" : Str)) = false := by decide) (he : starEach (e :: es) X.env = (false, eval e X.env) :: starEach es X.env := by rfl)
    (hpl : ((backTo pos (starEach (e :: es) X.env)).any (·.1) || (backToKw pos (keywordEach kws X.env)).any (·.1.isNone)) = false := by rfl) :
    PE X (.Call (.Name x p) (e :: es) kws pos) (tCallK sp g1V E0 t tk) := by
  obtain ⟨f, fd, hm, hk, b, F⟩ := D
  exact pe_callK F (hr.mono hj) hg hm hk b pass0 ha hkw hall hks hdb he hpl
end
theorem same_extN {H H' : Hp} (s : Same H H') : ExtN H H' := fun b o e _ => s b o e
theorem extN_t {K : PySem.W.Frag} {H H' : Hp} {a : Addr} {xs : List V} (e : ExtN H H') (h : SqT K H a xs) : SqT K H' a xs := (extN_tk e).t h
theorem fpr_perm {p : Nat} [Pr p] {L M : List (Po p × Nat)} (h : L.Perm M) : fpr L = fpr M := by
  induction h with
  | nil => rfl
  | cons x _ ih => obtain ⟨k, c⟩ := x; show k ^ c * fpr _ = k ^ c * fpr _; rw [ih]
  | swap x y l => obtain ⟨k, c⟩ := x; obtain ⟨k', c'⟩ := y; show k' ^ c' * (k ^ c * fpr l) = k ^ c * (k' ^ c' * fpr l); grind
  | trans _ _ h1 h2 => exact h1.trans h2
/-- the parts of f -/
structure PartsOf {p : Nat} [Pr p] (f : Po p) (R : List (Po p × Nat)) : Prop where
  wh : Wh R
  pos : ∀ x ∈ R, 1 ≤ x.2
  nd : (R.map (·.1)).Nodup
  rk : Ranked R
  pr : ∃ c : Fin p, c * f.s (f.sz - 1) = 1 ∧ fpr R = C c * f
section
variable {P : Program} {w : World} {K : PySem.W.Frag} {mg : Str → Option Value} {base : Heap}
def spParts (c : Addr × Addr) : Sp := fun vs H Q _ => ∃ (p : Nat) (_ : Pr p) (f : Po p) (v : V), vs = [v, .int p] ∧ Rp K H v f ∧ f ≠ 0 ∧ f.sz ≤ 25 ∧ Tabs (lamT c) H ∧
  ∀ H' t D ws (n : Int) (R : List (Po p × Nat)), ExtN H H' → Tabs (lamT c) H' → H' t = some (.tup [.int n, .ref D]) → (∀ xs, H D ≠ some (.lst xs)) → H' D = some (.lst ws) → Pns H' ws R → PartsOf f R → (lst f)[f.sz - 1]? = some n → Q (.ref t) H'
theorem lead_sz {p : Nat} [Pr p] {f : Po p} {c : Fin p} (hf : f ≠ 0) (hc : c * f.s (f.sz - 1) = 1) : (C c * f).sz = f.sz ∧ Mo (C c * f) := by
  have hc0 : c ≠ 0 := fun z => by rw [z] at hc; exact fin_one_ne (p := p) (by rw [← hc]; grind)
  have hCn : (C c : Po p) ≠ 0 := fun z => by have := sz_C hc0; rw [z, sz_zero] at this; omega
  have h1 := (sz_mul hCn hf).1
  rw [sz_C hc0] at h1
  have h2 := sz_pos hf
  have hs : (C c * f).sz = f.sz := by omega
  exact ⟨hs, mul_ne hCn hf, by rw [hs, Cmul_ap]; exact hc⟩
theorem ok_parts {c : Addr × Addr} (T : Txt K mg) (TR : RkAt K mg base c) : DefK P w K mg base "parts" 11 (spParts (K := K) c) := by
  have d_need_polys := ok_need_polys (P := P) (w := w) (base := base) T
  have d_in_rank := ok_in_rank (P := P) (w := w) (base := base) T TR
  have d_all_parts := ok_all_parts (P := P) (w := w) (base := base) T
  have d_levelled := ok_levelled (P := P) (w := w) (base := base) T
  refine def_okK T.d_parts sc_parts (fun _ _ _ _ _ _ _ _ => rfl) (fun vs H Q E h => ?_) (fun fa cdv A outer s H vs Q E hr h => ?_)
  · obtain ⟨p, _, f, v, rfl, _⟩ := h; rfl
  · obtain ⟨p, hp, f, v, rfl, ⟨a, rfl, hA⟩, hf0, hf, hT, q⟩ := h
    have h2 := Pr.two p
    refine ⟨_, (pss_cons (ps_expr (pcall d_need_polys hr rfl (pa_cons (pe_tup (pa_cons (pv 0) pa_nil)) (pa_cons (pv 1) pa_nil))))
      (pss_cons (ps_if (pt_cmpR (op_eqD hr.units) (pv 0) (pe_tup pa_nil) (nomark _))
        (pss_one ps_never)
        pss_nil)
      (pss_one (ps_ret (pe_tup (pa_cons (pe_ix (r := rIxT K) ix_tup (pv 0) (pe_un un_neg pe_int) (fun _ _ => rfl)) (pa_cons (pcall d_in_rank hr rfl (pa_cons (pcall d_all_parts hr rfl (pa_cons (pcall d_levelled hr rfl (pa_cons (pv 0) (pa_cons (pv 1) pa_nil))) (pa_cons (pv 1) pa_nil))) pa_nil)) pa_nil))))))), ?_⟩
    have lF : ((lst f).map V.int).length = f.sz := by rw [List.length_map, lst_len]
    refine ⟨_, rfl, line_of (by show 1 ≤ 100000; decide), fun t nt => ?_⟩
    have st := same_upd (o := .tup [.ref a]) nt
    refine ⟨_, rfl, p, hp, [f], [.ref a], t, rfl, .inl (.inl upd_same), Rl.one ⟨a, rfl, same_t st hA⟩, by simp, fun g hg => by rw [List.mem_singleton.mp hg]; exact hf, fun H1 s1 => ?_⟩
    have s01 := st.trans s1
    refine ⟨_, rfl, line_of (by decide), fun t2 n2 => ?_⟩
    have s2 := s01.trans (same_upd (o := .tup []) n2)
    refine ⟨_, _, dp_T (same_t s2 hA), dp_T (ns := []) (.inl (.inl upd_same)), shaped_dT _, shaped_dT _, _, rfl, ?_⟩
    rw [eqv_dT, decide_eq_false (fun z => hf0 (lst_nil_iff.mp z))]
    refine iteF ?_
    generalize hH2 : upd H1 t2 (.tup []) = H2 at s2
    obtain ⟨n, hn, hn0, hn1, hnl⟩ := lst_last hf0
    have hng : ((lst f).map V.int)[((lst f).map V.int).length - 1]? = some (.int n) := by rw [lF]; exact map_get hn
    refine ⟨_, rfl, 1, rfl, a, _, -1, _, rfl, rfl, same_t s2 hA, at_neg1 hng, ?_⟩
    refine ⟨_, rfl, _, rfl, p, hp, f, .ref a, rfl, ⟨a, rfl, same_t s2 hA⟩, hf0, by omega, fun H3 v3 c s3 hc r3 => ?_⟩
    obtain ⟨hsz, hmo⟩ := lead_sz hf0 hc
    refine ⟨_, rfl, p, hp, C c * f, v3, rfl, r3, by omega, hmo, fun H4 d L s4 nd hd hwh hpos hnd hfpr => ?_⟩
    have hT4 : Tabs (lamT _) H4 := hT.ext fun b o e => s4 _ _ (s3 _ _ (s2 _ _ e))
    have hL100 : L.length ≤ 100 := by
      have := len_fpr hwh hpos
      rw [hfpr, hsz] at this; omega
    refine ⟨p, hp, L, d, rfl, hd, hL100, hnd, hT4, fun H5 D5 ws R e5 T5 nl5 hD5 hR hperm hrk => ?_⟩
    refine ⟨line_of (by show 2 ≤ 100000; decide), fun t6 n6 => ?_⟩
    have s6 := same_upd (o := .tup [.int n, .ref D5]) n6
    refine q _ t6 D5 ws n R ((same_extN ((s2.trans s3).trans s4)).trans (e5.trans (same_extN s6))) (T5.ext s6) upd_same (fun xs z => nl5 xs (s4 _ _ (s3 _ _ (s2 _ _ z)))) (s6 _ _ hD5) (Pns.tk hR (Same.tk s6)) ⟨fun x hx => hwh x (hperm.mem_iff.mp hx), fun x hx => hpos x (hperm.mem_iff.mp hx), (hperm.map _).nodup_iff.mpr hnd, hrk, c, hc, by rw [fpr_perm hperm, hfpr]⟩ hn
def spIsWhole : Sp := fun vs H Q _ => ∃ (p : Nat) (_ : Pr p) (f : Po p) (v : V), vs = [v, .int p] ∧ Rp K H v f ∧ f.sz ≤ 25 ∧ Irr f ∧ Mo f ∧ ∀ H', Same H H' → Q (.bl true) H'
theorem ok_is_whole (T : Txt K mg) : DefK P w K mg base "is_whole" 9 (spIsWhole (K := K)) := by
  have d_need_polys := ok_need_polys (P := P) (w := w) (base := base) T
  have d_stands_whole := ok_stands_whole (P := P) (w := w) (base := base) T
  have d_levelled := ok_levelled (P := P) (w := w) (base := base) T
  refine def_okK T.d_is_whole sc_is_whole (fun _ _ _ _ _ _ _ _ => rfl) (fun vs H Q E h => ?_) (fun fa cdv A outer s H vs Q E hr h => ?_)
  · obtain ⟨p, _, f, v, rfl, _⟩ := h; rfl
  · obtain ⟨p, hp, f, v, rfl, ⟨a, rfl, hA⟩, hf, hirr, hmo, q⟩ := h
    have h2 := Pr.two p
    have hf2 := hirr.1
    refine ⟨_, (pss_cons (ps_expr (pcall d_need_polys hr rfl (pa_cons (pe_tup (pa_cons (pv 0) pa_nil)) (pa_cons (pv 1) pa_nil))))
      (pss_one (ps_ret (pe_and (pe_cmpR op_gt (pe_callB call_len_seq (by rfl) T.n_len (by decide +kernel) (pa_cons (pv 0) pa_nil)) pe_int (nomark _)) (pe_one (pcall d_stands_whole hr rfl (pa_cons (pcall d_levelled hr rfl (pa_cons (pv 0) (pa_cons (pv 1) pa_nil))) (pa_cons (pv 1) pa_nil)))))))), ?_⟩
    have lF : ((lst f).map V.int).length = f.sz := by rw [List.length_map, lst_len]
    refine ⟨_, rfl, line_of (by show 1 ≤ 100000; decide), fun t nt => ?_⟩
    have st := same_upd (o := .tup [.ref a]) nt
    refine ⟨_, rfl, p, hp, [f], [.ref a], t, rfl, .inl (.inl upd_same), Rl.one ⟨a, rfl, same_t st hA⟩, by simp, fun g hg => by rw [List.mem_singleton.mp hg]; exact hf, fun H1 s1 => ?_⟩
    have s01 := st.trans s1
    refine ⟨_, rfl, a, _, rfl, .inr (same_t s01 hA), _, _, rfl, rfl, _, rfl, ?_⟩
    rw [decide_eq_true (show (1 : Int) < (((lst f).map V.int).length : Int) by omega)]
    refine iteT ?_
    refine ⟨_, rfl, _, rfl, p, hp, f, .ref a, rfl, ⟨a, rfl, same_t s01 hA⟩, hirr.ne, by omega, fun H3 v3 c s3 hc r3 => ?_⟩
    have ec : C c * f = f := by
      rw [hmo.2] at hc
      rw [show c = 1 by rw [← hc]; grind, C_one]; grind
    rw [ec] at r3
    exact ⟨_, rfl, p, hp, f, v3, rfl, r3.w, by omega, hirr, hmo, fun H5 s5 => q _ ((s01.trans s3).trans s5)⟩
end
end KW
end

section
set_option Elab.async false
set_option linter.all false
set_option maxRecDepth 100000
set_option maxHeartbeats 4000000
namespace KW
open PySem PySem.Spec PyProof.Rows L2 K10 K10.Po LamX
/-- a pair of numbers -/
def Pi (H : Hp) (v : V) (x : Nat × Nat) : Prop := ∃ t, v = .ref t ∧ H t = some (.tup [.int (x.1 : Int), .int (x.2 : Int)])
theorem Pi.tk {H H' : Hp} {v : V} {x : Nat × Nat} (h : Pi H v x) (e : Tk H H') : Pi H' v x := let ⟨t, a, b⟩ := h; ⟨t, a, (e t).1 _ b⟩
abbrev Pis (H : Hp) (vs : List V) (R : List (Nat × Nat)) : Prop := Rl (fun H v x => Pi H v x) H vs R
theorem Pis.tk {H H' : Hp} {vs : List V} {R : List (Nat × Nat)} (h : Pis H vs R) (e : Tk H H') : Pis H' vs R := Rl.imp h fun v x hx => Pi.tk hx e
section
variable {p : Nat} [Pr p]
noncomputable def rootOf (x : Po p × Nat) : Option (Nat × Nat) := if x.1.sz = 2 then some (((0 - ((x.1.s 0).val : Int)) % (p : Int)).toNat, x.2) else none
theorem root_zc (f : Po p) : (((((0 - ((f.s 0).val : Int)) % (p : Int)).toNat : Nat) : Int)) = (0 - ((f.s 0).val : Int)) % (p : Int) ∧ ((0 - ((f.s 0).val : Int)) % (p : Int)).toNat < p ∧ zc p ((0 - ((f.s 0).val : Int)) % (p : Int)) = - f.s 0 := by
  have h2 := Pr.two p
  have h0 := Int.emod_nonneg (0 - ((f.s 0).val : Int)) (show (p : Int) ≠ 0 by omega)
  have h1 := Int.emod_lt_of_pos (0 - ((f.s 0).val : Int)) (show (0 : Int) < (p : Int) by omega)
  refine ⟨by omega, by omega, ?_⟩
  rw [zc_mod, zc_sub, zc_zero, zc_fin]; grind
theorem mem_roots {R : List (Po p × Nat)} (hw : Wh R) {a n : Nat} : (a, n) ∈ R.filterMap rootOf ↔ a < p ∧ (lin (zc p (a : Int)), n) ∈ R := by
  constructor
  · intro h
    obtain ⟨⟨g, m⟩, hx, e⟩ := List.mem_filterMap.mp h
    unfold rootOf at e
    by_cases hz : g.sz = 2
    · rw [if_pos hz] at e
      have e := Option.some.inj e
      have ea : ((0 - ((g.s 0).val : Int)) % (p : Int)).toNat = a := congrArg Prod.fst e
      have en : m = n := congrArg Prod.snd e
      obtain ⟨h1, h2, h3⟩ := root_zc g
      rw [ea] at h1 h2
      refine ⟨h2, ?_⟩
      rw [h1, h3, ← en, ← eq_lin hz (hw _ hx).2]; exact hx
    · rw [if_neg hz] at e; cases e
  · rintro ⟨ha, hm⟩
    refine List.mem_filterMap.mpr ⟨_, hm, ?_⟩
    unfold rootOf
    rw [if_pos (lin_sz _)]
    obtain ⟨h1, h2, h3⟩ := root_zc (lin (zc p (a : Int)))
    have e : ((0 - (((lin (zc p (a : Int))).s 0).val : Int)) % (p : Int)).toNat = a := by
      rw [← h1] at h3
      generalize ((0 - (((lin (zc p (a : Int))).s 0).val : Int)) % (p : Int)).toNat = b at h2 h3 ⊢
      have h4 : zc p (b : Int) = zc p (a : Int) := by rw [h3, lin_s0]; grind
      have h5 : ((zc p (b : Int)).val : Int) = ((zc p (a : Int)).val : Int) := congrArg (fun x : Fin p => (x.val : Int)) h4
      rw [zc_val, zc_val, Int.emod_eq_of_lt (by omega) (by omega), Int.emod_eq_of_lt (by omega) (by omega)] at h5
      omega
    show some (_, n) = some (a, n)
    rw [e]
theorem roots_nd {R : List (Po p × Nat)} (hw : Wh R) (hn : (R.map (·.1)).Nodup) : ((R.filterMap rootOf).map (·.1)).Nodup := by
  rw [List.Nodup, List.pairwise_map] at hn ⊢
  rw [List.pairwise_filterMap]
  refine List.Pairwise.imp_of_mem (fun {x y} hx hy hne b hb b' hb' e => hne ?_) hn
  unfold rootOf at hb hb'
  by_cases hz : x.1.sz = 2
  · by_cases hz' : y.1.sz = 2
    · rw [if_pos hz] at hb
      rw [if_pos hz'] at hb'
      have hb := Option.some.inj hb
      have hb' := Option.some.inj hb'
      rw [← hb, ← hb'] at e
      have e : ((0 - ((x.1.s 0).val : Int)) % (p : Int)).toNat = ((0 - ((y.1.s 0).val : Int)) % (p : Int)).toNat := e
      obtain ⟨h1, _, h3⟩ := root_zc x.1
      obtain ⟨k1, _, k3⟩ := root_zc y.1
      rw [eq_lin hz (hw _ hx).2, eq_lin hz' (hw _ hy).2, ← h3, ← k3, ← h1, ← k1, e]
    · rw [if_neg hz'] at hb'; cases hb'
  · rw [if_neg hz] at hb; cases hb
end
section
variable {P : Program} {w : World} {K : PySem.W.Frag} {mg : Str → Option Value} {base : Heap}
def spRestRoots (c : Addr × Addr) : Sp := fun vs H Q _ => ∃ (p : Nat) (_ : Pr p) (f : Po p) (v : V), vs = [v, .int p] ∧ Rp K H v f ∧ f ≠ 0 ∧ f.sz ≤ 25 ∧ Tabs (lamT c) H ∧
  ∀ H' D ws (R : List (Po p × Nat)) (R2 : List (Nat × Nat)), ExtN H H' → Tabs (lamT c) H' → H' D = some (.lst ws) → Pis H' ws R2 → PartsOf f R → R2.Pairwise (fun x y => x.1 < y.1) → (∀ a n, (a, n) ∈ R2 ↔ a < p ∧ (lin (zc p (a : Int)), n) ∈ R) → Q (.ref D) H'
theorem ok_rest_roots {c : Addr × Addr} (T : Txt K mg) (TR : RkAt K mg base c) : DefK P w K mg base "rest_roots" 12 (spRestRoots (K := K) c) := by
  have d_parts := ok_parts (P := P) (w := w) (base := base) T TR
  refine def_okK T.d_rest_roots sc_rest_roots (fun _ _ _ _ _ _ _ _ => rfl) (fun vs H Q E h => ?_) (fun fa cdv A outer s H vs Q E hr h => ?_)
  · obtain ⟨p, _, f, v, rfl, _⟩ := h; rfl
  · obtain ⟨p, hp, f, v, rfl, hA, hf0, hf, hT, q⟩ := h
    have h2 := Pr.two p
    have h97 := Pr.le p
    refine ⟨_, (pss_cons (ps_set (i := 2) sc_rest_roots.nd rfl (Or.inl rfl) (pe_ix (r := rIxT K) ix_tup (pcallK d_parts hr rfl (pa_cons (pv 0) pa_nil) (pk_cons (pv 1) pk_nil)) pe_int (fun _ _ => rfl)))
      (pss_one (ps_ret (pe_callB (KX.cr_sortedKd hr.units) (by rfl) T.n_sorted (by decide +kernel) (pa_cons (pe_lc (own := [("part", 3), ("times", 4)]) (g := (gTup K 2 (gCons (gName 3) (gCons (gName 4) gNil)))) rfl sc_rest_roots.nd (pi_list (pv 2)) (blkOk_by (N := ["poly", "prime", "found", "part", "times"]) (sc := defScope s_rest_roots) (by decide +kernel)) (fun _ _ _ _ _ => (pg_tup rfl (pgs_cons (pg_name (i := 3) sc_rest_roots.nd rfl (Or.inl rfl)) (pgs_cons (pg_name (i := 4) sc_rest_roots.nd rfl (Or.inl rfl)) pgs_nil)))) (fun _ _ _ _ _ => (pts_one (pt_cmpR op_eq (pe_callB (len_of (K := K) rfl) (by rfl) T.n_len (by decide +kernel) (pa_cons (pv 3) pa_nil)) pe_int (nomark _)))) (fun _ _ _ _ _ => (pe_tup (pa_cons (pe_op op_mod (pe_op op_sub pe_int (pe_ix (r := rIxT K) ix_tup (pv 3) pe_int (fun _ _ => rfl))) (pv 1)) (pa_cons (pv 4) pa_nil))))) pa_nil))))), ?_⟩
    refine ⟨_, rfl, _, rfl, p, hp, f, v, rfl, hA, hf0, hf, hT, fun H1 t1 D1 ws n R e1 T1 ht1 _ hD1 hR hP _ => ?_⟩
    refine ⟨t1, _, 1, _, rfl, rfl, .inl (.inl ht1), atI_nat (j := 1) rfl, ?_⟩
    refine ⟨_, rfl, D1, rfl, ⟨_, .inl (.inl hD1)⟩, ?_⟩
    have hlenR := len_fpr hP.wh hP.pos
    have hR24 : R.length ≤ 25 := by
      obtain ⟨c, hc, hfp⟩ := hP.pr
      rw [hfp, (lead_sz hf0 hc).1] at hlenR; omega
    intro D2 nD2
    refine lc_it (walk_list (xs := ws)) (fun i H' => Same H1 H' ∧ ∃ ys, H' D2 = some (.lst ys) ∧ Pis H' ys ((R.take i).filterMap rootOf)) ⟨same_upd nD2, [], upd_same, by rw [List.take_zero]; exact Rl.nil⟩ (fun i H' _ h => .inl (.inl (h.1 _ _ hD1))) (fun i x H3 H3' hi hI hy => ?_) (fun H3 hI => ?_)
    · obtain ⟨s3, ys, hys, hPis⟩ := hI
      obtain ⟨rfl, hx⟩ := hy
      obtain ⟨⟨g, m⟩, hgR, hg⟩ := hR.at hx
      obtain ⟨t, vg, rfl, ht, ⟨ga, rfl, hga⟩⟩ := hg.tk (Same.tk s3)
      have hlys : ys.length ≤ 100 := by
        rw [hPis.1]
        have := List.length_filterMap_le rootOf (R.take i)
        rw [List.length_take] at this; omega
      have htk : R.take (i + 1) = R.take i ++ [(g, m)] := by rw [List.take_add_one, hgR]; rfl
      refine ⟨t, [.ref ga, .int (m : Int)], rfl, .inl (.inl ht), rfl, .ref ga, [.int (m : Int)], rfl, .int (m : Int), [], rfl, rfl, rfl, ?_⟩
      refine ⟨_, rfl, ga, _, rfl, .inr (.inl (.inl hga)), rfl, _, rfl, ?_⟩
      have lG : ((lst g).map V.int).length = g.sz := by rw [List.length_map, lst_len]
      by_cases hz : g.sz = 2
      · rw [decide_eq_true (show V.int (((lst g).map V.int).length : Int) = V.int 2 from congrArg V.int (by omega))]
        refine iteT ?_
        have h0 : ((lst g).map V.int)[0]? = some (.int ((g.s 0).val : Int)) := map_get (lst_get (by omega))
        refine ⟨_, rfl, ga, _, 0, _, rfl, rfl, .inl (.inl hga), atI_nat (j := 0) h0, _, _, rfl, rfl, _, rfl, _, _, rfl, rfl, by show (0 : Int) < (p : Int); omega, _, rfl, line_of (by show 2 ≤ 100000; decide), fun t5 n5 => ?_⟩
        obtain ⟨r1, r2, r3⟩ := root_zc g
        have s5 := same_upd (o := .tup [.int ((0 - ((g.s 0).val : Int)) % (p : Int)), .int (m : Int)]) n5
        have hys5 := s5 _ _ hys
        refine ⟨ys, hys5, line_lt (by omega), same_mut (s3.trans s5) nD2, ys ++ [.ref t5], upd_same, ?_⟩
        have tk6 := Tk.trans (Same.tk s5) (tk_lst (o := .lst (ys ++ [V.ref t5])) hys5)
        rw [htk, List.filterMap_append]
        have er : [(g, m)].filterMap rootOf = [(((0 - ((g.s 0).val : Int)) % (p : Int)).toNat, m)] := by
          have e0 : rootOf (g, m) = some (((0 - ((g.s 0).val : Int)) % (p : Int)).toNat, m) := by unfold rootOf; rw [if_pos hz]
          rw [List.filterMap_cons_some e0]; rfl
        rw [er]
        refine (Pis.tk hPis tk6).snoc ⟨t5, rfl, (tk_lst (o := .lst (ys ++ [V.ref t5])) hys5 t5).1 _ ?_⟩
        rw [upd_same, r1]
      · rw [decide_eq_false (show ¬ V.int (((lst g).map V.int).length : Int) = V.int 2 from fun z => hz (by have := V.int.inj z; omega))]
        refine iteF ⟨s3, ys, hys, ?_⟩
        rw [htk, List.filterMap_append]
        have er : [(g, m)].filterMap rootOf = [] := by
          have e0 : rootOf (g, m) = none := by unfold rootOf; rw [if_neg hz]
          rw [List.filterMap_cons_none e0]; rfl
        rw [er, List.append_nil]; exact hPis
    · obtain ⟨s3, ys, hys, hPis⟩ := hI
      rw [hR.1, List.take_of_length_le (Nat.le_refl _)] at hPis
      have hch : ∀ x : V, ∃ y : Nat × Nat, x ∈ ys → Pi H3 x y := fun x => by
        by_cases hx : x ∈ ys
        · obtain ⟨z, _, hz⟩ := Rl.mem hPis hx
          exact ⟨z, fun _ => hz⟩
        · exact ⟨(0, 0), fun h => absurd h hx⟩
      obtain ⟨F, hF⟩ := Classical.axiomOfChoice hch
      have hFk : ∀ x y, x ∈ ys → Pi H3 x y → F x = y := fun x y hx h => by
        obtain ⟨t, rfl, ht⟩ := hF x hx
        obtain ⟨t', e', ht'⟩ := h
        cases e'
        rw [ht] at ht'
        have := Option.some.inj ht'
        injection this with this
        injection this with h1 h2
        injection h2 with h2 _
        have e1 := V.int.inj h1
        have e2 := V.int.inj h2
        exact Prod.ext (by omega) (by omega)
      refine ⟨D2, ys, fun x => [.inl ((F x).1 : Int), .inl ((F x).2 : Int)], rfl, .inl (.inl hys), fun x hx => ?_, fun x hx y hy => ⟨fun _ _ => trivial, rfl⟩, fun zs D hpw hperm nD => ?_⟩
      · obtain ⟨t, rfl, ht⟩ := hF x hx
        exact ⟨⟨t, rfl⟩, .tup (.inl (.inl ht)) (.cons (.int _) (.cons (.int _) .nil)), _, _, rfl⟩
      · obtain ⟨R2, hR2, hzs⟩ := Rl.perm hPis hperm
        have sD := same_upd (o := .lst zs) nD
        have hnd2 : (R2.map (·.1)).Nodup := (hR2.map _).nodup_iff.mpr (roots_nd hP.wh hP.nd)
        refine q _ D zs R R2 (e1.trans (same_extN (s3.trans sD))) (T1.ext (s3.trans sD)) upd_same (Pis.tk hzs (Same.tk sD)) hP ?_ fun a n => by rw [hR2.mem_iff]; exact mem_roots hP.wh
        rw [List.pairwise_iff_getElem]
        rw [List.pairwise_iff_getElem] at hpw
        intro i j hi hj hij
        have hi2 : i < zs.length := by rw [hzs.1]; exact hi
        have hj2 : j < zs.length := by rw [hzs.1]; exact hj
        have h1 := hpw i j hi2 hj2 hij
        have key : ∀ (i : Nat) (hi : i < R2.length) (hi2 : i < zs.length), F zs[i] = R2[i] := fun i hi hi2 => by
          obtain ⟨x, hx, hpx⟩ := hzs.at (List.getElem?_eq_getElem hi2)
          rw [List.getElem?_eq_getElem hi] at hx
          rw [Option.some.inj hx]
          exact hFk _ _ (hperm.mem_iff.mp (List.getElem_mem hi2)) hpx
        have h2 : KX.lexL [((F zs[j]).1 : Int), ((F zs[j]).2 : Int)] [((F zs[i]).1 : Int), ((F zs[i]).2 : Int)] = false := h1
        rw [key i hi hi2, key j hj hj2] at h2
        have hne : (R2[i]).1 ≠ (R2[j]).1 := fun e => by
          rw [List.Nodup, List.pairwise_map, List.pairwise_iff_getElem] at hnd2
          exact hnd2 i j hi hj hij e
        apply Classical.byContradiction; intro hlt
        have h3 : KX.lexL [((R2[j]).1 : Int), ((R2[j]).2 : Int)] [((R2[i]).1 : Int), ((R2[i]).2 : Int)] = true := by
          show (if ((R2[j]).1 : Int) = ((R2[i]).1 : Int) then _ else decide (((R2[j]).1 : Int) < ((R2[i]).1 : Int))) = true
          rw [if_neg (by omega)]
          exact decide_eq_true (by omega)
        rw [h3] at h2; cases h2
end
end KW
end

section
set_option Elab.async false
set_option linter.all false
set_option maxRecDepth 100000
set_option maxHeartbeats 4000000
namespace KW
open PySem PySem.Spec PyProof.Rows L2 K10 K10.Po LamX
theorem seq_of {tA tB : TS} {E : Ends} {σ : L2.St} {H : Hp} (I : L2.St → Hp → Prop) (h2 : ∀ σ H, I σ H → tB E σ H) (h1 : ∀ nx : L2.St → Hp → Prop, (∀ σ H, I σ H → nx σ H) → tA { E with nx := nx } σ H) : tSeq tA tB E σ H := h1 _ h2
theorem rix_of {K : PySem.W.Frag} {H : Hp} {D : Addr} {xs : List V} {k : Nat} {v : V} {Q : VK} (hD : H D = some (.lst xs)) (h : xs[k]? = some v) (q : Q v H) : rIxL K (.ref D) (.int (k : Int)) H Q := ⟨D, xs, k, v, rfl, rfl, .inl (.inl hD), atI_nat h, q⟩
theorem But.refl (D : Addr) (H : Hp) : But D H H := fun _ _ _ h => h
theorem But.tk {D : Addr} {H H' : Hp} {xs : List V} (b : But D H H') (hD : H D = some (.lst xs)) : Tk H H' := fun a => ⟨fun ys h => b a (ne_of h hD (by intro z; cases z)) _ h, fun o u h => b a (ne_of h hD (by intro z; cases z)) _ h⟩
/-- the draw: the script, the place, the big number, the seed -/
def Dr (H : Hp) (D S : Addr) (ns : List Int) : Prop := ∃ (idx : Nat) (big seed : Int), H D = some (.lst [.ref S, .int (idx : Int), .int big, .int seed]) ∧ H S = some (.lst (ns.map V.int)) ∧ S ≠ D ∧ idx ≤ ns.length ∧ 0 ≤ big ∧ 0 ≤ seed ∧ seed < 2147483647
theorem Dr.lst {H : Hp} {D S : Addr} {ns : List Int} (d : Dr H D S ns) : ∃ xs, H D = some (.lst xs) := let ⟨_, _, _, h, _⟩ := d; ⟨_, h⟩
theorem Dr.same {H H' : Hp} {D S : Addr} {ns : List Int} (d : Dr H D S ns) (s : Same H H') : Dr H' D S ns := let ⟨i, b, e, h1, h2, h3⟩ := d; ⟨i, b, e, s _ _ h1, s _ _ h2, h3⟩
theorem Dr.ext {H H' : Hp} {D S : Addr} {ns : List Int} (d : Dr H D S ns) (s : ExtN H H') : Dr H' D S ns := let ⟨i, b, e, h1, h2, h3⟩ := d; ⟨i, b, e, s _ _ h1 (fun ps z => by cases z), s _ _ h2 (fun ps z => by cases z), h3⟩
section
variable {P : Program} {w : World} {K : PySem.W.Frag} {mg : Str → Option Value} {base : Heap}
def spTake : Sp := fun vs H Q _ => ∃ (D S : Addr) (ns : List Int) (m : Int), vs = [.ref D, .int m] ∧ Dr H D S ns ∧ ns.length ≤ 63 ∧ 1 ≤ m ∧ m ≤ 1000 ∧ ∀ H' (r : Int), But D H H' → Dr H' D S ns → 0 ≤ r → r < m → Q (.int r) H'
theorem ok_law_take (T : Txt K mg) : DefOk P w K mg base "_law_take" 1 ["_law_draw", "_law_sides"] (spTake) := by
  refine def_ok T.d_law_take sc_law_take (fun _ _ _ _ _ _ us hl => match us, hl with | [_, _], _ => rfl) (fun vs H Q E h => ?_) (fun f cdv A outer s H vs Q E hr h => ?_)
  · obtain ⟨D, S, ns, m, rfl, _⟩ := h; rfl
  · obtain ⟨D, S, ns, m, rfl, hDr, hns, hm1, hm2, q⟩ := h
    refine ⟨_, (pss_cons (ps_if (PW.pt (pw_and (pt_cmpR op_lt (pe_ix (r := rIxL K) ix_list (pv 0) pe_int (fun _ _ => rfl)) (pv 1) (nomark _)) (pw_and1 (pt_cmpR op_lt (pe_ix (r := rIxL K) ix_list (pv 0) pe_int (fun _ _ => rfl)) (pe_callB call_len_seq (by rfl) T.n_len (by decide +kernel) (pa_cons (pe_ix (r := rIxL K) ix_list (pv 0) pe_int (fun _ _ => rfl)) pa_nil)) (nomark _)))))
        (pss_cons (ps_set (i := 2) sc_law_take.nd rfl (Or.inl rfl) (pe_ix (r := rIxL K) ix_list (pe_ix (r := rIxL K) ix_list (pv 0) pe_int (fun _ _ => rfl)) (pe_ix (r := rIxL K) ix_list (pv 0) pe_int (fun _ _ => rfl)) (fun _ _ => rfl)))
        (pss_cons (ps_asg (pe_op op_add (pe_ix (r := rIxL K) ix_list (pv 0) pe_int (fun _ _ => rfl)) pe_int) (pg_sub (pv 0) pe_int set_list))
        (pss_cons (ps_asg pe_int (pg_sub (pv 0) pe_int set_list))
        (pss_one (ps_if (pt_cmpR op_ge (pe_callB call_abs (by rfl) T.n_abs (by decide +kernel) (pa_cons (pv 2) pa_nil)) (pe_op op_pow pe_int pe_int) (nomark _))
          (pss_one (ps_asg (pe_callB call_abs (by rfl) T.n_abs (by decide +kernel) (pa_cons (pv 2) pa_nil)) (pg_sub (pv 0) pe_int set_list)))
          (pss_one (ps_asg (pe_op op_mod (pe_op op_add (pe_op op_add (pe_op op_mul (pe_ix (r := rIxL K) ix_list (pv 0) pe_int (fun _ _ => rfl)) pe_int) (pe_op op_mul (pe_op op_mod (pv 2) pe_int) pe_int)) pe_int) pe_int) (pg_sub (pv 0) pe_int set_list))))))))
        pss_nil)
      (pss_cons (ps_if (pt_cmpR op_ge (pe_ix (r := rIxL K) ix_list (pv 0) pe_int (fun _ _ => rfl)) (pv 1) (nomark _))
        (pss_cons (ps_set (i := 3) sc_law_take.nd rfl (Or.inl rfl) (pe_op op_mod (pe_ix (r := rIxL K) ix_list (pv 0) pe_int (fun _ _ => rfl)) (pv 1)))
        (pss_cons (ps_asg (pe_op op_fdiv (pe_ix (r := rIxL K) ix_list (pv 0) pe_int (fun _ _ => rfl)) (pv 1)) (pg_sub (pv 0) pe_int set_list))
        (pss_one (ps_ret (pv 3)))))
        pss_nil)
      (pss_cons (ps_asg (pe_op op_mod (pe_op op_add (pe_op op_add (pe_op op_mul (pe_op op_mod (pe_op op_mul (pe_ix (r := rIxL K) ix_list (pv 0) pe_int (fun _ _ => rfl)) (pe_ix (r := rIxL K) ix_list (pv 0) pe_int (fun _ _ => rfl))) pe_int) pe_int) (pe_op op_mul (pe_ix (r := rIxL K) ix_list (pv 0) pe_int (fun _ _ => rfl)) pe_int)) pe_int) pe_int) (pg_sub (pv 0) pe_int set_list))
      (pss_one (ps_ret (pe_op op_mod (pe_op op_add (pe_op op_fdiv (pe_ix (r := rIxL K) ix_list (pv 0) pe_int (fun _ _ => rfl)) pe_int) (pe_op op_mul (pe_op op_mod (pe_ix (r := rIxL K) ix_list (pv 0) pe_int (fun _ _ => rfl)) pe_int) pe_int)) (pv 1))))))), ?_⟩
    refine seq_of (fun σ H1 => ∃ x2 x3, σ = [some (.ref D), some (.int m), x2, x3] ∧ But D H H1 ∧ Dr H1 D S ns) (fun σ H1 hI => ?_) fun nx hnx => ?_
    · obtain ⟨x2, x3, rfl, hb, idx, big, seed, hD, hS, hne, hidx, hbig, hs0, hs1⟩ := hI
      refine ⟨_, rfl, D, _, 2, _, rfl, rfl, .inl (.inl hD), atI_nat (j := 2) rfl, ⟨_, rfl, _, _, rfl, rfl, _, rfl, ?_⟩⟩
      by_cases hc : m ≤ big
      · rw [decide_eq_true hc]
        refine iteT ?_
        refine ⟨_, rfl, D, _, 2, _, rfl, rfl, .inl (.inl hD), atI_nat (j := 2) rfl, ⟨_, rfl, _, _, rfl, rfl, by show (0 : Int) < m; omega, ?_⟩⟩
        refine ⟨_, rfl, D, _, 2, _, rfl, rfl, .inl (.inl hD), atI_nat (j := 2) rfl, ⟨_, rfl, _, _, rfl, rfl, ⟨by omega, by omega⟩, ?_⟩⟩
        refine ⟨_, rfl, D, _, 2, 2, rfl, rfl, hD, rfl, ?_⟩
        refine ⟨_, rfl, q _ _ (hb.trans (But.upd D _ _)) ⟨idx, big / m, seed, upd_same, by rw [upd_ne hne]; exact hS, hne, hidx, Int.ediv_nonneg hbig (by omega), hs0, hs1⟩ (Int.emod_nonneg _ (by omega)) (Int.emod_lt_of_pos _ (by omega))⟩
      · rw [decide_eq_false hc]
        refine iteF ?_
        have hss : seed * seed < 2147483647 * 2147483647 := by
          have := Int.mul_le_mul (show seed ≤ 2147483646 by omega) (show seed ≤ 2147483646 by omega) hs0 (by omega)
          omega
        refine ⟨_, rfl, D, _, 3, _, rfl, rfl, .inl (.inl hD), atI_nat (j := 3) rfl, ⟨_, rfl, D, _, 3, _, rfl, rfl, .inl (.inl hD), atI_nat (j := 3) rfl, ⟨_, _, rfl, rfl, .inl ⟨by omega, by omega⟩, _, _, rfl, rfl, by show (0 : Int) < 2147483629; decide, _, _, rfl, rfl, .inr ⟨by decide, by decide⟩, _, rfl, D, _, 3, _, rfl, rfl, .inl (.inl hD), atI_nat (j := 3) rfl, ⟨_, _, rfl, rfl, .inr ⟨by decide, by decide⟩, _, _, rfl, rfl, _, _, rfl, rfl, _, _, rfl, rfl, by show (0 : Int) < 2147483647; decide, ?_⟩⟩⟩⟩
        refine ⟨_, rfl, D, _, 3, 3, rfl, rfl, hD, rfl, ?_⟩
        have hz0 : 0 ≤ ((seed * seed % 2147483629 * 5 + seed * 16811 + 2531011) % 2147483647) := Int.emod_nonneg _ (by omega)
        have hz1 : ((seed * seed % 2147483629 * 5 + seed * 16811 + 2531011) % 2147483647) < 2147483647 := Int.emod_lt_of_pos _ (by omega)
        have eD : (upd H1 D (.lst ([V.ref S, .int (idx : Int), .int big, .int seed].set 3 (.int ((seed * seed % 2147483629 * 5 + seed * 16811 + 2531011) % 2147483647))))) D = some (.lst [.ref S, .int (idx : Int), .int big, .int ((seed * seed % 2147483629 * 5 + seed * 16811 + 2531011) % 2147483647)]) := upd_same
        have eS : (upd H1 D (.lst ([V.ref S, .int (idx : Int), .int big, .int seed].set 3 (.int ((seed * seed % 2147483629 * 5 + seed * 16811 + 2531011) % 2147483647))))) S = some (.lst (ns.map V.int)) := by rw [upd_ne hne]; exact hS
        have b2 := hb.trans (But.upd D H1 (.lst ([V.ref S, .int (idx : Int), .int big, .int seed].set 3 (.int ((seed * seed % 2147483629 * 5 + seed * 16811 + 2531011) % 2147483647)))))
        refine ⟨_, rfl, D, _, 3, _, rfl, rfl, .inl (.inl eD), atI_nat (j := 3) rfl, ⟨_, _, rfl, rfl, ⟨by decide, by decide⟩, _, rfl, D, _, 3, _, rfl, rfl, .inl (.inl eD), atI_nat (j := 3) rfl, ⟨_, _, rfl, rfl, by show (0 : Int) < 8191; decide, _, _, rfl, rfl, .inr ⟨by decide, by decide⟩, _, _, rfl, rfl, _, rfl, _, _, rfl, rfl, by show (0 : Int) < m; omega, ?_⟩⟩⟩
        exact q _ _ b2 ⟨idx, big, ((seed * seed % 2147483629 * 5 + seed * 16811 + 2531011) % 2147483647), eD, eS, hne, hidx, hbig, hz0, hz1⟩ (Int.emod_nonneg _ (by omega)) (Int.emod_lt_of_pos _ (by omega))
    · obtain ⟨idx, big, seed, hD, hS, hne, hidx, hbig, hs0, hs1⟩ := hDr
      have keep : nx [some (.ref D), some (.int m), none, none] H := hnx _ _ ⟨none, none, rfl, But.refl D H, idx, big, seed, hD, hS, hne, hidx, hbig, hs0, hs1⟩
      refine ⟨_, rfl, D, _, 2, _, rfl, rfl, .inl (.inl hD), atI_nat (j := 2) rfl, ⟨_, rfl, _, _, rfl, rfl, _, rfl, ?_⟩⟩
      by_cases hc : big < m
      · rw [decide_eq_true hc]
        refine iteT ?_
        refine ⟨_, rfl, D, _, 1, _, rfl, rfl, .inl (.inl hD), atI_nat (j := 1) rfl, ⟨_, rfl, D, _, 0, _, rfl, rfl, .inl (.inl hD), atI_nat (j := 0) rfl, ⟨S, _, rfl, .inl (.inl (.inl hS)), _, _, rfl, rfl, _, rfl, ?_⟩⟩⟩
        by_cases hi : idx < ns.length
        · rw [decide_eq_true (show (idx : Int) < ((ns.map V.int).length : Int) by rw [List.length_map]; omega)]
          refine iteT ?_
          obtain ⟨cell, hcell⟩ : ∃ cell, ns[idx]? = some cell := ⟨_, List.getElem?_eq_getElem hi⟩
          refine ⟨_, rfl, D, _, 0, _, rfl, rfl, .inl (.inl hD), atI_nat (j := 0) rfl, ⟨_, rfl, D, _, 1, _, rfl, rfl, .inl (.inl hD), atI_nat (j := 1) rfl, S, _, (idx : Int), _, rfl, rfl, .inl (.inl hS), atI_nat (map_get hcell), ?_⟩⟩
          -- the place
          refine ⟨_, rfl, D, _, 1, _, rfl, rfl, .inl (.inl hD), atI_nat (j := 1) rfl, ⟨_, _, rfl, rfl, ?_⟩⟩
          refine ⟨_, rfl, D, _, 1, 1, rfl, rfl, hD, rfl, ?_⟩
          have eD : (upd H D (.lst ([V.ref S, .int (idx : Int), .int big, .int seed].set 1 (.int ((idx : Int) + 1))))) D = some (.lst [.ref S, .int ((idx + 1 : Nat) : Int), .int big, .int seed]) := upd_same
          have eS : (upd H D (.lst ([V.ref S, .int (idx : Int), .int big, .int seed].set 1 (.int ((idx : Int) + 1))))) S = some (.lst (ns.map V.int)) := by rw [upd_ne hne]; exact hS
          have b1 := But.upd D H (.lst ([V.ref S, .int (idx : Int), .int big, .int seed].set 1 (.int ((idx : Int) + 1))))
          generalize hH1 : upd H D (.lst ([V.ref S, .int (idx : Int), .int big, .int seed].set 1 (.int ((idx : Int) + 1)))) = H1 at eD eS b1
          refine ⟨_, rfl, D, _, 2, 2, rfl, rfl, eD, rfl, ?_⟩
          have eD2 : (upd H1 D (.lst ([V.ref S, .int ((idx + 1 : Nat) : Int), .int big, .int seed].set 2 (.int 0)))) D = some (.lst [.ref S, .int ((idx + 1 : Nat) : Int), .int 0, .int seed]) := upd_same
          have eS2 : (upd H1 D (.lst ([V.ref S, .int ((idx + 1 : Nat) : Int), .int big, .int seed].set 2 (.int 0)))) S = some (.lst (ns.map V.int)) := by rw [upd_ne hne]; exact eS
          have b2 := b1.trans (But.upd D H1 (.lst ([V.ref S, .int ((idx + 1 : Nat) : Int), .int big, .int seed].set 2 (.int 0))))
          generalize hH2 : upd H1 D (.lst ([V.ref S, .int ((idx + 1 : Nat) : Int), .int big, .int seed].set 2 (.int 0))) = H2 at eD2 eS2 b2
          refine ⟨_, rfl, _, rfl, _, _, rfl, rfl, ⟨by decide, by decide, by decide⟩, _, _, rfl, rfl, _, rfl, ?_⟩
          refine ite2 (fun _ => ?_) (fun _ => ?_)
          · refine ⟨_, rfl, _, rfl, _, rfl, D, _, 2, 2, rfl, rfl, eD2, rfl, ?_⟩
            refine hnx _ _ ⟨_, _, rfl, b2.trans (But.upd D _ _), idx + 1, if cell < 0 then -cell else cell, seed, upd_same, by rw [upd_ne hne]; exact eS2, hne, hi, ?_, hs0, hs1⟩
            split <;> omega
          · refine ⟨_, rfl, D, _, 3, _, rfl, rfl, .inl (.inl eD2), atI_nat (j := 3) rfl, ⟨_, _, rfl, rfl, .inr ⟨by decide, by decide⟩, _, rfl, _, _, rfl, rfl, by show (0 : Int) < 2147483629; decide, _, _, rfl, rfl, .inr ⟨by decide, by decide⟩, _, _, rfl, rfl, _, _, rfl, rfl, _, _, rfl, rfl, by show (0 : Int) < 2147483647; decide, ?_⟩⟩
            refine ⟨_, rfl, D, _, 3, 3, rfl, rfl, eD2, rfl, ?_⟩
            refine hnx _ _ ⟨_, _, rfl, b2.trans (But.upd D _ _), idx + 1, 0, _, upd_same, by rw [upd_ne hne]; exact eS2, hne, hi, Int.le_refl _, Int.emod_nonneg _ (by decide), Int.emod_lt_of_pos _ (by decide)⟩
        · rw [decide_eq_false (show ¬ (idx : Int) < ((ns.map V.int).length : Int) by rw [List.length_map]; omega)]
          exact iteF keep
      · rw [decide_eq_false hc]
        exact iteF (iteF keep)
end
end KW
end

section
set_option Elab.async false
set_option linter.all false
set_option maxRecDepth 100000
set_option maxHeartbeats 4000000
namespace KW
open PySem PySem.Spec PyProof.Rows L2 K10 K10.Po LamX
section
variable {P : Program} {w : World} {K : PySem.W.Frag} {mg : Str → Option Value} {base : Heap}
def spBegin : Sp := fun vs H Q _ => ∃ (a : Addr) (ns : List Int), vs = [.ref a] ∧ SqL K H a (ns.map V.int) ∧ ∀ H' D S, Same H H' → H D = none → Dr H' D S (ns.take 63) → Q (.ref D) H'
theorem ok_law_begin (T : Txt K mg) : DefOk P w K mg base "_law_begin" 1 ["_law_script"] (spBegin (K := K)) := by
  refine def_ok T.d_law_begin sc_law_begin (fun _ _ _ _ _ _ us hl => match us, hl with | [_], _ => rfl) (fun vs H Q E h => ?_) (fun f cdv A outer s H vs Q E hr h => ?_)
  · obtain ⟨a, ns, rfl, _⟩ := h; rfl
  · obtain ⟨a, ns, rfl, hA, q⟩ := h
    refine ⟨_, (pss_one (ps_ret (pe_lst (pa_cons (pe_callTy call_list_of (by rfl) T.n_list (by decide +kernel) (pa_cons (pe_slice sl_list (pv 0) po_none (po_some pe_int)) pa_nil)) (pa_cons pe_int (pa_cons pe_int (pa_cons pe_int pa_nil))))))), ?_⟩
    refine ⟨_, rfl, 63, rfl, a, _, rfl, hA, fun c nc => ?_⟩
    have ec : cutV (ns.map V.int) none (some (63 : Int)) = (ns.take 63).map V.int := by
      rw [show (63 : Int) = ((63 : Nat) : Int) from rfl, cutV_take, List.map_take]
    rw [ec]
    have sc := same_upd (o := .lst ((ns.take 63).map V.int)) nc
    refine ⟨c, _, rfl, .inl (.inl (.inl upd_same)), fun S nS => ?_⟩
    have sS := sc.trans (same_upd (o := .lst ((ns.take 63).map V.int)) nS)
    refine ⟨line_of (by show 4 ≤ 100000; decide), fun D nD => ?_⟩
    have sD := sS.trans (same_upd (o := .lst [.ref S, .int 0, .int 0, .int 37]) nD)
    refine q _ D S sD (sS.free nD) ⟨0, 0, 37, upd_same, ?_, (fun z => by rw [← z, upd_same] at nD; cases nD), Nat.zero_le _, by omega, by omega, by omega⟩
    rw [upd_ne (fun z => by rw [← z, upd_same] at nD; cases nD), upd_same]
def spOf : Sp := fun vs H Q _ => ∃ (D S r : Addr) (ns : List Int) (xs : List V), vs = [.ref D, .ref r] ∧ Dr H D S ns ∧ ns.length ≤ 63 ∧ H r = some (.lst xs) ∧ r ≠ D ∧ 1 ≤ xs.length ∧ xs.length ≤ 1000 ∧ ∀ H' x, But D H H' → Dr H' D S ns → x ∈ xs → Q x H'
theorem ok_law_of (T : Txt K mg) : DefOk P w K mg base "_law_of" 2 ["_law_draw", "_law_row"] (spOf) := by
  have d_law_take := ok_law_take (P := P) (w := w) (base := base) T
  refine def_ok T.d_law_of sc_law_of (fun _ _ _ _ _ _ us hl => match us, hl with | [_, _], _ => rfl) (fun vs H Q E h => ?_) (fun f cdv A outer s H vs Q E hr h => ?_)
  · obtain ⟨D, S, r, ns, xs, rfl, _⟩ := h; rfl
  · obtain ⟨D, S, r, ns, xs, rfl, hDr, hns, hr1, hne, h1, h2, q⟩ := h
    refine ⟨_, (pss_one (ps_ret (pe_ix (r := rIxL K) ix_list (pv 1) (pcall d_law_take hr rfl (pa_cons (pv 0) (pa_cons (pe_callB call_len_seq (by rfl) T.n_len (by decide +kernel) (pa_cons (pv 1) pa_nil)) pa_nil))) (fun _ _ => rfl)))), ?_⟩
    refine ⟨_, rfl, _, rfl, _, rfl, r, _, rfl, .inl (.inl (.inl hr1)), D, S, ns, _, rfl, hDr, hns, by omega, by omega, fun H' i hb hDr' hi0 hi1 => ?_⟩
    have hr2 := hb r hne _ hr1
    obtain ⟨k, rfl⟩ : ∃ k : Nat, i = (k : Int) := ⟨i.toNat, by omega⟩
    obtain ⟨x, hx⟩ : ∃ x, xs[k]? = some x := ⟨_, List.getElem?_eq_getElem (by omega)⟩
    exact ⟨r, _, (k : Int), _, rfl, rfl, .inl (.inl hr2), atI_nat hx, q H' x hb hDr' (List.mem_of_getElem? hx)⟩
def primesI : List Int := [2, 3, 5, 7, 11, 13, 17, 19, 23, 29, 31, 37, 41, 43, 47, 53, 59, 61, 67, 71, 73, 79, 83, 89, 97]
def spPrimes : Sp := fun vs H Q _ => vs = [] ∧ ∀ a, H a = none → Q (.ref a) (upd H a (.lst (primesI.map V.int)))
theorem ok_law_primes (T : Txt K mg) : DefOk P w K mg base "_law_primes" 1 [] (spPrimes) := by
  refine def_ok T.d_law_primes sc_law_primes (fun _ _ _ _ _ _ us hl => match us, hl with | [], _ => rfl) (fun vs H Q E h => ?_) (fun f cdv A outer s H vs Q E hr h => ?_)
  · obtain ⟨rfl, _⟩ := h; rfl
  · obtain ⟨rfl, q⟩ := h
    refine ⟨_, pss_one (ps_ret (pe_lst (pa_cons pe_int (pa_cons pe_int (pa_cons pe_int (pa_cons pe_int (pa_cons pe_int (pa_cons pe_int (pa_cons pe_int (pa_cons pe_int (pa_cons pe_int (pa_cons pe_int (pa_cons pe_int (pa_cons pe_int (pa_cons pe_int (pa_cons pe_int (pa_cons pe_int (pa_cons pe_int (pa_cons pe_int (pa_cons pe_int (pa_cons pe_int (pa_cons pe_int (pa_cons pe_int (pa_cons pe_int (pa_cons pe_int (pa_cons pe_int (pa_cons pe_int pa_nil))))))))))))))))))))))))))), ?_⟩
    exact ⟨line_of (by show 25 ≤ 100000; decide), fun a na => q a na⟩
theorem pr_of {x : Int} (h : x ∈ primesI) : ∃ p : Nat, Pr p ∧ x = (p : Int) := by
  have : ∀ x ∈ primesI, 0 ≤ x ∧ x.toNat ∈ primes := by decide +kernel
  obtain ⟨h0, h1⟩ := this x h
  exact ⟨x.toNat, ⟨h1⟩, by omega⟩
def spAnyPrime : Sp := fun vs H Q _ => ∃ (D S : Addr) (ns : List Int), vs = [.ref D] ∧ Dr H D S ns ∧ ns.length ≤ 63 ∧ ∀ H' (p : Nat), But D H H' → Dr H' D S ns → Pr p → Q (.int (p : Int)) H'
theorem ok_law_any_prime (T : Txt K mg) : DefOk P w K mg base "_law_any_prime" 3 ["_law_draw"] (spAnyPrime) := by
  have d_law_of := ok_law_of (P := P) (w := w) (base := base) T
  have d_law_primes := ok_law_primes (P := P) (w := w) (base := base) T
  refine def_ok T.d_law_any_prime sc_law_any_prime (fun _ _ _ _ _ _ us hl => match us, hl with | [_], _ => rfl) (fun vs H Q E h => ?_) (fun f cdv A outer s H vs Q E hr h => ?_)
  · obtain ⟨D, S, ns, rfl, _⟩ := h; rfl
  · obtain ⟨D, S, ns, rfl, hDr, hns, q⟩ := h
    refine ⟨_, (pss_one (ps_ret (pcall d_law_of hr rfl (pa_cons (pv 0) (pa_cons (pcall d_law_of hr rfl (pa_cons (pv 0) (pa_cons (pe_lst (pa_cons (pe_lst (pa_cons pe_int pa_nil)) (pa_cons (pe_lst (pa_cons pe_int (pa_cons pe_int (pa_cons pe_int pa_nil)))) (pa_cons (pe_lst (pa_cons pe_int (pa_cons pe_int pa_nil))) (pa_cons (pcall0 d_law_primes hr rfl) pa_nil))))) pa_nil))) pa_nil))))), ?_⟩
    obtain ⟨xD, hxD⟩ := hDr.lst
    refine ⟨_, rfl, _, rfl, line_of (by show 1 ≤ 100000; decide), fun l1 n1 => ⟨line_of (by show 3 ≤ 100000; decide), fun l2 n2 => ⟨line_of (by show 2 ≤ 100000; decide), fun l3 n3 => ⟨rfl, fun l4 n4 => ⟨line_of (by show 4 ≤ 100000; decide), fun l5 n5 => ?_⟩⟩⟩⟩⟩
    have s1 := same_upd (o := .lst [.int 2]) n1
    have s2 := same_upd (o := .lst [.int 3, .int 5, .int 7]) n2
    have s3 := same_upd (o := .lst [.int 2, .int 97]) n3
    have s4 := same_upd (o := .lst (primesI.map V.int)) n4
    have s5 := same_upd (o := .lst [.ref l1, .ref l2, .ref l3, .ref l4]) n5
    have e1 := (((s2.trans s3).trans s4).trans s5) l1 _ upd_same
    have e2 := ((s3.trans s4).trans s5) l2 _ upd_same
    have e3 := (s4.trans s5) l3 _ upd_same
    have e4 := s5 l4 _ upd_same
    have e5 : (upd (upd (upd (upd (upd H l1 (.lst [.int 2])) l2 (.lst [.int 3, .int 5, .int 7])) l3 (.lst [.int 2, .int 97])) l4 (.lst (primesI.map V.int))) l5 (.lst [.ref l1, .ref l2, .ref l3, .ref l4])) l5 = some (.lst [.ref l1, .ref l2, .ref l3, .ref l4]) := upd_same
    have s15 := (((s1.trans s2).trans s3).trans s4).trans s5
    have f1 : l1 ≠ D := fun z => by rw [z, hxD] at n1; cases n1
    have f2 : l2 ≠ D := fun z => by rw [z, s1 _ _ hxD] at n2; cases n2
    have f3 : l3 ≠ D := fun z => by rw [z, (s1.trans s2) _ _ hxD] at n3; cases n3
    have f4 : l4 ≠ D := fun z => by rw [z, ((s1.trans s2).trans s3) _ _ hxD] at n4; cases n4
    have f5 : l5 ≠ D := fun z => by rw [z, (((s1.trans s2).trans s3).trans s4) _ _ hxD] at n5; cases n5
    generalize hH1 : upd (upd (upd (upd (upd H l1 (.lst [.int 2])) l2 (.lst [.int 3, .int 5, .int 7])) l3 (.lst [.int 2, .int 97])) l4 (.lst (primesI.map V.int))) l5 (.lst [.ref l1, .ref l2, .ref l3, .ref l4]) = H1 at e1 e2 e3 e4 e5 s15
    refine ⟨D, S, l5, ns, _, rfl, hDr.same s15, hns, e5, f5, by show 1 ≤ 4; decide, by show 4 ≤ 1000; decide, fun H2 x b2 d2 hx => ?_⟩
    have row : ∃ (r : Addr) (ms : List Int), x = .ref r ∧ r ≠ D ∧ H1 r = some (.lst (ms.map V.int)) ∧ (∀ m ∈ ms, m ∈ primesI) ∧ 1 ≤ ms.length ∧ ms.length ≤ 1000 := by
      rcases List.mem_cons.mp hx with rfl | hx
      · exact ⟨l1, [2], rfl, f1, e1, by decide, by decide, by decide⟩
      rcases List.mem_cons.mp hx with rfl | hx
      · exact ⟨l2, [3, 5, 7], rfl, f2, e2, by decide, by decide, by decide⟩
      rcases List.mem_cons.mp hx with rfl | hx
      · exact ⟨l3, [2, 97], rfl, f3, e3, by decide, by decide, by decide⟩
      · rw [List.mem_singleton.mp hx]
        exact ⟨l4, primesI, rfl, f4, e4, fun m h => h, by decide, by decide⟩
    obtain ⟨r, ms, rfl, fr, er, hms, hl1, hl2⟩ := row
    refine ⟨D, S, r, ns, _, rfl, d2, hns, b2 r fr _ er, fr, by rw [List.length_map]; exact hl1, by rw [List.length_map]; exact hl2, fun H3 x b3 d3 hx => ?_⟩
    obtain ⟨m, hm, rfl⟩ := List.mem_map.mp hx
    obtain ⟨p, hp, rfl⟩ := pr_of (hms m hm)
    exact q H3 p ((But.of s15).trans (b2.trans b3)) d3 hp
def spLawRests : Sp := fun vs H Q _ => ∃ (p : Nat) (_ : Pr p) (D S : Addr) (ns : List Int) (m : Nat), vs = [.ref D, .int (m : Int), .int p] ∧ Dr H D S ns ∧ ns.length ≤ 63 ∧ m ≤ 100 ∧
  ∀ H' a rs, But D H H' → Dr H' D S ns → a ≠ D → H' a = some (.lst (rs.map V.int)) → Rests p rs → rs.length = m → Q (.ref a) H'
theorem ok_law_rests (T : Txt K mg) : DefOk P w K mg base "_law_rests" 2 ["_law_draw", "_law_many", "_law_p"] (spLawRests) := by
  have d_law_take := ok_law_take (P := P) (w := w) (base := base) T
  refine def_ok T.d_law_rests sc_law_rests (fun _ _ _ _ _ _ us hl => match us, hl with | [_, _, _], _ => rfl) (fun vs H Q E h => ?_) (fun f cdv A outer s H vs Q E hr h => ?_)
  · obtain ⟨p, _, D, S, ns, m, rfl, _⟩ := h; rfl
  · obtain ⟨p, hp, D, S, ns, m, rfl, hDr, hns, hm, q⟩ := h
    have h2 := Pr.two p
    have h97 := Pr.le p
    obtain ⟨xD, hxD⟩ := hDr.lst
    refine ⟨_, (pss_one (ps_ret (pe_lc (own := [("_law_k", 3)]) (g := (gName 3)) (tt := tYes) rfl sc_law_rests.nd (pi_range1 rfl T.n_range (pa_cons (pv 1) pa_nil)) (blkOk_by (N := ["_law_draw", "_law_many", "_law_p", "_law_k"]) (sc := defScope s_law_rests) (by decide +kernel)) (fun _ _ _ _ _ => (pg_name (i := 3) sc_law_rests.nd rfl (Or.inl rfl))) (fun _ _ _ _ _ => pts_nil) (fun _ _ _ _ _ => (pcall d_law_take hr rfl (pa_cons (pv 0) (pa_cons (pv 2) pa_nil))))))), ?_⟩
    refine ⟨_, rfl, (m : Int), rfl, by omega, by omega, ?_⟩
    rw [Int.toNat_natCast]
    intro D2 nD2
    have hne : D2 ≠ D := fun z => by rw [z, hxD] at nD2; cases nD2
    refine lc_it (n := m) walk_range (fun i H' => But D H H' ∧ Dr H' D S ns ∧ ∃ rs, H' D2 = some (.lst (rs.map V.int)) ∧ Rests p rs ∧ rs.length = i) ⟨But.of (same_upd nD2), hDr.same (same_upd nD2), [], upd_same, fun x hx => (nomatch hx), rfl⟩ (fun _ _ _ _ => trivial) (fun i x H3 H3' hi hI hy => ?_) (fun H3 hI => ?_)
    · obtain ⟨b3, d3, rs, hrs, hr1, hr2⟩ := hI
      obtain ⟨rfl, rfl⟩ := hy
      refine ⟨rfl, _, rfl, _, rfl, D, S, ns, (p : Int), rfl, d3, hns, by omega, by omega, fun H4 r b4 d4 h0 h1 => ?_⟩
      have hrs4 := b4 D2 hne _ hrs
      obtain ⟨i1, b1, e1, g1, g2, g3, g4⟩ := d4
      have hSD2 : S ≠ D2 := fun z => by
        obtain ⟨_, _, _, _, k2, _⟩ := hDr
        rw [z, nD2] at k2; cases k2
      refine ⟨_, hrs4, line_lt (by rw [List.length_map]; omega), ?_, ⟨i1, b1, e1, by rw [upd_ne (Ne.symm hne)]; exact g1, by rw [upd_ne hSD2]; exact g2, g3, g4⟩, rs ++ [r], ?_, ?_, by rw [List.length_append, hr2]; rfl⟩
      · intro a ha o h
        rw [upd_ne (fun z => by rw [z, nD2] at h; cases h)]
        exact b4 a ha _ (b3 a ha _ h)
      · rw [upd_same, List.map_append]; rfl
      · intro x hx
        rcases List.mem_append.mp hx with hx | hx
        · exact hr1 x hx
        · rw [List.mem_singleton.mp hx]; exact ⟨h0, h1⟩
    · obtain ⟨b3, d3, rs, hrs, hr1, hr2⟩ := hI
      exact q H3 D2 rs b3 d3 hne hrs hr1 hr2
def spLawLevel : Sp := fun vs H Q _ => ∃ (p : Nat) (_ : Pr p) (D S : Addr) (ns : List Int) (m : Nat), vs = [.ref D, .int (m : Int), .int p] ∧ Dr H D S ns ∧ ns.length ≤ 63 ∧ m ≤ 100 ∧
  ∀ H' v (f : Po p), But D H H' → Dr H' D S ns → Rs H' v f → Mo f → f.sz = m + 1 → Q v H'
theorem ok_law_level (T : Txt K mg) : DefOk P w K mg base "_law_level" 3 ["_law_draw", "_law_degree", "_law_p"] (spLawLevel) := by
  have d_law_rests := ok_law_rests (P := P) (w := w) (base := base) T
  refine def_ok T.d_law_level sc_law_level (fun _ _ _ _ _ _ us hl => match us, hl with | [_, _, _], _ => rfl) (fun vs H Q E h => ?_) (fun f cdv A outer s H vs Q E hr h => ?_)
  · obtain ⟨p, _, D, S, ns, m, rfl, _⟩ := h; rfl
  · obtain ⟨p, hp, D, S, ns, m, rfl, hDr, hns, hm, q⟩ := h
    have h2 := Pr.two p
    refine ⟨_, (pss_one (ps_ret (pe_callTy call_tuple_of (by rfl) T.n_tuple (by decide +kernel) (pa_cons (pe_op op_cat (pcall d_law_rests hr rfl (pa_cons (pv 0) (pa_cons (pv 1) (pa_cons (pv 2) pa_nil)))) (pe_lst (pa_cons pe_int pa_nil))) pa_nil)))), ?_⟩
    refine ⟨_, rfl, _, rfl, _, rfl, p, hp, D, S, ns, m, rfl, hDr, hns, hm, fun H1 a rs b1 d1 ha hrs hr1 hr2 => ?_⟩
    refine ⟨line_of (by show 1 ≤ 100000; decide), fun o no => ?_⟩
    have so := same_upd (o := .lst [.int 1]) no
    refine ⟨a, o, _, _, rfl, rfl, so _ _ hrs, upd_same, line_of (by rw [List.length_map]; show rs.length + 1 ≤ 100000; omega), fun c nc => ?_⟩
    have sc := so.trans (same_upd (o := .lst (rs.map V.int ++ [V.int 1])) nc)
    refine ⟨c, _, rfl, .inl ⟨.inl (.inl upd_same), fun t nt => ?_⟩⟩
    have st := sc.trans (same_upd (o := .tup (rs.map V.int ++ [V.int 1])) nt)
    have hR : Rests p (rs ++ [1]) := fun x hx => by
      rcases List.mem_append.mp hx with hx | hx
      · exact hr1 x hx
      · rw [List.mem_singleton.mp hx]; omega
    have hlast : (rs ++ [(1 : Int)]).getD (m + 1 - 1) 0 = 1 := by
      rw [List.getD_eq_getElem?_getD, Nat.add_sub_cancel, List.getElem?_append_right (by omega), hr2, Nat.sub_self]; rfl
    have hlen : (rs ++ [(1 : Int)]).length = m + 1 := by rw [List.length_append, hr2]; rfl
    have hcut := cut_lst (p := p) hR (m := m + 1) (by rw [hlen]; omega) (fun i hi => by rw [List.getD_eq_getElem?_getD, List.getElem?_eq_none (by rw [hlen]; omega)]; rfl) (.inr (by rw [hlast]; decide))
    rw [List.take_of_length_le (by rw [hlen]; omega)] at hcut
    have hsz : (pol p (rs ++ [1])).sz = m + 1 := by rw [← lst_len, ← hcut, hlen]
    refine q _ _ (pol p (rs ++ [1])) (b1.trans (But.of st)) (d1.same st) ⟨t, rfl, ?_⟩ ⟨fun z => by rw [z, sz_zero] at hsz; omega, ?_⟩ hsz
    · rw [upd_same, ← hcut, List.map_append]; rfl
    · rw [hsz, pol_ap, hlast]; exact zc_one
end
end KW
end

section
set_option Elab.async false
set_option linter.all false
set_option maxRecDepth 100000
set_option maxHeartbeats 4000000
namespace KW
open PySem PySem.Spec PyProof.Rows L2 K10 K10.Po LamX
def rListOf (K : PySem.W.Frag) : List V → Hp → VK → Prop := fun xs H Q => ∃ p ys, xs = [.ref p] ∧ (SqL K H p ys ∨ SqT K H p ys) ∧ ∀ l, H l = none → Q (.ref l) (upd H l (.lst ys))
theorem list_of {X : Cx} {K : PySem.W.Frag} (hK : X.K = K) : CallR X (.type "list") (rListOf K) := by subst hK; exact call_list_of
section
variable {P : Program} {w : World} {K : PySem.W.Frag} {mg : Str → Option Value} {base : Heap}
def spTrim : Sp := fun vs H Q _ => ∃ (p : Nat) (_ : Pr p) (a : Addr) (ns : List Int), vs = [.ref a] ∧ SqL K H a (ns.map V.int) ∧ Rests p ns ∧ ns.length ≤ 50000 ∧ ∀ H' v', Same H H' → Rs H' v' (pol p ns) → Q v' H'
theorem ok_law_trim (T : Txt K mg) : DefOk P w K mg base "_law_trim" 1 ["_law_numbers"] (spTrim (K := K)) := by
  refine def_ok T.d_law_trim sc_law_trim (fun _ _ _ _ _ _ us hl => match us, hl with | [_], _ => rfl) (fun vs H Q E h => ?_) (fun f cdv A outer s H vs Q E hr h => ?_)
  · obtain ⟨p, _, a, ns, rfl, _⟩ := h; rfl
  · obtain ⟨p, hp, a, ns, rfl, hA, hR, hlen, q⟩ := h
    refine ⟨_, (pss_cons (ps_set (i := 1) sc_law_trim.nd rfl (Or.inl rfl) (pe_callB call_len_seq (by rfl) T.n_len (by decide +kernel) (pa_cons (pv 0) pa_nil)))
      (pss_cons (ps_for PassesOwn.never rfl (pi_range1 rfl T.n_range (pa_cons (pe_callB call_len_seq (by rfl) T.n_len (by decide +kernel) (pa_cons (pv 0) pa_nil)) pa_nil)) (pg_name (i := 2) sc_law_trim.nd rfl (Or.inl rfl))
        (pss_one (ps_if (PW.pt (pw_and (pt_cmpR op_gt (pv 1) pe_int (nomark _)) (pw_and1 (pt_cmpR op_eq (pe_ix (r := rIxL K) ix_list (pv 0) (pe_op op_sub (pv 1) pe_int) (fun _ _ => rfl)) pe_int (nomark _)))))
          (pss_one (ps_set (i := 1) sc_law_trim.nd rfl (Or.inl rfl) (pe_op op_sub (pv 1) pe_int)))
          pss_nil)))
      (pss_one (ps_ret (pe_callTy call_tuple_of (by rfl) T.n_tuple (by decide +kernel) (pa_cons (pe_slice sl_list (pv 0) po_none (po_some (pv 1))) pa_nil)))))), ?_⟩
    have lN : ((ns.map V.int).length : Int) = (ns.length : Int) := by rw [List.length_map]
    refine ⟨_, rfl, a, _, rfl, .inl hA, ?_⟩
    refine ⟨_, rfl, a, _, rfl, .inl hA, ((ns.map V.int).length : Int), rfl, by omega, by omega, ?_⟩
    refine for_it (n := ns.length) (walk_range.mono (fun _ _ => trivial) (fun _ _ _ _ _ _ y => y) |> fun w => by rw [show ((ns.map V.int).length : Int).toNat = ns.length by rw [List.length_map]; simp]; exact w) (fun k σ H' => ∃ (m : Nat) (x2 : Option V), σ = [some (.ref a), some (.int (m : Int)), x2] ∧ H' = H ∧ m ≤ ns.length ∧ (∀ i, m ≤ i → ns.getD i 0 = 0) ∧ (ns.length - m = k ∨ m = 0 ∨ ns.getD (m - 1) 0 ≠ 0))
      ⟨ns.length, none, ?_, rfl, Nat.le_refl _, fun i hi => by rw [List.getD_eq_getElem?_getD, List.getElem?_eq_none hi]; rfl, .inl (by omega)⟩ (fun _ _ _ _ _ => trivial) (fun k x σ H4 H5 hk hP hy => ?_) (fun σ H' hP => ?_)
    · show [_, _, _] = [_, _, _]
      rw [show (V.int ((ns.map V.int).length : Int)) = V.int (ns.length : Int) from congrArg V.int lN]
    · obtain ⟨m, x2, rfl, rfl, hm, hz, hst⟩ := hP
      obtain ⟨rfl, rfl⟩ := hy
      refine ⟨_, rfl, _, _, rfl, rfl, _, rfl, ?_⟩
      by_cases h0 : 0 < m
      · rw [decide_eq_true (show (0 : Int) < (m : Int) by omega)]
        refine iteT ?_
        obtain ⟨n, hn⟩ : ∃ n, ns[m - 1]? = some n := ⟨_, List.getElem?_eq_getElem (by omega)⟩
        refine ⟨_, rfl, _, rfl, _, _, rfl, rfl, a, _, _, _, rfl, rfl, hA, at_of (j := m - 1) (by omega) (map_get hn), rfl, _, rfl, ?_⟩
        have hd : ns.getD (m - 1) 0 = n := by rw [List.getD_eq_getElem?_getD, hn]; rfl
        by_cases hn0 : n = 0
        · rw [decide_eq_true (congrArg V.int hn0)]
          refine iteT ?_
          refine ⟨_, rfl, _, _, rfl, rfl, m - 1, some (V.int (0 + (k : Int))), ?_, rfl, by omega, fun i hi => ?_, ?_⟩
          · show [some (V.ref a), some (V.int ((m : Int) - 1)), some (V.int (0 + (k : Int)))] = _
            rw [show V.int ((m : Int) - 1) = V.int ((m - 1 : Nat) : Int) from congrArg V.int (by omega)]
          · by_cases hi2 : i = m - 1
            · rw [hi2, hd, hn0]
            · exact hz i (by omega)
          · rcases hst with h | h | h
            · exact .inl (by omega)
            · omega
            · rw [hd] at h; exact absurd hn0 h
        · rw [decide_eq_false (fun z => hn0 (V.int.inj z))]
          exact iteF ⟨m, _, rfl, rfl, hm, hz, .inr (.inr (by rw [hd]; exact hn0))⟩
      · rw [decide_eq_false (show ¬ (0 : Int) < (m : Int) by omega)]
        exact iteF (iteF ⟨m, _, rfl, rfl, hm, hz, .inr (.inl (by omega))⟩)
    · obtain ⟨m, x2, rfl, rfl, hm, hz, hst⟩ := hP
      have ht : m = 0 ∨ ns.getD (m - 1) 0 ≠ 0 := by
        rcases hst with h | h
        · exact .inl (by omega)
        · exact h
      refine ⟨_, rfl, _, rfl, (m : Int), rfl, a, _, rfl, hA, fun c nc => ?_⟩
      rw [cutV_take]
      refine ⟨c, _, rfl, .inl ⟨.inl (.inl upd_same), fun l nl => ?_⟩⟩
      refine q _ _ ((same_upd nc).trans (same_upd nl)) ⟨l, rfl, ?_⟩
      rw [upd_same, ← cut_lst hR hm hz ht, List.map_take]
end
end KW
end

section
set_option Elab.async false
set_option linter.all false
set_option maxRecDepth 100000
set_option maxHeartbeats 4000000
namespace KW
open PySem PySem.Spec PyProof.Rows L2 K10 K10.Po LamX
section
variable {J : It} {n : Nat} {G : Hp → Prop} {Y : Nat → Hp → V → Hp → Prop} {g : TG} {tt : TT} {te : TE} {vs : List Nat} {σ : L2.St} {H1 : Hp} {Qd : Addr → Hp → Prop}
/-- the new list's items stand in a relation to their turns -/
theorem lc_relD (w : Walk J n G Y) (Rl : Addr → Nat → V → Hp → Prop) (hn : n ≤ 50000) (hP : ∀ D i y H H', But D H H' → Tk H H' → Rl D i y H → Rl D i y H') (hG : ∀ H, Same H1 H → G H)
    (hs : ∀ D i x H H' (R : VK), i < n → Same H1 H → (∃ ys, H D = some (.lst ys)) → Y i H x H' → (∀ y H4, Same H H4 → Rl D i y H4 → R y H4) → g x (wipe σ vs) H' fun σ2 H2 => wipe σ2 vs = wipe σ vs ∧ te σ2 H2 R)
    (q : ∀ D H' ys, H1 D = none → Same H1 H' → ys.length = n → (∀ i y, ys[i]? = some y → Rl D i y H') → H' D = some (.lst ys) → Qd D H') :
    ∀ D, H1 D = none → ∃ W : Nat → Nat → Hp → Prop, (∃ m, W 0 m (upd H1 D (.lst []))) ∧ ∀ i m H, W i m H →
      (J.stop i H ∧ Qd D H) ∨ (J.go i H ∧ ∃ Nx : Hp → Prop, (∀ H', Nx H' → ∃ m', m' < m ∧ W (i + 1) m' H') ∧ ∀ x H', J.yld i H x H' → g x (wipe σ vs) H' fun σ2 H2 => wipe σ2 vs = wipe σ vs ∧ tYes σ2 H2 fun b H3 =>
        if b = true then te σ2 H3 fun y H4 => ∃ acc, H4 D = some (.lst acc) ∧ acc.length < sizeLine ∧ Nx (upd H4 D (.lst (acc ++ [y]))) else Nx H3) := by
  intro D hD
  refine lc_it w (fun i H => Same H1 H ∧ ∃ ys, H D = some (.lst ys) ∧ ys.length = i ∧ ∀ j y, ys[j]? = some y → Rl D j y H) ⟨same_upd hD, [], upd_same, rfl, fun j y h => by simp at h⟩ (fun i H _ h => hG H h.1) (fun i x H H' hi h y => ?_) (fun H h => ?_)
  · obtain ⟨s1, ys, hys, hl, hr⟩ := h
    refine hs D i x H H' _ hi s1 ⟨ys, hys⟩ y fun z H4 s4 hz => ⟨ys, s4 _ _ hys, line_lt (by omega), same_mut (s1.trans s4) hD, ys ++ [z], upd_same, by simp [hl], fun j u hu => ?_⟩
    refine hP D j u H4 _ (But.upd D H4 _) (tk_lst (s4 _ _ hys)) ?_
    by_cases hj : j < ys.length
    · rw [List.getElem?_append_left hj] at hu
      exact hP D j u H H4 (But.of s4) (Same.tk s4) (hr j u hu)
    · rw [List.getElem?_append_right (by omega)] at hu
      have hj2 : j - ys.length = 0 := by
        have := (List.getElem?_eq_some_iff.mp hu).1
        simp at this; omega
      rw [hj2] at hu
      have e : z = u := Option.some.inj hu
      have e2 : j = i := by omega
      rw [← e, e2]; exact hz
  · obtain ⟨s1, ys, hys, hl, hr⟩ := h
    exact q D H ys hD s1 hl hr hys
end
section
variable {P : Program} {w : World} {K : PySem.W.Frag} {mg : Str → Option Value} {base : Heap}
def spLawBlend : Sp := fun vs H Q _ => ∃ (p : Nat) (_ : Pr p) (f g : Po p) (v u : V) (wt : Int), vs = [v, u, .int wt, .int p] ∧ Rp K H v f ∧ Rp K H u g ∧ 0 ≤ wt ∧ wt ≤ 100 ∧ f.sz ≤ 1000 ∧ g.sz ≤ 1000 ∧
  ∀ H' v', Same H H' → Rs H' v' (f + C (zc p wt) * g) → Q v' H'
theorem ok_law_blend (T : Txt K mg) : DefOk P w K mg base "_law_blend" 2 ["_law_one", "_law_other", "_law_weight", "_law_p"] (spLawBlend (K := K)) := by
  have d_law_trim := ok_law_trim (P := P) (w := w) (base := base) T
  refine def_ok T.d_law_blend sc_law_blend (fun _ _ _ _ _ _ us hl => match us, hl with | [_, _, _, _], _ => rfl) (fun vs H Q E h => ?_) (fun f cdv A outer s H vs Q E hr h => ?_)
  · obtain ⟨p, _, f, g, v, u, wt, rfl, _⟩ := h; rfl
  · obtain ⟨p, hp, f, g, v, u, wt, rfl, ⟨a, rfl, hA⟩, ⟨b, rfl, hB⟩, hw0, hw1, hf, hg, q⟩ := h
    have h2 := Pr.two p
    refine ⟨_, (pss_cons (ps_set (i := 4) sc_law_blend.nd rfl (Or.inr rfl) (pe_callB (call_max2 rfl) (by rfl) T.n_max (by decide +kernel) (pa_cons (pe_callB call_len_seq (by rfl) T.n_len (by decide +kernel) (pa_cons (pv 0) pa_nil)) (pa_cons (pe_callB call_len_seq (by rfl) T.n_len (by decide +kernel) (pa_cons (pv 1) pa_nil)) pa_nil))))
      (pss_cons (ps_setLc (own := [("_law_row", 8)]) (g := (gName 8)) (tt := tYes) (i := 5) rfl sc_law_blend.nd rfl rfl (sw_true rfl rfl rfl (by decide +kernel)) (pi_tup (pe_tup (pa_cons (pv 0) (pa_cons (pv 1) pa_nil)))) (blkOk_by (N := ["_law_one", "_law_other", "_law_weight", "_law_p", "_law_many", "_law_wide", "_law_a", "_law_b", "_law_row"]) (sc := defScope s_law_blend) (by decide +kernel)) (fun _ _ _ _ _ => (pg_name (i := 8) sc_law_blend.nd rfl (Or.inl rfl))) (fun _ _ _ _ _ => pts_nil) (fun _ _ _ _ _ => (pe_op op_cat (pe_callTy (list_of (K := K) rfl) (by rfl) T.n_list (by decide +kernel) (pa_cons (pv 8) pa_nil)) (pe_op op_rep (pe_lst (pa_cons pe_int pa_nil)) (pe_op op_sub (pv 4) (pe_callB (len_of (K := K) rfl) (by rfl) T.n_len (by decide +kernel) (pa_cons (pv 8) pa_nil)))))))
      (pss_one (ps_ret (pcall d_law_trim hr rfl (pa_cons (pe_lc (own := [("_law_a", 6), ("_law_b", 7)]) (g := (gTup K 2 (gCons (gName 6) (gCons (gName 7) gNil)))) (tt := tYes) rfl sc_law_blend.nd (RZ.pi_zipA (by rfl) T.n_zip (pa_cons (pe_ix (r := rIxL K) ix_list (pv 5) pe_int (fun _ _ => rfl)) (pa_cons (pe_ix (r := rIxL K) ix_list (pv 5) pe_int (fun _ _ => rfl)) pa_nil))) (blkOk_by (N := ["_law_one", "_law_other", "_law_weight", "_law_p", "_law_many", "_law_wide", "_law_a", "_law_b", "_law_row"]) (sc := defScope s_law_blend) (by decide +kernel)) (fun _ _ _ _ _ => (pg_tup rfl (pgs_cons (pg_name (i := 6) sc_law_blend.nd rfl (Or.inl rfl)) (pgs_cons (pg_name (i := 7) sc_law_blend.nd rfl (Or.inl rfl)) pgs_nil)))) (fun _ _ _ _ _ => pts_nil) (fun _ _ _ _ _ => (pe_op op_mod (pe_op op_add (pv 6) (pe_op op_mul (pv 2) (pv 7))) (pv 3)))) pa_nil)))))), ?_⟩
    have eM : (if (((lst g).map V.int).length : Int) > (((lst f).map V.int).length : Int) then (((lst g).map V.int).length : Int) else (((lst f).map V.int).length : Int)) = ((max f.sz g.sz : Nat) : Int) := by
      rw [List.length_map, List.length_map, lst_len, lst_len]
      split <;> omega
    refine ⟨_, rfl, a, _, rfl, .inr hA, _, rfl, b, _, rfl, .inr hB, _, _, rfl, ?_⟩
    rw [eM]
    generalize hm : max f.sz g.sz = m
    -- the two wide ones
    refine ⟨_, rfl, _, rfl, line_of (by show 2 ≤ 100000; decide), fun t nt => ?_⟩
    have st := same_upd (o := .tup [.ref a, .ref b]) nt
    refine ⟨t, rfl, ⟨_, .inl (.inl upd_same)⟩, ?_⟩
    have et : (upd H t (.tup [.ref a, .ref b])) t = some (.tup [.ref a, .ref b]) := upd_same
    generalize hH1 : upd H t (.tup [.ref a, .ref b]) = H1 at st et
    refine lc_relD (n := 2) (walk_tup (xs := [V.ref a, V.ref b])) (fun D i y H' => ∃ l, y = .ref l ∧ l ≠ D ∧ H' l = some (.lst ((wl m (if i = 0 then f else g)).map V.int))) (by decide) (fun D i y H2 H3 bD tk ⟨l, h1, h2, h3⟩ => ⟨l, h1, h2, bD l h2 _ h3⟩) (fun H' h => .inl (.inl (h _ _ et))) (fun D i x H2 H2' R hi s2 hyD hy hR => ?_) (fun D H2 ys nD s2 hl hrel hD => ?_)
    · obtain ⟨rfl, hx⟩ := hy
      have hrow : ∃ (r : Addr) (k : Po p), x = .ref r ∧ SqT K H1 r ((lst k).map V.int) ∧ k = (if i = 0 then f else g) ∧ k.sz ≤ m := by
        match i, hi, hx with
        | 0, _, hx => cases hx; exact ⟨a, f, rfl, same_t st hA, rfl, by omega⟩
        | 1, _, hx => cases hx; exact ⟨b, g, rfl, same_t st hB, rfl, by omega⟩
      obtain ⟨r, k, rfl, hr1, hk, hkm⟩ := hrow
      have hr2 := same_t s2 hr1
      refine ⟨rfl, _, rfl, r, _, rfl, .inr hr2, fun l1 n1 => ?_⟩
      have s3 := same_upd (o := .lst ((lst k).map V.int)) n1
      refine ⟨line_of (by show 1 ≤ 100000; decide), fun z nz => ?_⟩
      have s4 := s3.trans (same_upd (o := .lst [.int 0]) nz)
      refine ⟨_, rfl, _, rfl, r, _, rfl, .inr (same_t s4 hr2), _, _, rfl, rfl, z, _, _, rfl, rfl, upd_same, ?_, ?_, ?_, fun l2 n2 => ?_⟩
      · rw [List.length_map, lst_len]; omega
      · rw [List.length_map, lst_len]; omega
      · rw [List.length_map, lst_len]; show 1 * _ ≤ _; exact line_of (by omega)
      have e1 : ((m : Int) - (((lst k).map V.int).length : Int)).toNat = m - k.sz := by rw [List.length_map, lst_len]; omega
      rw [e1, rep_flat]
      have s5 := same_upd (o := .lst ((List.replicate (m - k.sz) (0 : Int)).map V.int)) n2
      refine ⟨l1, l2, _, _, rfl, rfl, s5 _ _ (same_upd (o := .lst [.int 0]) nz _ _ upd_same), upd_same, ?_, fun c nc => ?_⟩
      · rw [List.length_map, List.length_map, List.length_replicate, lst_len]; exact line_of (by omega)
      have s6 := s5.trans (same_upd (o := .lst ((lst k).map V.int ++ (List.replicate (m - k.sz) (0 : Int)).map V.int)) nc)
      obtain ⟨yD, hyD⟩ := hyD
      have hcD : c ≠ D := fun z => by
        have := (s4.trans s5) D _ hyD
        rw [← z, nc] at this; cases this
      refine hR (.ref c) _ (s4.trans s6) ⟨c, rfl, hcD, ?_⟩
      rw [upd_same, ← hk, ← List.map_append]
      congr 3
      refine wl_ext (fun x hx => ?_) (by rw [List.length_append, List.length_replicate, lst_len]; omega) fun j hj => ?_
      · rcases List.mem_append.mp hx with hx | hx
        · exact lst_rests _ x hx
        · have := List.eq_of_mem_replicate hx; omega
      · rw [wide_getD, lst_getD, zc_fin]
    · obtain ⟨y0, hy0⟩ : ∃ y, ys[0]? = some y := ⟨_, List.getElem?_eq_getElem (by rw [hl]; decide)⟩
      obtain ⟨y1, hy1⟩ : ∃ y, ys[1]? = some y := ⟨_, List.getElem?_eq_getElem (by rw [hl]; decide)⟩
      obtain ⟨l0, rfl, _, h0⟩ := hrel 0 _ hy0
      obtain ⟨l1, rfl, _, h1⟩ := hrel 1 _ hy1
      have h0 : H2 l0 = some (.lst ((wl m f).map V.int)) := h0
      have h1 : H2 l1 = some (.lst ((wl m g).map V.int)) := h1
      refine ⟨_, rfl, D, _, 0, _, rfl, rfl, .inl (.inl hD), atI_nat (j := 0) hy0, _, rfl, D, _, 1, _, rfl, rfl, .inl (.inl hD), atI_nat (j := 1) hy1, l0, l1, _, _, rfl, .inl ⟨.inl (.inl h0), .inl (.inl h1), ?_⟩⟩
      have len1 : ((wl m f).map V.int).length = m := by rw [List.length_map, wl_len]
      have len2 : ((wl m g).map V.int).length = m := by rw [List.length_map, wl_len]
      refine lc_fn (walk_zip (n := m) (by rw [len1, len2]; omega)) (fun i => .int ((((f.s i).val : Int) + wt * ((g.s i).val : Int)) % (p : Int))) (by omega) (fun H h => ⟨.inl (.inl (h _ _ h0)), .inl (.inl (h _ _ h1))⟩) (fun i x H3 H4 R hi s3 y hR => ?_) (fun D3 H3 nD3 s3 hD3 => ?_)
      · obtain ⟨T', x1, x2, rfl, nT, rfl, f1, f2⟩ := y
        obtain ⟨n1, g1, rfl⟩ := get_map f1
        obtain ⟨n2, g2, rfl⟩ := get_map f2
        rw [wl_get f hi] at g1
        rw [wl_get g hi] at g2
        have c1 := Option.some.inj g1
        have c2 := Option.some.inj g2
        refine ⟨T', [.int n1, .int n2], rfl, .inl (.inl upd_same), rfl, .int n1, [.int n2], rfl, .int n2, [], rfl, rfl, rfl, ?_⟩
        refine ⟨_, rfl, _, rfl, _, rfl, _, _, rfl, rfl, .inl ⟨by omega, by omega⟩, _, _, rfl, rfl, _, rfl, _, _, rfl, rfl, by show (0 : Int) < (p : Int); omega, ?_⟩
        have := hR _ (same_upd (o := .tup [.int n1, .int n2]) nT)
        rw [c1, c2] at this; exact this
      · refine ⟨p, hp, D3, (List.range m).map fun i => (((f.s i).val : Int) + wt * ((g.s i).val : Int)) % (p : Int), rfl, .inl (.inl (by rw [hD3, List.map_map]; rfl)), fun n hn => ?_, by simp; omega, fun H4 v' s4 r4 => ?_⟩
        · obtain ⟨i, _, rfl⟩ := List.mem_map.mp hn
          exact ⟨Int.emod_nonneg _ (by omega), Int.emod_lt_of_pos _ (by omega)⟩
        · refine q _ _ (((st.trans s2).trans s3).trans s4) ?_
          have e : pol p ((List.range m).map fun i => (((f.s i).val : Int) + wt * ((g.s i).val : Int)) % (p : Int)) = f + C (zc p wt) * g := by
            apply Po.ext; intro i
            rw [pol_ap, List.getD_eq_getElem?_getD, List.getElem?_map, add_ap, Cmul_ap]
            by_cases hi : i < m
            · rw [List.getElem?_range hi]
              show zc p ((((f.s i).val : Int) + wt * ((g.s i).val : Int)) % (p : Int)) = _
              rw [zc_mod, zc_add, zc_mul, zc_fin, zc_fin]
            · rw [List.getElem?_eq_none (by simp; omega), sz_dg f i (by omega), sz_dg g i (by omega)]
              show zc p 0 = _
              rw [zc_zero]; grind
          rw [← e]; exact r4
end
end KW
end

section
set_option Elab.async false
set_option linter.all false
set_option maxRecDepth 100000
set_option maxHeartbeats 4000000
namespace KW
open PySem PySem.Spec PyProof.Rows L2 K10 K10.Po LamX
theorem ev_Xpow {p : Nat} [Pr p] (a : Fin p) : ∀ i : Nat, ev ((X : Po p) ^ i) a = a ^ i
  | 0 => by rw [Lean.Grind.Semiring.pow_zero, Lean.Grind.Semiring.pow_zero, ← C_one, ev_C]
  | i + 1 => by rw [Lean.Grind.Semiring.pow_succ, Lean.Grind.Semiring.pow_succ, ev_mul, ev_Xpow a i, ev_X]
section
variable {P : Program} {w : World} {K : PySem.W.Frag} {mg : Str → Option Value} {base : Heap}
def spConv : Sp := fun vs H Q _ => ∃ (p : Nat) (_ : Pr p) (f g : Po p) (v u : V), vs = [v, u, .int p] ∧ Rp K H v f ∧ Rp K H u g ∧ f.sz ≤ 1000 ∧ g.sz ≤ 1000 ∧
  ∀ H' l fs, Same H H' → H' l = some (.lst (fs.map V.int)) → Rests p fs → fs.length = f.sz + g.sz → pol p fs = f * g → Q (.ref l) H'
theorem ok_law_conv (T : Txt K mg) : DefOk P w K mg base "_law_conv" 1 ["_law_one", "_law_other", "_law_p"] (spConv (K := K)) := by
  refine def_ok T.d_law_conv sc_law_conv (fun _ _ _ _ _ _ us hl => match us, hl with | [_, _, _], _ => rfl) (fun vs H Q E h => ?_) (fun f cdv A outer s H vs Q E hr h => ?_)
  · obtain ⟨p, _, f, g, v, u, rfl, _⟩ := h; rfl
  · obtain ⟨p, hp, f, g, v, u, rfl, ⟨a, rfl, hA⟩, ⟨b, rfl, hB⟩, hf, hg, q⟩ := h
    have h2 := Pr.two p
    have h97 := Pr.le p
    refine ⟨_, (pss_cons (ps_set (i := 3) sc_law_conv.nd rfl (Or.inl rfl) (pe_op op_rep (pe_lst (pa_cons pe_int pa_nil)) (pe_op op_add (pe_callB call_len_seq (by rfl) T.n_len (by decide +kernel) (pa_cons (pv 0) pa_nil)) (pe_callB call_len_seq (by rfl) T.n_len (by decide +kernel) (pa_cons (pv 1) pa_nil)))))
      (pss_cons (ps_for PassesOwn.never rfl (KX.pi_enumT (by rfl) T.n_enumerate (pa_cons (pv 0) pa_nil)) (pg_tup rfl (pgs_cons (pg_name (i := 4) sc_law_conv.nd rfl (Or.inl rfl)) (pgs_cons (pg_name (i := 5) sc_law_conv.nd rfl (Or.inl rfl)) pgs_nil)))
        (pss_one (ps_for PassesOwn.never rfl (KX.pi_enumT (by rfl) T.n_enumerate (pa_cons (pv 1) pa_nil)) (pg_tup rfl (pgs_cons (pg_name (i := 6) sc_law_conv.nd rfl (Or.inl rfl)) (pgs_cons (pg_name (i := 7) sc_law_conv.nd rfl (Or.inl rfl)) pgs_nil)))
          (pss_one (ps_asg (pe_op op_mod (pe_op op_add (pe_ix (r := rIxL K) ix_list (pv 3) (pe_op op_add (pv 4) (pv 6)) (fun _ _ => rfl)) (pe_op op_mul (pv 5) (pv 7))) (pv 2)) (pg_sub (pv 3) (pe_op op_add (pv 4) (pv 6)) set_list))))))
      (pss_one (ps_ret (pv 3))))), ?_⟩
    refine ⟨line_of (by show 1 ≤ 100000; decide), fun z nz => ?_⟩
    have s2 := same_upd (o := .lst [.int 0]) nz
    refine ⟨_, rfl, a, _, rfl, .inr (same_t s2 hA), _, rfl, b, _, rfl, .inr (same_t s2 hB), _, _, rfl, rfl, ?_⟩
    have eL : ((((lst f).map V.int).length : Int) + (((lst g).map V.int).length : Int)) = ((f.sz + g.sz : Nat) : Int) := by
      rw [List.length_map, List.length_map, lst_len, lst_len]; omega
    refine ⟨z, ((f.sz + g.sz : Nat) : Int), _, rfl, congrArg V.int eL, upd_same, by omega, by omega, ?_, fun l nl => ?_⟩
    · show 1 * _ ≤ _; exact line_of (by omega)
    rw [Int.toNat_natCast, rep_flat]
    have s3 := s2.trans (same_upd (o := .lst ((List.replicate (f.sz + g.sz) (0 : Int)).map V.int)) nl)
    have nlH : H l = none := s2.free nl
    have e3 : (upd (upd H z (.lst [.int 0])) l (.lst ((List.replicate (f.sz + g.sz) (0 : Int)).map V.int))) l = some (.lst ((List.replicate (f.sz + g.sz) (0 : Int)).map V.int)) := upd_same
    generalize hH3 : upd (upd H z (.lst [.int 0])) l (.lst ((List.replicate (f.sz + g.sz) (0 : Int)).map V.int)) = H3 at s3 e3
    refine ⟨_, rfl, a, _, rfl, same_t s3 hA, ?_⟩
    refine for_it (KX.walk_enumT (xs := (lst f).map V.int)) (fun i σ H' => ∃ (x4 x5 x6 x7 : Option V) (fs : List Int), σ = [some (.ref a), some (.ref b), some (.int p), some (.ref l), x4, x5, x6, x7] ∧ Same H H' ∧ H' l = some (.lst (fs.map V.int)) ∧ Rests p fs ∧ fs.length = f.sz + g.sz ∧ pol p fs = pol p ((lst f).take i) * g)
      ⟨none, none, none, none, _, rfl, s3, e3, fun x hx => by have := List.eq_of_mem_replicate hx; omega, by simp, by rw [pol_rep, List.take_zero, pol_nil]; grind⟩ (fun i σ H' _ h => by obtain ⟨_, _, _, _, _, _, s', _⟩ := h; exact same_t s' hA) (fun i x σ H4 H5 hi hP hy => ?_) (fun σ H' hP => ?_)
    · obtain ⟨x4, x5, x6, x7, fs, rfl, s4, el, hfr, hlen, hpol⟩ := hP
      obtain ⟨Tt, _, y, rfl, nT, rfl, f1, f2⟩ := hy
      cases f1
      obtain ⟨n, hn, rfl⟩ := get_map f2
      rw [List.length_map, lst_len] at hi
      have hnr := rests_get (lst_rests f) hn
      have sT := same_upd (o := .tup [.int (i : Nat), .int n]) nT
      refine ⟨Tt, [.int (i : Nat), .int n], rfl, .inl (.inl upd_same), rfl, .int (i : Nat), [.int n], rfl, .int n, [], rfl, rfl, ?_⟩
      have hpt := pol_take (p := p) hn
      generalize hH5 : upd H4 Tt (.tup [.int (i : Nat), .int n]) = H5 at sT
      refine ⟨_, rfl, b, _, rfl, same_t (s4.trans sT) hB, ?_⟩
      refine for_it (KX.walk_enumT (xs := (lst g).map V.int)) (fun j σ H' => ∃ (x6 x7 : Option V) (gs : List Int), σ = [some (.ref a), some (.ref b), some (.int p), some (.ref l), some (.int (i : Int)), some (.int n), x6, x7] ∧ Same H H' ∧ H' l = some (.lst (gs.map V.int)) ∧ Rests p gs ∧ gs.length = f.sz + g.sz ∧ pol p gs = pol p ((lst f).take i) * g + C (zc p n) * X ^ i * pol p ((lst g).take j))
        ⟨_, _, fs, rfl, s4.trans sT, sT _ _ el, hfr, hlen, by rw [List.take_zero, pol_nil, hpol]; grind⟩ (fun j σ H' _ h => by obtain ⟨_, _, _, _, s', _⟩ := h; exact same_t s' hB) (fun j x σ H6 H7 hj hP hy => ?_) (fun σ H' hP => ?_)
      · obtain ⟨x6, x7, gs, rfl, s6, el6, hgr, hlen6, hpol6⟩ := hP
        obtain ⟨T2, _, y2, rfl, nT2, rfl, f3, f4⟩ := hy
        cases f3
        obtain ⟨m, hm, rfl⟩ := get_map f4
        rw [List.length_map, lst_len] at hj
        have hmr := rests_get (lst_rests g) hm
        have sT2 := same_upd (o := .tup [.int (j : Nat), .int m]) nT2
        refine ⟨T2, [.int (j : Nat), .int m], rfl, .inl (.inl upd_same), rfl, .int (j : Nat), [.int m], rfl, .int m, [], rfl, rfl, ?_⟩
        obtain ⟨o, ho⟩ : ∃ o, gs[i + j]? = some o := ⟨_, List.getElem?_eq_getElem (by omega)⟩
        refine ⟨_, rfl, _, rfl, _, rfl, _, _, rfl, rfl, l, _, _, _, rfl, rfl, .inl (.inl (sT2 _ _ el6)), at_of (j := i + j) (by omega) (map_get ho), ?_⟩
        refine ⟨_, rfl, _, rfl, _, _, rfl, rfl, .inl ⟨by omega, by omega⟩, _, _, rfl, rfl, _, rfl, _, _, rfl, rfl, by show (0 : Int) < (p : Int); omega, ?_⟩
        refine ⟨_, rfl, _, rfl, _, rfl, _, _, rfl, rfl, l, _, _, i + j, rfl, rfl, sT2 _ _ el6, ixN_of (by omega) (by rw [List.length_map]; omega), ?_⟩
        have hz0 : 0 ≤ (o + n * m) % (p : Int) := Int.emod_nonneg _ (by omega)
        have hz1 : (o + n * m) % (p : Int) < (p : Int) := Int.emod_lt_of_pos _ (by omega)
        refine ⟨_, _, gs.set (i + j) ((o + n * m) % (p : Int)), rfl, same_mut (s6.trans sT2) nlH, ?_, rests_set hgr hz0 hz1, by rw [List.length_set]; exact hlen6, ?_⟩
        · rw [upd_same, List.map_set]
        · rw [pol_set ho, pol_take hm, hpol6, zc_sub, zc_mod, zc_add, zc_mul]
          rw [show zc p o + zc p n * zc p m - zc p o = zc p n * zc p m by grind, C_mul, Lean.Grind.Semiring.pow_add]; grind
      · obtain ⟨x6, x7, gs, rfl, s6, el6, hgr, hlen6, hpol6⟩ := hP
        rw [List.length_map] at hpol6
        rw [pol_take_all (Nat.le_refl _), pol_lst] at hpol6
        refine ⟨_, _, _, _, gs, rfl, s6, el6, hgr, hlen6, ?_⟩
        rw [hpol6, hpt]; grind
    · obtain ⟨x4, x5, x6, x7, fs, rfl, s4, el, hfr, hlen, hpol⟩ := hP
      rw [List.length_map, pol_take_all (Nat.le_refl _), pol_lst] at hpol
      exact ⟨_, rfl, q H' l fs s4 el hfr hlen hpol⟩
def spLawMul : Sp := fun vs H Q _ => ∃ (p : Nat) (_ : Pr p) (f g : Po p) (v u : V), vs = [v, u, .int p] ∧ Rp K H v f ∧ Rp K H u g ∧ f.sz ≤ 1000 ∧ g.sz ≤ 1000 ∧ ∀ H' v', Same H H' → Rs H' v' (f * g) → Q v' H'
theorem ok_law_mul (T : Txt K mg) : DefOk P w K mg base "_law_mul" 2 ["_law_one", "_law_other", "_law_p"] (spLawMul (K := K)) := by
  have d_law_trim := ok_law_trim (P := P) (w := w) (base := base) T
  have d_law_conv := ok_law_conv (P := P) (w := w) (base := base) T
  refine def_ok T.d_law_mul sc_law_mul (fun _ _ _ _ _ _ us hl => match us, hl with | [_, _, _], _ => rfl) (fun vs H Q E h => ?_) (fun f cdv A outer s H vs Q E hr h => ?_)
  · obtain ⟨p, _, f, g, v, u, rfl, _⟩ := h; rfl
  · obtain ⟨p, hp, f, g, v, u, rfl, hA, hB, hf, hg, q⟩ := h
    refine ⟨_, (pss_one (ps_ret (pcall d_law_trim hr rfl (pa_cons (pcall d_law_conv hr rfl (pa_cons (pv 0) (pa_cons (pv 1) (pa_cons (pv 2) pa_nil)))) pa_nil)))), ?_⟩
    refine ⟨_, rfl, _, rfl, _, rfl, p, hp, f, g, v, u, rfl, hA, hB, hf, hg, fun H1 l fs s1 e1 hr1 hl1 hp1 => ?_⟩
    refine ⟨p, hp, l, fs, rfl, .inl (.inl e1), hr1, by omega, fun H2 v2 s2 r2 => ?_⟩
    rw [hp1] at r2
    exact q _ _ (s1.trans s2) r2
def spLawWorth : Sp := fun vs H Q _ => ∃ (p : Nat) (_ : Pr p) (f : Po p) (a : Nat) (v : V), vs = [v, .int (a : Int), .int p] ∧ Rp K H v f ∧ a < p ∧
  ∀ (n : Int), 0 ≤ n → n < p → zc p n = ev f (zc p a) → Q (.int n) H
theorem ok_law_worth (T : Txt K mg) : DefOk P w K mg base "_law_worth" 1 ["_law_one", "_law_number", "_law_p"] (spLawWorth (K := K)) := by
  refine def_ok T.d_law_worth sc_law_worth (fun _ _ _ _ _ _ us hl => match us, hl with | [_, _, _], _ => rfl) (fun vs H Q E h => ?_) (fun f cdv A outer s H vs Q E hr h => ?_)
  · obtain ⟨p, _, f, a, v, rfl, _⟩ := h; rfl
  · obtain ⟨p, hp, f, a, v, rfl, ⟨b, rfl, hB⟩, ha, q⟩ := h
    have h2 := Pr.two p
    have h97 := Pr.le p
    refine ⟨_, (pss_cons (ps_set (i := 3) sc_law_worth.nd rfl (Or.inl rfl) pe_int)
      (pss_cons (ps_set (i := 4) sc_law_worth.nd rfl (Or.inl rfl) pe_int)
      (pss_cons (ps_for PassesOwn.never rfl (pi_tup (pv 0)) (pg_name (i := 5) sc_law_worth.nd rfl (Or.inl rfl))
        (pss_cons (ps_set (i := 3) sc_law_worth.nd rfl (Or.inl rfl) (pe_op op_mod (pe_op op_add (pv 3) (pe_op op_mul (pv 5) (pv 4))) (pv 2)))
        (pss_one (ps_set (i := 4) sc_law_worth.nd rfl (Or.inl rfl) (pe_op op_mod (pe_op op_mul (pv 4) (pv 1)) (pv 2))))))
      (pss_one (ps_ret (pv 3)))))), ?_⟩
    refine ⟨_, rfl, b, rfl, ⟨_, hB⟩, ?_⟩
    have hn : ((lst f).map V.int).length = f.sz := by rw [List.length_map, lst_len]
    refine for_it (walk_tup (xs := (lst f).map V.int)) (fun i σ H' => H' = H ∧ ∃ (x5 : Option V) (n m : Int), σ = [some (.ref b), some (.int (a : Int)), some (.int p), some (.int n), some (.int m), x5] ∧ 0 ≤ n ∧ n < p ∧ 0 ≤ m ∧ m < p ∧ zc p n = ev (pol p ((lst f).take i)) (zc p a) ∧ zc p m = zc p a ^ i)
      ⟨rfl, none, 0, 1, rfl, by omega, by omega, by omega, by omega, ?_, ?_⟩ (fun i σ H' _ h => by rw [h.1]; exact hB) (fun i x σ H4 H5 hi hP hy => ?_) (fun σ H' hP => ?_)
    · rw [List.take_zero, ev_nil, zc_zero]
    · rw [zc_one, Lean.Grind.Semiring.pow_zero]
    · obtain ⟨rfl, x5, n, m, rfl, hn0, hn1, hm0, hm1, hz, hzm⟩ := hP
      obtain ⟨rfl, hx⟩ := hy
      obtain ⟨r, hr2, rfl⟩ := get_map hx
      have hrr := rests_get (lst_rests f) hr2
      refine ⟨_, rfl, _, rfl, _, rfl, _, _, rfl, rfl, .inl ⟨by omega, by omega⟩, _, _, rfl, rfl, _, rfl, _, _, rfl, rfl, by show (0 : Int) < (p : Int); omega, ?_⟩
      refine ⟨_, rfl, _, rfl, _, _, rfl, rfl, .inl ⟨by omega, by omega⟩, _, rfl, _, _, rfl, rfl, by show (0 : Int) < (p : Int); omega, rfl, _, _, _, rfl, Int.emod_nonneg _ (by omega), Int.emod_lt_of_pos _ (by omega), Int.emod_nonneg _ (by omega), Int.emod_lt_of_pos _ (by omega), ?_, ?_⟩
      · rw [pol_take hr2, ev_add, ev_mul, ev_C, ev_Xpow, zc_mod, zc_add, zc_mul, hz, hzm]
      · rw [zc_mod, zc_mul, hzm, Lean.Grind.Semiring.pow_succ]
    · obtain ⟨rfl, x5, n, m, rfl, hn0, hn1, hm0, hm1, hz, hzm⟩ := hP
      rw [hn, pol_take_all (by rw [lst_len]; omega), pol_lst] at hz
      exact ⟨_, rfl, q n hn0 hn1 hz⟩
def spShifted : Sp := fun vs H Q _ => ∃ (p : Nat) (_ : Pr p) (f : Po p) (a : Nat) (v : V), vs = [v, .int (a : Int), .int p] ∧ Rp K H v f ∧ a < p ∧ f.sz ≤ 100 ∧
  ∀ H' v', Same H H' → Rs H' v' (cm f (X + C (zc p (a : Int)))) → Q v' H'
theorem ok_law_shifted (T : Txt K mg) : DefOk P w K mg base "_law_shifted" 3 ["_law_poly", "_law_by", "_law_p"] (spShifted (K := K)) := by
  have d_law_blend := ok_law_blend (P := P) (w := w) (base := base) T
  have d_law_mul := ok_law_mul (P := P) (w := w) (base := base) T
  refine def_ok T.d_law_shifted sc_law_shifted (fun _ _ _ _ _ _ us hl => match us, hl with | [_, _, _], _ => rfl) (fun vs H Q E h => ?_) (fun f cdv A outer s H vs Q E hr h => ?_)
  · obtain ⟨p, _, f, a, v, rfl, _⟩ := h; rfl
  · obtain ⟨p, hp, f, a, v, rfl, ⟨b, rfl, hB⟩, ha, hf, q⟩ := h
    have h2 := Pr.two p
    have h97 := Pr.le p
    refine ⟨_, (pss_cons (ps_set (i := 3) sc_law_shifted.nd rfl (Or.inl rfl) (pe_tup pa_nil))
      (pss_cons (ps_for PassesOwn.never rfl (pi_tup (KX.pe_revT (pv 0))) (pg_name (i := 4) sc_law_shifted.nd rfl (Or.inl rfl))
        (pss_one (ps_set (i := 3) sc_law_shifted.nd rfl (Or.inl rfl) (pcall d_law_blend hr rfl (pa_cons (pcall d_law_mul hr rfl (pa_cons (pv 3) (pa_cons (pe_tup (pa_cons (pv 1) (pa_cons pe_int pa_nil))) (pa_cons (pv 2) pa_nil)))) (pa_cons (pe_tup (pa_cons pe_int pa_nil)) (pa_cons (pv 4) (pa_cons (pv 2) pa_nil))))))))
      (pss_one (ps_ret (pv 3))))), ?_⟩
    refine ⟨line_of (by decide), fun t nt => ?_⟩
    have st := same_upd (o := .tup []) nt
    refine ⟨_, rfl, b, _, rfl, same_t st hB, fun c nc => ?_⟩
    have s1 := st.trans (same_upd (o := .tup ((lst f).map V.int).reverse) nc)
    have et : (upd (upd H t (.tup [])) c (.tup ((lst f).map V.int).reverse)) t = some (.tup []) := (same_upd (o := .tup ((lst f).map V.int).reverse) nc) _ _ upd_same
    have ec : (upd (upd H t (.tup [])) c (.tup ((lst f).map V.int).reverse)) c = some (.tup ((lst f).map V.int).reverse) := upd_same
    refine ⟨c, rfl, ⟨_, .inl (.inl ec)⟩, ?_⟩
    generalize hH1 : upd (upd H t (.tup [])) c (.tup ((lst f).map V.int).reverse) = H1 at s1 et ec
    have hn : ((lst f).map V.int).reverse.length = f.sz := by rw [List.length_reverse, List.length_map, lst_len]
    have hhz : (X + C (zc p (a : Int)) : Po p).sz ≤ 2 := by
      have h1 := sz_add_le (X : Po p) (C (zc p (a : Int)))
      have h3 := sz_C_le (zc p (a : Int))
      rw [X_sz] at h1; omega
    have hhl : lst (X + C (zc p (a : Int)) : Po p) = [(a : Int), 1] := by
      have hs : (X + C (zc p (a : Int)) : Po p).sz = 2 := sz_eq (fun i hi => sz_dg _ i (by omega)) (.inr (by
        show (X + C (zc p (a : Int)) : Po p).s 1 ≠ 0
        rw [add_ap, X_ap, C_ap, if_pos rfl, if_neg (by omega)]
        rw [show (1 : Fin p) + 0 = 1 by grind]; exact fin_one_ne))
      symm
      refine lst_ext (fun x hx => ?_) (by rw [hs]; rfl) fun i hi => ?_
      · rcases List.mem_cons.mp hx with rfl | hx
        · omega
        · rw [List.mem_singleton.mp hx]; omega
      · rw [hs] at hi
        match i, hi with
        | 0, _ => rw [add_ap, X_ap, C_ap, if_neg (by omega), if_pos rfl]; show zc p (a : Int) = _; grind
        | 1, _ => rw [add_ap, X_ap, C_ap, if_pos rfl, if_neg (by omega)]; show zc p 1 = _; rw [zc_one]; grind
    refine for_it (walk_tup (xs := ((lst f).map V.int).reverse)) (fun i σ H' => Same H H' ∧ H' c = some (.tup ((lst f).map V.int).reverse) ∧ ∃ (x4 : Option V) (vf : V) (g : Po p), σ = [some (.ref b), some (.int (a : Int)), some (.int p), some vf, x4] ∧ Rs H' vf g ∧ g.sz ≤ i ∧ g = cm (pol p ((lst f).drop (f.sz - i))) (X + C (zc p (a : Int))))
      ⟨s1, ec, none, .ref t, 0, rfl, ⟨t, rfl, by rw [lst_zero]; exact et⟩, by rw [sz_zero]; omega, ?_⟩ (fun i σ H' _ h => .inl (.inl h.2.1)) (fun i x σ H4 H5 hi hP hy => ?_) (fun σ H' hP => ?_)
    · rw [List.drop_of_length_le (by rw [lst_len]; omega), pol_nil, cm_zero]
    · obtain ⟨s4, ec4, x4, vf, g, rfl, rg, hgz, hg⟩ := hP
      obtain ⟨rfl, hx⟩ := hy
      rw [hn] at hi
      rw [List.getElem?_reverse (by rw [List.length_map, lst_len]; omega), List.length_map, lst_len] at hx
      obtain ⟨m, hm, rfl⟩ := get_map hx
      have hmr := rests_get (lst_rests f) hm
      refine ⟨_, rfl, _, rfl, line_of (by show 2 ≤ 100000; decide), fun t5 n5 => ?_⟩
      have s5 := same_upd (o := .tup [.int (a : Int), .int 1]) n5
      refine ⟨_, rfl, p, hp, g, X + C (zc p (a : Int)), vf, .ref t5, rfl, (rg.same s5).w, ⟨t5, rfl, .inl (.inl (by rw [upd_same, hhl]; rfl))⟩, by omega, by omega, fun H6 v6 s6 r6 => ?_⟩
      refine ⟨line_of (by show 1 ≤ 100000; decide), fun t7 n7 => ?_⟩
      have s7 := same_upd (o := .tup [.int 1]) n7
      have hgs : (g * (X + C (zc p (a : Int)))).sz ≤ i + 1 := by
        by_cases hg0 : g = 0
        · rw [hg0, show (0 : Po p) * (X + C (zc p (a : Int))) = 0 by grind, sz_zero]; omega
        · have hh0 : (X + C (zc p (a : Int)) : Po p) ≠ 0 := fun z => by
            have := congrArg (fun f : Po p => (lst f).length) z
            rw [show (lst (X + C (zc p (a : Int)) : Po p)).length = 2 by rw [hhl]; rfl, lst_zero] at this
            cases this
          have := (sz_mul hg0 hh0).1
          omega
      refine ⟨_, rfl, _, rfl, p, hp, g * (X + C (zc p (a : Int))), 1, v6, .ref t7, m, rfl, (r6.same s7).w, ⟨t7, rfl, .inl (.inl (by rw [upd_same, lst_one]; rfl))⟩, hmr.1, by omega, by omega, by rw [Po.sz_one]; omega, fun H8 v8 s8 r8 => ?_⟩
      have s58 := ((s5.trans s6).trans s7).trans s8
      refine ⟨s4.trans s58, s58 _ _ ec4, _, v8, _, rfl, r8, ?_, ?_⟩
      · have h1 := sz_add_le (g * (X + C (zc p (a : Int)))) (C (zc p m) * 1)
        have h3 := Cmul_sz (zc p m) (1 : Po p)
        rw [Po.sz_one] at h3; omega
      · have e1 : (lst f).drop (f.sz - (i + 1)) = m :: (lst f).drop (f.sz - i) := by
          rw [show f.sz - (i + 1) = f.sz - 1 - i by omega, List.drop_eq_getElem_cons (by rw [lst_len]; omega)]
          rw [List.getElem?_eq_getElem (by rw [lst_len]; omega)] at hm
          rw [Option.some.inj hm]
          congr 2; omega
        rw [e1, cm_cons, ← hg]; grind
    · obtain ⟨s4, ec4, x4, vf, g, rfl, rg, hgz, hg⟩ := hP
      rw [hn, Nat.sub_self, List.drop_zero, pol_lst] at hg
      rw [hg] at rg
      exact ⟨_, rfl, q _ _ s4 rg⟩
end
end KW
end

section
set_option Elab.async false
set_option linter.all false
set_option maxRecDepth 100000
set_option maxHeartbeats 4000000
namespace KW
open PySem PySem.Spec PyProof.Rows L2 K10 K10.Po LamX
section
variable {P : Program} {w : World} {K : PySem.W.Frag} {mg : Str → Option Value} {base : Heap}
def spLawBack : Sp := fun vs H Q _ => ∃ (p : Nat) (_ : Pr p) (a : Int), vs = [.int a, .int p] ∧ 0 < a ∧ a < p ∧ ∀ H' (b : Int), Same H H' → 0 ≤ b → b < p → zc p b * zc p a = 1 → Q (.int b) H'
theorem ok_law_back (T : Txt K mg) : DefOk P w K mg base "_law_back" 1 ["_law_number", "_law_p"] (spLawBack) := by
  refine def_ok T.d_law_back sc_law_back (fun _ _ _ _ _ _ us hl => match us, hl with | [_, _], _ => rfl) (fun vs H Q E h => ?_) (fun f cdv A outer s H vs Q E hr h => ?_)
  · obtain ⟨p, _, a, rfl, _⟩ := h; rfl
  · obtain ⟨p, hp, a, rfl, ha0, ha1, q⟩ := h
    have h2 := Pr.two p
    have h97 := Pr.le p
    refine ⟨_, (pss_one (ps_ret (pe_ix (r := rIxL K) ix_list (pe_lc (own := [("_law_k", 2)]) (g := (gName 2)) rfl sc_law_back.nd (pi_range2 rfl T.n_range (pa_cons pe_int (pa_cons (pv 1) pa_nil))) (blkOk_by (N := ["_law_number", "_law_p", "_law_k"]) (sc := defScope s_law_back) (by decide +kernel)) (fun _ _ _ _ _ => (pg_name (i := 2) sc_law_back.nd rfl (Or.inl rfl))) (fun _ _ _ _ _ => (pts_one (pt_cmpR op_eq (pe_op op_mod (pe_op op_mul (pv 2) (pv 0)) (pv 1)) pe_int (nomark _)))) (fun _ _ _ _ _ => (pv 2))) pe_int (fun _ _ => rfl)))), ?_⟩
    refine ⟨_, rfl, 1, (p : Int), rfl, ⟨by omega, by omega, by omega, by omega⟩, ?_⟩
    refine lc_flt (n := ((p : Int) - 1).toNat) walk_range (fun j => decide (V.int ((1 + (j : Int)) * a % (p : Int)) = V.int 1)) (fun j => V.int (1 + (j : Int))) (by omega) (fun _ _ => trivial) (fun j y H3 H4 Ry Rn hj s3 hy hyes hno => ?_) (fun D H3 nD s3 hD => ?_)
    · obtain ⟨rfl, rfl⟩ := hy
      refine ⟨rfl, _, rfl, _, rfl, _, _, rfl, rfl, .inr ⟨by omega, by omega⟩, _, rfl, _, _, rfl, rfl, by show (0 : Int) < (p : Int); omega, rfl, _, rfl, ?_⟩
      cases hc : decide (V.int ((1 + (j : Int)) * a % (p : Int)) = V.int 1) with
      | true => exact iteT ⟨_, rfl, hyes hc _ (Same.refl _)⟩
      | false => exact iteF (hno hc _ (Same.refl _))
    · have hinv : ∃ j, j < ((p : Int) - 1).toNat ∧ decide (V.int ((1 + (j : Int)) * a % (p : Int)) = V.int 1) = true := by
        obtain ⟨b, hb⟩ := fin_ex_inv (zc_ne_zero (p := p) (by omega) ha1 (by omega : a ≠ 0))
        have hb0 : b.val ≠ 0 := fun z => by
          have : b = 0 := Fin.ext (by rw [z]; show 0 = 0 % p; simp)
          rw [this] at hb
          exact fin_one_ne (p := p) (by rw [← hb]; grind)
        have hbl := b.isLt
        refine ⟨b.val - 1, by omega, decide_eq_true (congrArg V.int ?_)⟩
        have e : (1 + ((b.val - 1 : Nat) : Int)) = (b.val : Int) := by omega
        rw [e]
        have h3 : zc p ((b.val : Int) * a) = zc p 1 := by rw [zc_mul, zc_fin, zc_one, ← hb]; grind
        have h4 : ((zc p ((b.val : Int) * a)).val : Int) = ((zc p 1).val : Int) := congrArg (fun x : Fin p => (x.val : Int)) h3
        rw [zc_val, zc_val, Int.emod_eq_of_lt (by omega : (0 : Int) ≤ 1) (by omega)] at h4
        exact h4
      obtain ⟨j0, hj0, hj1⟩ := hinv
      generalize hfl : (List.range ((p : Int) - 1).toNat).filter (fun j : Nat => decide (V.int ((1 + (j : Int)) * a % (p : Int)) = V.int 1)) = fl at hD
      match fl, hfl with
      | [], hfl =>
        have : j0 ∈ (List.range ((p : Int) - 1).toNat).filter (fun j : Nat => decide (V.int ((1 + (j : Int)) * a % (p : Int)) = V.int 1)) := List.mem_filter.mpr ⟨List.mem_range.mpr hj0, hj1⟩
        rw [hfl] at this; cases this
      | j :: r, hfl =>
        obtain ⟨k1, k2, _⟩ := filter_first hfl
        refine ⟨D, _, 0, V.int (1 + (j : Int)), rfl, rfl, .inl (.inl hD), atI_nat (j := 0) rfl, ?_⟩
        refine q _ _ s3 (by omega) (by omega) ?_
        have h3 := V.int.inj (of_decide_eq_true k2)
        rw [← zc_mul, ← zc_mod, h3, zc_one]
def spLawCut : Sp := fun vs H Q _ => ∃ (p : Nat) (_ : Pr p) (f g : Po p) (v u : V), vs = [v, u, .int p] ∧ Rp K H v f ∧ Rp K H u g ∧ g ≠ 0 ∧ f.sz ≤ 1000 ∧ g.sz ≤ 1000 ∧
  ∀ H' t vq vr (q r : Po p), Same H H' → H' t = some (.tup [vq, vr]) → Rs H' vq q → Rp K H' vr r → f = q * g + r → r.sz < g.sz → Q (.ref t) H'
theorem ok_law_cut_by (T : Txt K mg) : DefOk P w K mg base "_law_cut_by" 2 ["_law_one", "_law_other", "_law_p"] (spLawCut (K := K)) := by
  have d_law_trim := ok_law_trim (P := P) (w := w) (base := base) T
  have d_law_back := ok_law_back (P := P) (w := w) (base := base) T
  refine def_ok T.d_law_cut_by sc_law_cut_by (fun _ _ _ _ _ _ us hl => match us, hl with | [_, _, _], _ => rfl) (fun vs H Q E h => ?_) (fun f cdv A outer s H vs Q E hr h => ?_)
  · obtain ⟨p, _, f, g, v, u, rfl, _⟩ := h; rfl
  · obtain ⟨p, hp, f, g, v, u, rfl, ⟨a, rfl, hA⟩, ⟨b, rfl, hB⟩, hg0, hf, hg, q⟩ := h
    have h2 := Pr.two p
    have h97 := Pr.le p
    have hgp := sz_pos hg0
    refine ⟨_, (pss_cons (ps_set (i := 3) sc_law_cut_by.nd rfl (Or.inl rfl) (pe_callTy call_list_of (by rfl) T.n_list (by decide +kernel) (pa_cons (pv 0) pa_nil)))
      (pss_cons (ps_set (i := 4) sc_law_cut_by.nd rfl (Or.inl rfl) (pe_op op_sub (pe_callB call_len_seq (by rfl) T.n_len (by decide +kernel) (pa_cons (pv 1) pa_nil)) pe_int))
      (pss_cons (ps_set (i := 5) sc_law_cut_by.nd rfl (Or.inl rfl) (pcall d_law_back hr rfl (pa_cons (pe_ix (r := rIxT K) ix_tup (pv 1) (pe_un un_neg pe_int) (fun _ _ => rfl)) (pa_cons (pv 2) pa_nil))))
      (pss_cons (ps_set (i := 6) sc_law_cut_by.nd rfl (Or.inl rfl) (pe_op op_rep (pe_lst (pa_cons pe_int pa_nil)) (pe_callB (call_max2 rfl) (by rfl) T.n_max (by decide +kernel) (pa_cons pe_int (pa_cons (pe_op op_sub (pe_callB call_len_seq (by rfl) T.n_len (by decide +kernel) (pa_cons (pv 0) pa_nil)) (pv 4)) pa_nil)))))
      (pss_cons (ps_for PassesOwn.never rfl (pi_range3 rfl T.n_range (pa_cons (pe_op op_sub (pe_callB call_len_seq (by rfl) T.n_len (by decide +kernel) (pa_cons (pv 0) pa_nil)) pe_int) (pa_cons (pe_op op_sub (pv 4) pe_int) (pa_cons (pe_un un_neg pe_int) pa_nil)))) (pg_name (i := 7) sc_law_cut_by.nd rfl (Or.inl rfl))
        (pss_cons (ps_set (i := 8) sc_law_cut_by.nd rfl (Or.inl rfl) (pe_op op_mod (pe_op op_mul (pe_ix (r := rIxL K) ix_list (pv 3) (pv 7) (fun _ _ => rfl)) (pv 5)) (pv 2)))
        (pss_cons (ps_asg (pv 8) (pg_sub (pv 6) (pe_op op_sub (pv 7) (pv 4)) set_list))
        (pss_one (ps_for PassesOwn.never rfl (KX.pi_enumT (by rfl) T.n_enumerate (pa_cons (pv 1) pa_nil)) (pg_tup rfl (pgs_cons (pg_name (i := 9) sc_law_cut_by.nd rfl (Or.inl rfl)) (pgs_cons (pg_name (i := 10) sc_law_cut_by.nd rfl (Or.inl rfl)) pgs_nil)))
          (pss_cons (ps_set (i := 11) sc_law_cut_by.nd rfl (Or.inl rfl) (pe_op op_add (pe_op op_sub (pv 7) (pv 4)) (pv 9)))
          (pss_one (ps_asg (pe_op op_mod (pe_op op_sub (pe_ix (r := rIxL K) ix_list (pv 3) (pv 11) (fun _ _ => rfl)) (pe_op op_mul (pv 8) (pv 10))) (pv 2)) (pg_sub (pv 3) (pv 11) set_list)))))))))
      (pss_one (ps_ret (pe_tup (pa_cons (pcall d_law_trim hr rfl (pa_cons (pv 6) pa_nil)) (pa_cons (pcall d_law_trim hr rfl (pa_cons (pe_slice sl_list (pv 3) po_none (po_some (pv 4))) pa_nil)) pa_nil)))))))))), ?_⟩
    -- left = list(one); many
    refine ⟨_, rfl, a, _, rfl, .inr hA, fun l nl => ?_⟩
    have s1 := same_upd (o := .lst ((lst f).map V.int)) nl
    refine ⟨_, rfl, b, _, rfl, .inr (same_t s1 hB), _, _, rfl, rfl, ?_⟩
    have eM : (((lst g).map V.int).length : Int) - 1 = ((g.sz - 1 : Nat) : Int) := by rw [List.length_map, lst_len]; omega
    show gName 4 (V.int ((((lst g).map V.int).length : Int) - 1)) _ _ _
    rw [eM]
    -- back
    obtain ⟨n, hn, hn0, hn1, hnl⟩ := lst_last hg0
    have hng : ((lst g).map V.int)[((lst g).map V.int).length - 1]? = some (.int n) := by rw [List.length_map, lst_len]; exact map_get hn
    refine ⟨_, rfl, 1, rfl, b, _, -1, _, rfl, rfl, same_t s1 hB, at_neg1 hng, _, rfl, p, hp, n, rfl, hn0, hn1, fun H1' bk s1' hb0 hb1 hbk => ?_⟩
    rw [hnl] at hbk
    have nlH : H l = none := nl
    have e1' : (upd H l (.lst ((lst f).map V.int))) l = some (.lst ((lst f).map V.int)) := upd_same
    have el1 := s1' _ _ e1'
    have s1 := s1.trans s1'
    -- found
    refine ⟨line_of (by show 1 ≤ 100000; decide), fun z nz => ?_⟩
    have s2 := s1.trans (same_upd (o := .lst [.int 0]) nz)
    have el2 := (same_upd (o := .lst [.int 0]) nz) _ _ el1
    have eF : (((lst f).map V.int).length : Int) = (f.sz : Int) := by rw [List.length_map, lst_len]
    refine ⟨_, rfl, a, _, rfl, .inr (same_t s2 hA), _, rfl, _, _, rfl, rfl, _, _, rfl, ?_⟩
    have eN : (if ((((lst f).map V.int).length : Int) - ((g.sz - 1 : Nat) : Int)) > 0 then ((((lst f).map V.int).length : Int) - ((g.sz - 1 : Nat) : Int)) else 0) = ((f.sz + 1 - g.sz : Nat) : Int) := by
      rw [eF]; split <;> omega
    refine ⟨z, ((f.sz + 1 - g.sz : Nat) : Int), _, rfl, congrArg V.int eN, upd_same, by omega, by omega, ?_, fun c nc => ?_⟩
    · show 1 * _ ≤ _; exact line_of (by omega)
    rw [Int.toNat_natCast, rep_flat]
    have s3 := s2.trans (same_upd (o := .lst ((List.replicate (f.sz + 1 - g.sz) (0 : Int)).map V.int)) nc)
    have el3 := (same_upd (o := .lst ((List.replicate (f.sz + 1 - g.sz) (0 : Int)).map V.int)) nc) _ _ el2
    have ncH : H c = none := s2.free nc
    have hcl : c ≠ l := fun e => by rw [e, el2] at nc; cases nc
    have ec3 : (upd (upd H1' z (.lst [.int 0])) c (.lst ((List.replicate (f.sz + 1 - g.sz) (0 : Int)).map V.int))) c = some (.lst ((List.replicate (f.sz + 1 - g.sz) (0 : Int)).map V.int)) := upd_same
    generalize hH3 : upd (upd H1' z (.lst [.int 0])) c (.lst ((List.replicate (f.sz + 1 - g.sz) (0 : Int)).map V.int)) = H3 at s3 el3 ec3
    -- the loop
    refine ⟨_, rfl, a, _, rfl, .inr (same_t s3 hA), _, _, rfl, rfl, _, rfl, _, _, rfl, rfl, 1, rfl, (f.sz : Int) - 1, ((g.sz - 1 : Nat) : Int) - 1, -1, f.sz + 1 - g.sz, ?_, ?_, ?_⟩
    · show [V.int ((((lst f).map V.int).length : Int) - 1), V.int (((g.sz - 1 : Nat) : Int) - 1), V.int (-1)] = _
      rw [eF]
    · by_cases hfg : g.sz ≤ f.sz + 1
      · have := RgC.neg (i := (f.sz : Int) - 1) (j := ((g.sz - 1 : Nat) : Int) - 1) (by omega) (by omega) (by omega) (by omega)
        rw [show ((f.sz : Int) - 1 - (((g.sz - 1 : Nat) : Int) - 1)).toNat = f.sz + 1 - g.sz by omega] at this
        exact this
      · have := RgC.neg (i := (f.sz : Int) - 1) (j := ((g.sz - 1 : Nat) : Int) - 1) (by omega) (by omega) (by omega) (by omega)
        rw [show ((f.sz : Int) - 1 - (((g.sz - 1 : Nat) : Int) - 1)).toNat = f.sz + 1 - g.sz by omega] at this
        exact this
    refine for_it (walk_rangeC (lo := (f.sz : Int) - 1) (c := -1) (n := f.sz + 1 - g.sz)) (fun t σ H' => ∃ (x7 x8 x9 x10 x11 : Option V) (ls qs : List Int), σ = [some (.ref a), some (.ref b), some (.int p), some (.ref l), some (.int ((g.sz - 1 : Nat) : Int)), some (.int bk), some (.ref c), x7, x8, x9, x10, x11] ∧ Same H H' ∧
        H' l = some (.lst (ls.map V.int)) ∧ H' c = some (.lst (qs.map V.int)) ∧ ls.length = f.sz ∧ qs.length = f.sz + 1 - g.sz ∧ Rests p ls ∧ Rests p qs ∧ (∀ k, f.sz - t ≤ k → ls.getD k 0 = 0) ∧ (∀ k, k < f.sz + 1 - g.sz - t → qs.getD k 0 = 0) ∧ pol p qs * g + pol p ls = f)
      ⟨none, none, none, none, none, lst f, List.replicate (f.sz + 1 - g.sz) 0, rfl, s3, el3, ec3, lst_len f, by simp, lst_rests f, fun n hn => ?_, fun k hk => ?_, fun k hk => ?_, ?_⟩ (fun _ _ _ _ _ => trivial) (fun t x σ H4' H4 ht hP hy => ?_) (fun σ H' hP => ?_)
    · rw [(List.mem_replicate.mp hn).2]; omega
    · rw [List.getD_eq_getElem?_getD, List.getElem?_eq_none (by rw [lst_len]; omega)]; rfl
    · rw [List.getD_eq_getElem?_getD, List.getElem?_replicate, if_pos (by omega)]; rfl
    · rw [pol_rep, pol_lst]; grind
    · -- a turn
      obtain ⟨x7, x8, x9, x10, x11, ls, qs, rfl, s4, el, ec, hll, hql, hlr, hqr, hlz, hqz, hinv⟩ := hP
      obtain ⟨rfl, hx⟩ := hy
      obtain ⟨at', hat⟩ : ∃ at' : Nat, at' = f.sz - g.sz - t := ⟨_, rfl⟩
      have htop : at' + g.sz - 1 < f.sz := by omega
      have eat : (f.sz : Int) - 1 + (t : Int) * (-1) = ((at' + g.sz - 1 : Nat) : Int) := by omega
      have hx : x = V.int ((at' + g.sz - 1 : Nat) : Int) := hx.trans (congrArg V.int eat)
      subst hx
      obtain ⟨y, hyt⟩ : ∃ y, ls[at' + g.sz - 1]? = some y := ⟨_, List.getElem?_eq_getElem (by omega)⟩
      have hyr := rests_get hlr hyt
      refine ⟨_, rfl, _, rfl, l, _, _, _, rfl, rfl, .inl (.inl el), atI_nat (map_get hyt), _, rfl, _, _, rfl, rfl, .inl ⟨by omega, by omega⟩, _, rfl, _, _, rfl, rfl, by show (0 : Int) < (p : Int); omega, ?_⟩
      have hw0 : 0 ≤ y * bk % (p : Int) := Int.emod_nonneg _ (by omega)
      have hw1 : y * bk % (p : Int) < p := Int.emod_lt_of_pos _ (by omega)
      have hwz : zc p (y * bk % (p : Int)) = zc p y * zc p bk := by rw [zc_mod, zc_mul]
      show gName 8 (V.int (y * bk % (p : Int))) _ _ _
      generalize hW : y * bk % (p : Int) = W at hw0 hw1 hwz ⊢
      have hq0 : qs[at']? = some 0 := by
        have e := hqz at' (by omega)
        rw [List.getD_eq_getElem?_getD] at e
        have hlt : at' < qs.length := by omega
        rw [List.getElem?_eq_getElem hlt] at e ⊢
        exact congrArg some e
      refine ⟨V.int W, rfl, _, rfl, _, rfl, _, rfl, _, _, rfl, rfl, c, _, _, at', rfl, rfl, ec, ixN_of (by omega) (by rw [List.length_map]; omega), ?_⟩
      have nlc : l ≠ c := Ne.symm hcl
      have s5 : Same H (upd H4 c (.lst ((qs.map V.int).set at' (.int W)))) := same_mut s4 ncH
      generalize hH5 : upd H4 c (.lst ((qs.map V.int).set at' (.int W))) = H5 at s5
      have el5 : H5 l = some (.lst (ls.map V.int)) := by rw [← hH5, upd_ne nlc]; exact el
      have ec5 : H5 c = some (.lst ((qs.set at' W).map V.int)) := by rw [← hH5, upd_same, List.map_set]
      have hqp : pol p (qs.set at' W) = pol p qs + C (zc p W) * X ^ at' := by rw [pol_set hq0, Int.sub_zero]
      refine ⟨_, rfl, b, _, rfl, same_t s5 hB, ?_⟩
      refine for_it (KX.walk_enumT (xs := (lst g).map V.int)) (fun j σ H' => ∃ (x9 x10 x11 : Option V) (ms : List Int), σ = [some (.ref a), some (.ref b), some (.int p), some (.ref l), some (.int ((g.sz - 1 : Nat) : Int)), some (.int bk), some (.ref c), some (.int ((at' + g.sz - 1 : Nat) : Int)), some (.int W), x9, x10, x11] ∧ Same H H' ∧
          H' l = some (.lst (ms.map V.int)) ∧ H' c = some (.lst ((qs.set at' W).map V.int)) ∧ ms.length = f.sz ∧ Rests p ms ∧ (∀ k, f.sz - t ≤ k → ms.getD k 0 = 0) ∧ pol p ms = pol p ls - C (zc p W) * X ^ at' * pol p ((lst g).take j))
          ⟨x9, x10, x11, ls, rfl, s5, el5, ec5, hll, hlr, hlz, by rw [List.take_zero, pol_nil]; grind⟩ (fun j σ H' _ h => by obtain ⟨_, _, _, _, _, s', _⟩ := h; exact same_t s' hB) (fun j x σ H6 H7 hj hP hy => ?_) (fun σ H' hP => ?_)
      · obtain ⟨x9, x10, x11, ms, rfl, s6, el6, ec6, hl6, hr6, hz6, hp6⟩ := hP
        obtain ⟨T2, _, y2, rfl, nT2, rfl, f3, f4⟩ := hy
        cases f3
        obtain ⟨m, hm, rfl⟩ := get_map f4
        rw [List.length_map, lst_len] at hj
        have hmr := rests_get (lst_rests g) hm
        have sT2 := same_upd (o := .tup [.int (j : Nat), .int m]) nT2
        refine ⟨T2, [.int (j : Nat), .int m], rfl, .inl (.inl upd_same), rfl, .int (j : Nat), [.int m], rfl, .int m, [], rfl, rfl, ?_⟩
        obtain ⟨o, ho⟩ : ∃ o, ms[at' + j]? = some o := ⟨_, List.getElem?_eq_getElem (by omega)⟩
        have hor := rests_get hr6 ho
        have espot : ((at' + g.sz - 1 : Nat) : Int) - ((g.sz - 1 : Nat) : Int) + (j : Int) = ((at' + j : Nat) : Int) := by omega
        refine ⟨_, rfl, _, rfl, _, _, rfl, rfl, _, rfl, _, _, rfl, rfl, ?_⟩
        show gName 11 (V.int (((at' + g.sz - 1 : Nat) : Int) - ((g.sz - 1 : Nat) : Int) + (j : Int))) _ _ _
        rw [espot]
        refine ⟨_, rfl, _, rfl, l, _, _, _, rfl, rfl, .inl (.inl (sT2 _ _ el6)), atI_nat (map_get ho), _, rfl, _, rfl, _, _, rfl, rfl, .inl ⟨by omega, by omega⟩, _, _, rfl, rfl, _, rfl, _, _, rfl, rfl, by show (0 : Int) < (p : Int); omega, ?_⟩
        refine ⟨_, rfl, _, rfl, l, _, _, at' + j, rfl, rfl, sT2 _ _ el6, ixN_nat (by rw [List.length_map]; omega), ?_⟩
        refine ⟨_, _, _, ms.set (at' + j) ((o - W * m) % (p : Int)), rfl, same_mut (s6.trans sT2) nlH, ?_, ?_, by rw [List.length_set]; exact hl6, rests_set hr6 (Int.emod_nonneg _ (by omega)) (Int.emod_lt_of_pos _ (by omega)), fun k hk => ?_, ?_⟩
        · rw [upd_same, List.map_set]
        · rw [upd_ne hcl]; exact sT2 _ _ ec6
        · rw [getD_set_ne (by omega)]; exact hz6 k hk
        · rw [pol_set ho, pol_take hm, hp6, zc_sub, zc_mod, zc_sub, zc_mul, C_sub, C_sub, C_mul]
          rw [Lean.Grind.Semiring.pow_add]; grind
      · obtain ⟨x9, x10, x11, ms, rfl, s6, el6, ec6, hl6, hr6, hz6, hp6⟩ := hP
        rw [List.length_map, pol_take_all (Nat.le_refl _), pol_lst] at hp6
        refine ⟨_, _, _, _, _, ms, qs.set at' W, rfl, s6, el6, ec6, hl6, by rw [List.length_set]; exact hql, hr6, rests_set hqr hw0 hw1, fun k hk => ?_, fun k hk => ?_, ?_⟩
        · by_cases hk2 : f.sz - t ≤ k
          · exact hz6 k hk2
          · have hk3 : k = at' + (g.sz - 1) := by omega
            apply rests_zero (p := p) hr6
            have e1 : (pol p ms).s k = (pol p ls - C (zc p W) * X ^ at' * g).s k := by rw [hp6]
            rw [pol_ap] at e1
            rw [e1, sub_ap]
            have e2 : C (zc p W) * X ^ at' * g = C (zc p W) * (X ^ at' * g) := by grind
            rw [e2, Cmul_ap, Xpow_ap, if_neg (by omega), hk3, show at' + (g.sz - 1) - at' = g.sz - 1 by omega, pol_ap, show at' + (g.sz - 1) = at' + g.sz - 1 by omega, getD_of hyt, hwz]
            grind
        · rw [getD_set_ne (by omega)]
          exact hqz k (by omega)
        · rw [hqp, hp6]; grind
    · -- behind the loop
      obtain ⟨x7, x8, x9, x10, x11, ls, qs, rfl, s4, el, ec, hll, hql, hlr, hqr, hlz, hqz, hinv⟩ := hP
      refine ⟨_, rfl, p, hp, c, qs, rfl, .inl (.inl ec), hqr, by omega, fun H5 vq s5 rq => ?_⟩
      refine ⟨_, rfl, _, rfl, ((g.sz - 1 : Nat) : Int), rfl, l, _, rfl, .inl (.inl (s5 _ _ el)), fun d nd => ?_⟩
      rw [cutV_take, ← List.map_take]
      have s6 := same_upd (o := .lst ((ls.take (g.sz - 1)).map V.int)) nd
      refine ⟨p, hp, d, ls.take (g.sz - 1), rfl, .inl (.inl upd_same), fun n hn => hlr n (List.mem_of_mem_take hn), by rw [List.length_take]; omega, fun H7 vr s7 rr => ?_⟩
      refine ⟨line_of (by show 2 ≤ 100000; decide), fun t nt => ?_⟩
      have s8 := same_upd (o := .tup [vq, vr]) nt
      have epol : pol p (ls.take (g.sz - 1)) = pol p ls := pol_take_of fun i hi => hlz i (by omega)
      refine q _ t vq vr (pol p qs) (pol p ls) ((((s4.trans s5).trans s6).trans s7).trans s8) upd_same (rq.same ((s6.trans s7).trans s8)) ?_ hinv.symm ?_
      · rw [← epol]; exact (rr.same s8).w
      · rw [← epol]
        have := pol_sz_le (p := p) (ls.take (g.sz - 1))
        rw [List.length_take] at this
        omega
end
end KW
end

section
set_option Elab.async false
set_option linter.all false
set_option maxRecDepth 100000
set_option maxHeartbeats 4000000
namespace KW
open PySem PySem.Spec PyProof.Rows L2 K10 K10.Po LamX
theorem mul3 {p : Nat} [Pr p] (a b c : Po p) : a * (b * c) = a * b * c := by grind
theorem lst_lin {p : Nat} [Pr p] (a : Nat) : lst (lin (zc p (a : Int))) = [(0 - (a : Int)) % (p : Int), 1] := by
  have h2 := Pr.two p
  symm
  refine lst_ext (fun x hx => ?_) (by rw [lin_sz]; rfl) fun i hi => ?_
  · rcases List.mem_cons.mp hx with rfl | hx
    · exact ⟨Int.emod_nonneg _ (by omega), Int.emod_lt_of_pos _ (by omega)⟩
    · rw [List.mem_singleton.mp hx]; omega
  · rw [lin_sz] at hi
    match i, hi with
    | 0, _ => rw [lin_s0]; show zc p ((0 - (a : Int)) % (p : Int)) = _; rw [zc_mod, zc_sub, zc_zero]; grind
    | 1, _ => rw [lin_s1]; show zc p 1 = _; exact zc_one
section
variable {P : Program} {w : World} {K : PySem.W.Frag} {mg : Str → Option Value} {base : Heap}
def spRestsAt : Sp := fun vs H Q _ => ∃ (p : Nat) (_ : Pr p) (f : Po p) (v : V), vs = [v, .int p] ∧ Rp K H v f ∧ f ≠ 0 ∧ f.sz ≤ 100 ∧
  ∀ H' D ws (R2 : List (Nat × Nat)), Same H H' → H' D = some (.lst ws) → Pis H' ws R2 → R2.Pairwise (fun x y => x.1 < y.1) → (∀ a n, (a, n) ∈ R2 ↔ a < p ∧ 1 ≤ n ∧ Dv (lin (zc p (a : Int)) ^ n) f ∧ ¬ Dv (lin (zc p (a : Int)) ^ (n + 1)) f) → Q (.ref D) H'
theorem ok_law_rests_at (T : Txt K mg) : DefOk P w K mg base "_law_rests_at" 3 ["_law_poly", "_law_p"] (spRestsAt (K := K)) := by
  have d_law_worth := ok_law_worth (P := P) (w := w) (base := base) T
  have d_law_cut_by := ok_law_cut_by (P := P) (w := w) (base := base) T
  refine def_ok T.d_law_rests_at sc_law_rests_at (fun _ _ _ _ _ _ us hl => match us, hl with | [_, _], _ => rfl) (fun vs H Q E h => ?_) (fun f cdv A outer s H vs Q E hr h => ?_)
  · obtain ⟨p, _, f, v, rfl, _⟩ := h; rfl
  · obtain ⟨p, hp, f, v, rfl, ⟨va, rfl, hA⟩, hf0, hf, q⟩ := h
    have h2 := Pr.two p
    have h97 := Pr.le p
    have hfz := sz_pos hf0
    refine ⟨_, (pss_cons (ps_set (i := 2) sc_law_rests_at.nd rfl (Or.inl rfl) (pe_lst pa_nil))
      (pss_cons (ps_for PassesOwn.never rfl (pi_range1 rfl T.n_range (pa_cons (pv 1) pa_nil)) (pg_name (i := 3) sc_law_rests_at.nd rfl (Or.inl rfl))
        (pss_cons (ps_par (i := 4) (j := 5) rfl sc_law_rests_at.nd rfl rfl (by decide) rfl rfl (pa_cons (pv 0) (pa_cons pe_int pa_nil)) (by rfl))
        (pss_cons (ps_for PassesOwn.never rfl (pi_range1 rfl T.n_range (pa_cons (pe_callB call_len_seq (by rfl) T.n_len (by decide +kernel) (pa_cons (pv 0) pa_nil)) pa_nil)) (pg_name (i := 6) sc_law_rests_at.nd rfl (Or.inl rfl))
          (pss_one (ps_if (PW.pt (pw_and (pt_cmpR (op_neD hr.units) (pv 4) (pe_tup pa_nil) (nomark _)) (pw_and1 (pt_cmpR op_eq (pcall d_law_worth hr rfl (pa_cons (pv 4) (pa_cons (pv 3) (pa_cons (pv 1) pa_nil)))) pe_int (nomark _)))))
            (pss_one (ps_par (i := 4) (j := 5) rfl sc_law_rests_at.nd rfl rfl (by decide) rfl rfl (pa_cons (pe_ix (r := rIxT K) ix_tup (pcall d_law_cut_by hr rfl (pa_cons (pv 4) (pa_cons (pe_tup (pa_cons (pe_op op_mod (pe_op op_sub pe_int (pv 3)) (pv 1)) (pa_cons pe_int pa_nil))) (pa_cons (pv 1) pa_nil)))) pe_int (fun _ _ => rfl)) (pa_cons (pe_op op_add (pv 5) pe_int) pa_nil)) (by rfl)))
            pss_nil)))
        (pss_one (ps_if (pt_cmpR op_gt (pv 5) pe_int (nomark _))
          (pss_one (ps_expr (pe_bm PySem.F.plainAttrs_list PySem.F.slot_list_append PySem.F.type_list_append mt_append (pv 2) (pa_cons (pe_tup (pa_cons (pv 3) (pa_cons (pv 5) pa_nil))) pa_nil))))
          pss_nil)))))
      (pss_one (ps_ret (pv 2))))), ?_⟩
    refine ⟨line_of (by decide), fun D nD => ?_⟩
    have sD := same_upd (o := .lst []) nD
    have eD : (upd H D (.lst [])) D = some (.lst []) := upd_same
    generalize hH0 : upd H D (.lst []) = H0 at sD eD
    refine ⟨_, rfl, (p : Int), rfl, by omega, by omega, ?_⟩
    rw [Int.toNat_natCast]
    refine for_it (n := p) walk_range (fun i σ H' => ∃ (x3 x4 x5 x6 : Option V) (ws : List V) (R2 : List (Nat × Nat)), σ = [some (.ref va), some (.int (p : Int)), some (.ref D), x3, x4, x5, x6] ∧ Same H H' ∧ H' D = some (.lst ws) ∧ Pis H' ws R2 ∧ R2.Pairwise (fun x y => x.1 < y.1) ∧ R2.length ≤ i ∧
        (∀ a n, (a, n) ∈ R2 ↔ a < i ∧ 1 ≤ n ∧ Dv (lin (zc p (a : Int)) ^ n) f ∧ ¬ Dv (lin (zc p (a : Int)) ^ (n + 1)) f))
      ⟨none, none, none, none, [], [], rfl, sD, eD, Rl.nil, List.Pairwise.nil, Nat.le_refl _, fun a n => ⟨fun h => (nomatch h), fun h => absurd h.1 (by omega)⟩⟩ (fun _ _ _ _ _ => trivial) (fun i x σ H4 H5 hi hP hy => ?_) (fun σ H' hP => ?_)
    · obtain ⟨x3, x4, x5, x6, ws, R2, rfl, s4, hD4, hP4, hpw, hlen, hmem⟩ := hP
      obtain ⟨rfl, rfl⟩ := hy
      have ei : (0 : Int) + (i : Int) = (i : Int) := by omega
      show gName 3 (V.int (0 + (i : Int))) _ _ _
      rw [ei]
      refine ⟨_, rfl, _, _, rfl, ?_⟩
      have lF : ((lst f).map V.int).length = f.sz := by rw [List.length_map, lst_len]
      refine ⟨_, rfl, va, _, rfl, .inr (same_t s4 hA), (((lst f).map V.int).length : Int), rfl, by omega, by omega, ?_⟩
      rw [show (((lst f).map V.int).length : Int).toNat = f.sz by omega]
      refine for_it (n := f.sz) walk_range (fun k σ H' => ∃ (vl : V) (g : Po p) (t : Nat) (x6 : Option V), σ = [some (.ref va), some (.int (p : Int)), some (.ref D), some (.int (i : Int)), some vl, some (.int (t : Int)), x6] ∧ Same H5 H' ∧ Rp K H' vl g ∧ g ≠ 0 ∧ g.sz ≤ 100 ∧ f = lin (zc p (i : Int)) ^ t * g ∧ (t = k ∨ ev g (zc p (i : Int)) ≠ 0))
        ⟨.ref va, f, 0, _, rfl, Same.refl _, ⟨va, rfl, same_t s4 hA⟩, hf0, hf, by rw [Lean.Grind.Semiring.pow_zero]; grind, .inl rfl⟩ (fun _ _ _ _ _ => trivial) (fun k x σ H6 H7 hk hP hy => ?_) (fun σ H7 hP => ?_)
      · obtain ⟨vl, g, t, x6, rfl, s6, rg, hg0, hgz, hfg, hst⟩ := hP
        obtain ⟨rfl, rfl⟩ := hy
        refine ⟨_, rfl, line_of (by decide), fun c nc => ?_⟩
        have sc := same_upd (o := .tup []) nc
        refine ⟨_, _, (rg.same sc).dp, dp_T (ns := []) (.inl (.inl upd_same)), shaped_dT _, shaped_dT _, _, rfl, ?_⟩
        rw [eqv_dT, decide_eq_false (fun z => hg0 (lst_nil_iff.mp z))]
        refine iteT ?_
        have rg8 := rg.same sc
        generalize hH8 : upd H7 c (.tup []) = H8 at sc rg8
        refine ⟨_, rfl, _, rfl, _, rfl, p, hp, g, i, vl, rfl, rg8, hi, fun n hn0 hn1 hnv => ⟨rfl, _, rfl, ?_⟩⟩
        by_cases hev : ev g (zc p (i : Int)) = 0
        · have hn : n = 0 := by
            rw [hev] at hnv
            apply Classical.byContradiction; intro hne
            exact zc_ne_zero (p := p) hn0 hn1 hne hnv
          rw [decide_eq_true (congrArg V.int hn)]
          refine iteT ?_
          have htk : t = k := by
            rcases hst with h | h
            · exact h
            · exact absurd hev h
          refine ⟨_, rfl, _, rfl, _, _, rfl, rfl, _, rfl, _, _, rfl, rfl, by show (0 : Int) < (p : Int); omega, line_of (by show 2 ≤ 100000; decide), fun t9 n9 => ?_⟩
          have s9 := same_upd (o := .tup [.int ((0 - (i : Int)) % (p : Int)), .int 1]) n9
          refine ⟨_, rfl, p, hp, g, lin (zc p (i : Int)), vl, .ref t9, rfl, rg8.same s9, ⟨t9, rfl, .inl (.inl (by rw [upd_same, lst_lin]; rfl))⟩, lin_ne _, by omega, by rw [lin_sz]; omega, fun H10 t10 vq vr qq rr s10 ht10 rq rr' e10 l10 => ?_⟩
          refine ⟨t10, _, 0, _, rfl, rfl, .inl (.inl ht10), atI_nat (j := 0) rfl, _, rfl, _, _, rfl, rfl, _, _, rfl, ?_⟩
          have hr0 : rr = 0 := by
            obtain ⟨c', hc'⟩ := (dv_lin_iff g (zc p (i : Int))).mpr hev
            have : Dv (lin (zc p (i : Int))) rr := ⟨c' - qq, by grind⟩
            exact this.of_sz_lt l10
          have eg : g = lin (zc p (i : Int)) * qq := by rw [e10, hr0]; grind
          have hq0 : qq ≠ 0 := fun z => hg0 (by rw [eg, z]; grind)
          have hsz := (sz_mul (lin_ne (zc p (i : Int))) hq0).1
          rw [← eg, lin_sz] at hsz
          refine ⟨vq, qq, t + 1, _, rfl, ((s6.trans sc).trans s9).trans s10, rq.w, hq0, by omega, ?_, .inl (by omega)⟩
          rw [hfg, eg, Lean.Grind.Semiring.pow_succ]; exact mul3 _ _ _
        · have hn : n ≠ 0 := fun z => by rw [z, zc_zero] at hnv; exact hev hnv.symm
          rw [decide_eq_false (fun z => hn (V.int.inj z))]
          exact iteF ⟨vl, g, t, _, rfl, s6.trans sc, rg8, hg0, hgz, hfg, .inr hev⟩
      · obtain ⟨vl, g, t, x6', rfl, s6, rg, hg0, hgz, hfg, hst⟩ := hP
        have hlp : ∀ n : Nat, (lin (zc p (i : Int)) ^ n).sz = n + 1 := fun n => by
          induction n with
          | zero => rw [Lean.Grind.Semiring.pow_zero, Po.sz_one]
          | succ n ih =>
            have := (sz_mul (pow_ne (lin_ne (zc p (i : Int))) n) (lin_ne (zc p (i : Int)))).1
            rw [ih, lin_sz] at this
            rw [Lean.Grind.Semiring.pow_succ]; omega
        have hszt := (sz_mul (pow_ne (lin_ne (zc p (i : Int))) t) hg0).1
        rw [← hfg, hlp] at hszt
        have hgp := sz_pos hg0
        have hev : ev g (zc p (i : Int)) ≠ 0 := by
          rcases hst with h | h
          · omega
          · exact h
        have hnd : ¬ Dv (lin (zc p (i : Int))) g := fun z => hev ((dv_lin_iff _ _).mp z)
        have hiff : ∀ n : Nat, Dv (lin (zc p (i : Int)) ^ n) f ↔ n ≤ t := fun n => by rw [hfg]; exact dv_pow_iff (lin_irr _) hnd
        have hD7 := s6 _ _ hD4
        have hP7 := Pis.tk hP4 (Same.tk s6)
        refine ⟨_, rfl, _, _, rfl, rfl, _, rfl, ?_⟩
        by_cases ht0 : 0 < t
        · rw [decide_eq_true (show (0 : Int) < (t : Int) by omega)]
          refine iteT ?_
          refine ⟨_, rfl, .inl ⟨rfl, _, .inl (.inl hD7)⟩, _, rfl, _, rfl, line_of (by show 2 ≤ 100000; decide), fun t9 n9 => ?_⟩
          have s9 := same_upd (o := .tup [.int (i : Int), .int (t : Int)]) n9
          have et9 : (upd H7 t9 (.tup [.int (i : Int), .int (t : Int)])) t9 = some (.tup [.int (i : Int), .int (t : Int)]) := upd_same
          have hD9 := s9 _ _ hD7
          have hP9 := Pis.tk hP7 (Same.tk s9)
          generalize hH9 : upd H7 t9 (.tup [.int (i : Int), .int (t : Int)]) = H9 at s9 et9 hD9 hP9
          have hwl := hP9.1
          refine ⟨D, ws, .ref t9, rfl, rfl, hD9, line_lt (by omega), ?_⟩
          have tk := tk_lst (o := .lst (ws ++ [V.ref t9])) hD9
          refine ⟨_, _, _, _, ws ++ [.ref t9], R2 ++ [(i, t)], rfl, same_mut ((s4.trans s6).trans s9) nD, upd_same, (Pis.tk hP9 tk).snoc ⟨t9, rfl, (tk t9).1 _ et9⟩, ?_, by rw [List.length_append]; show R2.length + 1 ≤ i + 1; omega, fun a n => ?_⟩
          · rw [List.pairwise_append]
            refine ⟨hpw, List.pairwise_singleton _ _, fun x hx y hy => ?_⟩
            rw [List.mem_singleton.mp hy]
            exact ((hmem x.1 x.2).mp hx).1
          · rw [List.mem_append]
            constructor
            · rintro (h | h)
              · obtain ⟨k1, k2⟩ := (hmem a n).mp h
                exact ⟨by omega, k2⟩
              · have h := List.mem_singleton.mp h
                have h1 : a = i := congrArg Prod.fst h
                have h3 : n = t := congrArg Prod.snd h
                subst h1 h3
                exact ⟨by omega, ht0, (hiff n).mpr (Nat.le_refl _), fun z => by have := (hiff (n + 1)).mp z; omega⟩
            · rintro ⟨k1, k2, k3, k4⟩
              by_cases ha : a = i
              · subst ha
                have h5 := (hiff n).mp k3
                have h6 : ¬ n + 1 ≤ t := fun z => k4 ((hiff (n + 1)).mpr z)
                have : n = t := by omega
                subst this
                exact .inr (List.mem_singleton.mpr rfl)
              · exact .inl ((hmem a n).mpr ⟨by omega, k2, k3, k4⟩)
        · rw [decide_eq_false (show ¬ (0 : Int) < (t : Int) by omega)]
          refine iteF ⟨_, _, _, _, ws, R2, rfl, s4.trans s6, hD7, hP7, hpw, by omega, fun a n => ?_⟩
          constructor
          · intro h
            obtain ⟨k1, k2⟩ := (hmem a n).mp h
            exact ⟨by omega, k2⟩
          · rintro ⟨k1, k2, k3, k4⟩
            by_cases ha : a = i
            · subst ha
              have h5 := (hiff n).mp k3
              omega
            · exact (hmem a n).mpr ⟨by omega, k2, k3, k4⟩
    · obtain ⟨x3, x4, x5, x6, ws, R2, rfl, s4, hD4, hP4, hpw, hlen, hmem⟩ := hP
      exact ⟨_, rfl, q H' D ws R2 s4 hD4 hP4 hpw hmem⟩
end
end KW
end

section
set_option Elab.async false
set_option linter.all false
set_option maxRecDepth 100000
set_option maxHeartbeats 4000000
namespace KW
open PySem PySem.Spec PyProof.Rows L2 K10 K10.Po LamX
noncomputable def addAll {p : Nat} [Pr p] (L R : List (Po p × Nat)) : List (Po p × Nat) := R.foldl (fun L x => addL x.1 x.2 L) L
theorem addAll_append {p : Nat} [Pr p] (L A B : List (Po p × Nat)) : addAll L (A ++ B) = addAll (addAll L A) B := by unfold addAll; rw [List.foldl_append]
theorem len_addL {p : Nat} [Pr p] (q : Po p) (n : Nat) : ∀ L : List (Po p × Nat), (addL q n L).length ≤ L.length + 1
  | [] => by show 1 ≤ 0 + 1; omega
  | (k, c) :: r => by
    by_cases e : k = q
    · rw [addL_pos e]; show r.length + 1 ≤ r.length + 1 + 1; omega
    · rw [addL_neg e]
      have := len_addL q n r
      show (addL q n r).length + 1 ≤ r.length + 1 + 1; omega
theorem len_addAll {p : Nat} [Pr p] : ∀ (R L : List (Po p × Nat)), (addAll L R).length ≤ L.length + R.length
  | [], L => Nat.le_refl _
  | x :: R, L => by
    have h1 := len_addL x.1 x.2 L
    have h2 := len_addAll R (addL x.1 x.2 L)
    show (addAll (addL x.1 x.2 L) R).length ≤ L.length + (R.length + 1)
    omega
theorem nodup_addAll {p : Nat} [Pr p] : ∀ (R L : List (Po p × Nat)), (L.map (·.1)).Nodup → ((addAll L R).map (·.1)).Nodup
  | [], L, h => h
  | x :: R, L, h => nodup_addAll R (addL x.1 x.2 L) (nodup_addL h)
/-- a list of parts with their numbers -/
def Row {p : Nat} [Pr p] (H : Hp) (v : V) (R : List (Po p × Nat)) : Prop := ∃ D ws, v = .ref D ∧ H D = some (.lst ws) ∧ Pns H ws R
section
variable {P : Program} {w : World} {K : PySem.W.Frag} {mg : Str → Option Value} {base : Heap}
def spCounts : Sp := fun vs H Q _ => ∃ (p : Nat) (_ : Pr p) (a : Addr) (rv : List V) (RR : List (List (Po p × Nat))), vs = [.ref a] ∧ H a = some (.lst rv) ∧ Rl (fun H v R => Row H v R) H rv RR ∧ RR.flatten.length ≤ 1000 ∧
  ∀ H' d, Same H H' → H d = none → H' d = some (.dT (kvL (addAll [] RR.flatten))) → Q (.ref d) H'
theorem ok_law_counts (T : Txt K mg) : DefOk P w K mg base "_law_counts" 1 ["_law_some"] (spCounts) := by
  refine def_ok T.d_law_counts sc_law_counts (fun _ _ _ _ _ _ us hl => match us, hl with | [_], _ => rfl) (fun vs H Q E h => ?_) (fun f cdv A outer s H vs Q E hr h => ?_)
  · obtain ⟨p, _, a, rv, RR, rfl, _⟩ := h; rfl
  · obtain ⟨p, hp, a, rv, RR, rfl, hA, hRR, hlen, q⟩ := h
    have hu := hu_of hr
    refine ⟨_, (pss_cons (ps_set (i := 1) sc_law_counts.nd rfl (Or.inl rfl) pe_dnewT)
      (pss_cons (ps_for PassesOwn.never rfl (pi_list (pv 0)) (pg_name (i := 2) sc_law_counts.nd rfl (Or.inl rfl))
        (pss_one (ps_for PassesOwn.never rfl (pi_list (pv 2)) (pg_tup rfl (pgs_cons (pg_name (i := 3) sc_law_counts.nd rfl (Or.inl rfl)) (pgs_cons (pg_name (i := 4) sc_law_counts.nd rfl (Or.inl rfl)) pgs_nil)))
          (pss_one (ps_dput hu (pv 1) (pv 3) (pe_op op_add (pe_dget2 hu (pv 1) (pv 3) pe_int ⟨by rfl, by rfl, by rfl, by rfl⟩) (pv 4)) rfl)))))
      (pss_one (ps_ret (pv 1))))), ?_⟩
    intro d nd
    have s1 := same_upd (o := .dT []) nd
    have ed : (upd H d (.dT [])) d = some (.dT []) := upd_same
    generalize hH1 : upd H d (.dT []) = H1 at s1 ed
    have hda : d ≠ a := fun z => by rw [z, hA] at nd; cases nd
    refine ⟨_, rfl, a, rfl, ⟨_, .inl (.inl (s1 _ _ hA))⟩, ?_⟩
    refine for_it (walk_list (xs := rv)) (fun i σ H' => ∃ (x2 x3 x4 : Option V), σ = [some (.ref a), some (.ref d), x2, x3, x4] ∧ Same H H' ∧ H' d = some (.dT (kvL (addAll [] (RR.take i).flatten))))
      ⟨none, none, none, rfl, s1, by rw [List.take_zero]; exact ed⟩ (fun i σ H' _ h => by obtain ⟨_, _, _, _, s', _⟩ := h; exact .inl (.inl (s' _ _ hA))) (fun i x σ H4 H5 hi hP hy => ?_) (fun σ H' hP => ?_)
    · obtain ⟨x2, x3, x4, rfl, s4, hd4⟩ := hP
      obtain ⟨rfl, hx⟩ := hy
      obtain ⟨R, hR, D, ws, rfl, hD, hws⟩ := hRR.at hx
      have htk : RR.take (i + 1) = RR.take i ++ [R] := by rw [List.take_add_one, hR]; rfl
      have hfl : (RR.take (i + 1)).flatten = (RR.take i).flatten ++ R := by rw [htk, List.flatten_append]; simp
      have hle : ((RR.take (i + 1)).flatten).length ≤ 1000 := by
        have e : RR.flatten = (RR.take (i + 1)).flatten ++ (RR.drop (i + 1)).flatten := by rw [← List.flatten_append, List.take_append_drop]
        rw [e, List.length_append] at hlen; omega
      rw [hfl, List.length_append] at hle
      refine ⟨_, rfl, D, rfl, ⟨_, .inl (.inl (s4 _ _ hD))⟩, ?_⟩
      refine for_it (walk_list (xs := ws)) (fun j σ H' => ∃ (x3 x4 : Option V), σ = [some (.ref a), some (.ref d), some (.ref D), x3, x4] ∧ Same H H' ∧ H' d = some (.dT (kvL (addAll [] ((RR.take i).flatten ++ R.take j)))))
        ⟨_, _, rfl, s4, by rw [List.take_zero, List.append_nil]; exact hd4⟩ (fun j σ H' _ h => by obtain ⟨_, _, _, s', _⟩ := h; exact .inl (.inl (s' _ _ hD))) (fun j x σ H6 H7 hj hP hy => ?_) (fun σ H' hP => ?_)
      · obtain ⟨x3, x4, rfl, s6, hd6⟩ := hP
        obtain ⟨rfl, hx⟩ := hy
        obtain ⟨⟨g, n⟩, hg, t, vg, rfl, ht, ga, rfl, hga⟩ := hws.at hx
        have ht7 := s6 _ _ ht
        have hga7 := s6 _ _ hga
        refine ⟨t, [.ref ga, .int (n : Int)], rfl, .inl (.inl ht7), rfl, .ref ga, [.int (n : Int)], rfl, .int (n : Int), [], rfl, rfl, ?_⟩
        have hkey : H7 ga = some (.tup ((kOf g).map kV)) := by rw [kOf_kV]; exact hga7
        have hnd := nodup_addAll ((RR.take i).flatten ++ R.take j) ([] : List (Po p × Nat)) List.nodup_nil
        have hll := len_addAll ((RR.take i).flatten ++ R.take j) ([] : List (Po p × Nat))
        rw [List.length_append, List.length_take] at hll
        generalize hF : addAll [] ((RR.take i).flatten ++ R.take j) = F at hd6 hnd hll
        refine ⟨_, rfl, d, rfl, .inr ⟨_, .inl hd6⟩, _, rfl, _, .inr ⟨kvL F, kOf g, ga, .inl hd6, rfl, hkey, rfl⟩, _, rfl, ((getL g F).getD 0 : Nat), (n : Int), ?_, rfl, ?_⟩
        · rw [val_kvL]; cases getL g F <;> rfl
        refine ⟨_, rfl, _, rfl, d, _, rfl, DPut.t (k := kOf g) hd6 hkey (line_lt (by unfold kvL; rw [List.length_map]; rw [List.length_nil] at hll; omega)), ?_⟩
        rw [put_kvL g n F hnd]
        refine ⟨_, _, rfl, same_mut s6 nd, ?_⟩
        rw [upd_same, List.take_add_one, hg, ← List.append_assoc, addAll_append, hF]; rfl
      · obtain ⟨x3, x4, rfl, s6, hd6⟩ := hP
        rw [hws.1, List.take_of_length_le (Nat.le_refl _), ← hfl] at hd6
        exact ⟨_, _, _, rfl, s6, hd6⟩
    · obtain ⟨x2, x3, x4, rfl, s4, hd4⟩ := hP
      rw [hRR.1, List.take_of_length_le (Nat.le_refl _)] at hd4
      exact ⟨_, rfl, q H' d s4 nd hd4⟩
/-! ### the law's likeness -/
theorem kit_lt {K : PySem.W.Frag} {T : String} {b1 b2 r : Bool} (h1 : kitB T "list" = some b1) (h2 : kitB T "tuple" = some b2) (hr : r = (b1 || b2)) : PySem.W.kitAny K (.type T) [.type "list", .type "tuple"] = some r := by
  subst hr
  refine kitAny_cons (kit_ty h1) (fun hb => ?_) (fun hb => by rw [hb]; rfl)
  subst hb
  refine kitAny_cons (kit_ty h2) (fun hb => ?_) (fun hb => by rw [hb]; rfl)
  subst hb
  exact kitAny_nil
end
end KW
end

section
set_option Elab.async false
set_option linter.all false
set_option maxRecDepth 100000
set_option maxHeartbeats 4000000
namespace KW
open PySem PySem.Spec PyProof.Rows L2 K10 K10.Po LamX
section
variable {P : Program} {w : World} {K : PySem.W.Frag} {mg : Str → Option Value} {base : Heap}
def SameRel (spP : Sp) (vs : List V) (H : Hp) (Q : VK) : Prop :=
  (∃ a : Int, vs = [.int a, .int a] ∧ ∀ H', Same H H' → Q (.bl true) H') ∨
  ∃ (a b : Addr) (xs ys : List V) (lt : Bool), vs = [.ref a, .ref b] ∧ (if lt = true then H a = some (.lst xs) ∧ H b = some (.lst ys) else H a = some (.tup xs) ∧ H b = some (.tup ys)) ∧ xs.length = ys.length ∧ xs.length ≤ 1000 ∧
    (∀ (i : Nat) (x y : V), xs[i]? = some x → ys[i]? = some y → ∀ H' R, Same H H' → (∀ H'', Same H' H'' → R (.bl true) H'') → spP [x, y] H' R E0) ∧ ∀ H', Same H H' → Q (.bl true) H'
theorem same_step (T : Txt K mg) {k : Nat} {spP sp : Sp} (d_law_same : DefOk P w K mg base "_law_same" k ["_law_found", "_law_due"] spP) (hsp : ∀ vs H Q E, sp vs H Q E → SameRel spP vs H Q) : DefOk P w K mg base "_law_same" (k + 1) ["_law_found", "_law_due"] sp := by
  refine def_ok T.d_law_same sc_law_same (fun _ _ _ _ _ _ us hl => match us, hl with | [_, _], _ => rfl) (fun vs H Q E h => ?_) (fun f cdv A outer s H vs Q E hr h => ?_)
  · rcases hsp vs H Q E h with ⟨a, rfl, _⟩ | ⟨a, b, xs, ys, lt, rfl, _⟩ <;> rfl
  · refine ⟨_, (pss_cons (ps_if (pt_val (pe_callB call_isiT (by rfl) T.n_isinstance (by decide +kernel) (pa_cons (pv 1) (pa_cons (pe_tup (pa_cons (pe_bltn (v := .ty "list") (by rfl) T.n_list (by decide +kernel) rfl) (pa_cons (pe_bltn (v := .ty "tuple") (by rfl) T.n_tuple (by decide +kernel) rfl) pa_nil))) pa_nil))))
        (pss_cons (ps_if (PW.pt (pw_or (pt_cmpR op_ne (pe_callB call_isi (by rfl) T.n_isinstance (by decide +kernel) (pa_cons (pv 0) (pa_cons (pe_bltn (v := .ty "list") (by rfl) T.n_list (by decide +kernel) rfl) pa_nil))) (pe_callB call_isi (by rfl) T.n_isinstance (by decide +kernel) (pa_cons (pv 1) (pa_cons (pe_bltn (v := .ty "list") (by rfl) T.n_list (by decide +kernel) rfl) pa_nil))) (nomark _)) (pw_or1 (pt_not (pt_val (pe_callB call_isiT (by rfl) T.n_isinstance (by decide +kernel) (pa_cons (pv 0) (pa_cons (pe_tup (pa_cons (pe_bltn (v := .ty "list") (by rfl) T.n_list (by decide +kernel) rfl) (pa_cons (pe_bltn (v := .ty "tuple") (by rfl) T.n_tuple (by decide +kernel) rfl) pa_nil))) pa_nil))))))))
          (pss_one (ps_ret pe_bl))
          pss_nil)
        (pss_one (ps_ret (pe_and (pe_cmpR op_eq (pe_callB call_len_seq (by rfl) T.n_len (by decide +kernel) (pa_cons (pv 0) pa_nil)) (pe_callB call_len_seq (by rfl) T.n_len (by decide +kernel) (pa_cons (pv 1) pa_nil)) (nomark _)) (pe_one (pe_callB (cr_all rfl) (by rfl) T.n_all (by decide +kernel) (pa_cons (pe_lc (own := [("_law_one", 2), ("_law_other", 3)]) (g := (gTup K 2 (gCons (gName 2) (gCons (gName 3) gNil)))) (tt := tYes) rfl sc_law_same.nd (RZ.pi_zipA (by rfl) T.n_zip (pa_cons (pv 0) (pa_cons (pv 1) pa_nil))) (blkOk_by (N := ["_law_found", "_law_due", "_law_one", "_law_other"]) (sc := defScope s_law_same) (by decide +kernel)) (fun _ _ _ _ _ => (pg_tup rfl (pgs_cons (pg_name (i := 2) sc_law_same.nd rfl (Or.inl rfl)) (pgs_cons (pg_name (i := 3) sc_law_same.nd rfl (Or.inl rfl)) pgs_nil)))) (fun _ _ _ _ _ => pts_nil) (fun _ _ _ _ _ => (pcall d_law_same hr rfl (pa_cons (pv 2) (pa_cons (pv 3) pa_nil)) (Nat.le_refl _)))) pa_nil)))))))
        pss_nil)
      (pss_cons (ps_if (pt_cmpR op_isN (pv 1) pe_non (nomark _))
        (pss_one (ps_ret (pe_cmpR op_isN (pv 0) pe_non (nomark _))))
        pss_nil)
      (pss_cons (ps_if (PW.pt (pw_or (pt_cmpR op_ne (pe_callB call_isi (by rfl) T.n_isinstance (by decide +kernel) (pa_cons (pv 0) (pa_cons (pe_bltn (v := .ty "bool") (by rfl) T.n_bool (by decide +kernel) rfl) pa_nil))) (pe_callB call_isi (by rfl) T.n_isinstance (by decide +kernel) (pa_cons (pv 1) (pa_cons (pe_bltn (v := .ty "bool") (by rfl) T.n_bool (by decide +kernel) rfl) pa_nil))) (nomark _)) (pw_or1 (pt_cmpR op_ne (pe_callB call_isi (by rfl) T.n_isinstance (by decide +kernel) (pa_cons (pv 0) (pa_cons (pe_bltn (v := .ty "int") (by rfl) T.n_int (by decide +kernel) rfl) pa_nil))) (pe_callB call_isi (by rfl) T.n_isinstance (by decide +kernel) (pa_cons (pv 1) (pa_cons (pe_bltn (v := .ty "int") (by rfl) T.n_int (by decide +kernel) rfl) pa_nil))) (nomark _)))))
        (pss_one (ps_ret pe_bl))
        pss_nil)
      (pss_one (ps_ret (pe_and (pe_cmpR op_eq (pe_callB call_isi (by rfl) T.n_isinstance (by decide +kernel) (pa_cons (pv 0) (pa_cons (pe_bltn (v := .ty "str") (by rfl) T.n_str (by decide +kernel) rfl) pa_nil))) (pe_callB call_isi (by rfl) T.n_isinstance (by decide +kernel) (pa_cons (pv 1) (pa_cons (pe_bltn (v := .ty "str") (by rfl) T.n_str (by decide +kernel) rfl) pa_nil))) (nomark _)) (pe_one (pe_cmpR (op_eqD hr.units) (pv 0) (pv 1) (nomark _))))))))), ?_⟩
    have pc : Paired ClsV [.ty "list", .ty "tuple"] [.type "list", .type "tuple"] := .cons (.ty _) (.cons (.ty _) .nil)
    rcases hsp vs H Q E h with ⟨a, rfl, q⟩ | ⟨a, b, xs, ys, lt, rfl, hab, hlen, hle, hch, q⟩
    · have ti : ∀ (K : PySem.W.Frag) (H : Hp) (a : Int), TyX K H (.int a) (.type "int") := fun _ _ _ => .base (.int _)
      refine ⟨_, rfl, line_of (by show 2 ≤ 100000; decide), fun t nt => ?_⟩
      have st := same_upd (o := .tup [.ty "list", .ty "tuple"]) nt
      refine ⟨_, t, _, _, _, false, rfl, upd_same, pc, ti _ _ _, kit_lt (b1 := false) (b2 := false) (by decide +kernel) (by decide +kernel) rfl, _, rfl, ?_⟩
      refine iteF ?_
      refine ⟨_, rfl, rfl, _, rfl, ?_⟩
      rw [decide_eq_false (show ¬ V.int a = V.non from fun z => by cases z)]
      refine iteF ?_
      refine ⟨_, rfl, _, _, _, _, false, rfl, .ty _, ti _ _ _, kit_ty (by decide +kernel), _, rfl, _, _, _, _, false, rfl, .ty _, ti _ _ _, kit_ty (by decide +kernel), rfl, _, rfl, ?_⟩
      rw [decide_eq_true rfl]
      refine iteF ?_
      refine ⟨_, rfl, _, _, _, _, true, rfl, .ty _, ti _ _ _, kit_ty (by decide +kernel), _, rfl, _, _, _, _, true, rfl, .ty _, ti _ _ _, kit_ty (by decide +kernel), rfl, _, rfl, ?_⟩
      rw [decide_eq_true rfl]
      refine iteF ?_
      refine ⟨_, rfl, _, _, _, _, false, rfl, .ty _, ti _ _ _, kit_ty (by decide +kernel), _, rfl, _, _, _, _, false, rfl, .ty _, ti _ _ _, kit_ty (by decide +kernel), rfl, _, rfl, ?_⟩
      rw [decide_eq_true rfl]
      refine iteT ?_
      have hsh : SeqAt.shaped (PyData.int a) = true := shaped_plain rfl (by simp [PyData.depth])
      refine ⟨_, rfl, _, rfl, .int a, .int a, .int a, .int a, hsh, hsh, ?_⟩
      rw [(eqv_plain (.int a) (.int a) rfl rfl).mpr rfl]
      exact q _ st
    · have tyl : ∀ H', Same H H' → TyX K H' (.ref a) (.type (if lt = true then "list" else "tuple")) ∧ TyX K H' (.ref b) (.type (if lt = true then "list" else "tuple")) := fun H' s' => by
        cases lt with
        | true => exact ⟨.base (.lst (s' _ _ hab.1)), .base (.lst (s' _ _ hab.2))⟩
        | false => exact ⟨.base (.tup (s' _ _ hab.1)), .base (.tup (s' _ _ hab.2))⟩
      have kl : kitB (if lt = true then "list" else "tuple") "list" = some lt := by cases lt <;> decide +kernel
      have kt : PySem.W.kitAny K (.type (if lt = true then "list" else "tuple")) [.type "list", .type "tuple"] = some true := by
        cases lt with
        | true => exact kit_lt (b1 := true) (b2 := false) (by decide +kernel) (by decide +kernel) rfl
        | false => exact kit_lt (b1 := false) (b2 := true) (by decide +kernel) (by decide +kernel) rfl
      generalize (if lt = true then "list" else "tuple") = ty at tyl kl kt
      refine ⟨_, rfl, line_of (by show 2 ≤ 100000; decide), fun t nt => ?_⟩
      have st := same_upd (o := .tup [.ty "list", .ty "tuple"]) nt
      refine ⟨_, t, _, _, _, true, rfl, upd_same, pc, (tyl _ st).2, kt, _, rfl, ?_⟩
      refine iteT ?_
      generalize hH1 : upd H t (.tup [.ty "list", .ty "tuple"]) = H1 at st
      refine ⟨_, rfl, _, _, _, _, lt, rfl, .ty _, (tyl _ st).1, kit_ty kl, _, rfl, _, _, _, _, lt, rfl, .ty _, (tyl _ st).2, kit_ty kl, rfl, _, rfl, ?_⟩
      rw [decide_eq_true rfl]
      refine iteF ?_
      refine ⟨_, rfl, line_of (by show 2 ≤ 100000; decide), fun t2 n2 => ?_⟩
      have s2 := st.trans (same_upd (o := .tup [.ty "list", .ty "tuple"]) n2)
      refine ⟨_, t2, _, _, _, true, rfl, upd_same, pc, (tyl _ s2).1, kt, _, rfl, ?_⟩
      refine iteF ?_
      generalize hH2 : upd H1 t2 (.tup [.ty "list", .ty "tuple"]) = H2 at s2
      have sqa : ∀ H', Same H H' → SqL K H' a xs ∨ SqT K H' a xs := fun H' s' => by
        cases lt with
        | true => exact .inl (.inl (.inl (s' _ _ hab.1)))
        | false => exact .inr (.inl (.inl (s' _ _ hab.1)))
      have sqb : ∀ H', Same H H' → SqL K H' b ys ∨ SqT K H' b ys := fun H' s' => by
        cases lt with
        | true => exact .inl (.inl (.inl (s' _ _ hab.2)))
        | false => exact .inr (.inl (.inl (s' _ _ hab.2)))
      refine ⟨_, rfl, a, _, rfl, sqa _ s2, _, rfl, b, _, rfl, sqb _ s2, rfl, _, rfl, ?_⟩
      rw [decide_eq_true (show V.int (xs.length : Int) = V.int (ys.length : Int) from congrArg V.int (by omega))]
      refine iteT ?_
      have turn : ∀ (i : Nat) (x : V) (H3 H4 : Hp) (R : VK), i < xs.length → Same H2 H3 → YPair (fun i => xs[i]?) (fun i => ys[i]?) i H3 x H4 → (∀ H4, Same H3 H4 → R (V.bl true) H4) →
          gTup K 2 (gCons (gName 2) (gCons (gName 3) gNil)) x (wipe (L2.start ["_law_found", "_law_due", "_law_one", "_law_other"] [V.ref a, V.ref b]) [2, 3]) H4 fun σ2 H2 => wipe σ2 [2, 3] = wipe (L2.start ["_law_found", "_law_due", "_law_one", "_law_other"] [V.ref a, V.ref b]) [2, 3] ∧ tCall spP [] E0 (tCons (tVar 2) (tCons (tVar 3) tNil)) σ2 H2 R := by
        intro i x H3 H4 R hi s3 y hR
        obtain ⟨T', x1, x2, rfl, nT, rfl, f1, f2⟩ := y
        have sT := same_upd (o := .tup [x1, x2]) nT
        refine ⟨T', [x1, x2], rfl, .inl (.inl upd_same), rfl, x1, [x2], rfl, x2, [], rfl, rfl, rfl, ?_⟩
        exact ⟨_, rfl, _, rfl, hch i x1 x2 f1 f2 _ R (s2.trans (s3.trans sT)) fun H5 s5 => hR H5 (sT.trans s5)⟩
      refine ⟨_, rfl, _, rfl, a, b, xs, ys, rfl, ?_⟩
      cases lt with
      | true =>
        have ha2 : SqL K H2 a xs := .inl (.inl (s2 _ _ hab.1))
        have hb2 : SqL K H2 b ys := .inl (.inl (s2 _ _ hab.2))
        refine .inl ⟨ha2, hb2, ?_⟩
        refine lc_fn (n := xs.length) (walk_zip (by omega)) (fun _ => V.bl true) (by omega) (fun H h => ⟨same_l h ha2, same_l h hb2⟩) (fun i x H3 H4 R hi s3 y hR => turn i x H3 H4 R hi s3 y hR) (fun D H3 nD s3 hD => ?_)
        rw [map_trues] at hD
        refine ⟨D, _, rfl, .inl (.inl hD), ?_⟩
        rw [all_trues]; exact q _ (s2.trans s3)
      | false =>
        have ha2 : SqT K H2 a xs := .inl (.inl (s2 _ _ hab.1))
        have hb2 : SqT K H2 b ys := .inl (.inl (s2 _ _ hab.2))
        refine .inr ⟨ha2, hb2, ?_⟩
        refine lc_fn (n := xs.length) (KX.walk_zipT (by omega)) (fun _ => V.bl true) (by omega) (fun H h => ⟨same_t h ha2, same_t h hb2⟩) (fun i x H3 H4 R hi s3 y hR => turn i x H3 H4 R hi s3 y hR) (fun D H3 nD s3 hD => ?_)
        rw [map_trues] at hD
        refine ⟨D, _, rfl, .inl (.inl hD), ?_⟩
        rw [all_trues]; exact q _ (s2.trans s3)
/-- two lists of the same pairs -/
def spSame : Sp := fun vs H Q _ => ∃ (a b : Addr) (xs ys : List V) (R : List (Nat × Nat)), vs = [.ref a, .ref b] ∧ H a = some (.lst xs) ∧ H b = some (.lst ys) ∧ Pis H xs R ∧ Pis H ys R ∧ R.length ≤ 1000 ∧ ∀ H', Same H H' → Q (.bl true) H'
theorem ok_law_same (T : Txt K mg) : DefOk P w K mg base "_law_same" 4 ["_law_found", "_law_due"] (spSame) := by
  have d0 : DefOk P w K mg base "_law_same" 1 ["_law_found", "_law_due"] (fun _ _ _ _ => False) := def_ok T.d_law_same sc_law_same (fun _ _ _ _ _ _ us hl => match us, hl with | [_, _], _ => rfl) (fun vs H Q E h => h.elim) (fun f cdv A outer s H vs Q E hr h => h.elim)
  have d1 : DefOk P w K mg base "_law_same" 2 ["_law_found", "_law_due"] (fun vs H Q _ => ∃ a : Int, vs = [.int a, .int a] ∧ ∀ H', Same H H' → Q (.bl true) H') := same_step T d0 fun vs H Q E h => .inl h
  have d2 : DefOk P w K mg base "_law_same" 3 ["_law_found", "_law_due"] (fun vs H Q _ => ∃ (a b : Addr) (m n : Int), vs = [.ref a, .ref b] ∧ H a = some (.tup [.int m, .int n]) ∧ H b = some (.tup [.int m, .int n]) ∧ ∀ H', Same H H' → Q (.bl true) H') := same_step T d1 fun vs H Q E h => by
    obtain ⟨a, b, m, n, rfl, ha, hb, q⟩ := h
    refine .inr ⟨a, b, _, _, false, rfl, ⟨ha, hb⟩, rfl, by show 2 ≤ 1000; decide, fun i x y hx hy H' R s' hR => ?_, q⟩
    match i, hx, hy with
    | 0, hx, hy => cases hx; cases hy; exact ⟨m, rfl, hR⟩
    | 1, hx, hy => cases hx; cases hy; exact ⟨n, rfl, hR⟩
    | i + 2, hx, _ => simp at hx
  refine same_step T d2 fun vs H Q E h => ?_
  obtain ⟨a, b, xs, ys, R, rfl, ha, hb, hx, hy, hl, q⟩ := h
  refine .inr ⟨a, b, xs, ys, true, rfl, ⟨ha, hb⟩, by rw [hx.1, hy.1], by rw [hx.1]; exact hl, fun i x y ex ey H' R' s' hR' => ?_, q⟩
  obtain ⟨z, hz, t, rfl, ht⟩ := hx.at ex
  obtain ⟨z', hz', t', rfl, ht'⟩ := hy.at ey
  rw [hz] at hz'
  cases hz'
  exact ⟨t, t', _, _, rfl, s' _ _ ht, s' _ _ ht', hR'⟩
end
end KW
end

section
set_option Elab.async false
set_option linter.all false
set_option maxRecDepth 100000
set_option maxHeartbeats 4000000
namespace KW
open PySem PySem.Spec PyProof.Rows L2 K10 K10.Po LamX
section
variable {p : Nat} [Pr p]
theorem fpr_addAll : ∀ (R L : List (Po p × Nat)), fpr (addAll L R) = fpr L * fpr R
  | [], L => by show fpr L = fpr L * 1; grind
  | (k, c) :: R, L => by
    show fpr (addAll (addL k c L) R) = fpr L * (k ^ c * fpr R)
    rw [fpr_addAll R, fpr_addL]; grind
theorem wh_addAll : ∀ (R L : List (Po p × Nat)), Wh L → Wh R → Wh (addAll L R)
  | [], L, h, _ => h
  | (k, c) :: R, L, h, hR => wh_addAll R (addL k c L) (wh_addL h (hR _ List.mem_cons_self).1 (hR _ List.mem_cons_self).2) fun x hx => hR x (List.mem_cons_of_mem _ hx)
theorem pos_addAll : ∀ (R L : List (Po p × Nat)), (∀ x ∈ L, 1 ≤ x.2) → (∀ x ∈ R, 1 ≤ x.2) → ∀ x ∈ addAll L R, 1 ≤ x.2
  | [], L, h, _ => h
  | (k, c) :: R, L, h, hR => pos_addAll R (addL k c L) (fun x hx => by
      rcases mem_addL hx with h1 | h1
      · exact h x h1
      · have := hR _ List.mem_cons_self
        have h2 := h1.2
        show 1 ≤ x.2
        have : 1 ≤ c := this
        omega) fun x hx => hR x (List.mem_cons_of_mem _ hx)
theorem nodup_of_map {α β : Type} (f : α → β) : ∀ {l : List α}, (l.map f).Nodup → l.Nodup
  | [], _ => List.nodup_nil
  | x :: l, h => by
    have h : (f x :: l.map f).Nodup := h
    obtain ⟨h1, h2⟩ := List.nodup_cons.mp h
    exact List.nodup_cons.mpr ⟨fun m => h1 (List.mem_map.mpr ⟨x, m, rfl⟩), nodup_of_map f h2⟩
theorem len_le_of {α : Type} : ∀ {A B : List α}, A.Nodup → (∀ x ∈ A, x ∈ B) → A.length ≤ B.length
  | [], _, _, _ => Nat.zero_le _
  | x :: A, B, h, hs => by
    obtain ⟨h1, h2⟩ := List.nodup_cons.mp h
    obtain ⟨s, t, rfl⟩ := List.append_of_mem (hs x List.mem_cons_self)
    have := len_le_of (B := s ++ t) h2 fun y hy => by
      have h3 := hs y (List.mem_cons_of_mem _ hy)
      rcases List.mem_append.mp h3 with h3 | h3
      · exact List.mem_append.mpr (.inl h3)
      · rcases List.mem_cons.mp h3 with rfl | h3
        · exact absurd hy h1
        · exact List.mem_append.mpr (.inr h3)
    rw [List.length_append] at this
    rw [List.length_append, List.length_cons, List.length_cons]; omega
theorem inv_lead {f : Po p} {c : Fin p} (hc : c * f.s (f.sz - 1) = 1) : c ≠ 0 := fun z => fin_one_ne (p := p) (by rw [← hc, z]; grind)
theorem PartsOf.mul {f g : Po p} {A B R : List (Po p × Nat)} (hf : f ≠ 0) (hg : g ≠ 0) (a : PartsOf f A) (b : PartsOf g B) (r : PartsOf (f * g) R) : fpr (A ++ B) = fpr R := by
  obtain ⟨ca, ha, ea⟩ := a.pr
  obtain ⟨cb, hb, eb⟩ := b.pr
  obtain ⟨cr, hr, er⟩ := r.pr
  have e : cr = ca * cb := mono_eq (mul_ne hf hg) hr (by rw [lead_mul hf hg, show ca * cb * (f.s (f.sz - 1) * g.s (g.sz - 1)) = (ca * f.s (f.sz - 1)) * (cb * g.s (g.sz - 1)) by grind, ha, hb]; grind)
  rw [fpr_append, ea, eb, er, e, C_mul]; grind
/-- the two counts are alike -/
theorem counts_same {f g : Po p} {A B R : List (Po p × Nat)} (hf : f ≠ 0) (hg : g ≠ 0) (a : PartsOf f A) (b : PartsOf g B) (r : PartsOf (f * g) R) :
    (addAll [] (A ++ B)).length = (addAll [] R).length ∧ ∀ x ∈ addAll [] (A ++ B), x ∈ addAll [] R := by
  have wab : Wh (A ++ B) := fun x hx => by
    rcases List.mem_append.mp hx with h | h
    · exact a.wh x h
    · exact b.wh x h
  have pab : ∀ x ∈ A ++ B, 1 ≤ x.2 := fun x hx => by
    rcases List.mem_append.mp hx with h | h
    · exact a.pos x h
    · exact b.pos x h
  have n0 : (([] : List (Po p × Nat)).map (·.1)).Nodup := List.nodup_nil
  have z0 : ∀ x ∈ ([] : List (Po p × Nat)), 1 ≤ x.2 := fun x h => nomatch h
  have w0 : Wh ([] : List (Po p × Nat)) := fun x h => nomatch h
  have n1 := nodup_addAll (A ++ B) [] n0
  have n2 := nodup_addAll R [] n0
  have m := mem_uniq (wh_addAll _ _ w0 wab) (wh_addAll _ _ w0 r.wh) (pos_addAll _ _ z0 pab) (pos_addAll _ _ z0 r.pos) n1 n2 (by rw [fpr_addAll, fpr_addAll, PartsOf.mul hf hg a b r])
  exact ⟨Nat.le_antisymm (len_le_of (nodup_of_map _ n1) fun x h => (m x).mp h) (len_le_of (nodup_of_map _ n2) fun x h => (m x).mpr h), fun x h => (m x).mp h⟩
theorem ranked_lt {A : List (Po p × Nat)} (h : Ranked A) (n : (A.map (·.1)).Nodup) : A.Pairwise fun x y => KX.lexL (rk x.1) (rk y.1) = true := by
  rw [List.Nodup, List.pairwise_map] at n
  refine (List.pairwise_and_iff.mpr ⟨h, n⟩).imp fun {x y} hh => ?_
  obtain ⟨h1, h2⟩ := hh
  cases e : KX.lexL (rk x.1) (rk y.1) with
  | true => rfl
  | false => exact absurd (rk_inj (KX.lexL_tri _ _ e h1)) h2
theorem ranked_eq {A B : List (Po p × Nat)} (ha : Ranked A) (hb : Ranked B) (na : (A.map (·.1)).Nodup) (nb : (B.map (·.1)).Nodup) (h : ∀ x, x ∈ A ↔ x ∈ B) : A = B :=
  sorted_ext (lt := fun x y : Po p × Nat => KX.lexL (rk x.1) (rk y.1) = true) (fun x y h1 h2 => by rw [KX.lexL_asym _ _ h1] at h2; cases h2) (ranked_lt ha na) (ranked_lt hb nb) h
/-- parts of a shifted poly -/
theorem PartsOf.sft_mem {f : Po p} {b : Fin p} {A B : List (Po p × Nat)} (hf : f ≠ 0) (a : PartsOf f A) (r : PartsOf (sft b f) B) : (∀ x, x ∈ A.map (fun x => (sft b x.1, x.2)) ↔ x ∈ B) ∧ ((A.map fun x => (sft b x.1, x.2)).map (·.1)).Nodup := by
  obtain ⟨ca, ha, ea⟩ := a.pr
  obtain ⟨cb, hb, eb⟩ := r.pr
  have ec : ca = cb := by
    refine mono_eq (sft_ne (b := b) hf) ?_ hb
    rw [sft_sz, (sft_top b _ f (Nat.le_refl _) hf).2]; exact ha
  have hn : ((A.map fun x => (sft b x.1, x.2)).map (·.1)).Nodup := by
    have n := a.nd
    rw [List.Nodup, List.pairwise_map] at n
    rw [List.Nodup, List.pairwise_map, List.pairwise_map]
    exact n.imp fun {x y} h e => h (by
      have e : sft b x.1 = sft b y.1 := e
      rw [← sft_inv b x.1, e, sft_inv])
  refine ⟨mem_uniq (fun x hx => ?_) r.wh (fun x hx => ?_) r.pos hn r.nd ?_, hn⟩
  · obtain ⟨y, hy, rfl⟩ := List.mem_map.mp hx
    exact ⟨sft_irr (a.wh y hy).1, sft_mo (a.wh y hy).2⟩
  · obtain ⟨y, hy, rfl⟩ := List.mem_map.mp hx
    exact a.pos y hy
  · rw [fpr_sft, ea, eb, sft_mul, sft_C, ec]
/-- parts of a power -/
theorem PartsOf.pow_eq {f : Po p} {n : Nat} {A B : List (Po p × Nat)} (hf : Mo f) (hn : 1 ≤ n) (a : PartsOf f A) (r : PartsOf (f ^ n) B) : A.map (fun x => (x.1, x.2 * n)) = B := by
  obtain ⟨ca, ha, ea⟩ := a.pr
  obtain ⟨cb, hb, eb⟩ := r.pr
  have e1 : ca = 1 := by rw [hf.2] at ha; rw [← ha]; grind
  have e2 : cb = 1 := by rw [(Mo.pow hf n).2] at hb; rw [← hb]; grind
  have hnd : ((A.map fun x => (x.1, x.2 * n)).map (·.1)).Nodup := by
    rw [List.map_map]; exact a.nd
  have hrk : Ranked (A.map fun x => (x.1, x.2 * n)) := by
    unfold Ranked
    rw [List.pairwise_map]; exact a.rk
  refine ranked_eq hrk r.rk hnd r.nd (mem_uniq (fun x hx => ?_) r.wh (fun x hx => ?_) r.pos hnd r.nd ?_)
  · obtain ⟨y, hy, rfl⟩ := List.mem_map.mp hx; exact a.wh y hy
  · obtain ⟨y, hy, rfl⟩ := List.mem_map.mp hx
    exact Nat.mul_pos (a.pos y hy) hn
  · rw [fpr_pow, ea, eb, e1, e2, C_one]
    rw [show (1 : Po p) * f = f by grind, show (1 : Po p) * f ^ n = f ^ n by grind]
/-- the roots that parts tell are the roots that the division tells -/
theorem roots_same {f : Po p} {R : List (Po p × Nat)} {A B : List (Nat × Nat)} (hf : f ≠ 0) (r : PartsOf f R) (ha : A.Pairwise fun x y => x.1 < y.1) (hb : B.Pairwise fun x y => x.1 < y.1)
    (ma : ∀ a n, (a, n) ∈ A ↔ a < p ∧ (lin (zc p (a : Int)), n) ∈ R) (mb : ∀ a n, (a, n) ∈ B ↔ a < p ∧ 1 ≤ n ∧ Dv (lin (zc p (a : Int)) ^ n) f ∧ ¬ Dv (lin (zc p (a : Int)) ^ (n + 1)) f) (il : ∀ c : Fin p, Irr (lin c)) (ml : ∀ c : Fin p, Mo (lin c)) : A = B := by
  refine sorted_ext (lt := fun x y : Nat × Nat => x.1 < y.1) (fun x y h1 h2 => by omega) ha hb fun x => ?_
  obtain ⟨a, n⟩ := x
  rw [ma, mb]
  obtain ⟨c, hc, e⟩ := r.pr
  have key : ∀ k, Dv (lin (zc p (a : Int)) ^ k) f ↔ k ≤ cnt (lin (zc p (a : Int))) R := fun k => by
    rw [← cnt_iff (il _) (ml _) r.wh, e, dv_unit (inv_lead hc)]
  rw [mem_cnt r.nd r.pos, key, key]
  constructor
  · rintro ⟨h1, h2, h3⟩; exact ⟨h1, h2, by omega, by omega⟩
  · rintro ⟨h1, h2, h3, h4⟩; exact ⟨h1, h2, by omega⟩
end
/-! ### piece, its length, its number -/
noncomputable def dTn {p : Nat} [Pr p] (x : Po p × Nat) : PyData := .tuple [.int (x.1.sz : Int), dT (lst x.1), .int (x.2 : Int)]
def Tn {p : Nat} [Pr p] (H : Hp) (v : V) (x : Po p × Nat) : Prop := ∃ t vg, v = .ref t ∧ H t = some (.tup [.int (x.1.sz : Int), vg, .int (x.2 : Int)]) ∧ Rs H vg x.1
theorem Tn.tk {p : Nat} [Pr p] {H H' : Hp} {v : V} {x : Po p × Nat} (h : Tn H v x) (e : Tk H H') : Tn H' v x := let ⟨t, vg, a, b, c⟩ := h; ⟨t, vg, a, (e t).1 _ b, c.tk e⟩
noncomputable def csT {p : Nat} [Pr p] (x : Po p × Nat) : List KX.Kd := [.inl (x.1.sz : Int), .inr (lst x.1), .inl (x.2 : Int)]
theorem enc_csT {p : Nat} [Pr p] (x : Po p × Nat) : KX.enc (csT x) = (x.1.sz : Int) :: (lst x.1 ++ [(x.2 : Int)]) := rfl
theorem shp_csT {p : Nat} [Pr p] (x y : Po p × Nat) : KX.Shp (csT x) (csT y) ∧ (csT x).length = (csT y).length := by
  refine ⟨fun e => ⟨?_, fun _ _ => trivial⟩, rfl⟩
  rw [lst_len, lst_len]; omega
theorem rank_csT {p : Nat} [Pr p] {x y : Po p × Nat} (h : KX.lexL (KX.enc (csT y)) (KX.enc (csT x)) = false) : KX.lexL (rk y.1) (rk x.1) = false := by
  rw [enc_csT, enc_csT] at h
  unfold rk
  unfold KX.lexL at h ⊢
  by_cases e : (y.1.sz : Int) = (x.1.sz : Int)
  · rw [if_pos e] at h ⊢
    have hl : (lst y.1).length = (lst x.1).length := by rw [lst_len, lst_len]; omega
    rw [KX.lexL_app _ _ _ _ hl] at h ⊢
    by_cases e2 : lst y.1 = lst x.1
    · rw [if_pos e2]; rfl
    · rw [if_neg e2] at h ⊢; exact h
  · rw [if_neg e] at h ⊢; exact h
section
variable {K : PySem.W.Frag}
theorem Tn.dp {p : Nat} [Pr p] {H : Hp} {v : V} {x : Po p × Nat} (h : Tn H v x) : Dp K H v (dTn x) := by
  obtain ⟨t, vg, rfl, ht, ⟨a, rfl, ha⟩⟩ := h
  exact .tup (.inl (.inl ht)) (.cons (.int _) (.cons (dp_T (.inl (.inl ha))) (.cons (.int _) .nil)))
theorem Tn.uniq {p : Nat} [Pr p] {H : Hp} {v : V} {x y : Po p × Nat} (h : Tn H v x) (k : Tn H v y) : x = y := by
  obtain ⟨t, vg, rfl, ht, ⟨a, rfl, ha⟩⟩ := h
  obtain ⟨t', vg', e', ht', ⟨a', rfl, ha'⟩⟩ := k
  cases e'
  rw [ht] at ht'
  have := Option.some.inj ht'
  injection this with this
  injection this with h1 h2
  injection h2 with h2 h3
  injection h3 with h3 _
  cases h2
  rw [ha] at ha'
  have := Option.some.inj ha'
  injection this with this
  have e1 : lst x.1 = lst y.1 := ints_injV this
  have e2 := V.int.inj h3
  exact Prod.ext (lst_inj e1) (by omega)
end
/-- all but one object and the tables stay -/
def Bx (D : Addr) (H H' : Hp) : Prop := ∀ b o, b ≠ D → H b = some o → (∀ ps, o ≠ .tbl ps) → H' b = some o
theorem Bx.refl (D : Addr) (H : Hp) : Bx D H H := fun _ _ _ h _ => h
theorem Bx.trans {D : Addr} {H H1 H2 : Hp} (a : Bx D H H1) (b : Bx D H1 H2) : Bx D H H2 := fun c o n h q => b c o n (a c o n h q) q
theorem Bx.ext {D : Addr} {H H' : Hp} (e : ExtN H H') : Bx D H H' := fun c o _ h q => e c o h q
theorem Bx.same {D : Addr} {H H' : Hp} (e : Same H H') : Bx D H H' := fun c o _ h _ => e c o h
theorem Bx.but {D : Addr} {H H' : Hp} (e : But D H H') : Bx D H H' := fun c o n h _ => e c n o h
theorem Bx.lst {D a : Addr} {H H' : Hp} (e : Bx D H H') (n : a ≠ D) {xs : List V} (h : H a = some (.lst xs)) : H' a = some (.lst xs) := e a _ n h (fun ps z => by cases z)
theorem Bx.tk {D : Addr} {H H' : Hp} {xs : List V} (b : Bx D H H') (hD : H D = some (.lst xs)) : Tk H H' := fun a => ⟨fun ys h => b a _ (ne_of h hD (by intro z; cases z)) h (fun ps z => by cases z), fun o u h => b a _ (ne_of h hD (by intro z; cases z)) h (fun ps z => by cases z)⟩
theorem tabs_but {T : List (Addr × Str)} {D : Addr} {H H' : Hp} {xs : List V} (t : Tabs T H) (b : But D H H') (hD : H D = some (.lst xs)) : Tabs T H' := fun p hp => by
  obtain ⟨ps, h1, h2, h3⟩ := t p hp
  refine ⟨ps, b _ (ne_of h1 hD (by intro z; cases z)) _ h1, h2, fun pos cv hc => ?_⟩
  obtain ⟨c, e1, e2⟩ := h3 pos cv hc
  exact ⟨c, e1, b _ (ne_of e2 hD (by intro z; cases z)) _ e2⟩
theorem Rs.inj {p : Nat} [Pr p] {H : Hp} {v : V} {f g : Po p} (h : Rs H v f) (k : Rs H v g) : f = g := by
  obtain ⟨a, rfl, ha⟩ := h
  obtain ⟨a', e', ha'⟩ := k
  cases e'
  rw [ha] at ha'
  have := Option.some.inj ha'
  injection this with this
  exact lst_inj (ints_injV this)
theorem hh_lst {p : Nat} [Pr p] {a : Nat} (ha : a < p) : lst (X + C (zc p (a : Int)) : Po p) = [(a : Int), 1] ∧ (X + C (zc p (a : Int)) : Po p).sz = 2 ∧ Mo (X + C (zc p (a : Int)) : Po p) := by
  have h2 := Pr.two p
  have h1 : (X + C (zc p (a : Int)) : Po p).s 1 = 1 := by
    rw [add_ap, X_ap, C_ap, if_pos rfl, if_neg (by omega)]; grind
  have hs : (X + C (zc p (a : Int)) : Po p).sz = 2 := sz_eq (fun i hi => by rw [add_ap, X_ap, C_ap, if_neg (by omega), if_neg (by omega)]; grind) (.inr (by
    show (X + C (zc p (a : Int)) : Po p).s 1 ≠ 0
    rw [h1]; exact fin_one_ne))
  refine ⟨?_, hs, fun z => by rw [z, sz_zero] at hs; omega, by rw [hs]; exact h1⟩
  symm
  refine lst_ext (fun x hx => ?_) (by rw [hs]; rfl) fun i hi => ?_
  · rcases List.mem_cons.mp hx with rfl | hx
    · omega
    · rw [List.mem_singleton.mp hx]; omega
  · rw [hs] at hi
    match i, hi with
    | 0, _ => rw [add_ap, X_ap, C_ap, if_neg (by omega), if_pos rfl]; show zc p (a : Int) = _; grind
    | 1, _ => rw [h1]; show zc p 1 = _; rw [zc_one]
end KW
end

section
set_option Elab.async false
set_option linter.all false
set_option maxRecDepth 100000
set_option maxHeartbeats 4000000
namespace KW
open PySem PySem.Spec PyProof.Rows L2 K10 K10.Po LamX
theorem sz_powm {p : Nat} [Pr p] {h : Po p} (hm : Mo h) : ∀ n : Nat, (h ^ n).sz = n * (h.sz - 1) + 1
  | 0 => by rw [Lean.Grind.Semiring.pow_zero, Po.sz_one]; omega
  | n + 1 => by
    rw [Lean.Grind.Semiring.pow_succ]
    have h1 := (sz_mul (Mo.pow hm n).1 hm.1).1
    have h2 := sz_powm hm n
    have h3 := sz_pos hm.1
    rw [h2] at h1
    rw [Nat.add_mul]; omega
theorem mem_small {p : Nat} [Pr p] : ∀ {L : List (Po p × Nat)}, Wh L → (∀ x ∈ L, 1 ≤ x.2) → ∀ x ∈ L, x.1.sz ≤ (fpr L).sz ∧ x.2 ≤ (fpr L).sz
  | [], _, _, x, h => nomatch h
  | (k, c) :: r, hw, hp, x, h => by
    have w2 : Wh r := fun y hy => hw y (List.mem_cons_of_mem _ hy)
    have ih := mem_small w2 fun y hy => hp y (List.mem_cons_of_mem _ hy)
    have l1 := len_fpr w2 fun y hy => hp y (List.mem_cons_of_mem _ hy)
    have ik : Irr k := (hw _ (List.mem_cons_self (a := (k, c)) (l := r))).1
    have mk : Mo k := (hw _ (List.mem_cons_self (a := (k, c)) (l := r))).2
    have hc : 1 ≤ c := hp _ (List.mem_cons_self (a := (k, c)) (l := r))
    have hr0 : fpr r ≠ 0 := fun z => by rw [z, sz_zero] at l1; omega
    have h1 := (sz_mul (Mo.pow mk c).1 hr0).1
    have h2 := sz_powm mk c
    have h3 : 2 ≤ k.sz := ik.1
    have h4 : c ≤ c * (k.sz - 1) := Nat.le_mul_of_pos_right c (by omega)
    have h5 : k.sz - 1 ≤ c * (k.sz - 1) := Nat.le_mul_of_pos_left _ (by omega)
    have e : (fpr ((k, c) :: r)).sz + 1 = (k ^ c).sz + (fpr r).sz := h1
    rcases List.mem_cons.mp h with rfl | h
    · exact ⟨by show k.sz ≤ _; omega, by show c ≤ _; omega⟩
    · have := ih x h
      omega
theorem PartsOf.small {p : Nat} [Pr p] {f : Po p} {R : List (Po p × Nat)} (hf : f ≠ 0) (r : PartsOf f R) : (∀ x ∈ R, x.1.sz ≤ f.sz ∧ x.2 ≤ f.sz) ∧ R.length ≤ f.sz := by
  obtain ⟨c, hc, e⟩ := r.pr
  have h1 := mem_small r.wh r.pos
  have h2 := len_fpr r.wh r.pos
  rw [e, (lead_sz hf hc).1] at h1 h2
  exact ⟨h1, by omega⟩
theorem plain_dTn {p : Nat} [Pr p] (x : Po p × Nat) : plain (dTn x) = true := by
  unfold dTn plain plainAll plainAll plainAll plainAll
  rw [plain_dT]; rfl
theorem depth_dTn {p : Nat} [Pr p] (x : Po p × Nat) : (dTn x).depth ≤ 2 := by
  unfold dTn
  simp only [PyData.depth, PyData.depthAll, depth_dT]
  decide
theorem eqv_self {ds : List PyData} (h : plainAll ds = true) : PyData.eqv (.list ds) (.list ds) = true := (eqv_plain (.list ds) (.list ds) (by unfold plain; exact h) (by unfold plain; exact h)).mpr rfl
abbrev Tns {p : Nat} [Pr p] (H : Hp) (vs : List V) (R : List (Po p × Nat)) : Prop := Rl (fun H v x => Tn H v x) H vs R
theorem Tns.tk {p : Nat} [Pr p] {H H' : Hp} {vs : List V} {R : List (Po p × Nat)} (h : Tns H vs R) (e : Tk H H') : Tns H' vs R := Rl.imp h fun v x hx => Tn.tk hx e
/-- what the law keeps -/
structure Js {p : Nat} [Pr p] (c : Addr × Addr) (D S : Addr) (ns : List Int) (v4 v9 : V) (f g : Po p) (D5 q0 q2 : Addr) (w0 w2 : List V) (R0 R2 : List (Po p × Nat)) (H : Hp) : Prop where
  dr : Dr H D S ns
  tb : Tabs (lamT c) H
  one : Rs H v4 f
  oth : Rs H v9 g
  n5 : D5 ≠ D
  n0 : q0 ≠ D
  n2 : q2 ≠ D
  rows : ∃ q1, H D5 = some (.lst [.ref q0, .ref q1, .ref q2])
  h0 : H q0 = some (.lst w0)
  p0 : Pns H w0 R0
  h2 : H q2 = some (.lst w2)
  p2 : Pns H w2 R2
section
variable {p : Nat} [Pr p] {c : Addr × Addr} {D S : Addr} {ns : List Int} {v4 v9 : V} {f g : Po p} {D5 q0 q2 : Addr} {w0 w2 : List V} {R0 R2 : List (Po p × Nat)} {H H' : Hp}
theorem Js.bx (j : Js c D S ns v4 v9 f g D5 q0 q2 w0 w2 R0 R2 H) (b : Bx D H H') (d : Dr H' D S ns) (t : Tabs (lamT c) H') : Js c D S ns v4 v9 f g D5 q0 q2 w0 w2 R0 R2 H' := by
  obtain ⟨xs, hD⟩ := j.dr.lst
  have k := b.tk hD
  obtain ⟨q1, hr⟩ := j.rows
  exact ⟨d, t, j.one.tk k, j.oth.tk k, j.n5, j.n0, j.n2, ⟨q1, b.lst j.n5 hr⟩, b.lst j.n0 j.h0, Pns.tk j.p0 k, b.lst j.n2 j.h2, Pns.tk j.p2 k⟩
theorem Js.same (j : Js c D S ns v4 v9 f g D5 q0 q2 w0 w2 R0 R2 H) (s : Same H H') : Js c D S ns v4 v9 f g D5 q0 q2 w0 w2 R0 R2 H' := j.bx (.same s) (j.dr.same s) (j.tb.ext s)
theorem Js.ext (j : Js c D S ns v4 v9 f g D5 q0 q2 w0 w2 R0 R2 H) (s : ExtN H H') (t : Tabs (lamT c) H') : Js c D S ns v4 v9 f g D5 q0 q2 w0 w2 R0 R2 H' := j.bx (.ext s) (j.dr.ext s) t
theorem Js.but (j : Js c D S ns v4 v9 f g D5 q0 q2 w0 w2 R0 R2 H) (s : But D H H') (d : Dr H' D S ns) : Js c D S ns v4 v9 f g D5 q0 q2 w0 w2 R0 R2 H' := let ⟨_, hD⟩ := j.dr.lst; j.bx (.but s) d (tabs_but j.tb s hD)
end
theorem len_lt {A : List (Nat × Nat)} {m : Nat} (h : A.Pairwise fun x y => x.1 < y.1) (hm : ∀ x ∈ A, x.1 < m) : A.length ≤ m := by
  have n : (A.map (·.1)).Nodup := by
    rw [List.Nodup, List.pairwise_map]
    exact h.imp fun {x y} z e => by omega
  have := len_le_of (B := List.range m) n fun x hx => by
    obtain ⟨y, hy, rfl⟩ := List.mem_map.mp hx
    exact List.mem_range.mpr (hm y hy)
  rw [List.length_map, List.length_range] at this; exact this
theorem rl_of {α : Type} {φ : Hp → V → α → Prop} {H : Hp} {ys : List V} {R : List α} (hl : ys.length = R.length) (h : ∀ (i : Nat) (y : V), ys[i]? = some y → ∃ x, R[i]? = some x ∧ φ H y x) : Rl φ H ys R := by
  refine ⟨hl, fun i x hx => ?_⟩
  have hi : i < R.length := by
    apply Classical.byContradiction; intro z
    rw [List.getElem?_eq_none (by omega)] at hx; cases hx
  have hy := List.getElem?_eq_getElem (l := ys) (i := i) (by omega)
  obtain ⟨x', h1, h2⟩ := h i _ hy
  rw [hx] at h1
  rw [Option.some.inj h1]
  exact ⟨_, hy, h2⟩
theorem nxt_of {E : Ends} {σ : L2.St} {H : Hp} (h : E.nx σ H) : tNext E σ H := h
theorem extN_mut {H H' : Hp} {D : Addr} {o : HO} (e : ExtN H H') (n : H D = none) : ExtN H (upd H' D o) := fun b u h q => by
  rw [upd_ne (fun z => by rw [z, n] at h; cases h)]; exact e b u h q
theorem dr_mut {H : Hp} {D S D5 : Addr} {ns : List Int} {o : HO} (d : Dr H D S ns) (n : D5 ≠ D) (m : D5 ≠ S) : Dr (upd H D5 o) D S ns := let ⟨i, b, e, h1, h2, h3⟩ := d; ⟨i, b, e, by rw [upd_ne (Ne.symm n)]; exact h1, by rw [upd_ne (Ne.symm m)]; exact h2, h3⟩
end KW
end

section
set_option Elab.async false
set_option linter.all false
set_option maxRecDepth 100000
set_option maxHeartbeats 8000000
namespace KW
open PySem PySem.Spec PyProof.Rows L2 K10 K10.Po LamX
section
variable {P : Program} {w : World} {K : PySem.W.Frag} {mg : Str → Option Value} {base : Heap}
def spLaw (c : Addr × Addr) : Sp := fun vs H Q _ => ∃ (a : Addr) (ns : List Int), vs = [.ref a] ∧ SqL K H a (ns.map V.int) ∧ Tabs (lamT c) H ∧ ∀ H', Q (.bl true) H'
theorem ok_law {c : Addr × Addr} {f0 : Addr} {fd0 : FuncData} (F0 : Fun K "law" "law" s_law f0 fd0) (T : Txt K mg) (TR : RkAt K mg base c) : FnOk P w K mg base CX0 13 f0 fd0 ["_law_script"] (spLaw (K := K) c) := by
  have d_law_begin := ok_law_begin (P := P) (w := w) (base := base) T
  have d_law_any_prime := ok_law_any_prime (P := P) (w := w) (base := base) T
  have d_law_level := ok_law_level (P := P) (w := w) (base := base) T
  have d_law_take := ok_law_take (P := P) (w := w) (base := base) T
  have d_law_mul := ok_law_mul (P := P) (w := w) (base := base) T
  have d_law_counts := ok_law_counts (P := P) (w := w) (base := base) T
  have d_law_same := ok_law_same (P := P) (w := w) (base := base) T
  have d_law_rests_at := ok_law_rests_at (P := P) (w := w) (base := base) T
  have d_law_shifted := ok_law_shifted (P := P) (w := w) (base := base) T
  have d_parts := ok_parts (P := P) (w := w) (base := base) T TR
  have d_rest_roots := ok_rest_roots (P := P) (w := w) (base := base) T TR
  have d_is_whole := ok_is_whole (P := P) (w := w) (base := base) T
  refine F0.ok sc_law (fun vs H Q E h => ?_) (fun cdv A outer s H vs Q E hr h => ?_)
  · obtain ⟨a, ns, rfl, _⟩ := h; rfl
  · obtain ⟨a, ns0, rfl, hA, hT, q⟩ := h
    have hu := hu_of hr
    have hns : (ns0.take 63).length ≤ 63 := by rw [List.length_take]; omega
    generalize hns' : ns0.take 63 = ns at hns
    refine ⟨_, (pss_cons (ps_set (i := 1) sc_law.nd rfl (Or.inl rfl) (pcall d_law_begin hr rfl (pa_cons (pv 0) pa_nil)))
      (pss_cons (ps_set (i := 2) sc_law.nd rfl (Or.inr rfl) (pcall d_law_any_prime hr rfl (pa_cons (pv 1) pa_nil)))
      (pss_cons (ps_set (i := 3) sc_law.nd rfl (Or.inl rfl) (pcall d_law_level hr rfl (pa_cons (pv 1) (pa_cons (pcall d_law_take hr rfl (pa_cons (pv 1) (pa_cons pe_int pa_nil))) (pa_cons (pv 2) pa_nil)))))
      (pss_cons (ps_set (i := 4) sc_law.nd rfl (Or.inl rfl) (pcall d_law_mul hr rfl (pa_cons (pcall d_law_level hr rfl (pa_cons (pv 1) (pa_cons (pcall d_law_take hr rfl (pa_cons (pv 1) (pa_cons pe_int pa_nil))) (pa_cons (pv 2) pa_nil)))) (pa_cons (pe_tup (pa_cons (pe_op op_add pe_int (pcall d_law_take hr rfl (pa_cons (pv 1) (pa_cons (pe_op op_sub (pv 2) pe_int) pa_nil)))) pa_nil)) (pa_cons (pv 2) pa_nil)))))
      (pss_cons (ps_setLc (own := [("_law_row", 14)]) (g := (gName 14)) (tt := tYes) (i := 5) rfl sc_law.nd rfl rfl (sw_true rfl rfl rfl (by decide +kernel)) (pi_tup (pe_tup (pa_cons (pv 3) (pa_cons (pv 4) (pa_cons (pcall d_law_mul hr rfl (pa_cons (pv 3) (pa_cons (pv 4) (pa_cons (pv 2) pa_nil)))) pa_nil))))) (blkOk_by (N := ["_law_script", "_law_draw", "_law_p", "_law_one", "_law_other", "_law_rows", "_law_poly", "_law_by", "_law_due", "_law_found", "_law_small", "_law_power", "_law_k", "_law_piece", "_law_row", "_law_times"]) (sc := defScope s_law) (by decide +kernel)) (fun _ _ _ _ _ => (pg_name (i := 14) sc_law.nd rfl (Or.inl rfl))) (fun _ _ _ _ _ => pts_nil) (fun _ _ _ _ _ => (pe_ix (r := rIxT K) ix_tup (pcallK d_parts hr rfl (pa_cons (pv 14) pa_nil) (pk_cons (pv 2) pk_nil)) pe_int (fun _ _ => rfl))))
      (pss_cons (ps_if (PW.pt (pw_or (pt_cmpR (KX.op_neT hr.units) (pcall d_law_counts hr rfl (pa_cons (pe_slice sl_list (pv 5) po_none (po_some pe_int)) pa_nil)) (pcall d_law_counts hr rfl (pa_cons (pe_slice sl_list (pv 5) (po_some pe_int) po_none) pa_nil)) (nomark _)) (pw_or1 (pt_cmpR op_ne (pe_ix (r := rIxT K) ix_tup (pcallK d_parts hr rfl (pa_cons (pv 4) pa_nil) (pk_cons (pv 2) pk_nil)) pe_int (fun _ _ => rfl)) (pe_ix (r := rIxT K) ix_tup (pv 4) (pe_un un_neg pe_int) (fun _ _ => rfl)) (nomark _)))))
        (pss_one (ps_ret pe_bl))
        pss_nil)
      (pss_cons (ps_for PassesOwn.never rfl (pi_tup (pe_tup (pa_cons (pv 3) (pa_cons (pcall d_law_mul hr rfl (pa_cons (pv 4) (pa_cons (pe_tup (pa_cons pe_int (pa_cons pe_int pa_nil))) (pa_cons (pv 2) pa_nil)))) pa_nil)))) (pg_name (i := 6) sc_law.nd rfl (Or.inl rfl))
        (pss_one (ps_if (pt_not (pt_val (pcall d_law_same hr rfl (pa_cons (pcallK d_rest_roots hr rfl (pa_cons (pv 6) pa_nil) (pk_cons (pv 2) pk_nil)) (pa_cons (pcall d_law_rests_at hr rfl (pa_cons (pv 6) (pa_cons (pv 2) pa_nil))) pa_nil)))))
          (pss_one (ps_ret pe_bl))
          pss_nil)))
      (pss_cons (ps_set (i := 7) sc_law.nd rfl (Or.inr rfl) (pcall d_law_take hr rfl (pa_cons (pv 1) (pa_cons (pv 2) pa_nil))))
      (pss_cons (ps_setLc (own := [("_law_piece", 13), ("_law_times", 15)]) (g := (gTup K 2 (gCons (gName 13) (gCons (gName 15) gNil)))) (tt := tYes) (i := 8) rfl sc_law.nd rfl rfl (sw_true rfl rfl rfl (by decide +kernel)) (pi_list (pe_ix (r := rIxL K) ix_list (pv 5) pe_int (fun _ _ => rfl))) (blkOk_by (N := ["_law_script", "_law_draw", "_law_p", "_law_one", "_law_other", "_law_rows", "_law_poly", "_law_by", "_law_due", "_law_found", "_law_small", "_law_power", "_law_k", "_law_piece", "_law_row", "_law_times"]) (sc := defScope s_law) (by decide +kernel)) (fun _ _ _ _ _ => (pg_tup rfl (pgs_cons (pg_name (i := 13) sc_law.nd rfl (Or.inl rfl)) (pgs_cons (pg_name (i := 15) sc_law.nd rfl (Or.inl rfl)) pgs_nil)))) (fun _ _ _ _ _ => pts_nil) (fun _ _ _ _ _ => (pe_tup (pa_cons (pe_callB (len_of (K := K) rfl) (by rfl) T.n_len (by decide +kernel) (pa_cons (pv 13) pa_nil)) (pa_cons (pcall d_law_shifted hr rfl (pa_cons (pv 13) (pa_cons (pv 7) (pa_cons (pv 2) pa_nil)))) (pa_cons (pv 15) pa_nil))))))
      (pss_cons (ps_setLc (own := [("_law_piece", 13), ("_law_times", 15)]) (g := (gTup K 2 (gCons (gName 13) (gCons (gName 15) gNil)))) (tt := tYes) (i := 9) rfl sc_law.nd rfl rfl (sw_true rfl rfl rfl (by decide +kernel)) (pi_list (pe_ix (r := rIxT K) ix_tup (pcallK d_parts hr rfl (pa_cons (pcall d_law_shifted hr rfl (pa_cons (pv 3) (pa_cons (pv 7) (pa_cons (pv 2) pa_nil)))) pa_nil) (pk_cons (pv 2) pk_nil)) pe_int (fun _ _ => rfl))) (blkOk_by (N := ["_law_script", "_law_draw", "_law_p", "_law_one", "_law_other", "_law_rows", "_law_poly", "_law_by", "_law_due", "_law_found", "_law_small", "_law_power", "_law_k", "_law_piece", "_law_row", "_law_times"]) (sc := defScope s_law) (by decide +kernel)) (fun _ _ _ _ _ => (pg_tup rfl (pgs_cons (pg_name (i := 13) sc_law.nd rfl (Or.inl rfl)) (pgs_cons (pg_name (i := 15) sc_law.nd rfl (Or.inl rfl)) pgs_nil)))) (fun _ _ _ _ _ => pts_nil) (fun _ _ _ _ _ => (pe_tup (pa_cons (pe_callB (len_of (K := K) rfl) (by rfl) T.n_len (by decide +kernel) (pa_cons (pv 13) pa_nil)) (pa_cons (pv 13) (pa_cons (pv 15) pa_nil))))))
      (pss_cons (ps_if (pt_cmpR (op_neD hr.units) (pv 9) (pe_callB (KX.cr_sortedKd hr.units) (by rfl) T.n_sorted (by decide +kernel) (pa_cons (pv 8) pa_nil)) (nomark _))
        (pss_one (ps_ret pe_bl))
        pss_nil)
      (pss_cons (ps_set (i := 10) sc_law.nd rfl (Or.inl rfl) (pe_ifExp (pt_cmpR op_lt (pv 2) pe_int (nomark _)) (pcall d_law_level hr rfl (pa_cons (pv 1) (pa_cons (pe_op op_add pe_int (pcall d_law_take hr rfl (pa_cons (pv 1) (pa_cons (pe_callB (call_max2 rfl) (by rfl) T.n_max (by decide +kernel) (pa_cons pe_int (pa_cons (pe_op op_fdiv pe_int (pv 2)) pa_nil))) pa_nil)))) (pa_cons (pv 2) pa_nil)))) (pe_tup (pa_cons (pv 7) (pa_cons pe_int pa_nil)))))
      (pss_cons (ps_if (pt_cmpR op_lt (pe_op op_mul (pe_op op_sub (pe_callB call_len_seq (by rfl) T.n_len (by decide +kernel) (pa_cons (pv 10) pa_nil)) pe_int) (pv 2)) pe_int (nomark _))
        (pss_cons (ps_set (i := 11) sc_law.nd rfl (Or.inl rfl) (pe_tup (pa_cons pe_int pa_nil)))
        (pss_cons (ps_for PassesOwn.never rfl (pi_range1 rfl T.n_range (pa_cons (pv 2) pa_nil)) (pg_name (i := 12) sc_law.nd rfl (Or.inl rfl))
          (pss_one (ps_set (i := 11) sc_law.nd rfl (Or.inl rfl) (pcall d_law_mul hr rfl (pa_cons (pv 11) (pa_cons (pv 10) (pa_cons (pv 2) pa_nil)))))))
        (pss_cons (ps_setLc (own := [("_law_piece", 13), ("_law_times", 15)]) (g := (gTup K 2 (gCons (gName 13) (gCons (gName 15) gNil)))) (tt := tYes) (i := 8) rfl sc_law.nd rfl rfl (sw_true rfl rfl rfl (by decide +kernel)) (pi_list (pe_ix (r := rIxT K) ix_tup (pcallK d_parts hr rfl (pa_cons (pv 10) pa_nil) (pk_cons (pv 2) pk_nil)) pe_int (fun _ _ => rfl))) (blkOk_by (N := ["_law_script", "_law_draw", "_law_p", "_law_one", "_law_other", "_law_rows", "_law_poly", "_law_by", "_law_due", "_law_found", "_law_small", "_law_power", "_law_k", "_law_piece", "_law_row", "_law_times"]) (sc := defScope s_law) (by decide +kernel)) (fun _ _ _ _ _ => (pg_tup rfl (pgs_cons (pg_name (i := 13) sc_law.nd rfl (Or.inl rfl)) (pgs_cons (pg_name (i := 15) sc_law.nd rfl (Or.inl rfl)) pgs_nil)))) (fun _ _ _ _ _ => pts_nil) (fun _ _ _ _ _ => (pe_tup (pa_cons (pv 13) (pa_cons (pe_op op_mul (pv 15) (pv 2)) pa_nil)))))
        (pss_one (ps_if (pt_cmpR (op_neD hr.units) (pe_ix (r := rIxT K) ix_tup (pcallK d_parts hr rfl (pa_cons (pv 11) pa_nil) (pk_cons (pv 2) pk_nil)) pe_int (fun _ _ => rfl)) (pv 8) (nomark _))
          (pss_one (ps_ret pe_bl))
          pss_nil)))))
        pss_nil)
      (pss_one (ps_ret (pe_callB (cr_all rfl) (by rfl) T.n_all (by decide +kernel) (pa_cons (pe_lc (own := [("_law_piece", 13), ("_law_times", 15)]) (g := (gTup K 2 (gCons (gName 13) (gCons (gName 15) gNil)))) (tt := tYes) rfl sc_law.nd (pi_list (pe_ix (r := rIxL K) ix_list (pv 5) pe_int (fun _ _ => rfl))) (blkOk_by (N := ["_law_script", "_law_draw", "_law_p", "_law_one", "_law_other", "_law_rows", "_law_poly", "_law_by", "_law_due", "_law_found", "_law_small", "_law_power", "_law_k", "_law_piece", "_law_row", "_law_times"]) (sc := defScope s_law) (by decide +kernel)) (fun _ _ _ _ _ => (pg_tup rfl (pgs_cons (pg_name (i := 13) sc_law.nd rfl (Or.inl rfl)) (pgs_cons (pg_name (i := 15) sc_law.nd rfl (Or.inl rfl)) pgs_nil)))) (fun _ _ _ _ _ => pts_nil) (fun _ _ _ _ _ => (pcallK d_is_whole hr rfl (pa_cons (pv 13) pa_nil) (pk_cons (pv 2) pk_nil)))) pa_nil))))))))))))))))), ?_⟩
    refine ⟨_, rfl, a, ns0, rfl, hA, fun H1 D S s1 nD d1 => ?_⟩
    rw [hns'] at d1
    have t1 := hT.ext s1
    refine ⟨_, rfl, D, S, ns, rfl, d1, hns, fun H2 p b2 d2 hp => ?_⟩
    have h2 := Pr.two p
    have h97 := Pr.le p
    obtain ⟨x1, hx1⟩ := d1.lst
    have t2 := tabs_but t1 b2 hx1
    refine ⟨_, rfl, _, rfl, D, S, ns, 11, rfl, d2, hns, by decide, by decide, fun H3 r3 b3 d3 hr0 hr1 => ?_⟩
    obtain ⟨m3, rfl⟩ := Int.eq_ofNat_of_zero_le hr0
    refine ⟨_, rfl, p, hp, D, S, ns, m3, rfl, d3, hns, by omega, fun H4 v4 f b4 d4 r4 mo4 z4 => ?_⟩
    have b24 := b3.trans b4
    obtain ⟨x2, hx2⟩ := d2.lst
    obtain ⟨x4, hx4⟩ := d4.lst
    refine ⟨_, rfl, _, rfl, D, S, ns, 6, rfl, d4, hns, by decide, by decide, fun H5 r5 b5 d5 hr0 hr1 => ?_⟩
    obtain ⟨m5, rfl⟩ := Int.eq_ofNat_of_zero_le hr0
    refine ⟨_, rfl, p, hp, D, S, ns, m5, rfl, d5, hns, by omega, fun H6 v6 g0 b6 d6 r6 mo6 z6 => ?_⟩
    obtain ⟨x6, hx6⟩ := d6.lst
    refine ⟨_, rfl, _, rfl, _, _, rfl, rfl, D, S, ns, (p : Int) - 1, rfl, d6, hns, by omega, by omega, fun H7 r7 b7 d7 hr0 hr1 => ?_⟩
    refine ⟨_, _, rfl, rfl, line_of (by show 1 ≤ 100000; decide), fun t8 n8 => ?_⟩
    have s8 := same_upd (o := .tup [.int (1 + r7)]) n8
    have e8 : (upd H7 t8 (.tup [.int (1 + r7)])) t8 = some (.tup [.int (1 + r7)]) := upd_same
    generalize hH8 : upd H7 t8 (.tup [.int (1 + r7)]) = H8 at s8 e8
    have hcc : zc p (1 + r7) ≠ 0 := fun z => by
      have h := lst_C (p := p) (a := 1 + r7) (by omega) (by omega)
      rw [z, C_zero, lst_zero] at h; cases h
    have r6' := (r6.tk (b7.tk hx6)).same s8
    have r4' := (r4.tk ((b5.trans (b6.trans b7)).tk hx4)).same s8
    have t8' : Tabs (lamT c) H8 := (tabs_but t2 (b24.trans (b5.trans (b6.trans b7))) hx2).ext s8
    have d8 := d7.same s8
    have hCn : (C (zc p (1 + r7)) : Po p) ≠ 0 := fun z => by have := sz_C hcc; rw [z, sz_zero] at this; omega
    refine ⟨_, rfl, p, hp, g0, C (zc p (1 + r7)), v6, .ref t8, rfl, r6'.w, ⟨t8, rfl, .inl (.inl (by rw [lst_C (by omega) (by omega)]; exact e8))⟩, by omega, by rw [sz_C hcc]; omega, fun H9 v9 s9 r9 => ?_⟩
    have hg0 : g0 * C (zc p (1 + r7)) ≠ 0 := mul_ne mo6.1 hCn
    have hgz : (g0 * C (zc p (1 + r7))).sz ≤ 6 := by
      have := (sz_mul mo6.1 hCn).1
      rw [sz_C hcc] at this; omega
    generalize hgg : g0 * C (zc p (1 + r7)) = g at r9 hg0 hgz
    have r4'' := r4'.same s9
    have t9 := t8'.ext s9
    have d9 := d8.same s9
    have hfz : f.sz ≤ 11 := by omega
    have hf0 := mo4.1
    clear hgg r6' r6 mo6 z6 r7 hr0 hr1 hcc hCn e8 hH8 n8 z4
    refine ⟨_, rfl, _, rfl, _, rfl, _, rfl, _, rfl, p, hp, f, g, v4, v9, rfl, r4''.w, r9.w, by omega, by omega, fun Ha va sa ra => ?_⟩
    have hfg := mul_ne hf0 hg0
    have hfgz : (f * g).sz ≤ 16 := by have := (sz_mul hf0 hg0).1; omega
    refine ⟨line_of (by show 3 ≤ 100000; decide), fun tb nb => ?_⟩
    have sb := same_upd (o := .tup [v4, v9, va]) nb
    have eb : (upd Ha tb (.tup [v4, v9, va])) tb = some (.tup [v4, v9, va]) := upd_same
    generalize hHb : upd Ha tb (.tup [v4, v9, va]) = Hb at sb eb
    have r4b := (r4''.same sa).same sb
    have r9b := (r9.same sa).same sb
    have rab := ra.same sb
    have tbb := (t9.ext sa).ext sb
    have db := (d9.same sa).same sb
    clear hHb nb s8 s9
    refine ⟨tb, rfl, ⟨_, .inl (.inl eb)⟩, ?_⟩
    intro D5 nD5
    have nD5D : D5 ≠ D := fun z => by
      obtain ⟨xb, hxb⟩ := db.lst
      rw [z, hxb] at nD5; cases nD5
    have nD5S : D5 ≠ S := fun z => by
      obtain ⟨_, _, _, _, hS, _⟩ := db
      rw [z, hS] at nD5; cases nD5
    have hall : ∀ j, j < 3 → ∃ v k, ([v4, v9, va] : List V)[j]? = some v ∧ ([f, g, f * g] : List (Po p))[j]? = some k ∧ Rs Hb v k ∧ k ≠ 0 ∧ k.sz ≤ 25 := by
      intro j hj
      match j, hj with
      | 0, _ => exact ⟨_, _, rfl, rfl, r4b, hf0, by omega⟩
      | 1, _ => exact ⟨_, _, rfl, rfl, r9b, hg0, by omega⟩
      | 2, _ => exact ⟨_, _, rfl, rfl, rab, hfg, by omega⟩
    refine lc_it (n := 3) (walk_tup (xs := [v4, v9, va])) (fun i H' => ExtN Hb H' ∧ Tabs (lamT c) H' ∧ Dr H' D S ns ∧ ∃ (ys : List V) (RR : List (List (Po p × Nat))), H' D5 = some (.lst ys) ∧ ys.length = i ∧ RR.length = i ∧
        ∀ j, j < i → ∃ Dq ws R k, ys[j]? = some (.ref Dq) ∧ RR[j]? = some R ∧ ([f, g, f * g] : List (Po p))[j]? = some k ∧ H' Dq = some (.lst ws) ∧ Pns H' ws R ∧ PartsOf k R ∧ Dq ≠ D ∧ Dq ≠ D5)
      ⟨same_extN (same_upd nD5), tbb.ext (same_upd nD5), db.same (same_upd nD5), [], [], upd_same, rfl, rfl, fun j hj => absurd hj (by omega)⟩ (fun i H' _ h => .inl (.inl (h.1 _ _ eb (fun ps z => by cases z)))) (fun i x Hc Hc' hi hI hy => ?_) (fun Hc hI => ?_)
    · obtain ⟨ec, tc, dc, ys, RR, hys, hl1, hl2, hrows⟩ := hI
      obtain ⟨rfl, hx⟩ := hy
      obtain ⟨v, k, hv, hk, rk', hk0, hkz⟩ := hall i hi
      rw [hv] at hx
      obtain rfl := Option.some.inj hx
      obtain ⟨xc, hxc⟩ := dc.lst
      refine ⟨rfl, ?_⟩
      refine ⟨_, rfl, _, rfl, p, hp, k, v, rfl, (rk'.tk (extN_tk ec)).w, hk0, hkz, tc, fun Hd td Dq ws n R ed tabd htd nl hDq hR hP _ => ?_⟩
      refine ⟨td, _, 1, _, rfl, rfl, .inl (.inl htd), atI_nat (j := 1) rfl, ?_⟩
      have hys' := ed _ _ hys (fun ps z => by cases z)
      have nqD : Dq ≠ D := fun z => nl _ (by rw [z]; exact hxc)
      have nq5 : Dq ≠ D5 := fun z => nl _ (by rw [z]; exact hys)
      have b5 : But D5 Hd (upd Hd D5 (.lst (ys ++ [.ref Dq]))) := But.upd D5 Hd _
      have k5 := b5.tk hys'
      refine ⟨ys, hys', line_lt (by omega), extN_mut (ec.trans ed) nD5, tabs_but tabd b5 hys', dr_mut (dc.ext ed) nD5D nD5S, ys ++ [.ref Dq], RR ++ [R], upd_same, by rw [List.length_append, hl1]; rfl, by rw [List.length_append, hl2]; rfl, fun j hj => ?_⟩
      by_cases e : j = i
      · subst e
        exact ⟨Dq, ws, R, k, by rw [List.getElem?_append_right (by omega), hl1, Nat.sub_self]; rfl, by rw [List.getElem?_append_right (by omega), hl2, Nat.sub_self]; rfl, hk, by rw [upd_ne nq5]; exact hDq, Pns.tk hR k5, hP, nqD, nq5⟩
      · obtain ⟨Dr', ws', R', k', a1, a2, a3, a4, a5, a6, a7, a8⟩ := hrows j (by omega)
        exact ⟨Dr', ws', R', k', by rw [List.getElem?_append_left (by omega)]; exact a1, by rw [List.getElem?_append_left (by omega)]; exact a2, a3, by rw [upd_ne a8]; exact ed _ _ a4 (fun ps z => by cases z), Pns.tk (Pns.tk a5 (extN_tk ed)) k5, a6, a7, a8⟩
    · obtain ⟨ec, tc, dc, ys, RR, hys, hl1, hl2, hrows⟩ := hI
      obtain ⟨q0, w0, R0, k0, a1, a2, a3, a4, a5, a6, a7, a8⟩ := hrows 0 (by show 0 < 3; omega)
      obtain ⟨q1, w1, R1, k1, b1, b2, b3, b4, b5, b6, b7, b8⟩ := hrows 1 (by show 1 < 3; omega)
      obtain ⟨q2, w2, R2, k2, c1, c2, c3, c4, c5, c6, c7, c8⟩ := hrows 2 (by show 2 < 3; omega)
      obtain rfl := Option.some.inj a3
      obtain rfl := Option.some.inj b3
      obtain rfl := Option.some.inj c3
      have eys : ys = [.ref q0, .ref q1, .ref q2] := by
        match ys, hl1, a1, b1, c1 with
        | [y0, y1, y2], _, a1, b1, c1 => rw [Option.some.inj a1, Option.some.inj b1, Option.some.inj c1]
      subst eys
      clear hrows a1 b1 c1 a2 b2 c2 a3 b3 c3 hl1 hl2
      have J : Js c D S ns v4 v9 f g D5 q0 q2 w0 w2 R0 R2 Hc := ⟨dc, tc, r4b.tk (extN_tk ec), r9b.tk (extN_tk ec), nD5D, a7, c7, ⟨q1, hys⟩, a4, a5, c4, c5⟩
      have sm0 := a6.small hf0
      have sm1 := b6.small hg0
      have sm2 := c6.small hfg
      refine ⟨_, rfl, _, rfl, D5, _, rfl, .inl (.inl hys), fun u1 nu1 => ?_⟩
      have z1 := same_upd (o := .lst [.ref q0, .ref q1]) nu1
      have ez1 : (upd Hc u1 (.lst [.ref q0, .ref q1])) u1 = some (.lst [.ref q0, .ref q1]) := upd_same
      refine ⟨p, hp, u1, [.ref q0, .ref q1], [R0, R1], rfl, ez1, ⟨rfl, fun i x hx => ?_⟩, ?_, fun He da se nda hda => ?_⟩
      · match i, hx with
        | 0, hx => cases hx; exact ⟨_, rfl, q0, w0, rfl, z1 _ _ a4, Pns.tk a5 (Same.tk z1)⟩
        | 1, hx => cases hx; exact ⟨_, rfl, q1, w1, rfl, z1 _ _ b4, Pns.tk b5 (Same.tk z1)⟩
        | i + 2, hx => simp at hx
      · show (R0 ++ (R1 ++ [])).length ≤ 1000
        rw [List.length_append, List.length_append]
        show R0.length + (R1.length + 0) ≤ 1000
        omega
      have zc1 := z1.trans se
      have Je := J.same zc1
      refine ⟨_, rfl, _, rfl, D5, _, rfl, .inl (.inl (zc1 _ _ hys)), fun u2 nu2 => ?_⟩
      have z2 := same_upd (o := .lst [.ref q2]) nu2
      have ez2 : (upd He u2 (.lst [.ref q2])) u2 = some (.lst [.ref q2]) := upd_same
      refine ⟨p, hp, u2, [.ref q2], [R2], rfl, ez2, ⟨rfl, fun i x hx => ?_⟩, ?_, fun Hf db2 sf ndb hdb => ?_⟩
      · match i, hx with
        | 0, hx => cases hx; exact ⟨_, rfl, q2, w2, rfl, z2 _ _ Je.h2, Pns.tk Je.p2 (Same.tk z2)⟩
        | i + 1, hx => simp at hx
      · show (R2 ++ []).length ≤ 1000
        rw [List.append_nil]; omega
      have zc2 := z2.trans sf
      have Jf := Je.same zc2
      have hcs := counts_same hf0 hg0 a6 b6 c6
      have e1 : ([R0, R1] : List (List (Po p × Nat))).flatten = R0 ++ R1 := by show R0 ++ (R1 ++ []) = _; rw [List.append_nil]
      have e2 : ([R2] : List (List (Po p × Nat))).flatten = R2 := by show R2 ++ [] = _; rw [List.append_nil]
      rw [e1] at hda
      rw [e2] at hdb
      refine ⟨da, db2, _, _, rfl, rfl, zc2 _ _ hda, hdb, by unfold kvL; rw [List.length_map, List.length_map]; exact hcs.1, fun kv hkv => ?_, ?_⟩
      · unfold kvL at hkv ⊢
        obtain ⟨x, hx, rfl⟩ := List.mem_map.mp hkv
        exact ⟨⟨_, rfl⟩, List.mem_map.mpr ⟨x, hcs.2 x hx, rfl⟩⟩
      clear hcs hda hdb e1 e2 z1 z2 se sf zc1 zc2 Je ez1 ez2 nda ndb
      refine ⟨_, rfl, ?_⟩
      refine iteF ?_
      refine ⟨_, rfl, _, rfl, p, hp, g, v9, rfl, Jf.oth.w, hg0, by omega, Jf.tb, fun Hg tg Dg wg n Rg eg tabg htg nlg hDg hRg hPg hng => ?_⟩
      have Jg := Jf.ext eg tabg
      obtain ⟨b9, e9, hb9⟩ := Jg.oth
      have hng2 : ((lst g).map V.int)[((lst g).map V.int).length - 1]? = some (.int n) := by rw [List.length_map, lst_len]; exact map_get hng
      refine ⟨tg, _, 0, _, rfl, rfl, .inl (.inl htg), atI_nat (j := 0) rfl, ?_⟩
      refine ⟨_, rfl, 1, rfl, b9, _, -1, _, e9, rfl, .inl (.inl hb9), at_neg1 hng2, ?_⟩
      refine ⟨rfl, _, rfl, ?_⟩
      rw [decide_eq_true rfl]
      refine iteF ?_
      clear hng2 hng htg hDg hRg hPg nlg hb9 e9 eg
      refine ⟨_, rfl, _, rfl, line_of (by show 2 ≤ 100000; decide), fun t1 n1 => ?_⟩
      have s1 := same_upd (o := .tup [.int 0, .int 1]) n1
      have e1 : (upd Hg t1 (.tup [.int 0, .int 1])) t1 = some (.tup [.int 0, .int 1]) := upd_same
      have J1 := Jg.same s1
      have hgX : g * X ≠ 0 := mul_ne hg0 (fun z => by have := X_sz (p := p); rw [z, sz_zero] at this; omega)
      have hgXz : (g * X).sz ≤ 7 := by
        have := (sz_mul hg0 (fun z => by have := X_sz (p := p); rw [z, sz_zero] at this; omega : (X : Po p) ≠ 0)).1
        rw [X_sz] at this; omega
      refine ⟨_, rfl, p, hp, g, X, v9, .ref t1, rfl, J1.oth.w, ⟨t1, rfl, .inl (.inl (by rw [lst_X]; exact e1))⟩, by omega, by rw [X_sz]; omega, fun H2 vm s2 rm => ?_⟩
      refine ⟨line_of (by show 2 ≤ 100000; decide), fun tl nl => ?_⟩
      have s3 := same_upd (o := .tup [v4, vm]) nl
      have e3 : (upd H2 tl (.tup [v4, vm])) tl = some (.tup [v4, vm]) := upd_same
      generalize hH3 : upd H2 tl (.tup [v4, vm]) = H3 at s3 e3
      have J3 := (J1.same s2).same s3
      have rm3 := rm.same s3
      clear hH3 nl s1 s2 s3 e1 n1 rm J1 Jg
      refine ⟨tl, rfl, ⟨_, .inl (.inl e3)⟩, ?_⟩
      refine for_it (n := 2) (walk_tup (xs := [v4, vm])) (fun i σ H' => ∃ (x6 : Option V), σ = [some (.ref a), some (.ref D), some (.int (p : Int)), some v4, some v9, some (.ref D5), x6, none, none, none, none, none, none, none, none, none] ∧
          Js c D S ns v4 v9 f g D5 q0 q2 w0 w2 R0 R2 H' ∧ H' tl = some (.tup [v4, vm]) ∧ Rs H' vm (g * X))
        ⟨none, rfl, J3, e3, rm3⟩ (fun i σ H' _ h => by obtain ⟨_, _, _, h, _⟩ := h; exact .inl (.inl h)) (fun i x σ H4 H5 hi hP hy => ?_) (fun σ H' hP => ?_)
      · obtain ⟨x6, rfl, J4, e4, rm4⟩ := hP
        obtain ⟨rfl, hx⟩ := hy
        have hk : ∃ k : Po p, Rs H5 x k ∧ k ≠ 0 ∧ k.sz ≤ 25 := by
          match i, hi, hx with
          | 0, _, hx => cases hx; exact ⟨f, J4.one, hf0, by omega⟩
          | 1, _, hx => cases hx; exact ⟨g * X, rm4, hgX, by omega⟩
        obtain ⟨k, rk', hk0, hkz⟩ := hk
        refine ⟨_, rfl, _, rfl, p, hp, k, x, rfl, rk'.w, hk0, hkz, J4.tb, fun H6 Da wa Ra A e6 tab6 hDa hPa hP hpa hma => ?_⟩
        have k6 := extN_tk e6
        refine ⟨_, rfl, _, rfl, p, hp, k, x, rfl, (rk'.tk k6).w, hk0, by omega, fun H7 Db wb B s7 hDb hPb hpb hmb => ?_⟩
        have eAB : A = B := roots_same hk0 hP hpa hpb hma hmb (fun c => lin_irr c) (fun c => lin_mo c)
        subst eAB
        have hlA : A.length ≤ 97 := Nat.le_trans (len_lt hpa fun y hy => ((hma y.1 y.2).mp hy).1) h97
        refine ⟨Da, Db, wa, wb, A, rfl, s7 _ _ hDa, hDb, Pis.tk hPa (Same.tk s7), hPb, by omega, fun H8 s8 => ?_⟩
        refine ⟨_, rfl, ?_⟩
        refine iteF ?_
        exact ⟨_, rfl, (J4.ext e6 tab6).same (s7.trans s8), (s7.trans s8) _ _ (e6 _ _ e4 (fun ps z => by cases z)), (rm4.tk k6).same (s7.trans s8)⟩
      · obtain ⟨x6, rfl, J4, e4, rm4⟩ := hP
        clear rm4 e4 J3 e3 rm3 Jf hgX hgXz
        refine ⟨_, rfl, _, rfl, D, S, ns, (p : Int), rfl, J4.dr, hns, by omega, by omega, fun H5 rb bb db' hb0 hb1 => ?_⟩
        obtain ⟨b, rfl⟩ := Int.eq_ofNat_of_zero_le hb0
        have hb : b < p := by omega
        have J5 := J4.but bb db'
        clear J4 bb db' hb0 hb1
        obtain ⟨q1', hys'⟩ := J5.rows
        refine ⟨_, rfl, D5, _, 0, _, rfl, rfl, .inl (.inl hys'), atI_nat (j := 0) rfl, ?_⟩
        refine ⟨q0, rfl, ⟨_, .inl (.inl J5.h0)⟩, ?_⟩
        have hw0 : w0.length = R0.length := J5.p0.1
        refine lc_rel (n := w0.length) (walk_list (xs := w0)) (fun D i y H' => ∃ x, (R0.map fun x => (sft (zc p (b : Int)) x.1, x.2))[i]? = some x ∧ Tn H' y x) (by omega) (fun D i y H1 H2 _ tk h => let ⟨x, h1, h2⟩ := h; ⟨x, h1, h2.tk tk⟩) (fun H' s => .inl (.inl (s _ _ J5.h0))) (fun Dl i x H6 H6' R' hi s6 hy hR' => ?_) (fun D8 H8 rv nD8 s8 hl8 hrel8 hD8 => ?_)
        · obtain ⟨rfl, hx⟩ := hy
          obtain ⟨⟨k, m⟩, hkR, hk⟩ := J5.p0.at hx
          obtain ⟨t, vg, rfl, ht, ⟨ga, rfl, hga⟩⟩ := hk.tk (Same.tk s6)
          have hkz := (sm0.1 _ (List.mem_of_getElem? hkR)).1
          have lG : ((lst k).map V.int).length = k.sz := by rw [List.length_map, lst_len]
          refine ⟨t, [.ref ga, .int (m : Int)], rfl, .inl (.inl ht), rfl, .ref ga, [.int (m : Int)], rfl, .int (m : Int), [], rfl, rfl, rfl, ?_⟩
          refine ⟨_, rfl, ga, _, rfl, .inr (.inl (.inl hga)), ?_⟩
          refine ⟨_, rfl, _, rfl, _, rfl, p, hp, k, b, .ref ga, rfl, ⟨ga, rfl, .inl (.inl hga)⟩, hb, by (have : k.sz ≤ f.sz := hkz); omega, fun H7 v7 s7 r7 => ?_⟩
          refine ⟨_, rfl, line_of (by show 3 ≤ 100000; decide), fun t8 n8 => ?_⟩
          have st8 := same_upd (o := .tup [.int (((lst k).map V.int).length : Int), v7, .int (m : Int)]) n8
          refine hR' _ _ (s7.trans st8) ⟨(sft (zc p (b : Int)) k, m), by rw [List.getElem?_map, hkR]; rfl, t8, v7, rfl, ?_, r7.same st8⟩
          rw [upd_same, lG]
          show _ = some (HO.tup [V.int ((sft (zc p (b : Int)) k).sz : Int), v7, V.int (m : Int)])
          rw [sft_sz]
        · have hT8 : Tns H8 rv (R0.map fun x => (sft (zc p (b : Int)) x.1, x.2)) := rl_of (by rw [hl8, hw0, List.length_map]) hrel8
          have J8 := J5.same s8
          clear J5 s8 hrel8 hys'
          refine ⟨_, rfl, _, rfl, _, rfl, p, hp, f, b, v4, rfl, J8.one.w, hb, by omega, fun H9 v9' s9 r9' => ?_⟩
          have J9 := J8.same s9
          have hD9 := s9 _ _ hD8
          have hT9 := Tns.tk hT8 (Same.tk s9)
          clear J8 hT8 s9
          refine ⟨_, rfl, p, hp, sft (zc p (b : Int)) f, v9', rfl, Rs.w r9', sft_ne hf0, by rw [sft_sz]; omega, J9.tb, fun H10 t10 Ds wsS n RS e10 tab10 ht10 nl10 hDs hRS hPS _ => ?_⟩
          have k10 := extN_tk e10
          have J10 := J9.ext e10 tab10
          have hD10 := e10 _ _ hD9 (fun ps z => by cases z)
          have hT10 := Tns.tk hT9 k10
          clear J9 hD9 hT9 r9' e10 tab10
          refine ⟨t10, _, 1, _, rfl, rfl, .inl (.inl ht10), atI_nat (j := 1) rfl, ?_⟩
          refine ⟨Ds, rfl, ⟨_, .inl (.inl hDs)⟩, ?_⟩
          have hwS : wsS.length = RS.length := hRS.1
          have smS := hPS.small (sft_ne (b := zc p (b : Int)) hf0)
          rw [sft_sz] at smS
          refine lc_rel (n := wsS.length) (walk_list (xs := wsS)) (fun D i y H' => ∃ x, RS[i]? = some x ∧ Tn H' y x) (by omega) (fun D i y H1 H2 _ tk h => let ⟨x, h1, h2⟩ := h; ⟨x, h1, h2.tk tk⟩) (fun H' s => .inl (.inl (s _ _ hDs))) (fun Dl i x H11 H11' R' hi s11 hy hR' => ?_) (fun D12 H12 rv2 nD12 s12 hl12 hrel12 hD12 => ?_)
          · obtain ⟨rfl, hx⟩ := hy
            obtain ⟨⟨k, m⟩, hkR, hk⟩ := hRS.at hx
            obtain ⟨t, vg, rfl, ht, ⟨ga, rfl, hga⟩⟩ := hk.tk (Same.tk s11)
            have lG : ((lst k).map V.int).length = k.sz := by rw [List.length_map, lst_len]
            refine ⟨t, [.ref ga, .int (m : Int)], rfl, .inl (.inl ht), rfl, .ref ga, [.int (m : Int)], rfl, .int (m : Int), [], rfl, rfl, rfl, ?_⟩
            refine ⟨_, rfl, ga, _, rfl, .inr (.inl (.inl hga)), ?_⟩
            refine ⟨_, rfl, _, rfl, line_of (by show 3 ≤ 100000; decide), fun t8 n8 => ?_⟩
            have st8 := same_upd (o := .tup [.int (((lst k).map V.int).length : Int), .ref ga, .int (m : Int)]) n8
            refine hR' _ _ st8 ⟨(k, m), hkR, t8, .ref ga, rfl, ?_, ga, rfl, st8 _ _ hga⟩
            rw [upd_same, lG]
          · have hT12 : Tns H12 rv2 RS := rl_of (by rw [hl12, hwS]) hrel12
            have J12 := J10.same s12
            have hDue := s12 _ _ hD10
            have hTd := Tns.tk hT10 (Same.tk s12)
            clear J10 hD10 hT10 hrel12
            have hSm := PartsOf.sft_mem hf0 a6 hPS
            have hch : ∀ x : V, ∃ y : Po p × Nat, x ∈ rv → Tn H12 x y := fun x => by
              by_cases hx : x ∈ rv
              · obtain ⟨z, _, hz⟩ := Rl.mem hTd hx
                exact ⟨z, fun _ => hz⟩
              · exact ⟨(0, 0), fun h => absurd h hx⟩
            obtain ⟨F, hF⟩ := Classical.axiomOfChoice hch
            refine ⟨_, rfl, _, rfl, D8, rv, fun x => csT (F x), rfl, .inl (.inl hDue), fun x hx => ?_, fun x hx y hy => shp_csT _ _, fun zs Dz hpw hperm nDz => ?_⟩
            · obtain ⟨t, vg, e, h1, h2⟩ := hF x hx
              exact ⟨⟨t, e⟩, Tn.dp (hF x hx), _, _, rfl⟩
            obtain ⟨RZ, hRZ, hzs⟩ := Rl.perm hTd hperm
            have sD := same_upd (o := .lst zs) nDz
            have hndZ : (RZ.map (·.1)).Nodup := (hRZ.map _).nodup_iff.mpr hSm.2
            have hrkZ : Ranked RZ := by
              unfold Ranked
              rw [List.pairwise_iff_getElem]
              rw [List.pairwise_iff_getElem] at hpw
              intro i j hi hj hij
              have hi2 : i < zs.length := by rw [hzs.1]; exact hi
              have hj2 : j < zs.length := by rw [hzs.1]; exact hj
              have h1 := hpw i j hi2 hj2 hij
              have key : ∀ (i : Nat) (hi : i < RZ.length) (hi2 : i < zs.length), F zs[i] = RZ[i] := fun i hi hi2 => by
                obtain ⟨x, hx, hpx⟩ := hzs.at (List.getElem?_eq_getElem hi2)
                rw [List.getElem?_eq_getElem hi] at hx
                rw [Option.some.inj hx]
                exact Tn.uniq (hF _ (hperm.mem_iff.mp (List.getElem_mem hi2))) hpx
              have h2 : KX.lexL (KX.enc (csT (F zs[j]))) (KX.enc (csT (F zs[i]))) = false := h1
              rw [key i hi hi2, key j hj hj2] at h2
              exact rank_csT h2
            have eRZ : RZ = RS := ranked_eq hrkZ hPS.rk hndZ hPS.nd fun x => by rw [hRZ.mem_iff]; exact hSm.1 x
            subst eRZ
            refine ⟨_, _, .lst (.inl (.inl (sD _ _ hD12))) (dpAll_of (d := dTn) (fun v x h => Tn.dp (K := K) h) (Tns.tk hT12 (Same.tk sD))), .lst (.inl (.inl upd_same)) (dpAll_of (d := dTn) (fun v x h => Tn.dp (K := K) h) (Tns.tk hzs (Same.tk sD))), shaped_list (plainAll_map fun g _ => plain_dTn _) (Nat.le_trans (depthAll_map fun g _ => depth_dTn _) (by decide)), shaped_list (plainAll_map fun g _ => plain_dTn _) (Nat.le_trans (depthAll_map fun g _ => depth_dTn _) (by decide)), _, rfl, ?_⟩
            rw [eqv_self (plainAll_map fun g _ => plain_dTn _)]
            refine iteF ?_
            have J13 := J12.same sD
            generalize hH13 : upd H12 Dz (.lst zs) = H13 at J13
            clear hrkZ hndZ hzs hpw hperm hRZ hF hch F hSm hTd hDue J12 hD12 hT12 smS hwS hDs hRS hPS ht10 k10 nl10
            refine nxt_of ?_
            dsimp only
            refine seq_of (fun σ H' => ∃ (v10 : V) (h : Po p), σ = [some (.ref a), some (.ref D), some (.int (p : Int)), some v4, some v9, some (.ref D5), x6, some (.int (b : Int)), some (.ref D8), some (.ref D12), some v10, none, none, none, none, none] ∧
              Js c D S ns v4 v9 f g D5 q0 q2 w0 w2 R0 R2 H' ∧ Rs H' v10 h ∧ Mo h ∧ h.sz ≤ 100) (fun σ H' hI => ?_) (fun nx hnx => ?_)
            rotate_left
            · refine ⟨_, rfl, _, _, rfl, rfl, _, rfl, ?_⟩
              by_cases hp20 : p < 20
              · rw [decide_eq_true (show (p : Int) < 20 by omega)]
                refine iteT ?_
                have h20 : (20 : Int) / (p : Int) ≤ 20 := Int.ediv_le_self _ (by decide)
                refine ⟨_, rfl, _, rfl, _, rfl, _, _, rfl, rfl, ⟨by omega, by omega⟩, _, _, rfl, D, S, ns, _, rfl, J13.dr, hns, by split <;> omega, by split <;> omega, fun H14 r14 b14 d14 hr0 hr1 => ?_⟩
                obtain ⟨m14, rfl⟩ := Int.eq_ofNat_of_zero_le hr0
                have hm : m14 ≤ 20 := by
                  split at hr1 <;> omega
                refine ⟨_, _, rfl, rfl, _, rfl, p, hp, D, S, ns, 1 + m14, rfl, d14, hns, by omega, fun H15 v15 h b15 d15 r15 mo15 z15 => ?_⟩
                exact hnx _ _ ⟨v15, h, rfl, J13.but (b14.trans b15) d15, r15, mo15, by omega⟩
              · rw [decide_eq_false (show ¬ (p : Int) < 20 by omega)]
                refine iteF ?_
                obtain ⟨hhl, hhz, hhm⟩ := hh_lst hb
                refine ⟨_, rfl, line_of (by show 2 ≤ 100000; decide), fun t nt => ?_⟩
                exact hnx _ _ ⟨.ref t, X + C (zc p (b : Int)), rfl, J13.same (same_upd nt), ⟨t, rfl, by rw [upd_same, hhl]; rfl⟩, hhm, by omega⟩
            obtain ⟨v10, h, rfl, J14, r10, mo10, hz10⟩ := hI
            clear J13 hH13
            obtain ⟨g10, rfl, hg10⟩ := r10
            have lH : ((lst h).map V.int).length = h.sz := by rw [List.length_map, lst_len]
            obtain ⟨m, hm⟩ : ∃ m, h.sz = m + 1 := ⟨h.sz - 1, by have := sz_pos mo10.1; omega⟩
            refine seq_of (fun σ H' => ∃ (x8 x11 x12 : Option V), σ = [some (.ref a), some (.ref D), some (.int (p : Int)), some v4, some v9, some (.ref D5), x6, some (.int (b : Int)), x8, some (.ref D12), some (.ref g10), x11, x12, none, none, none] ∧
              Js c D S ns v4 v9 f g D5 q0 q2 w0 w2 R0 R2 H') (fun σ H2 hI => ?_) (fun nx hnx => ?_)
            rotate_left
            · refine ⟨_, rfl, g10, _, rfl, .inr (.inl (.inl hg10)), _, _, rfl, rfl, _, rfl, _, _, rfl, rfl, .inl ⟨by omega, by omega⟩, _, _, rfl, rfl, _, rfl, ?_⟩
              have em : ((((lst h).map V.int).length : Int) - 1) * (p : Int) = ((m * p : Nat) : Int) := by
                rw [lH, hm, show ((m + 1 : Nat) : Int) - 1 = (m : Int) by omega, Int.natCast_mul]
              rw [em]
              by_cases hlt : m * p < 25
              · rw [decide_eq_true (show ((m * p : Nat) : Int) < 25 by omega)]
                refine iteT ?_
                refine ⟨line_of (by show 1 ≤ 100000; decide), fun t nt => ?_⟩
                have st := same_upd (o := .tup [.int 1]) nt
                refine ⟨_, rfl, (p : Int), rfl, by omega, by omega, ?_⟩
                rw [Int.toNat_natCast]
                refine for_it (n := p) walk_range (fun j σ H' => ∃ (x12 : Option V) (v11 : V), σ = [some (.ref a), some (.ref D), some (.int (p : Int)), some v4, some v9, some (.ref D5), x6, some (.int (b : Int)), some (.ref D8), some (.ref D12), some (.ref g10), some v11, x12, none, none, none] ∧
                    Js c D S ns v4 v9 f g D5 q0 q2 w0 w2 R0 R2 H' ∧ Rs H' v11 (h ^ j) ∧ H' g10 = some (.tup ((lst h).map V.int)))
                  ⟨none, .ref t, rfl, J14.same st, ⟨t, rfl, by rw [upd_same, Lean.Grind.Semiring.pow_zero, lst_one]; rfl⟩, st _ _ hg10⟩ (fun _ _ _ _ _ => trivial) (fun j x σ H6 H7 hj hP hy => ?_) (fun σ H3 hP => ?_)
                · obtain ⟨x12, v11, rfl, J6, r6, h6⟩ := hP
                  obtain ⟨rfl, rfl⟩ := hy
                  have hjm : j * m ≤ 24 := Nat.le_trans (Nat.mul_le_mul_right m (Nat.le_of_lt hj)) (by rw [Nat.mul_comm]; omega)
                  have hjz := sz_powm mo10 j
                  rw [hm, Nat.add_sub_cancel] at hjz
                  refine ⟨_, rfl, _, rfl, _, rfl, p, hp, h ^ j, h, v11, .ref g10, rfl, r6.w, ⟨g10, rfl, .inl (.inl h6)⟩, by omega, by omega, fun H8 v8 s8 r8 => ?_⟩
                  exact ⟨_, v8, rfl, J6.same s8, by rw [Lean.Grind.Semiring.pow_succ]; exact r8, s8 _ _ h6⟩
                · obtain ⟨x12, v11, rfl, J6, r6, h6⟩ := hP
                  have hpz := sz_powm mo10 p
                  rw [hm, Nat.add_sub_cancel, Nat.mul_comm] at hpz
                  have hmp : m ≤ m * p := Nat.le_mul_of_pos_right m (by omega)
                  refine ⟨_, rfl, _, rfl, p, hp, h, .ref g10, rfl, ⟨g10, rfl, .inl (.inl h6)⟩, mo10.1, by omega, J6.tb, fun H8 t8 D8' ws8 n8 R8 e8 tab8 ht8 nl8 hD8' hR8 hP8 _ => ?_⟩
                  have J8 := J6.ext e8 tab8
                  have r8 := r6.tk (extN_tk e8)
                  refine ⟨t8, _, 1, _, rfl, rfl, .inl (.inl ht8), atI_nat (j := 1) rfl, ?_⟩
                  refine ⟨D8', rfl, ⟨_, .inl (.inl hD8')⟩, ?_⟩
                  have sm8 := hP8.small mo10.1
                  have hw8 : ws8.length = R8.length := hR8.1
                  refine lc_rel (n := ws8.length) (walk_list (xs := ws8)) (fun D i y H' => ∃ x, (R8.map fun x => (x.1, x.2 * p))[i]? = some x ∧ Pn H' y x) (by omega) (fun D i y H1 H2 _ tk h => let ⟨x, h1, h2⟩ := h; ⟨x, h1, h2.tk tk⟩) (fun H' s => .inl (.inl (s _ _ hD8'))) (fun Dl i x H9 H9' R' hi s9 hy hR' => ?_) (fun Dd H10 rv10 nD10 s10 hl10 hrel10 hD10 => ?_)
                  · obtain ⟨rfl, hx⟩ := hy
                    obtain ⟨⟨k, n⟩, hkR, hk⟩ := hR8.at hx
                    obtain ⟨t, vg, rfl, ht, hvg⟩ := hk.tk (Same.tk s9)
                    have hn : n ≤ h.sz := (sm8.1 _ (List.mem_of_getElem? hkR)).2
                    refine ⟨t, [vg, .int (n : Int)], rfl, .inl (.inl ht), rfl, vg, [.int (n : Int)], rfl, .int (n : Int), [], rfl, rfl, rfl, ?_⟩
                    refine ⟨_, rfl, _, rfl, _, rfl, _, _, rfl, rfl, .inl ⟨by omega, by omega⟩, line_of (by show 2 ≤ 100000; decide), fun t5 n5 => ?_⟩
                    have st5 := same_upd (o := .tup [vg, .int ((n : Int) * (p : Int))]) n5
                    exact hR' _ _ st5 ⟨(k, n * p), by rw [List.getElem?_map, hkR]; rfl, t5, vg, rfl, by rw [upd_same]; show _ = some (HO.tup [vg, V.int ((n * p : Nat) : Int)]); rw [Int.natCast_mul], hvg.same st5⟩
                  · have hT10 : Pns H10 rv10 (R8.map fun x => (x.1, x.2 * p)) := rl_of (by rw [hl10, hw8, List.length_map]) hrel10
                    have J10 := J8.same s10
                    have r10 := r8.same s10
                    clear hrel10 J8 r8
                    refine ⟨_, rfl, _, rfl, p, hp, h ^ p, v11, rfl, r10.w, (Mo.pow mo10 p).1, by omega, J10.tb, fun H11 t11 D11 ws11 n11 R11 e11 tab11 ht11 nl11 hD11 hR11 hP11 _ => ?_⟩
                    have J11 := J10.ext e11 tab11
                    have hDd := e11 _ _ hD10 (fun ps z => by cases z)
                    have hT11 := Pns.tk hT10 (extN_tk e11)
                    have eR := PartsOf.pow_eq mo10 (by omega) hP8 hP11
                    rw [eR] at hT11
                    refine ⟨t11, _, 1, _, rfl, rfl, .inl (.inl ht11), atI_nat (j := 1) rfl, ?_⟩
                    refine ⟨_, rfl, _, _, .lst (.inl (.inl hD11)) (dpAll_of (d := dPn) (fun v x h => Pn.dp (K := K) h) hR11), .lst (.inl (.inl hDd)) (dpAll_of (d := dPn) (fun v x h => Pn.dp (K := K) h) hT11), shaped_list (plain_dPns R11) (Nat.le_trans (depth_dPns R11) (by decide)), shaped_list (plain_dPns R11) (Nat.le_trans (depth_dPns R11) (by decide)), _, rfl, ?_⟩
                    rw [eqv_self (plainAll_map fun g _ => plain_dPn _)]
                    refine iteF ?_
                    exact hnx _ _ ⟨_, _, _, rfl, J11⟩
              · rw [decide_eq_false (show ¬ ((m * p : Nat) : Int) < 25 by omega)]
                refine iteF ?_
                exact hnx _ _ ⟨_, _, _, rfl, J14⟩
            obtain ⟨x8, x11, x12, rfl, J2⟩ := hI
            obtain ⟨q1'', hys2⟩ := J2.rows
            have hw2 : w2.length = R2.length := J2.p2.1
            refine ⟨_, rfl, D5, _, 2, _, rfl, rfl, .inl (.inl hys2), atI_nat (j := 2) rfl, ?_⟩
            refine ⟨q2, rfl, ⟨_, .inl (.inl J2.h2)⟩, ?_⟩
            refine lc_fn (n := w2.length) (walk_list (xs := w2)) (fun _ => V.bl true) (by omega) (fun H' s => .inl (.inl (s _ _ J2.h2))) (fun i x H3 H3' R' hi s3 hy hR' => ?_) (fun D3 H3 nD3 s3 hD3 => ?_)
            · obtain ⟨rfl, hx⟩ := hy
              obtain ⟨⟨k, n⟩, hkR, hk⟩ := J2.p2.at hx
              obtain ⟨t, vg, rfl, ht, hvg⟩ := hk.tk (Same.tk s3)
              have hkm := List.mem_of_getElem? hkR
              have hkz : k.sz ≤ (f * g).sz := (sm2.1 _ hkm).1
              have hkw := c6.wh _ hkm
              refine ⟨t, [vg, .int (n : Int)], rfl, .inl (.inl ht), rfl, vg, [.int (n : Int)], rfl, .int (n : Int), [], rfl, rfl, rfl, ?_⟩
              exact ⟨_, rfl, _, rfl, p, hp, k, vg, rfl, hvg.w, by omega, hkw.1, hkw.2, fun H4 s4 => hR' _ s4⟩
            · rw [map_trues] at hD3
              refine ⟨D3, _, rfl, .inl (.inl hD3), ?_⟩
              rw [all_trues]; exact q _
end
end KW
end

section
set_option Elab.async false
set_option linter.all false
set_option maxRecDepth 100000
set_option maxHeartbeats 4000000
namespace KW
open PySem PySem.Spec PyProof.Rows L2 K10 K10.Po LamX
theorem vals_of_abs : ∀ {ns : List Int} {us : List Value}, us.map absV = ns.map (fun n => some (V.int n)) → Vals (ns.map V.int) us
  | [], [], _ => .nil
  | [], _ :: _, h => by cases h
  | _ :: _, [], h => by cases h
  | n :: ns, u :: us, h => by
    rw [List.map_cons, List.map_cons] at h
    injection h with h1 h2
    refine .cons ?_ (vals_of_abs h2)
    cases u <;> first
      | cases h1
        exact ⟨_, rfl⟩
      | cases h1
theorem tup_mk {K : PySem.W.Frag} {mg : Str → Option Value} {h : Heap} {x : Str} {f : Addr} {od : Option Addr} {its : Array Value} {n : Nat} {osl : Array (Option Value)} {ns : List Int}
    (X : K.In h) (G : h.Ns mainGlobals mg) (a : PySem.W.nsIn K mainGlobals x = some (some (.ref f))) (l : K.lookup f = some ⟨.type "tuple", od, .seq its n, osl⟩) (s : its.size ≤ sizeLine) (v : its.toList.map absV = ns.map (fun n => some (V.int n))) :
    ∃ a, mg x = some (.ref a) ∧ ∀ H, SqT K H a (ns.map V.int) :=
  ⟨f, PySem.W.mg_of X G a, fun H => .inr ⟨_, its, n, l, rfl, rfl, s, vals_of_abs v⟩⟩
theorem law_mk {l : PySem.W.OpenLaw} {w : World} {K : PySem.W.Frag} {h : Heap} {mg : Str → Option Value} {fa f c Pt : Addr} (X : K.In h) (G : h.Ns mainGlobals mg) (hmg : mg "law" = some (.ref fa)) (T : Txt K mg)
    {oc : Value} {od an : Option Addr} {osl : Array (Option Value)} {kV doc pm ct : Value}
    (a : PySem.W.nsIn K mainGlobals "in_rank" = some (some (.ref f))) (lk : K.lookup f = some ⟨oc, od, .func (PySem.W.fnOf "in_rank" "in_rank" (defArgs s_in_rank) (defBody s_in_rank) (defScope s_in_rank) .none kV doc pm an (.ref c) ct), osl⟩)
    (cc : PySem.W.codeIn K (.ref c) "in_rank" = true) (k : PySem.W.keepIn K (.ref f) = true)
    (hd : PySem.W.codeHdIn K c Pt = true) (nT : K.lookup Pt = none) (hT : h.get? Pt = some { cls := .none, data := .fields #[] }) : LawAtS l w K CX0 13 63 "_law_script" mg fa h := by
  obtain ⟨f0, fd, hm, F0⟩ := T.d_law
  have e := hmg.symm.trans hm
  cases e
  have F1 := F0
  obtain ⟨oc', od', kV', doc', pm', an', cdv', ct', osl', rfl, _, _⟩ := F1.ex
  refine ⟨_, [(c, Pt)], spLaw (K := K) (c, Pt), fun p hp => ?_, fun p hp => ?_, fun p hp => ?_, fun s u => .of_eq rfl, fun H a ns hl hb ht hS => ⟨a, ns, rfl, hS, fun p hp => ?_, fun _ => rfl⟩, fun base X' G' hTB => ok_law F0 T ⟨defC_mk X G a lk cc k, hTB _ List.mem_cons_self⟩⟩
  · rw [List.mem_singleton.mp hp]; exact hT
  · rw [List.mem_singleton.mp hp]; exact nT
  · rw [List.mem_singleton.mp hp]; exact PySem.W.codeHd_of_K X hd
  · rw [List.mem_singleton.mp hp]
    exact TabS.nil (ht (c, Pt) List.mem_cons_self)
end KW
end
section
set_option Elab.async false
set_option linter.all false
set_option maxRecDepth 100000
open PySem PySem.W PyProof.Rows
set_option maxHeartbeats 0 in
theorem PySem.Challenge.cw_rungfields_k10_whole_products_keep_their_holds : PySem.Challenge.rw_rungfields_k10_whole_products_keep_their.Holds := by
  w_on; o_law; k_head; (case hw => w_witness2)
  k_fill
  refine LamX.walk_ofTs (l := PySem.Challenge.rw_rungfields_k10_whole_products_keep_their) (n := 63) (k := 13) (x := "_law_script") (CX := fun _ => L2.CX0) rfl (by decide) rfl ⟨rfl, by decide, by decide⟩ (fun w h Y => PySem.W.km_in_of Y) ?F ?I
  case F =>
    intro w mg fa h Y KX G hmg
    have ht := PySem.W.km_tabs_of Y
    refine' KW.law_mk KX G hmg ?T ?a ?l ?cc ?k ?hd ?nT ?hT
    case a => k_is
    case l => k_is
    case cc => k_is
    case k => k_is
    case hT => exact ht _ (List.mem_of_getElem? (i := 0) rfl)
    case hd => exact rfl
    case nT => exact rfl
    case T =>
      constructor
      case d_is_prime =>
        refine' KW.def_mk KX G ?a ?l ?c ?k
        (case a => k_is); (case l => k_is); (case c => k_is); (case k => k_is)
      case d_need_prime =>
        refine' KW.def_mk KX G ?a ?l ?c ?k
        (case a => k_is); (case l => k_is); (case c => k_is); (case k => k_is)
      case d_is_rest =>
        refine' KW.def_mk KX G ?a ?l ?c ?k
        (case a => k_is); (case l => k_is); (case c => k_is); (case k => k_is)
      case d_raised =>
        refine' KW.def_mk KX G ?a ?l ?c ?k
        (case a => k_is); (case l => k_is); (case c => k_is); (case k => k_is)
      case d_turned_over =>
        refine' KW.def_mk KX G ?a ?l ?c ?k
        (case a => k_is); (case l => k_is); (case c => k_is); (case k => k_is)
      case d_lessened =>
        refine' KW.def_mk KX G ?a ?l ?c ?k
        (case a => k_is); (case l => k_is); (case c => k_is); (case k => k_is)
      case d_lowered =>
        refine' KW.def_mk KX G ?a ?l ?c ?k
        (case a => k_is); (case l => k_is); (case c => k_is); (case k => k_is)
      case d_steps_of =>
        refine' KW.def_mk KX G ?a ?l ?c ?k
        (case a => k_is); (case l => k_is); (case c => k_is); (case k => k_is)
      case d_in_order =>
        refine' KW.def_mk KX G ?a ?l ?c ?k
        (case a => k_is); (case l => k_is); (case c => k_is); (case k => k_is)
      case d_idle_of =>
        refine' KW.def_mk KX G ?a ?l ?c ?k
        (case a => k_is); (case l => k_is); (case c => k_is); (case k => k_is)
      case d_is_poly =>
        refine' KW.def_mk KX G ?a ?l ?c ?k
        (case a => k_is); (case l => k_is); (case c => k_is); (case k => k_is)
      case d_need_polys =>
        refine' KW.def_mk KX G ?a ?l ?c ?k
        (case a => k_is); (case l => k_is); (case c => k_is); (case k => k_is)
      case d_cut =>
        refine' KW.def_mk KX G ?a ?l ?c ?k
        (case a => k_is); (case l => k_is); (case c => k_is); (case k => k_is)
      case d_widened =>
        refine' KW.def_mk KX G ?a ?l ?c ?k
        (case a => k_is); (case l => k_is); (case c => k_is); (case k => k_is)
      case d_blended =>
        refine' KW.def_mk KX G ?a ?l ?c ?k
        (case a => k_is); (case l => k_is); (case c => k_is); (case k => k_is)
      case d_less =>
        refine' KW.def_mk KX G ?a ?l ?c ?k
        (case a => k_is); (case l => k_is); (case c => k_is); (case k => k_is)
      case d_scaled =>
        refine' KW.def_mk KX G ?a ?l ?c ?k
        (case a => k_is); (case l => k_is); (case c => k_is); (case k => k_is)
      case d_multiplied =>
        refine' KW.def_mk KX G ?a ?l ?c ?k
        (case a => k_is); (case l => k_is); (case c => k_is); (case k => k_is)
      case d_divided =>
        refine' KW.def_mk KX G ?a ?l ?c ?k
        (case a => k_is); (case l => k_is); (case c => k_is); (case k => k_is)
      case d_left_by =>
        refine' KW.def_mk KX G ?a ?l ?c ?k
        (case a => k_is); (case l => k_is); (case c => k_is); (case k => k_is)
      case d_levelled =>
        refine' KW.def_mk KX G ?a ?l ?c ?k
        (case a => k_is); (case l => k_is); (case c => k_is); (case k => k_is)
      case d_shared =>
        refine' KW.def_mk KX G ?a ?l ?c ?k
        (case a => k_is); (case l => k_is); (case c => k_is); (case k => k_is)
      case d_left_raised =>
        refine' KW.def_mk KX G ?a ?l ?c ?k
        (case a => k_is); (case l => k_is); (case c => k_is); (case k => k_is)
      case d_worth_at =>
        refine' KW.def_mk KX G ?a ?l ?c ?k
        (case a => k_is); (case l => k_is); (case c => k_is); (case k => k_is)
      case d_sloped =>
        refine' KW.def_mk KX G ?a ?l ?c ?k
        (case a => k_is); (case l => k_is); (case c => k_is); (case k => k_is)
      case d_powers_left =>
        refine' KW.def_mk KX G ?a ?l ?c ?k
        (case a => k_is); (case l => k_is); (case c => k_is); (case k => k_is)
      case d_still_of =>
        refine' KW.def_mk KX G ?a ?l ?c ?k
        (case a => k_is); (case l => k_is); (case c => k_is); (case k => k_is)
      case d_halved =>
        refine' KW.def_mk KX G ?a ?l ?c ?k
        (case a => k_is); (case l => k_is); (case c => k_is); (case k => k_is)
      case d_pieces_of =>
        refine' KW.def_mk KX G ?a ?l ?c ?k
        (case a => k_is); (case l => k_is); (case c => k_is); (case k => k_is)
      case d_thinned =>
        refine' KW.def_mk KX G ?a ?l ?c ?k
        (case a => k_is); (case l => k_is); (case c => k_is); (case k => k_is)
      case d_all_parts =>
        refine' KW.def_mk KX G ?a ?l ?c ?k
        (case a => k_is); (case l => k_is); (case c => k_is); (case k => k_is)
      case d_in_rank =>
        refine' KW.def_mk KX G ?a ?l ?c ?k
        (case a => k_is); (case l => k_is); (case c => k_is); (case k => k_is)
      case d_stands_whole =>
        refine' KW.def_mk KX G ?a ?l ?c ?k
        (case a => k_is); (case l => k_is); (case c => k_is); (case k => k_is)
      case d_parts =>
        refine' KW.def_mk KX G ?a ?l ?c ?k
        (case a => k_is); (case l => k_is); (case c => k_is); (case k => k_is)
      case d_rest_roots =>
        refine' KW.def_mk KX G ?a ?l ?c ?k
        (case a => k_is); (case l => k_is); (case c => k_is); (case k => k_is)
      case d_is_whole =>
        refine' KW.def_mk KX G ?a ?l ?c ?k
        (case a => k_is); (case l => k_is); (case c => k_is); (case k => k_is)
      case d_law_begin =>
        refine' KW.def_mk KX G ?a ?l ?c ?k
        (case a => k_is); (case l => k_is); (case c => k_is); (case k => k_is)
      case d_law_take =>
        refine' KW.def_mk KX G ?a ?l ?c ?k
        (case a => k_is); (case l => k_is); (case c => k_is); (case k => k_is)
      case d_law_of =>
        refine' KW.def_mk KX G ?a ?l ?c ?k
        (case a => k_is); (case l => k_is); (case c => k_is); (case k => k_is)
      case d_law_same =>
        refine' KW.def_mk KX G ?a ?l ?c ?k
        (case a => k_is); (case l => k_is); (case c => k_is); (case k => k_is)
      case d_law_primes =>
        refine' KW.def_mk KX G ?a ?l ?c ?k
        (case a => k_is); (case l => k_is); (case c => k_is); (case k => k_is)
      case d_law_any_prime =>
        refine' KW.def_mk KX G ?a ?l ?c ?k
        (case a => k_is); (case l => k_is); (case c => k_is); (case k => k_is)
      case d_law_trim =>
        refine' KW.def_mk KX G ?a ?l ?c ?k
        (case a => k_is); (case l => k_is); (case c => k_is); (case k => k_is)
      case d_law_rests =>
        refine' KW.def_mk KX G ?a ?l ?c ?k
        (case a => k_is); (case l => k_is); (case c => k_is); (case k => k_is)
      case d_law_level =>
        refine' KW.def_mk KX G ?a ?l ?c ?k
        (case a => k_is); (case l => k_is); (case c => k_is); (case k => k_is)
      case d_law_blend =>
        refine' KW.def_mk KX G ?a ?l ?c ?k
        (case a => k_is); (case l => k_is); (case c => k_is); (case k => k_is)
      case d_law_conv =>
        refine' KW.def_mk KX G ?a ?l ?c ?k
        (case a => k_is); (case l => k_is); (case c => k_is); (case k => k_is)
      case d_law_mul =>
        refine' KW.def_mk KX G ?a ?l ?c ?k
        (case a => k_is); (case l => k_is); (case c => k_is); (case k => k_is)
      case d_law_back =>
        refine' KW.def_mk KX G ?a ?l ?c ?k
        (case a => k_is); (case l => k_is); (case c => k_is); (case k => k_is)
      case d_law_cut_by =>
        refine' KW.def_mk KX G ?a ?l ?c ?k
        (case a => k_is); (case l => k_is); (case c => k_is); (case k => k_is)
      case d_law_worth =>
        refine' KW.def_mk KX G ?a ?l ?c ?k
        (case a => k_is); (case l => k_is); (case c => k_is); (case k => k_is)
      case d_law_shifted =>
        refine' KW.def_mk KX G ?a ?l ?c ?k
        (case a => k_is); (case l => k_is); (case c => k_is); (case k => k_is)
      case d_law_rests_at =>
        refine' KW.def_mk KX G ?a ?l ?c ?k
        (case a => k_is); (case l => k_is); (case c => k_is); (case k => k_is)
      case d_law_counts =>
        refine' KW.def_mk KX G ?a ?l ?c ?k
        (case a => k_is); (case l => k_is); (case c => k_is); (case k => k_is)
      case d_law =>
        refine' KW.def_mk KX G ?a ?l ?c ?k
        (case a => k_is); (case l => k_is); (case c => k_is); (case k => k_is)
      case n_abs => exact PySem.W.mg_none_of KX G (by k_is)
      case n_all => exact PySem.W.mg_none_of KX G (by k_is)
      case n_any => exact PySem.W.mg_none_of KX G (by k_is)
      case n_bool => exact PySem.W.mg_none_of KX G (by k_is)
      case n_enumerate => exact PySem.W.mg_none_of KX G (by k_is)
      case n_int => exact PySem.W.mg_none_of KX G (by k_is)
      case n_isinstance => exact PySem.W.mg_none_of KX G (by k_is)
      case n_len => exact PySem.W.mg_none_of KX G (by k_is)
      case n_list => exact PySem.W.mg_none_of KX G (by k_is)
      case n_max => exact PySem.W.mg_none_of KX G (by k_is)
      case n_range => exact PySem.W.mg_none_of KX G (by k_is)
      case n_sorted => exact PySem.W.mg_none_of KX G (by k_is)
      case n_str => exact PySem.W.mg_none_of KX G (by k_is)
      case n_tuple => exact PySem.W.mg_none_of KX G (by k_is)
      case n_zip => exact PySem.W.mg_none_of KX G (by k_is)
      case g_PRIMES =>
        refine' KW.tup_mk KX G ?a ?l ?s ?v
        (case a => k_is); (case l => k_is); (case s => decide); (case v => rfl)
      case g_PLAIN_X =>
        refine' KW.tup_mk KX G ?a ?l ?s ?v
        (case a => k_is); (case l => k_is); (case s => decide); (case v => rfl)
      case g_MOST_PLACES => exact ⟨_, PySem.W.mg_of KX G (by k_is)⟩
  case I =>
    exact fun w H s e s' z => z
end

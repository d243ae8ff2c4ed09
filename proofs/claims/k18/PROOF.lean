import PyProof.Rows.All
import Wide.All
import OpenK.AllK
import Wide.FinOn
import HandS.ForMost
import HandS.IsInst
import HandS.Star
import HandS.Zip
import HandS.TupAny
import HandS.Style
import HandS.SortInts
import HandS.Evl
import KE.GoesMore
import KE.GoesZip
import KE.GoesEnum
import HandS.MapObj
import KE.KDictZip
import HandS.RevTup
import HandS.TupMul
import KE.SortKeyHeap
import HandS.Lambda
import HandS.Conv
import PySem.Challenge.RW_steerloops_k18_whole_row_reduced_matrice
import HandS.Head0
import HandS.Head1
import HandS.Head2
import HandS.HeadEnd
import HandS.HeadHook1
import HandS.HeadHook2
import HandS.HeadHook3
import HandS.HeadHook4
import HandS.HeadWalk
section
set_option linter.all false
set_option Elab.async false
/-! The mathematics of row reduced forms: numbers less multiples of p, polynomials as their lists of coefficients. -/
namespace K18
open Lean.Grind (CommRing)

class Pr (p : Nat) : Prop where
  h : p = 2 ∨ p = 3 ∨ p = 5
instance instNZ {p : Nat} [h : Pr p] : NeZero p := ⟨by rcases h.h with h | h | h <;> omega⟩

instance pr2 : Pr 2 := ⟨.inl rfl⟩
instance pr3 : Pr 3 := ⟨.inr (.inl rfl)⟩
instance pr5 : Pr 5 := ⟨.inr (.inr rfl)⟩
def fpow {p : Nat} [Pr p] (a : Fin p) : Nat → Fin p
  | 0 => 1
  | n + 1 => fpow a n * a
def finv {p : Nat} [Pr p] (a : Fin p) : Fin p := fpow a (p - 2)
/-- what holds for 2, 3 and 5 -/
theorem prCases {C : (p : Nat) → Pr p → Prop} (h2 : C 2 pr2) (h3 : C 3 pr3) (h5 : C 5 pr5) (p : Nat) (hp : Pr p) : C p hp := by
  rcases id hp.h with h | h | h <;> subst h
  · exact h2
  · exact h3
  · exact h5
section field
variable {p : Nat} [hp : Pr p]
theorem f_one_ne : (1 : Fin p) ≠ 0 := prCases (C := fun p _ => (1 : Fin p) ≠ 0) (by decide) (by decide) (by decide) p hp
theorem f_mul_ne {a b : Fin p} : a ≠ 0 → b ≠ 0 → a * b ≠ 0 :=
  prCases (C := fun p _ => ∀ a b : Fin p, a ≠ 0 → b ≠ 0 → a * b ≠ 0) (by decide) (by decide) (by decide) p hp a b
theorem f_mul_z {a b : Fin p} (h : a * b = 0) : a = 0 ∨ b = 0 := by
  by_cases ha : a = 0
  · exact .inl ha
  · by_cases hb : b = 0
    · exact .inr hb
    · exact absurd h (f_mul_ne ha hb)
theorem finv_mul {a : Fin p} : a ≠ 0 → finv a * a = 1 :=
  prCases (C := fun p _ => ∀ a : Fin p, a ≠ 0 → finv a * a = 1) (by decide) (by decide) (by decide) p hp a
theorem finv_ne {a : Fin p} (h : a ≠ 0) : finv a ≠ 0 := fun e => by
  have q := finv_mul h
  rw [e, Fin.zero_mul] at q
  exact f_one_ne q.symm
end field

/-! ### the product of two rows of coefficients -/
section conv
variable {R : Type} [CommRing R]
def conv : Nat → (Nat → R) → (Nat → R) → R
  | 0, f, g => f 0 * g 0
  | k + 1, f, g => f 0 * g (k + 1) + conv k (fun i => f (i + 1)) g
theorem conv_add (k : Nat) : ∀ f f' g : Nat → R, conv k (fun i => f i + f' i) g = conv k f g + conv k f' g := by
  induction k with
  | zero => intro f f' g; simp only [conv]; grind
  | succ k ih => intro f f' g; simp only [conv, ih (fun i => f (i + 1)) (fun i => f' (i + 1)) g]; grind
theorem conv_smul (c : R) (k : Nat) : ∀ f g : Nat → R, conv k (fun i => c * f i) g = c * conv k f g := by
  induction k with
  | zero => intro f g; simp only [conv]; grind
  | succ k ih => intro f g; simp only [conv, ih (fun i => f (i + 1)) g]; grind
theorem conv_right (k : Nat) : ∀ f g : Nat → R, conv (k + 1) f g = f (k + 1) * g 0 + conv k f (fun i => g (i + 1)) := by
  induction k with
  | zero => intro f g; simp only [conv]; grind
  | succ k ih =>
    intro f g
    have h := ih (fun i => f (i + 1)) g
    have e : conv (k + 1 + 1) f g = f 0 * g (k + 1 + 1) + conv (k + 1) (fun i => f (i + 1)) g := rfl
    have e2 : conv (k + 1) f (fun i => g (i + 1)) = f 0 * g (k + 1 + 1) + conv k (fun i => f (i + 1)) (fun i => g (i + 1)) := rfl
    rw [e, h, e2]
    grind
theorem conv_comm (k : Nat) : ∀ f g : Nat → R, conv k f g = conv k g f := by
  induction k with
  | zero => intro f g; simp only [conv]; grind
  | succ k ih =>
    intro f g
    rw [conv_right k g f]
    have e : conv (k + 1) f g = f 0 * g (k + 1) + conv k (fun i => f (i + 1)) g := rfl
    rw [e, ih (fun i => f (i + 1)) g]
    grind
theorem conv_assoc (k : Nat) : ∀ f g h : Nat → R, conv k (fun i => conv i f g) h = conv k f (fun i => conv i g h) := by
  induction k with
  | zero => intro f g h; simp only [conv]; grind
  | succ k ih =>
    intro f g h
    have e : conv (k + 1) (fun i => conv i f g) h = conv 0 f g * h (k + 1) + conv k (fun i => f 0 * g (i + 1) + conv i (fun i => f (i + 1)) g) h := rfl
    have e2 : conv (k + 1) f (fun i => conv i g h) = f 0 * (g 0 * h (k + 1) + conv k (fun i => g (i + 1)) h) + conv k (fun i => f (i + 1)) (fun i => conv i g h) := rfl
    rw [e, e2, conv_add k (fun i => f 0 * g (i + 1)), conv_smul (f 0) k (fun i => g (i + 1)) h, ih]
    simp only [conv]
    grind
theorem conv_zero_l (k : Nat) : ∀ f g : Nat → R, (∀ i, f i = 0) → conv k f g = 0 := by
  induction k with
  | zero => intro f g hf; simp only [conv, hf]; grind
  | succ k ih => intro f g hf; simp only [conv, hf, ih (fun _ => 0) g (fun i => rfl)]; grind
theorem conv_high (k : Nat) : ∀ (f g : Nat → R) (m n : Nat), (∀ i, m ≤ i → f i = 0) → (∀ i, n ≤ i → g i = 0) → m + n ≤ k + 1 → conv k f g = 0 := by
  induction k with
  | zero =>
    intro f g m n hf hg h
    have h1 : m = 0 ∨ n = 0 := by omega
    simp only [conv]
    rcases h1 with h1 | h1
    · rw [hf 0 (by omega)]; grind
    · rw [hg 0 (by omega)]; grind
  | succ k ih =>
    intro f g m n hf hg h
    by_cases hm : m = 0
    · exact conv_zero_l _ f g fun i => hf i (by omega)
    · simp only [conv]
      rw [ih (fun i => f (i + 1)) g (m - 1) n (fun i hi => hf (i + 1) (by omega)) hg (by omega), hg (k + 1) (by omega)]
      grind
theorem conv_top (m : Nat) : ∀ (f g : Nat → R) (n : Nat), (∀ i, m < i → f i = 0) → (∀ i, n < i → g i = 0) → conv (m + n) f g = f m * g n := by
  induction m with
  | zero =>
    intro f g n hf hg
    cases n with
    | zero => rfl
    | succ n =>
      rw [Nat.zero_add]
      simp only [conv]
      rw [conv_zero_l n (fun i => f (i + 1)) g (fun i => hf (i + 1) (by omega))]
      grind
  | succ m ih =>
    intro f g n hf hg
    have e : m + 1 + n = (m + n) + 1 := by omega
    rw [e]
    simp only [conv]
    rw [ih (fun i => f (i + 1)) g n (fun i hi => hf (i + 1) (by omega)) hg, hg (m + n + 1) (by omega)]
    grind
end conv

/-! ### polynomials -/
section poly
variable {p : Nat} [hp : Pr p]
structure Po (p : Nat) [Pr p] where
  l : List (Fin p)
  ok : ∀ x, l.getLast? = some x → x ≠ 0
def trimL : List (Fin p) → List (Fin p)
  | [] => []
  | x :: xs => match trimL xs with
    | [] => if x = 0 then [] else [x]
    | y :: ys => x :: y :: ys
theorem trimL_last : ∀ (l : List (Fin p)) (x : Fin p), (trimL l).getLast? = some x → x ≠ 0
  | [], x, h => by simp [trimL] at h
  | a :: l, x, h => by
    have ih := trimL_last l x
    simp only [trimL] at h
    cases e : trimL l with
    | nil =>
      rw [e] at h
      simp only at h
      by_cases ha : a = 0
      · rw [if_pos ha] at h; simp at h
      · rw [if_neg ha] at h
        simp at h
        rw [← h]; exact ha
    | cons y ys =>
      rw [e] at h ih
      simp only at h
      exact ih (by rw [← h, List.getLast?_cons_cons])
theorem trimL_get : ∀ (l : List (Fin p)) (k : Nat), (trimL l).getD k 0 = l.getD k 0
  | [], k => rfl
  | a :: l, k => by
    have ih := trimL_get l
    simp only [trimL]
    cases e : trimL l with
    | nil =>
      rw [e] at ih
      simp only
      by_cases ha : a = 0
      · rw [if_pos ha]
        cases k with
        | zero => simp [ha]
        | succ k => simpa using ih k
      · rw [if_neg ha]
        cases k with
        | zero => rfl
        | succ k => simpa using ih k
    | cons y ys =>
      rw [e] at ih
      cases k with
      | zero => rfl
      | succ k => simpa using ih k
theorem trimL_len : ∀ l : List (Fin p), (trimL l).length ≤ l.length
  | [] => Nat.le_refl _
  | a :: l => by
    have ih := trimL_len l
    simp only [trimL]
    cases e : trimL l with
    | nil => simp only; split <;> simp
    | cons y ys => rw [e] at ih; simpa using ih
def trimP (l : List (Fin p)) : Po p := ⟨trimL l, trimL_last l⟩
def co (f : Po p) (k : Nat) : Fin p := f.l.getD k 0
def len (f : Po p) : Nat := f.l.length
theorem co_trimP (l : List (Fin p)) (k : Nat) : co (trimP l) k = l.getD k 0 := trimL_get l k
theorem co_high {f : Po p} {k : Nat} (h : len f ≤ k) : co f k = 0 := by
  show f.l.getD k 0 = 0
  rw [List.getD_eq_getElem?_getD, List.getElem?_eq_none h]
  rfl
theorem co_top {f : Po p} (h : len f ≠ 0) : co f (len f - 1) ≠ 0 := by
  have h1 : f.l.length - 1 < f.l.length := Nat.sub_lt (Nat.pos_of_ne_zero h) (by decide)
  refine f.ok _ ?_
  rw [List.getLast?_eq_getElem?]
  show f.l[f.l.length - 1]? = some (f.l.getD (f.l.length - 1) 0)
  rw [List.getD_eq_getElem?_getD, List.getElem?_eq_getElem h1]
  rfl
theorem len_le {f : Po p} {n : Nat} (h : ∀ k, n ≤ k → co f k = 0) : len f ≤ n := by
  by_cases h0 : len f = 0
  · omega
  · by_cases h1 : len f ≤ n
    · exact h1
    · exact absurd (h (len f - 1) (by omega)) (co_top h0)
theorem lt_len {f : Po p} {k : Nat} (h : co f k ≠ 0) : k < len f := by
  by_cases h1 : len f ≤ k
  · exact absurd (co_high h1) h
  · omega
theorem Po.ext' {f g : Po p} (h : f.l = g.l) : f = g := by
  cases f; cases g; cases h; rfl
instance : DecidableEq (Po p) := fun f g => if h : f.l = g.l then isTrue (Po.ext' h) else isFalse fun e => h (by rw [e])
theorem co_ext {f g : Po p} (h : ∀ k, co f k = co g k) : f = g := by
  have h1 : len f = len g := Nat.le_antisymm (len_le fun k hk => by rw [h k, co_high hk]) (len_le fun k hk => by rw [← h k, co_high hk])
  refine Po.ext' (List.ext_getElem h1 fun i hi hj => ?_)
  have q := h i
  unfold co at q
  rw [List.getD_eq_getElem?_getD, List.getD_eq_getElem?_getD, List.getElem?_eq_getElem hi, List.getElem?_eq_getElem hj] at q
  exact q
theorem trimP_eq {l : List (Fin p)} {f : Po p} (h : ∀ k, l.getD k 0 = co f k) : trimP l = f := co_ext fun k => by rw [co_trimP, h]
def mkP (n : Nat) (c : Nat → Fin p) : Po p := trimP ((List.range n).map c)
theorem co_mkP (n : Nat) (c : Nat → Fin p) (k : Nat) : co (mkP n c) k = if k < n then c k else 0 := by
  unfold mkP
  rw [co_trimP, List.getD_eq_getElem?_getD, List.getElem?_map]
  split
  · rename_i h
    rw [List.getElem?_range h]; rfl
  · rename_i h
    rw [List.getElem?_eq_none (by simp; omega)]; rfl
def zeroP : Po p := ⟨[], fun x h => by simp at h⟩
def cP (c : Fin p) : Po p := trimP [c]
def addP (f g : Po p) : Po p := mkP (max (len f) (len g)) fun k => co f k + co g k
def negP (f : Po p) : Po p := mkP (len f) fun k => - co f k
def mulP (f g : Po p) : Po p := mkP (len f + len g - 1) fun k => conv k (co f) (co g)
theorem co_zeroP (k : Nat) : co (zeroP : Po p) k = 0 := rfl
theorem co_cP (c : Fin p) (k : Nat) : co (cP c) k = if k = 0 then c else 0 := by
  unfold cP
  rw [co_trimP]
  cases k with
  | zero => rfl
  | succ k => simp
theorem co_addP (f g : Po p) (k : Nat) : co (addP f g) k = co f k + co g k := by
  unfold addP
  rw [co_mkP]
  split
  · rfl
  · rw [co_high (f := f) (by omega), co_high (f := g) (by omega)]; grind
theorem co_negP (f : Po p) (k : Nat) : co (negP f) k = - co f k := by
  unfold negP
  rw [co_mkP]
  split
  · rfl
  · rw [co_high (f := f) (by omega)]; grind
theorem co_mulP (f g : Po p) (k : Nat) : co (mulP f g) k = conv k (co f) (co g) := by
  unfold mulP
  rw [co_mkP]
  split
  · rfl
  · exact (conv_high k (co f) (co g) (len f) (len g) (fun i h => co_high h) (fun i h => co_high h) (by omega)).symm
instance : Add (Po p) := ⟨addP⟩
instance : Mul (Po p) := ⟨mulP⟩
instance : Neg (Po p) := ⟨negP⟩
instance : Sub (Po p) := ⟨fun a b => a + -b⟩
theorem co_add (f g : Po p) (k : Nat) : co (f + g) k = co f k + co g k := co_addP f g k
theorem co_neg (f : Po p) (k : Nat) : co (-f) k = - co f k := co_negP f k
theorem co_mul (f g : Po p) (k : Nat) : co (f * g) k = conv k (co f) (co g) := co_mulP f g k
theorem co_sub (f g : Po p) (k : Nat) : co (f - g) k = co f k - co g k := by
  show co (f + -g) k = _
  rw [co_add, co_neg]; grind
theorem conv_c (c : Fin p) (k : Nat) (g : Nat → Fin p) : conv k (co (cP c)) g = c * g k := by
  have h := conv_top 0 (co (cP c)) (fun i => g i)
  cases k with
  | zero => simp only [conv, co_cP]; rfl
  | succ k =>
    simp only [conv]
    rw [conv_zero_l k _ g (fun i => by rw [co_cP, if_neg (by omega)]), co_cP, if_pos rfl]
    grind
theorem cP_mul_co (c : Fin p) (f : Po p) (k : Nat) : co (cP c * f) k = c * co f k := by rw [co_mul, conv_c]
theorem cP_add (a b : Fin p) : cP (a + b) = cP a + cP b := co_ext fun k => by
  rw [co_add, co_cP, co_cP, co_cP]; split <;> grind
theorem cP_mul (a b : Fin p) : cP (a * b) = cP a * cP b := co_ext fun k => by
  rw [cP_mul_co, co_cP, co_cP]; split <;> grind
theorem cP_neg (a : Fin p) : cP (-a) = -cP a := co_ext fun k => by
  rw [co_neg, co_cP, co_cP]; split <;> grind
theorem cP_zero : cP (0 : Fin p) = zeroP := co_ext fun k => by
  rw [co_cP, co_zeroP]; split <;> rfl
def fN (n : Nat) : Fin p := (Lean.Grind.Semiring.natCast (α := Fin p)).natCast n
def fI (n : Int) : Fin p := (Lean.Grind.Ring.intCast (α := Fin p)).intCast n
theorem fI_neg (i : Int) : (fI (-i) : Fin p) = - fI i := Lean.Grind.Ring.intCast_neg i
theorem fI_nat (n : Nat) : (fI (n : Int) : Fin p) = fN n := Lean.Grind.Ring.intCast_natCast n
theorem fN_of (n : Nat) : (OfNat.ofNat n : Fin p) = fN n := Lean.Grind.Semiring.ofNat_eq_natCast n
instance instRing : CommRing (Po p) where
  natCast := ⟨fun n => cP (fN n)⟩
  ofNat := fun n => ⟨cP (OfNat.ofNat n : Fin p)⟩
  nsmul := ⟨fun n f => cP (fN n) * f⟩
  npow := ⟨fun f n => Nat.rec (cP 1) (fun _ g => g * f) n⟩
  intCast := ⟨fun n => cP (fI n)⟩
  zsmul := ⟨fun n f => cP (fI n) * f⟩
  add_zero := fun f => co_ext fun k => by
    show co (f + cP 0) k = _
    rw [co_add, co_cP]; split <;> grind
  add_comm := fun f g => co_ext fun k => by rw [co_add, co_add]; grind
  add_assoc := fun f g h => co_ext fun k => by simp only [co_add]; grind
  mul_comm := fun f g => co_ext fun k => by rw [co_mul, co_mul, conv_comm]
  mul_assoc := fun f g h => co_ext fun k => by
    rw [co_mul, co_mul, show (co (f * g)) = fun i => conv i (co f) (co g) from funext fun i => co_mul f g i, show (co (g * h)) = fun i => conv i (co g) (co h) from funext fun i => co_mul g h i, conv_assoc]
  mul_one := fun f => co_ext fun k => by
    show co (f * cP 1) k = _
    rw [co_mul, conv_comm, conv_c]; grind
  one_mul := fun f => co_ext fun k => by
    show co (cP 1 * f) k = _
    rw [co_mul, conv_c]; grind
  left_distrib := fun f g h => co_ext fun k => by
    rw [co_mul, co_add, co_mul, co_mul, conv_comm, show (co (g + h)) = fun i => co g i + co h i from funext fun i => co_add g h i, conv_add, conv_comm k (co g), conv_comm k (co h)]
  right_distrib := fun f g h => co_ext fun k => by
    rw [co_mul, co_add, co_mul, co_mul, show (co (f + g)) = fun i => co f i + co g i from funext fun i => co_add f g i, conv_add]
  zero_mul := fun f => co_ext fun k => by
    show co (cP 0 * f) k = co (cP 0) k
    rw [co_mul, conv_c, co_cP]; split <;> grind
  mul_zero := fun f => co_ext fun k => by
    show co (f * cP 0) k = co (cP 0) k
    rw [co_mul, conv_comm, conv_c, co_cP]; split <;> grind
  pow_zero := fun f => rfl
  pow_succ := fun f n => rfl
  ofNat_succ := fun n => by
    show cP (OfNat.ofNat (n + 1) : Fin p) = cP (OfNat.ofNat n : Fin p) + cP 1
    rw [← cP_add, Lean.Grind.Semiring.ofNat_succ]
  ofNat_eq_natCast := fun n => by
    show cP (OfNat.ofNat n : Fin p) = cP (fN n)
    rw [fN_of]
  nsmul_eq_natCast_mul := fun n f => rfl
  neg_add_cancel := fun f => co_ext fun k => by
    show co (-f + f) k = co (cP 0) k
    rw [co_add, co_neg, co_cP]; split <;> grind
  sub_eq_add_neg := fun f g => rfl
  neg_zsmul := fun i f => by
    show cP (fI (-i)) * f = -(cP (fI i) * f)
    refine co_ext fun k => ?_
    rw [co_neg, cP_mul_co, cP_mul_co, fI_neg]; grind
  zsmul_natCast_eq_nsmul := fun n f => by
    show cP (fI ((n : Nat) : Int)) * f = cP (fN n) * f
    rw [fI_nat]
  intCast_ofNat := fun n => by
    show cP (fI ((OfNat.ofNat n : Nat) : Int)) = cP (OfNat.ofNat n : Fin p)
    rw [fI_nat, fN_of]
    rfl
  intCast_neg := fun i => by
    show cP (fI (-i)) = -cP (fI i)
    rw [← cP_neg, fI_neg]
theorem zero_eq : (0 : Po p) = zeroP := cP_zero
theorem one_eq : (1 : Po p) = cP 1 := rfl
theorem co_zero (k : Nat) : co (0 : Po p) k = 0 := by rw [zero_eq]; rfl
theorem len_zero : len (0 : Po p) = 0 := by rw [zero_eq]; rfl
theorem len_eq_zero {f : Po p} (h : len f = 0) : f = 0 := co_ext fun k => by rw [co_high (by omega), co_zero]
theorem len_ne {f : Po p} (h : f ≠ 0) : len f ≠ 0 := fun e => h (len_eq_zero e)
theorem len_c {c : Fin p} (h : c ≠ 0) : len (cP c) = 1 := by
  have h1 : len (cP c) ≤ 1 := len_le fun k hk => by rw [co_cP, if_neg (by omega)]
  have h2 : 0 < len (cP c) := lt_len (k := 0) (by rw [co_cP, if_pos rfl]; exact h)
  omega
theorem len_one {f : Po p} (h : len f = 1) : ∃ c : Fin p, c ≠ 0 ∧ f = cP c := by
  refine ⟨co f 0, ?_, co_ext fun k => ?_⟩
  · have := co_top (f := f) (by omega)
    rw [h] at this
    exact this
  · rw [co_cP]
    split
    · rename_i e; rw [e]
    · exact co_high (by omega)
theorem len_add (f g : Po p) : len (f + g) ≤ max (len f) (len g) := len_le fun k hk => by
  rw [co_add, co_high (by omega), co_high (by omega)]; grind
theorem len_neg (f : Po p) : len (-f) = len f := Nat.le_antisymm (len_le fun k hk => by rw [co_neg, co_high hk]; grind) (len_le fun k hk => by
  have := co_neg f k
  rw [co_high hk] at this
  grind)
theorem len_sub (f g : Po p) : len (f - g) ≤ max (len f) (len g) := len_le fun k hk => by
  rw [co_sub, co_high (by omega), co_high (by omega)]; grind
theorem len_mul_le (f g : Po p) : len (f * g) ≤ len f + len g - 1 := len_le fun k hk => by
  rw [co_mul]
  exact conv_high k _ _ (len f) (len g) (fun i h => co_high h) (fun i h => co_high h) (by omega)
theorem co_mul_top (f g : Po p) {m n : Nat} (hf : len f ≤ m + 1) (hg : len g ≤ n + 1) : co (f * g) (m + n) = co f m * co g n := by
  rw [co_mul]
  exact conv_top m _ _ n (fun i h => co_high (by omega)) (fun i h => co_high (by omega))
theorem mul_ne {f g : Po p} (hf : f ≠ 0) (hg : g ≠ 0) : f * g ≠ 0 := fun e => by
  have h1 := len_ne hf
  have h2 := len_ne hg
  have h := co_mul_top f g (m := len f - 1) (n := len g - 1) (by omega) (by omega)
  rw [e, co_zero] at h
  exact f_mul_ne (co_top h1) (co_top h2) h.symm
theorem mul_z {f g : Po p} (h : f * g = 0) : f = 0 ∨ g = 0 := by
  by_cases ha : f = 0
  · exact .inl ha
  · by_cases hb : g = 0
    · exact .inr hb
    · exact absurd h (mul_ne ha hb)
theorem len_mul {f g : Po p} (hf : f ≠ 0) (hg : g ≠ 0) : len (f * g) = len f + len g - 1 := by
  have h1 := len_ne hf
  have h2 := len_ne hg
  have h := co_mul_top f g (m := len f - 1) (n := len g - 1) (by omega) (by omega)
  have h3 : len f - 1 + (len g - 1) < len (f * g) := lt_len (by rw [h]; exact f_mul_ne (co_top h1) (co_top h2))
  have h4 := len_mul_le f g
  omega
theorem len_cmul {c : Fin p} (h : c ≠ 0) (f : Po p) : len (cP c * f) = len f := by
  refine Nat.le_antisymm (len_le fun k hk => by rw [cP_mul_co, co_high hk]; grind) (len_le fun k hk => ?_)
  have q := cP_mul_co c f k
  rw [co_high hk] at q
  rcases f_mul_z q.symm with z | z
  · exact absurd z h
  · exact z
theorem cP_ne {c : Fin p} (h : c ≠ 0) : cP c ≠ 0 := fun e => by
  have := len_c h
  rw [e, len_zero] at this
  omega
/-- s to a power -/
def sP (n : Nat) : Po p := mkP (n + 1) fun k => if k = n then 1 else 0
theorem co_sP (n k : Nat) : co (sP n : Po p) k = if k = n then 1 else 0 := by
  unfold sP
  rw [co_mkP]
  by_cases h : k = n
  · rw [if_pos (by omega)]
  · rw [if_neg h]; split <;> rfl
theorem len_sP (n : Nat) : len (sP n : Po p) = n + 1 := by
  have h1 : len (sP n : Po p) ≤ n + 1 := len_le fun k hk => by rw [co_sP, if_neg (by omega)]
  have h2 : n < len (sP n : Po p) := lt_len (by rw [co_sP, if_pos rfl]; exact f_one_ne)
  omega
end poly
end K18
end
section
set_option linter.all false
set_option Elab.async false
/-! Elimination over a prime field: tables as functions of the place. -/
namespace K18
open Lean.Grind (CommRing)
section
variable {p : Nat} [hp : Pr p]
/-- the sum of the first m -/
def S : Nat → (Nat → Fin p) → Fin p
  | 0, _ => 0
  | m + 1, f => S m f + f m
theorem S_congr : ∀ {m : Nat} {f g : Nat → Fin p}, (∀ j, j < m → f j = g j) → S m f = S m g
  | 0, _, _, _ => rfl
  | m + 1, f, g, h => by
    show S m f + f m = S m g + g m
    rw [S_congr fun j hj => h j (by omega), h m (by omega)]
theorem S_add : ∀ (m : Nat) (f g : Nat → Fin p), S m (fun j => f j + g j) = S m f + S m g
  | 0, _, _ => by simp only [S]; grind
  | m + 1, f, g => by simp only [S, S_add m f g]; grind
theorem S_mul : ∀ (m : Nat) (c : Fin p) (f : Nat → Fin p), S m (fun j => c * f j) = c * S m f
  | 0, _, _ => by simp only [S]; grind
  | m + 1, c, f => by simp only [S, S_mul m c f]; grind
theorem S_zero : ∀ {m : Nat} {f : Nat → Fin p}, (∀ j, j < m → f j = 0) → S m f = 0
  | 0, _, _ => rfl
  | m + 1, f, h => by
    show S m f + f m = 0
    rw [S_zero fun j hj => h j (by omega), h m (by omega)]; grind
theorem S_one : ∀ {m : Nat} {f : Nat → Fin p} {k : Nat}, k < m → (∀ j, j < m → j ≠ k → f j = 0) → S m f = f k
  | 0, _, _, h, _ => by omega
  | m + 1, f, k, h, h0 => by
    show S m f + f m = f k
    by_cases e : k = m
    · subst e
      rw [S_zero fun j hj => h0 j (by omega) (by omega)]; grind
    · rw [S_one (k := k) (by omega) fun j hj hk => h0 j (by omega) hk, h0 m (by omega) (fun z => e z.symm)]; grind
theorem S_two {m : Nat} {f : Nat → Fin p} {a b : Nat} (ha : a < m) (hb : b < m) (hab : a ≠ b) (h0 : ∀ j, j < m → j ≠ a → j ≠ b → f j = 0) : S m f = f a + f b := by
  have h1 : S m f = S m (fun j => if j = a then f a else 0) + S m (fun j => if j = a then 0 else f j) := by
    rw [← S_add]
    refine S_congr fun j hj => ?_
    by_cases e : j = a
    · rw [if_pos e, if_pos e, e]; grind
    · rw [if_neg e, if_neg e]; grind
  rw [h1, S_one ha (fun j hj e => if_neg e), S_one hb (fun j hj e => by
    by_cases z : j = a
    · exact if_pos z
    · rw [if_neg z]; exact h0 j hj z e)]
  rw [if_pos rfl, if_neg (fun z => hab z.symm)]

abbrev Tb (p : Nat) := Nat → Nat → Fin p
/-- v is taken to 0 by the first w rows of m -/
def Sol (w m : Nat) (M : Tb p) (v : Nat → Fin p) : Prop := ∀ i, i < w → S m (fun j => M i j * v j) = 0
def best (w : Nat) (M : Tb p) (L at' : Nat) : List Nat := ((List.range (w - L)).map fun k => L + k).filter fun i => decide (M i at' ≠ 0)
theorem best_nil {w L c : Nat} {M : Tb p} (h : best w M L c = []) : ∀ i, L ≤ i → i < w → M i c = 0 := fun i h1 h2 => by
  unfold best at h
  rw [List.filter_eq_nil_iff] at h
  have := h i (List.mem_map.mpr ⟨i - L, List.mem_range.mpr (by omega), by omega⟩)
  simpa using this
theorem best_cons {w L c b : Nat} {M : Tb p} {r : List Nat} (h : best w M L c = b :: r) : L ≤ b ∧ b < w ∧ M b c ≠ 0 := by
  have hb : b ∈ best w M L c := by rw [h]; exact List.mem_cons_self ..
  obtain ⟨h1, h2⟩ := List.mem_filter.mp hb
  obtain ⟨k, hk, rfl⟩ := List.mem_map.mp h1
  have := List.mem_range.mp hk
  exact ⟨by omega, by omega, by simpa using h2⟩
def swp (M : Tb p) (a b : Nat) : Tb p := fun i => if i = a then M b else if i = b then M a else M i
def setR (M : Tb p) (a : Nat) (r : Nat → Fin p) : Tb p := fun i => if i = a then r else M i
/-- every row but here less its number at c times the row here -/
def elim (M : Tb p) (here c : Nat) : Tb p := fun i j => if i = here then M i j else M i j - M i c * M here j
def echOp (M : Tb p) (here b c : Nat) : Tb p :=
  elim (setR (swp M here b) here fun j => swp M here b here j * finv (swp M here b here c)) here c
def echStep (w : Nat) (st : Tb p × List Nat) (c : Nat) : Tb p × List Nat :=
  match best w st.1 st.2.length c with
  | [] => st
  | b :: _ => (echOp st.1 st.2.length b c, st.2 ++ [c])
def ech (w : Nat) (M : Tb p) : Nat → Tb p × List Nat
  | 0 => (M, [])
  | c + 1 => echStep w (ech w M c) c

theorem Sol.swp {w m a b : Nat} {M : Tb p} {v : Nat → Fin p} (ha : a < w) (hb : b < w) (h : Sol w m M v) : Sol w m (swp M a b) v := fun i hi => by
  unfold K18.swp
  by_cases h1 : i = a
  · simp only [if_pos h1]; exact h b hb
  · simp only [if_neg h1]
    by_cases h2 : i = b
    · simp only [if_pos h2]; exact h a ha
    · simp only [if_neg h2]; exact h i hi
theorem swp_swp (M : Tb p) (a b : Nat) : swp (swp M a b) a b = M := by
  funext i
  unfold swp
  by_cases h1 : i = a
  · subst h1
    rw [if_pos rfl]
    by_cases h2 : b = i
    · rw [if_pos h2, h2]
    · rw [if_neg h2, if_pos rfl]
  · rw [if_neg h1]
    by_cases h2 : i = b
    · subst h2; rw [if_pos rfl, if_pos rfl]
    · rw [if_neg h2, if_neg h1, if_neg h2]
theorem sol_swp {w m a b : Nat} {M : Tb p} {v : Nat → Fin p} (ha : a < w) (hb : b < w) : Sol w m (swp M a b) v ↔ Sol w m M v :=
  ⟨fun h => by have := h.swp ha hb; rwa [swp_swp] at this, fun h => h.swp ha hb⟩
theorem sol_scale {w m a : Nat} {M : Tb p} {v : Nat → Fin p} {c : Fin p} (hc : c ≠ 0) : Sol w m (setR M a fun j => M a j * c) v ↔ Sol w m M v := by
  have e : ∀ i, S m (fun j => setR M a (fun j => M a j * c) i j * v j) = if i = a then c * S m (fun j => M a j * v j) else S m fun j => M i j * v j := fun i => by
    unfold setR
    by_cases h : i = a
    · simp only [if_pos h]
      rw [← S_mul]; exact S_congr fun j hj => by grind
    · simp only [if_neg h]
  constructor
  · intro h i hi
    have := h i hi
    rw [e] at this
    by_cases z : i = a
    · rw [if_pos z] at this
      rcases f_mul_z this with q | q
      · exact absurd q hc
      · rw [z]; exact q
    · rw [if_neg z] at this; exact this
  · intro h i hi
    rw [e]
    by_cases z : i = a
    · rw [if_pos z]
      have := h i hi
      rw [z] at this
      rw [this]; grind
    · rw [if_neg z]; exact h i hi
theorem sol_elim {w m here c : Nat} {M : Tb p} {v : Nat → Fin p} (hh : here < w) : Sol w m (elim M here c) v ↔ Sol w m M v := by
  have e : ∀ i, i ≠ here → S m (fun j => elim M here c i j * v j) = S m (fun j => M i j * v j) - M i c * S m fun j => M here j * v j := fun i hi => by
    have q : S m (fun j => elim M here c i j * v j) = S m (fun j => M i j * v j + (-(M i c)) * (M here j * v j)) := S_congr fun j hj => by
      unfold elim; rw [if_neg hi]; grind
    rw [q, S_add, S_mul]; grind
  have e2 : S m (fun j => elim M here c here j * v j) = S m fun j => M here j * v j := S_congr fun j hj => by unfold elim; rw [if_pos rfl]
  constructor
  · intro h i hi
    have h0 := h here hh
    rw [e2] at h0
    by_cases z : i = here
    · rw [z]; exact h0
    · have := h i hi
      rw [e i z, h0] at this
      grind
  · intro h i hi
    by_cases z : i = here
    · rw [z, e2]; exact h here hh
    · rw [e i z, h i hi, h here hh]; grind

/-- what holds behind the columns below n -/
structure Ech (w m n : Nat) (M0 M : Tb p) (pl : List Nat) : Prop where
  sol : ∀ v, Sol w m M v ↔ Sol w m M0 v
  len : pl.length ≤ w
  lt : ∀ (k c : Nat), pl[k]? = some c → c < n
  one : ∀ (k c : Nat), pl[k]? = some c → M k c = 1
  zero : ∀ (k c i : Nat), pl[k]? = some c → i < w → i ≠ k → M i c = 0
  low : ∀ (i c : Nat), pl.length ≤ i → i < w → c < n → M i c = 0
theorem ech_ok {w m : Nat} {M : Tb p} : ∀ n, n ≤ m → Ech w m n M (ech w M n).1 (ech w M n).2
  | 0, _ => ⟨fun v => Iff.rfl, Nat.zero_le _, fun k c h => by simp [ech] at h, fun k c h => by simp [ech] at h, fun k c i h => by simp [ech] at h, fun i c _ _ h => by omega⟩
  | n + 1, hn => by
    have E := ech_ok (w := w) (m := m) (M := M) n (by omega)
    show Ech w m (n + 1) M (echStep w (ech w M n) n).1 (echStep w (ech w M n) n).2
    generalize hst : ech w M n = st at E
    obtain ⟨N, pl⟩ := st
    simp only at E
    unfold echStep
    simp only
    cases hb : best w N pl.length n with
    | nil =>
      have h0 := best_nil hb
      exact ⟨E.sol, E.len, fun k c h => Nat.lt_succ_of_lt (E.lt k c h), E.one, E.zero, fun i c h1 h2 h3 => by
        by_cases z : c = n
        · rw [z]; exact h0 i h1 h2
        · exact E.low i c h1 h2 (by omega)⟩
    | cons b r =>
      obtain ⟨b1, b2, b3⟩ := best_cons hb
      simp only
      have hh : pl.length < w := by omega
      have vb : swp N pl.length b pl.length n = N b n := by unfold swp; rw [if_pos rfl]
      have iv : finv (swp N pl.length b pl.length n) ≠ 0 := by rw [vb]; exact finv_ne b3
      -- entries of the swapped table
      have sw0 : ∀ i c, i < w → c < n → pl.length ≤ i → swp N pl.length b i c = 0 := fun i c h1 h2 h3 => by
        unfold swp
        by_cases z1 : i = pl.length
        · rw [if_pos z1]; exact E.low b c b1 b2 h2
        · rw [if_neg z1]
          by_cases z2 : i = b
          · rw [if_pos z2]; exact E.low pl.length c (Nat.le_refl _) hh h2
          · rw [if_neg z2]; exact E.low i c h3 h1 h2
      have swk : ∀ k, k < pl.length → swp N pl.length b k = N k := fun k hk => by
        unfold swp; rw [if_neg (by omega), if_neg (by omega)]
      have rz : ∀ c, c < n → swp N pl.length b pl.length c * finv (swp N pl.length b pl.length n) = 0 := fun c hc => by
        rw [sw0 _ c hh hc (Nat.le_refl _)]; grind
      have r1 : swp N pl.length b pl.length n * finv (swp N pl.length b pl.length n) = 1 := by
        have := finv_mul (show swp N pl.length b pl.length n ≠ 0 by rw [vb]; exact b3)
        grind
      have hn1 : ∀ c, c ∈ pl → c < n := fun c hc => by
        obtain ⟨k, hk⟩ := List.mem_iff_getElem?.mp hc
        exact E.lt k c hk
      have at_ : ∀ i j, echOp N pl.length b n i j = if i = pl.length then swp N pl.length b pl.length j * finv (swp N pl.length b pl.length n) else
          swp N pl.length b i j - swp N pl.length b i n * (swp N pl.length b pl.length j * finv (swp N pl.length b pl.length n)) := fun i j => by
        unfold echOp elim setR
        by_cases z : i = pl.length
        · simp only [if_pos z]
        · simp only [if_neg z, if_true]
      refine ⟨fun v => ?_, by rw [List.length_append]; exact hh, fun k c h => ?_, fun k c h => ?_, fun k c i h h1 h2 => ?_, fun i c h1 h2 h3 => ?_⟩
      · unfold echOp
        rw [sol_elim hh, sol_scale iv, sol_swp hh b2]
        exact E.sol v
      · by_cases hk : k < pl.length
        · rw [List.getElem?_append_left hk] at h
          exact Nat.lt_succ_of_lt (E.lt k c h)
        · rw [List.getElem?_append_right (by omega)] at h
          have : c ∈ [n] := List.mem_of_getElem? h
          have := List.mem_singleton.mp this
          omega
      · by_cases hk : k < pl.length
        · rw [List.getElem?_append_left hk] at h
          have hc := E.lt k c h
          rw [at_, if_neg (by omega), rz c hc, swk k hk, E.one k c h]; grind
        · rw [List.getElem?_append_right (by omega)] at h
          have hc : c = n := List.mem_singleton.mp (List.mem_of_getElem? h)
          have hk2 : k = pl.length := by
            have := (List.getElem?_eq_some_iff.mp h).1
            simp at this
            omega
          rw [at_, if_pos hk2, hc]; exact r1
      · by_cases hk : k < pl.length
        · rw [List.getElem?_append_left hk] at h
          have hc := E.lt k c h
          by_cases z : i = pl.length
          · rw [at_, if_pos z, rz c hc]
          · rw [at_, if_neg z, rz c hc]
            have : swp N pl.length b i c = 0 := by
              by_cases hi : i < pl.length
              · rw [swk i hi]; exact E.zero k c i h h1 h2
              · exact sw0 i c h1 hc (by omega)
            rw [this]; grind
        · rw [List.getElem?_append_right (by omega)] at h
          have hc : c = n := List.mem_singleton.mp (List.mem_of_getElem? h)
          have hk2 : k = pl.length := by
            have := (List.getElem?_eq_some_iff.mp h).1
            simp at this
            omega
          have z : i ≠ pl.length := by omega
          rw [at_, if_neg z, hc, r1]; grind
      · rw [List.length_append] at h1
        have h1' : pl.length + 1 ≤ i := h1
        have z : i ≠ pl.length := by omega
        rw [at_, if_neg z]
        by_cases hc : c = n
        · rw [hc, r1]; grind
        · rw [rz c (by omega), sw0 i c h2 (by omega) (by omega)]; grind
/-- the vector of a free column: the pairs of the first n rows and places written in -/
def tk (M : Tb p) (pl : List Nat) (c : Nat) : Nat → Nat → Fin p
  | 0, j => if j = c then 1 else 0
  | n + 1, j => if some j = pl[n]? then - M n c else tk M pl c n j
def freeC (m : Nat) (pl : List Nat) : List Nat := (List.range m).filter fun c => decide (c ∉ pl)
/-- what kernel_of hands back -/
def kerf (w m : Nat) (M : Tb p) : List (Nat → Fin p) := (freeC m (ech w M m).2).map fun c => tk (ech w M m).1 (ech w M m).2 c (ech w M m).2.length
theorem pl_inj {w m n : Nat} {M0 M : Tb p} {pl : List Nat} (E : Ech w m n M0 M pl) {a b c : Nat} (ha : pl[a]? = some c) (hb : pl[b]? = some c) : a = b := by
  by_cases e : a = b
  · exact e
  · have h1 := E.one a c ha
    have := (List.getElem?_eq_some_iff.mp ha).1
    have h2 := E.zero b c a hb (by have := E.len; omega) e
    rw [h1] at h2
    exact absurd h2 f_one_ne
theorem tk_at {M : Tb p} {pl : List Nat} {c : Nat} (inj : ∀ (a b x : Nat), pl[a]? = some x → pl[b]? = some x → a = b) : ∀ n, n ≤ pl.length → ∀ j, (∀ k, k < n → pl[k]? = some j → tk M pl c n j = - M k c) ∧ ((∀ k, k < n → pl[k]? ≠ some j) → tk M pl c n j = if j = c then 1 else 0)
  | 0, _, j => ⟨fun k h => by omega, fun _ => rfl⟩
  | n + 1, hn, j => by
    obtain ⟨h1, h2⟩ := tk_at inj n (by omega) j
    constructor
    · intro k hk e
      show (if some j = pl[n]? then - M n c else tk M pl c n j) = _
      by_cases z : some j = pl[n]?
      · rw [if_pos z, inj k n j e z.symm]
      · rw [if_neg z]
        exact h1 k (by
          by_cases q : k = n
          · subst q; exact absurd e.symm z
          · omega) e
    · intro h
      show (if some j = pl[n]? then - M n c else tk M pl c n j) = _
      rw [if_neg fun z => h n (by omega) z.symm]
      exact h2 fun k hk => h k (by omega)
theorem ker_nil {w m : Nat} {M : Tb p} (h : kerf w m M = []) {v : Nat → Fin p} (hv : Sol w m M v) : ∀ j, j < m → v j = 0 := fun j hj => by
  have E := ech_ok (w := w) (m := m) (M := M) m (Nat.le_refl _)
  unfold kerf at h
  generalize ech w M m = st at E h
  obtain ⟨N, pl⟩ := st
  simp only at E h
  have hf : freeC m pl = [] := List.map_eq_nil_iff.mp h
  unfold freeC at hf
  rw [List.filter_eq_nil_iff] at hf
  have all : ∀ c, c < m → c ∈ pl := fun c hc => by
    have := hf c (List.mem_range.mpr hc)
    simpa using this
  obtain ⟨k, hk⟩ := List.mem_iff_getElem?.mp (all j hj)
  have hkl := (List.getElem?_eq_some_iff.mp hk).1
  have hs := ((E.sol v).mpr hv) k (by have := E.len; omega)
  rw [S_one hj fun c hc hne => ?_] at hs
  · rw [E.one k j hk] at hs
    grind
  · obtain ⟨k2, hk2⟩ := List.mem_iff_getElem?.mp (all c hc)
    have : k ≠ k2 := fun z => by
      subst z
      rw [hk] at hk2
      exact hne (Option.some.inj hk2).symm
    rw [E.zero k2 c k hk2 (by have := E.len; omega) this]; grind
theorem ker_mem {w m : Nat} {M : Tb p} {t : Nat → Fin p} (h : t ∈ kerf w m M) : Sol w m M t ∧ ∃ j, j < m ∧ t j ≠ 0 := by
  have E := ech_ok (w := w) (m := m) (M := M) m (Nat.le_refl _)
  unfold kerf at h
  generalize ech w M m = st at E h
  obtain ⟨N, pl⟩ := st
  simp only at E h
  obtain ⟨c, hc, rfl⟩ := List.mem_map.mp h
  obtain ⟨c1, c2⟩ := List.mem_filter.mp hc
  have cm : c < m := List.mem_range.mp c1
  have cn : c ∉ pl := by simpa using c2
  have inj : ∀ (a b x : Nat), pl[a]? = some x → pl[b]? = some x → a = b := fun a b x => pl_inj E
  have T := tk_at (M := N) (c := c) inj pl.length (Nat.le_refl _)
  have tc : tk N pl c pl.length c = 1 := by
    rw [(T c).2 fun k hk e => cn (List.mem_of_getElem? e), if_pos rfl]
  refine ⟨(E.sol _).mp fun i hi => ?_, c, cm, by rw [tc]; exact f_one_ne⟩
  by_cases hil : i < pl.length
  · -- a row with a first one, at q
    have hq : pl[i]? = some pl[i] := List.getElem?_eq_getElem hil
    have qm : pl[i] < m := E.lt i _ hq
    have hne : pl[i] ≠ c := fun e => cn (e ▸ List.getElem_mem hil)
    rw [S_two (a := pl[i]) (b := c) qm cm hne fun j hj h1 h2 => ?_]
    · rw [(T pl[i]).1 i hil hq, tc, E.one i _ hq]; grind
    · by_cases hp : j ∈ pl
      · obtain ⟨k, hk⟩ := List.mem_iff_getElem?.mp hp
        have : i ≠ k := fun z => by
          subst z
          rw [hq] at hk
          exact h1 (Option.some.inj hk).symm
        rw [E.zero k j i hk hi this]; grind
      · rw [(T j).2 fun k hk e => hp (List.mem_of_getElem? e), if_neg h2]; grind
  · exact S_zero fun j hj => by rw [E.low i j (by omega) hi hj]; grind

/-! ### the rank by forward elimination -/
def rkElim (M : Tb p) (here c : Nat) (bk : Fin p) : Tb p := fun i j => if here < i then M i j - (M i c * bk) * M here j else M i j
/-- independent rows -/
def Ind (h m : Nat) (M : Tb p) : Prop := ∀ a : Nat → Fin p, (∀ j, j < m → S h (fun i => a i * M i j) = 0) → ∀ i, i < h → a i = 0
end
end K18
end
section
set_option linter.all false
set_option Elab.async false
/-! The rank by forward elimination; sums of polynomials; spans. -/
namespace K18
open Lean.Grind (CommRing)
section
variable {p : Nat} [hp : Pr p]
theorem S_swap : ∀ {h : Nat} {f : Nat → Fin p} {a b : Nat}, a < h → b < h → S h (fun i => f (if i = a then b else if i = b then a else i)) = S h f := by
  intro h f a b ha hb
  by_cases hab : a = b
  · exact S_congr fun j hj => by
      by_cases e : j = a
      · rw [if_pos e, e, hab]
      · rw [if_neg e, if_neg (hab ▸ e)]
  have q : ∀ g : Nat → Fin p, S h g = S h (fun j => if j = a then 0 else if j = b then 0 else g j) + (g a + g b) := fun g => by
    have h1 : S h g = S h (fun j => if j = a then 0 else if j = b then 0 else g j) + S h (fun j => if j = a then g a else if j = b then g b else 0) := by
      rw [← S_add]
      refine S_congr fun j hj => ?_
      by_cases e : j = a
      · rw [if_pos e, if_pos e, e]; grind
      · rw [if_neg e, if_neg e]
        by_cases e2 : j = b
        · rw [if_pos e2, if_pos e2, e2]; grind
        · rw [if_neg e2, if_neg e2]; grind
    have h2 : S h (fun j => if j = a then g a else if j = b then g b else 0) = g a + g b := by
      rw [S_two (f := fun j => if j = a then g a else if j = b then g b else 0) ha hb hab fun j hj e1 e2 => by simp only [if_neg e1, if_neg e2]]
      simp only [if_true, if_neg fun z : b = a => hab z.symm]
    rw [h1, h2]
  rw [q, q f]
  simp only [if_true, if_neg fun z : b = a => hab z.symm]
  have : S h (fun j => if j = a then 0 else if j = b then 0 else f (if j = a then b else if j = b then a else j)) = S h (fun j => if j = a then 0 else if j = b then 0 else f j) := S_congr fun j hj => by
    by_cases e : j = a
    · rw [if_pos e, if_pos e]
    · rw [if_neg e, if_neg e]
      by_cases e2 : j = b
      · simp only [if_pos e2]; first | done | (split <;> rfl)
      · rw [if_neg e2, if_neg e2, if_neg e, if_neg e2]
  rw [this]; grind
theorem Ind.swp {h m a b : Nat} {M : Tb p} (ha : a < h) (hb : b < h) (I : Ind h m M) : Ind h m (swp M a b) := fun v hv i hi => by
  have key := I (fun i => v (if i = a then b else if i = b then a else i)) fun j hj => by
    rw [← hv j hj, ← S_swap (f := fun i => v i * K18.swp M a b i j) ha hb]
    refine S_congr fun i hi => ?_
    unfold K18.swp
    by_cases e : i = a
    · subst e
      by_cases e2 : b = i
      · subst e2; simp only [if_true]
      · simp only [if_true, if_neg e2]
    · by_cases e2 : i = b
      · subst e2; simp only [if_neg e, if_true]
      · simp only [if_neg e, if_neg e2]
  by_cases e : i = a
  · have := key b hb
    by_cases e2 : b = a
    · simp only [if_pos e2] at this; rw [e, ← e2]; exact this
    · simp only [if_neg e2, if_true] at this; rw [e]; exact this
  · by_cases e2 : i = b
    · have := key a ha
      simp only [if_true] at this
      rw [e2]; exact this
    · have := key i hi
      simp only [if_neg e, if_neg e2] at this
      exact this
theorem Ind.elim {h m here c : Nat} {M : Tb p} {bk : Fin p} (hh : here < h) (I : Ind h m M) : Ind h m (rkElim M here c bk) := fun v hv i hi => by
  have e1 : ∀ j, S h (fun i => v i * rkElim M here c bk i j) = S h (fun i => v i * M i j) - S h (fun i => if here < i then v i * (M i c * bk) else 0) * M here j := fun j => by
    have : S h (fun i => v i * rkElim M here c bk i j) = S h (fun i => v i * M i j + (-(M here j)) * (if here < i then v i * (M i c * bk) else 0)) := S_congr fun i hi => by
      unfold rkElim
      by_cases e : here < i
      · rw [if_pos e, if_pos e]; grind
      · rw [if_neg e, if_neg e]; grind
    rw [this, S_add, S_mul]; grind
  generalize hX : S h (fun i => if here < i then v i * (M i c * bk) else 0) = X at e1
  have key := I (fun i => v i - if i = here then X else 0) fun j hj => by
    have q := hv j hj
    rw [e1] at q
    have : S h (fun i => (v i - if i = here then X else 0) * M i j) = S h (fun i => v i * M i j + (-1) * (if i = here then X * M here j else 0)) := S_congr fun i hi => by
      by_cases e : i = here
      · rw [if_pos e, if_pos e, e]; grind
      · rw [if_neg e, if_neg e]; grind
    rw [this, S_add, S_mul, S_one hh fun j hj e => if_neg e, if_pos rfl]; grind
  have z : ∀ i, i < h → i ≠ here → v i = 0 := fun i hi e => by
    have := key i hi
    rw [if_neg e] at this; grind
  by_cases e : i = here
  · have hx : X = 0 := by
      rw [← hX]; exact S_zero fun j hj => by
        by_cases q : here < j
        · rw [if_pos q, z j hj (by omega)]; grind
        · rw [if_neg q]
    have := key here hh
    rw [if_pos rfl, hx] at this
    rw [e]; grind
  · exact z i hi e
def rkStep (h : Nat) (st : Tb p × Nat) (c : Nat) : Tb p × Nat :=
  match best h st.1 st.2 c with
  | [] => st
  | b :: _ => (rkElim (swp st.1 st.2 b) st.2 c (finv (swp st.1 st.2 b st.2 c)), st.2 + 1)
def rk (h : Nat) (M : Tb p) : Nat → Tb p × Nat
  | 0 => (M, 0)
  | c + 1 => rkStep h (rk h M c) c
theorem rk_ok {h m : Nat} {M : Tb p} (I : Ind h m M) : ∀ n, n ≤ m → Ind h m (rk h M n).1 ∧ (rk h M n).2 ≤ h ∧ ∀ i c, (rk h M n).2 ≤ i → i < h → c < n → (rk h M n).1 i c = 0
  | 0, _ => ⟨I, Nat.zero_le _, fun i c _ _ h => by omega⟩
  | n + 1, hn => by
    have E := rk_ok I n (by omega)
    show Ind h m (rkStep h (rk h M n) n).1 ∧ (rkStep h (rk h M n) n).2 ≤ h ∧ ∀ i c, (rkStep h (rk h M n) n).2 ≤ i → i < h → c < n + 1 → (rkStep h (rk h M n) n).1 i c = 0
    generalize rk h M n = st at E
    obtain ⟨N, f⟩ := st
    simp only at E
    obtain ⟨E1, E2, E3⟩ := E
    unfold rkStep
    simp only
    cases hb : best h N f n with
    | nil =>
      have h0 := best_nil hb
      exact ⟨E1, E2, fun i c h1 h2 h3 => by
        by_cases z : c = n
        · rw [z]; exact h0 i h1 h2
        · exact E3 i c h1 h2 (by omega)⟩
    | cons b r =>
      obtain ⟨b1, b2, b3⟩ := best_cons hb
      have hf : f < h := by omega
      refine ⟨(E1.swp hf b2).elim hf, hf, fun i c h1 h2 h3 => ?_⟩
      have h1' : f + 1 ≤ i := h1
      have sw0 : ∀ i c, i < h → c < n → f ≤ i → swp N f b i c = 0 := fun i c h1 h2 h3 => by
        unfold swp
        by_cases z1 : i = f
        · rw [if_pos z1]; exact E3 b c b1 b2 h2
        · rw [if_neg z1]
          by_cases z2 : i = b
          · rw [if_pos z2]; exact E3 f c (Nat.le_refl _) hf h2
          · rw [if_neg z2]; exact E3 i c h3 h1 h2
      show rkElim (swp N f b) f n (finv (swp N f b f n)) i c = 0
      unfold rkElim
      rw [if_pos (by omega)]
      by_cases z : c = n
      · rw [z]
        have hv : swp N f b f n ≠ 0 := by unfold swp; rw [if_pos rfl]; exact b3
        have := finv_mul hv
        grind
      · rw [sw0 i c h2 (by omega) (by omega), sw0 f c hf (by omega) (Nat.le_refl _)]; grind
theorem rank_eq {h m : Nat} {M : Tb p} (I : Ind h m M) : (rk h M m).2 = h := by
  obtain ⟨E1, E2, E3⟩ := rk_ok I m (Nat.le_refl _)
  generalize rk h M m = st at E1 E2 E3
  obtain ⟨N, f⟩ := st
  simp only at E1 E2 E3
  by_cases e : f = h
  · exact e
  · have := E1 (fun i => if i = f then 1 else 0) (fun j hj => by
      rw [S_one (k := f) (by omega) fun i hi q => by rw [if_neg q]; grind]
      rw [E3 f j (Nat.le_refl _) (by omega) hj]; grind) f (by omega)
    rw [if_pos rfl] at this
    exact absurd this f_one_ne
end
end K18
end
section
set_option linter.all false
set_option Elab.async false
/-! Rows of polynomials: sums, spans, determinants of at most three rows, degrees. -/
namespace K18
open Lean.Grind (CommRing)
section
variable {p : Nat} [hp : Pr p]
abbrev PT (p : Nat) [Pr p] := Nat → Nat → Po p
/-- the sum of the first m polynomials -/
def SP : Nat → (Nat → Po p) → Po p
  | 0, _ => 0
  | m + 1, f => SP m f + f m
theorem SP_congr : ∀ {m : Nat} {f g : Nat → Po p}, (∀ j, j < m → f j = g j) → SP m f = SP m g
  | 0, _, _, _ => rfl
  | m + 1, f, g, h => by
    show SP m f + f m = SP m g + g m
    rw [SP_congr fun j hj => h j (by omega), h m (by omega)]
theorem SP_add : ∀ (m : Nat) (f g : Nat → Po p), SP m (fun j => f j + g j) = SP m f + SP m g
  | 0, _, _ => by simp only [SP]; grind
  | m + 1, f, g => by simp only [SP, SP_add m f g]; grind
theorem SP_mul : ∀ (m : Nat) (c : Po p) (f : Nat → Po p), SP m (fun j => c * f j) = c * SP m f
  | 0, _, _ => by simp only [SP]; grind
  | m + 1, c, f => by simp only [SP, SP_mul m c f]; grind
theorem SP_mulr (m : Nat) (c : Po p) (f : Nat → Po p) : SP m (fun j => f j * c) = SP m f * c := by
  have : SP m (fun j => f j * c) = SP m (fun j => c * f j) := SP_congr fun j _ => by grind
  rw [this, SP_mul]; grind
theorem SP_zero : ∀ {m : Nat} {f : Nat → Po p}, (∀ j, j < m → f j = 0) → SP m f = 0
  | 0, _, _ => rfl
  | m + 1, f, h => by
    show SP m f + f m = 0
    rw [SP_zero fun j hj => h j (by omega), h m (by omega)]; grind
theorem SP_one : ∀ {m : Nat} {f : Nat → Po p} {k : Nat}, k < m → (∀ j, j < m → j ≠ k → f j = 0) → SP m f = f k
  | 0, _, _, h, _ => by omega
  | m + 1, f, k, h, h0 => by
    show SP m f + f m = f k
    by_cases e : k = m
    · subst e
      rw [SP_zero fun j hj => h0 j (by omega) (by omega)]; grind
    · rw [SP_one (k := k) (by omega) fun j hj hk => h0 j (by omega) hk, h0 m (by omega) (fun z => e z.symm)]; grind
theorem SP_two {m : Nat} {f : Nat → Po p} {a b : Nat} (ha : a < m) (hb : b < m) (hab : a ≠ b) (h0 : ∀ j, j < m → j ≠ a → j ≠ b → f j = 0) : SP m f = f a + f b := by
  have h1 : SP m f = SP m (fun j => if j = a then f a else 0) + SP m (fun j => if j = a then 0 else f j) := by
    rw [← SP_add]
    refine SP_congr fun j hj => ?_
    by_cases e : j = a
    · rw [if_pos e, if_pos e, e]; grind
    · rw [if_neg e, if_neg e]; grind
  rw [h1, SP_one ha (fun j hj e => if_neg e), SP_one hb (fun j hj e => by
    by_cases z : j = a
    · exact if_pos z
    · rw [if_neg z]; exact h0 j hj z e)]
  rw [if_pos rfl, if_neg (fun z => hab z.symm)]
theorem SP_swap : ∀ (m n : Nat) (f : Nat → Nat → Po p), SP m (fun i => SP n (fun j => f i j)) = SP n (fun j => SP m (fun i => f i j))
  | 0, n, f => by
    show (0 : Po p) = _
    exact (SP_zero fun j _ => rfl).symm
  | m + 1, n, f => by
    show SP m (fun i => SP n (fun j => f i j)) + SP n (fun j => f m j) = SP n (fun j => SP m (fun i => f i j) + f m j)
    rw [SP_swap m n f, ← SP_add]
theorem co_SP : ∀ (m : Nat) (f : Nat → Po p) (k : Nat), co (SP m f) k = S m (fun i => co (f i) k)
  | 0, f, k => co_zero k
  | m + 1, f, k => by
    show co (SP m f + f m) k = S m (fun i => co (f i) k) + co (f m) k
    rw [co_add, co_SP m f k]
theorem len_SP {d : Nat} : ∀ {m : Nat} {f : Nat → Po p}, (∀ i, i < m → len (f i) ≤ d) → len (SP m f) ≤ d
  | 0, f, _ => by show len (0 : Po p) ≤ d; rw [len_zero]; omega
  | m + 1, f, h => by
    show len (SP m f + f m) ≤ d
    have h1 := len_SP (d := d) fun i (hi : i < m) => h i (by omega)
    have h2 := h m (by omega)
    have := len_add (SP m f) (f m)
    omega

/-! ### spans -/
def mulT (n : Nat) (A B : PT p) : PT p := fun i j => SP n (fun k => A i k * B k j)
def unitT : PT p := fun i j => if i = j then 1 else 0
/-- a row out of m rows of width w -/
def InSp (m w : Nat) (B : PT p) (x : Nat → Po p) : Prop := ∃ c : Nat → Po p, ∀ j, j < w → x j = SP m (fun k => c k * B k j)
def Sp (m w : Nat) (A B : PT p) : Prop := ∀ i, i < m → InSp m w B (A i)
theorem InSp.row {m w k : Nat} {B : PT p} {x : Nat → Po p} (hk : k < m) (h : ∀ j, j < w → x j = B k j) : InSp m w B x :=
  ⟨fun i => if i = k then 1 else 0, fun j hj => by
    rw [SP_one (f := fun k' => (fun i => if i = k then (1 : Po p) else 0) k' * B k' j) hk fun i hi e => by simp only [if_neg e]; grind]
    simp only [if_true]
    rw [h j hj]; grind⟩
theorem InSp.lin {m w : Nat} {B : PT p} {x y z : Nat → Po p} {a b : Po p} (hy : InSp m w B y) (hz : InSp m w B z) (h : ∀ j, j < w → x j = a * y j + b * z j) : InSp m w B x := by
  obtain ⟨c, hc⟩ := hy
  obtain ⟨d, hd⟩ := hz
  refine ⟨fun k => a * c k + b * d k, fun j hj => ?_⟩
  rw [h j hj, hc j hj, hd j hj, ← SP_mul, ← SP_mul, ← SP_add]
  exact SP_congr fun k hk => by grind
theorem InSp.trans {m w : Nat} {A B : PT p} {x : Nat → Po p} (hx : InSp m w A x) (hA : Sp m w A B) : InSp m w B x := by
  obtain ⟨c, hc⟩ := hx
  refine ⟨fun k => SP m (fun i => c i * (if h : i < m then Classical.choose (hA i h) k else 0)), fun j hj => ?_⟩
  rw [hc j hj]
  have : ∀ i, i < m → c i * A i j = SP m (fun k => (c i * (if h : i < m then Classical.choose (hA i h) k else 0)) * B k j) := fun i hi => by
    rw [Classical.choose_spec (hA i hi) j hj, ← SP_mul]
    exact SP_congr fun k hk => by rw [dif_pos hi]; grind
  rw [SP_congr this, SP_swap]
  exact SP_congr fun k hk => by rw [SP_mulr]
theorem Sp.trans {m w : Nat} {A B C : PT p} (h1 : Sp m w A B) (h2 : Sp m w B C) : Sp m w A C := fun i hi => (h1 i hi).trans h2
theorem Sp.self {m w : Nat} {A : PT p} : Sp m w A A := fun i hi => InSp.row hi fun j _ => rfl
theorem Sp.mul {n w : Nat} {A B : PT p} (C : PT p) (h : Sp n n A B) : Sp n w (mulT n A C) (mulT n B C) := fun i hi => by
  obtain ⟨c, hc⟩ := h i hi
  refine ⟨c, fun j hj => ?_⟩
  unfold mulT
  have : ∀ k, k < n → A i k * C k j = SP n (fun l => c l * B l k * C k j) := fun k hk => by rw [hc k hk, SP_mulr]
  rw [SP_congr this, SP_swap]
  exact SP_congr fun l hl => by
    rw [← SP_mul]
    exact SP_congr fun k hk => by grind
theorem mulT_unit {n i j : Nat} {C : PT p} (hi : i < n) : mulT n unitT C i j = C i j := by
  unfold mulT unitT
  rw [SP_one hi fun k hk e => by rw [if_neg (fun z => e z.symm)]; grind]
  rw [if_pos rfl]; grind
theorem Sp.congr {m w : Nat} {A A' B B' : PT p} (h : Sp m w A B) (hA : ∀ i j, i < m → j < w → A i j = A' i j) (hB : ∀ i j, i < m → j < w → B i j = B' i j) : Sp m w A' B' := fun i hi => by
  obtain ⟨c, hc⟩ := h i hi
  exact ⟨c, fun j hj => by
    rw [← hA i j hi hj, hc j hj]
    exact SP_congr fun k hk => by rw [hB k j hk hj]⟩
/-- C comes out of its product with a left factor whose rows span everything -/
theorem Sp.back {n w : Nat} {L C R : PT p} (h : Sp n n unitT L) (hR : ∀ i j, i < n → j < w → R i j = mulT n L C i j) : Sp n w C R :=
  (Sp.mul C h).congr (fun i j hi hj => mulT_unit hi) fun i j hi hj => (hR i j hi hj).symm
theorem Sp.of_mul {n w : Nat} {L C R : PT p} (hR : ∀ i j, i < n → j < w → R i j = mulT n L C i j) : Sp n w R C := fun i hi => ⟨L i, fun j hj => hR i j hi hj⟩

/-! ### steps -/
def stretchT (M : PT p) (a : Nat) (c : Fin p) : PT p := fun i j => if i = a then cP c * M i j else M i j
def takeT (M : PT p) (a b : Nat) (f : Po p) : PT p := fun i j => if i = a then M a j - f * M b j else M i j
theorem sp_perm {m w : Nat} {M : PT p} {s : Nat → Nat} (hs : ∀ i, i < m → ∃ k, k < m ∧ s k = i) : Sp m w M (fun i => M (s i)) := fun i hi => by
  obtain ⟨k, hk, e⟩ := hs i hi
  exact InSp.row hk fun j _ => by rw [e]
theorem sp_stretch {m w a : Nat} {M : PT p} {c : Fin p} (hc : c ≠ 0) : Sp m w M (stretchT M a c) := fun i hi => by
  by_cases e : i = a
  · refine InSp.lin (y := stretchT M a c i) (z := stretchT M a c i) (a := cP (finv c)) (b := 0) (InSp.row hi fun j _ => rfl) (InSp.row hi fun j _ => rfl) fun j hj => ?_
    unfold stretchT
    rw [if_pos e]
    have : cP (finv c) * cP c = (1 : Po p) := by rw [← cP_mul, finv_mul hc, one_eq]
    grind
  · exact InSp.row hi fun j _ => by unfold stretchT; rw [if_neg e]
theorem sp_take {m w a b : Nat} {M : PT p} {f : Po p} (ha : a < m) (hb : b < m) (hab : a ≠ b) : Sp m w M (takeT M a b f) := fun i hi => by
  by_cases e : i = a
  · refine InSp.lin (y := takeT M a b f a) (z := takeT M a b f b) (a := 1) (b := f) (InSp.row ha fun j _ => rfl) (InSp.row hb fun j _ => rfl) fun j hj => ?_
    unfold takeT
    rw [if_pos rfl, if_neg (fun z => hab z.symm), e]
    grind
  · exact InSp.row hi fun j _ => by unfold takeT; rw [if_neg e]
theorem mul_stretch {n a i j : Nat} {L C : PT p} {c : Fin p} : mulT n (stretchT L a c) C i j = stretchT (mulT n L C) a c i j := by
  unfold mulT stretchT
  by_cases e : i = a
  · simp only [if_pos e]
    rw [← SP_mul]; exact SP_congr fun k _ => by grind
  · simp only [if_neg e]
theorem mul_take {n a b i j : Nat} {L C : PT p} {f : Po p} : mulT n (takeT L a b f) C i j = takeT (mulT n L C) a b f i j := by
  unfold mulT takeT
  by_cases e : i = a
  · simp only [if_pos e]
    have : SP n (fun k => (L a k - f * L b k) * C k j) = SP n (fun k => L a k * C k j + (-f) * (L b k * C k j)) := SP_congr fun k _ => by grind
    rw [this, SP_add, SP_mul]; grind
  · simp only [if_neg e]
end
end K18
end
section
set_option linter.all false
set_option Elab.async false
/-! Determinants of at most three rows. -/
namespace K18
open Lean.Grind (CommRing)
section
variable {p : Nat} [hp : Pr p]
/-- the sum by turns with and without a sign -/
def altS (f : Nat → Po p) : Nat → Po p
  | 0 => 0
  | k + 1 => if k % 2 = 0 then altS f k + f k else altS f k - f k
def mn (M : PT p) (k : Nat) : PT p := fun i j => M (i + 1) (if j < k then j else j + 1)
def dt : Nat → PT p → Po p
  | 0, _ => 1
  | n + 1, M => altS (fun k => M 0 k * dt n (mn M k)) (n + 1)
theorem altS_congr {f g : Nat → Po p} : ∀ {n : Nat}, (∀ k, k < n → f k = g k) → altS f n = altS g n
  | 0, _ => rfl
  | n + 1, h => by
    unfold altS
    rw [altS_congr fun k hk => h k (by omega), h n (by omega)]
theorem dt_congr : ∀ {n : Nat} {A B : PT p}, (∀ i j, i < n → j < n → A i j = B i j) → dt n A = dt n B
  | 0, _, _, _ => rfl
  | n + 1, A, B, h => by
    unfold dt
    refine altS_congr fun k hk => ?_
    rw [h 0 k (by omega) hk, dt_congr (n := n) (A := mn A k) (B := mn B k) fun i j hi hj => by
      unfold mn
      refine h _ _ (by omega) ?_
      split <;> omega]
theorem dt1 (M : PT p) : dt 1 M = M 0 0 := by
  simp only [dt, altS, mn]; grind
theorem dt2 (M : PT p) : dt 2 M = M 0 0 * M 1 1 - M 0 1 * M 1 0 := by
  simp [dt, altS, mn]; grind
theorem dt3 (M : PT p) : dt 3 M = M 0 0 * (M 1 1 * M 2 2 - M 1 2 * M 2 1) - M 0 1 * (M 1 0 * M 2 2 - M 1 2 * M 2 0) + M 0 2 * (M 1 0 * M 2 1 - M 1 1 * M 2 0) := by
  simp [dt, altS, mn]; grind
theorem dt_unit {n : Nat} (h1 : 1 ≤ n) (h3 : n ≤ 3) : dt n (unitT : PT p) = 1 := by
  have : n = 1 ∨ n = 2 ∨ n = 3 := by omega
  rcases this with h | h | h <;> subst h
  · rw [dt1]; rfl
  · rw [dt2]; simp [unitT]; grind
  · rw [dt3]; simp [unitT]; grind
theorem dt_stretch {n a : Nat} {M : PT p} {c : Fin p} (h1 : 1 ≤ n) (h3 : n ≤ 3) (ha : a < n) : dt n (stretchT M a c) = cP c * dt n M := by
  have : n = 1 ∨ n = 2 ∨ n = 3 := by omega
  rcases this with h | h | h <;> subst h
  · have : a = 0 := by omega
    subst this
    rw [dt1, dt1]; simp [stretchT]
  · have : a = 0 ∨ a = 1 := by omega
    rw [dt2, dt2]
    rcases this with h | h <;> subst h <;> simp [stretchT] <;> grind
  · have : a = 0 ∨ a = 1 ∨ a = 2 := by omega
    rw [dt3, dt3]
    rcases this with h | h | h <;> subst h <;> simp [stretchT] <;> grind
theorem dt_take {n a b : Nat} {M : PT p} {f : Po p} (h1 : 1 ≤ n) (h3 : n ≤ 3) (ha : a < n) (hb : b < n) (hab : a ≠ b) : dt n (takeT M a b f) = dt n M := by
  have : n = 1 ∨ n = 2 ∨ n = 3 := by omega
  rcases this with h | h | h <;> subst h
  · omega
  · rw [dt2, dt2]
    have : (a = 0 ∧ b = 1) ∨ (a = 1 ∧ b = 0) := by omega
    rcases this with ⟨h, h'⟩ | ⟨h, h'⟩ <;> subst h <;> subst h' <;> simp [takeT] <;> grind
  · rw [dt3, dt3]
    have : (a = 0 ∧ b = 1) ∨ (a = 1 ∧ b = 0) ∨ (a = 0 ∧ b = 2) ∨ (a = 2 ∧ b = 0) ∨ (a = 1 ∧ b = 2) ∨ (a = 2 ∧ b = 1) := by omega
    rcases this with ⟨h, h'⟩ | ⟨h, h'⟩ | ⟨h, h'⟩ | ⟨h, h'⟩ | ⟨h, h'⟩ | ⟨h, h'⟩ <;> subst h <;> subst h' <;> simp [takeT] <;> grind
theorem dt_perm {n : Nat} {M : PT p} {s : Nat → Nat} (h1 : 1 ≤ n) (h3 : n ≤ 3) (hs : ∀ i, i < n → s i < n) (inj : ∀ i j, i < n → j < n → s i = s j → i = j) :
    dt n (fun i => M (s i)) = dt n M ∨ dt n (fun i => M (s i)) = - dt n M := by
  have : n = 1 ∨ n = 2 ∨ n = 3 := by omega
  rcases this with h | h | h <;> subst h
  · have := hs 0 (by omega)
    have e : s 0 = 0 := by omega
    rw [dt1, dt1, e]; exact .inl rfl
  · have h0 := hs 0 (by omega)
    have h1 := hs 1 (by omega)
    have h01 := inj 0 1 (by omega) (by omega)
    have : (s 0 = 0 ∧ s 1 = 1) ∨ (s 0 = 1 ∧ s 1 = 0) := by omega
    rw [dt2, dt2]
    rcases this with ⟨e, e'⟩ | ⟨e, e'⟩ <;> rw [e, e']
    · exact .inl rfl
    · exact .inr (by grind)
  · have h0 := hs 0 (by omega)
    have h1 := hs 1 (by omega)
    have h2 := hs 2 (by omega)
    have h01 := inj 0 1 (by omega) (by omega)
    have h02 := inj 0 2 (by omega) (by omega)
    have h12 := inj 1 2 (by omega) (by omega)
    have : (s 0 = 0 ∧ s 1 = 1 ∧ s 2 = 2) ∨ (s 0 = 1 ∧ s 1 = 2 ∧ s 2 = 0) ∨ (s 0 = 2 ∧ s 1 = 0 ∧ s 2 = 1) ∨ (s 0 = 1 ∧ s 1 = 0 ∧ s 2 = 2) ∨ (s 0 = 0 ∧ s 1 = 2 ∧ s 2 = 1) ∨ (s 0 = 2 ∧ s 1 = 1 ∧ s 2 = 0) := by omega
    rw [dt3, dt3]
    rcases this with ⟨e, e', e''⟩ | ⟨e, e', e''⟩ | ⟨e, e', e''⟩ | ⟨e, e', e''⟩ | ⟨e, e', e''⟩ | ⟨e, e', e''⟩ <;> rw [e, e', e'']
    · exact .inl rfl
    · exact .inl (by grind)
    · exact .inl (by grind)
    · exact .inr (by grind)
    · exact .inr (by grind)
    · exact .inr (by grind)
end
end K18
end
section
set_option linter.all false
set_option Elab.async false
/-! Degrees of rows; independent leads; uniqueness of the degrees. -/
namespace K18
open Lean.Grind (CommRing)
section
variable {p : Nat} [hp : Pr p]
def rowlen (r : List (Po p)) : Nat := (r.map len).foldr max 0
theorem le_rowlen : ∀ {r : List (Po p)} {f : Po p}, f ∈ r → len f ≤ rowlen r
  | g :: r, f, h => by
    show len f ≤ max (len g) (rowlen r)
    rcases List.mem_cons.mp h with h | h
    · subst h; exact Nat.le_max_left _ _
    · exact Nat.le_trans (le_rowlen h) (Nat.le_max_right _ _)
theorem rowlen_at : ∀ {r : List (Po p)}, r ≠ [] → ∃ f ∈ r, len f = rowlen r
  | [g], _ => ⟨g, by simp, by simp [rowlen]⟩
  | g :: g2 :: r, _ => by
    obtain ⟨f, hf, e⟩ := rowlen_at (r := g2 :: r) (by simp)
    by_cases h : rowlen (g2 :: r) ≤ len g
    · exact ⟨g, by simp, by show len g = max (len g) (rowlen (g2 :: r)); omega⟩
    · exact ⟨f, List.mem_cons_of_mem _ hf, by show len f = max (len g) (rowlen (g2 :: r)); omega⟩
theorem rowlen_le {r : List (Po p)} {n : Nat} (h : ∀ f ∈ r, len f ≤ n) : rowlen r ≤ n := by
  cases r with
  | nil => exact Nat.zero_le _
  | cons g r =>
    obtain ⟨f, hf, e⟩ := rowlen_at (r := g :: r) (by simp)
    rw [← e]; exact h f hf
def leadv (r : List (Po p)) : List (Fin p) := r.map fun f => co f (rowlen r - 1)
def punit (n : Nat) : List (List (Po p)) := (List.range n).map fun i => (List.range n).map fun j => if i = j then 1 else 0
/-! ### rows as functions -/
def rl (w : Nat) (r : Nat → Po p) : Nat := rowlen ((List.range w).map r)
theorem le_rl {w j : Nat} {r : Nat → Po p} (h : j < w) : len (r j) ≤ rl w r := le_rowlen (List.mem_map.mpr ⟨j, List.mem_range.mpr h, rfl⟩)
theorem rl_at {w : Nat} {r : Nat → Po p} (h : 1 ≤ w) : ∃ j, j < w ∧ len (r j) = rl w r := by
  obtain ⟨f, hf, e⟩ := rowlen_at (r := (List.range w).map r) (fun z => by
    have := congrArg List.length z
    simp at this
    omega)
  obtain ⟨j, hj, rfl⟩ := List.mem_map.mp hf
  exact ⟨j, List.mem_range.mp hj, e⟩
theorem rl_le {w n : Nat} {r : Nat → Po p} (h : ∀ j, j < w → len (r j) ≤ n) : rl w r ≤ n := rowlen_le fun f hf => by
  obtain ⟨j, hj, rfl⟩ := List.mem_map.mp hf
  exact h j (List.mem_range.mp hj)
theorem rl_congr {w : Nat} {r s : Nat → Po p} (h : ∀ j, j < w → r j = s j) : rl w r = rl w s :=
  Nat.le_antisymm (rl_le fun j hj => by rw [h j hj]; exact le_rl hj) (rl_le fun j hj => by rw [← h j hj]; exact le_rl hj)
theorem rl_zero {w : Nat} {r : Nat → Po p} (h : rl w r = 0) : ∀ j, j < w → r j = 0 := fun j hj => len_eq_zero (by have := le_rl (r := r) hj; omega)
def lead (w : Nat) (r : Nat → Po p) (j : Nat) : Fin p := co (r j) (rl w r - 1)
/-- row reduced: degrees that do not rise, c rows that are not 0, and their leads are independent -/
structure Red (n w c : Nat) (F : PT p) : Prop where
  cn : c ≤ n
  pos : ∀ i, i < c → 0 < rl w (F i)
  zero : ∀ i, c ≤ i → i < n → rl w (F i) = 0
  desc : ∀ i j, i ≤ j → j < n → rl w (F j) ≤ rl w (F i)
  ind : Ind c w fun i => lead w (F i)
/-- the most of some numbers, taken over the places that count -/
theorem top_at {c : Nat} {P : Nat → Prop} {f : Nat → Nat} (h : ∃ i, i < c ∧ P i) : ∃ i, i < c ∧ P i ∧ ∀ k, k < c → P k → f k ≤ f i := by
  induction c with
  | zero => obtain ⟨i, hi, _⟩ := h; omega
  | succ c ih =>
    by_cases h1 : ∃ i, i < c ∧ P i
    · obtain ⟨i, hi, pi, top⟩ := ih h1
      by_cases h2 : P c ∧ f i < f c
      · exact ⟨c, by omega, h2.1, fun k hk pk => by
          by_cases e : k = c
          · rw [e]; exact Nat.le_refl _
          · have := top k (by omega) pk; omega⟩
      · exact ⟨i, by omega, pi, fun k hk pk => by
          by_cases e : k = c
          · subst e
            by_cases q : f i < f k
            · exact absurd ⟨pk, q⟩ h2
            · omega
          · exact top k (by omega) pk⟩
    · obtain ⟨i, hi, pi⟩ := h
      have e : i = c := by
        by_cases q : i < c
        · exact absurd ⟨i, q, pi⟩ h1
        · omega
      subst e
      exact ⟨i, hi, pi, fun k hk pk => by
        by_cases q : k < i
        · exact absurd ⟨k, q, pk⟩ h1
        · have : k = i := by omega
          rw [this]; exact Nat.le_refl _⟩
theorem S_split : ∀ {n c : Nat} {f : Nat → Fin p}, c ≤ n → (∀ i, c ≤ i → i < n → f i = 0) → S n f = S c f
  | 0, c, f, h, _ => by
    have : c = 0 := by omega
    rw [this]
  | n + 1, c, f, h, hz => by
    by_cases e : c = n + 1
    · rw [e]
    · show S n f + f n = _
      rw [S_split (n := n) (c := c) (by omega) fun i h1 h2 => hz i h1 (by omega), hz n (by omega) (by omega)]; grind
/-- the degree that can be told ahead -/
theorem pred {n w c D : Nat} {F : PT p} (R : Red n w c F) {x : Nat → Po p}
    (hub : ∀ i, i < c → x i ≠ 0 → len (x i) + rl w (F i) ≤ D + 1) (hat : ∃ i, i < c ∧ x i ≠ 0 ∧ len (x i) + rl w (F i) = D + 1) :
    rl w (fun j => SP n fun i => x i * F i j) = D := by
  have hle : ∀ j, j < w → len (SP n fun i => x i * F i j) ≤ D := fun j hj => len_SP fun i hi => by
    by_cases hc : i < c
    · by_cases hx : x i = 0
      · rw [hx, show (0 : Po p) * F i j = 0 by grind, len_zero]; omega
      · have h1 := hub i hc hx
        have h2 := len_mul_le (x i) (F i j)
        have h3 := le_rl (r := F i) hj
        omega
    · rw [rl_zero (R.zero i (by omega) hi) j hj, show x i * (0 : Po p) = 0 by grind, len_zero]; omega
  obtain ⟨i, hi, hx, hd⟩ := hat
  have hxl := len_ne hx
  have hp1 := R.pos i hi
  -- the numbers at D - 1
  have key : ∀ j, j < w → co (SP n fun i => x i * F i j) (D - 1) = S c (fun i => (if x i = 0 then 0 else co (x i) (D - rl w (F i))) * lead w (F i) j) := fun j hj => by
    rw [co_SP, S_split R.cn fun i h1 h2 => by rw [rl_zero (R.zero i h1 h2) j hj, show x i * (0 : Po p) = 0 by grind, co_zero]]
    refine S_congr fun k hk => ?_
    by_cases hx : x k = 0
    · rw [if_pos hx, hx, show (0 : Po p) * F k j = 0 by grind, co_zero]; grind
    · rw [if_neg hx]
      have h1 := hub k hk hx
      have h2 := R.pos k hk
      have h3 := le_rl (r := F k) hj
      have h4 := len_ne hx
      have e : D - 1 = (D - rl w (F k)) + (rl w (F k) - 1) := by omega
      rw [e, co_mul_top _ _ (by omega) (by omega)]; rfl
  by_cases hall : ∀ j, j < w → co (SP n fun i => x i * F i j) (D - 1) = 0
  · have := R.ind (fun i => if x i = 0 then 0 else co (x i) (D - rl w (F i))) (fun j hj => by rw [← key j hj]; exact hall j hj) i hi
    rw [if_neg hx, show D - rl w (F i) = len (x i) - 1 by omega] at this
    exact absurd this (co_top hxl)
  · obtain ⟨j, hj⟩ := Classical.not_forall.mp hall
    obtain ⟨hj, hne⟩ := Classical.not_imp.mp hj
    have h1 := lt_len hne
    have h2 := le_rl (r := fun j => SP n fun i => x i * F i j) hj
    have h3 := rl_le hle
    omega
theorem pred_le {n w c t : Nat} {F : PT p} (R : Red n w c F) {x : Nat → Po p} (h : ∀ j, j < w → len (SP n fun i => x i * F i j) ≤ t) :
    ∀ i, i < c → x i ≠ 0 → len (x i) + rl w (F i) ≤ t + 1 := fun i hi hx => by
  obtain ⟨k, hk, hxk, top⟩ := top_at (c := c) (P := fun i => x i ≠ 0) (f := fun i => len (x i) + rl w (F i)) ⟨i, hi, hx⟩
  have h1 := len_ne hxk
  have h2 := R.pos k hk
  have := pred R (D := len (x k) + rl w (F k) - 1) (fun i hi hx => by have := top i hi hx; omega) ⟨k, hk, hxk, by omega⟩
  have h3 := rl_le h
  have h4 := top i hi hx
  omega
theorem pred_zero {n w c : Nat} {F : PT p} (R : Red n w c F) {x : Nat → Po p} (h : ∀ j, j < w → SP n (fun i => x i * F i j) = 0) :
    ∀ i, i < c → x i = 0 := fun i hi => by
  by_cases hx : x i = 0
  · exact hx
  · have := pred_le R (t := 0) (fun j hj => by rw [h j hj, len_zero]; omega) i hi hx
    have h1 := len_ne hx
    have h2 := R.pos i hi
    omega
/-- more rows than places: a relation -/
theorem dep {a : Nat} (h : a ≤ 2) (C : PT p) : ∃ b : Nat → Po p, (∃ s, s < a + 1 ∧ b s ≠ 0) ∧ ∀ q, q < a → SP (a + 1) (fun s => b s * C s q) = 0 := by
  have one_ne : (1 : Po p) ≠ 0 := by rw [one_eq]; exact cP_ne f_one_ne
  have : a = 0 ∨ a = 1 ∨ a = 2 := by omega
  rcases this with h | h | h <;> subst h
  · exact ⟨fun _ => 1, ⟨0, by omega, one_ne⟩, fun q hq => by omega⟩
  · by_cases h0 : C 0 0 = 0
    · refine ⟨fun s => if s = 0 then 1 else 0, ⟨0, by omega, by simpa using one_ne⟩, fun q hq => ?_⟩
      have : q = 0 := by omega
      subst this
      simp [SP, h0]; grind
    · refine ⟨fun s => if s = 0 then C 1 0 else - C 0 0, ⟨1, by omega, by simp; grind⟩, fun q hq => ?_⟩
      have : q = 0 := by omega
      subst this
      simp [SP]; grind
  · by_cases h0 : C 0 0 = 0 ∧ C 0 1 = 0
    · refine ⟨fun s => if s = 0 then 1 else 0, ⟨0, by omega, by simpa using one_ne⟩, fun q hq => ?_⟩
      have : q = 0 ∨ q = 1 := by omega
      rcases this with h | h <;> subst h <;> simp [SP, h0.1, h0.2] <;> grind
    · by_cases h01 : C 0 0 * C 1 1 - C 0 1 * C 1 0 = 0
      · by_cases h00 : C 0 0 = 0
        · refine ⟨fun s => if s = 0 then C 1 1 else if s = 1 then - C 0 1 else 0, ⟨1, by omega, ?_⟩, fun q hq => ?_⟩
          · simp; grind
          · have : q = 0 ∨ q = 1 := by omega
            rcases this with h | h <;> subst h <;> simp [SP] <;> grind
        · refine ⟨fun s => if s = 0 then C 1 0 else if s = 1 then - C 0 0 else 0, ⟨1, by omega, ?_⟩, fun q hq => ?_⟩
          · simp; grind
          · have : q = 0 ∨ q = 1 := by omega
            rcases this with h | h <;> subst h <;> simp [SP] <;> grind
      · refine ⟨fun s => if s = 0 then C 1 0 * C 2 1 - C 1 1 * C 2 0 else if s = 1 then C 0 1 * C 2 0 - C 0 0 * C 2 1 else C 0 0 * C 1 1 - C 0 1 * C 1 0, ⟨2, by omega, by simpa using h01⟩, fun q hq => ?_⟩
        have : q = 0 ∨ q = 1 := by omega
        rcases this with h | h <;> subst h <;> simp [SP] <;> grind

theorem SP_sub : ∀ {n c a : Nat} {f : Nat → Po p}, c ≤ n → a ≤ c → (∀ i, i < n → i < c - a ∨ c ≤ i → f i = 0) → SP n f = SP a (fun q => f (c - a + q)) := by
  intro n c a f hcn hac hz
  have h1 : ∀ k, SP (c - a + k) f = SP (c - a) f + SP k (fun q => f (c - a + q)) := fun k => by
    induction k with
    | zero => show SP (c - a) f = SP (c - a) f + 0; grind
    | succ k ih =>
      show SP (c - a + k) f + f (c - a + k) = SP (c - a) f + (SP k (fun q => f (c - a + q)) + f (c - a + k))
      rw [ih]; grind
  have h2 : ∀ k, c + k ≤ n → SP (c + k) f = SP c f := fun k => by
    induction k with
    | zero => intro _; rfl
    | succ k ih =>
      intro h
      show SP (c + k) f + f (c + k) = SP c f
      rw [ih (by omega), hz (c + k) (by omega) (.inr (by omega))]; grind
  have e1 := h2 (n - c) (by omega)
  have e2 := h1 a
  rw [show c + (n - c) = n by omega] at e1
  rw [show c - a + a = c by omega] at e2
  rw [e1, e2, SP_zero (m := c - a) fun j hj => hz j (by omega) (.inl hj)]; grind
/-- one side of the uniqueness -/
theorem deg_side {n w c d : Nat} {F G : PT p} (hn : n ≤ 3) (RF : Red n w c F) (RG : Red n w d G) (h : Sp n w G F) {u : Nat} (hu : u < d) :
    d - u ≤ c ∧ rl w (F (c - (d - u))) ≤ rl w (G u) := by
  by_cases hcon : d - u ≤ c ∧ rl w (F (c - (d - u))) ≤ rl w (G u)
  · exact hcon
  exfalso
  have cn := RF.cn
  have dn := RG.cn
  have pu := RG.pos u hu
  -- the rows of F that count are the last r - 1
  generalize hr : d - u = r at hcon
  have hrpos : 1 ≤ r := by omega
  obtain ⟨a', ha'⟩ : ∃ a', a' = min (r - 1) c := ⟨_, rfl⟩
  have hlow : ∀ i, i < c → i < c - a' → rl w (G u) < rl w (F i) := fun i hi hia => by
    have hrc : r ≤ c := by omega
    have h1 : rl w (G u) < rl w (F (c - r)) := by
      by_cases q : rl w (F (c - r)) ≤ rl w (G u)
      · exact absurd ⟨hrc, q⟩ hcon
      · omega
    have h2 := RF.desc i (c - r) (by omega) (by omega)
    omega
  have hex : ∀ s, ∃ x : Nat → Po p, s < r → (∀ j, j < w → G (u + s) j = SP n fun k => x k * F k j) ∧ ∀ i, i < n → i < c - a' ∨ c ≤ i → ∀ j, j < w → x i * F i j = 0 := fun s => by
    by_cases hs : s < r
    · obtain ⟨x, hx⟩ := h (u + s) (by omega)
      refine ⟨x, fun _ => ⟨hx, fun i hi hc j hj => ?_⟩⟩
      by_cases hic : i < c
      · have hlt : i < c - a' := by omega
        have hd := RG.desc u (u + s) (by omega) (by omega)
        have hl := hlow i hic hlt
        by_cases hxi : x i = 0
        · rw [hxi]; grind
        · have := pred_le RF (t := rl w (G (u + s))) (fun j hj => by rw [← hx j hj]; exact le_rl hj) i hic hxi
          have := len_ne hxi
          omega
      · rw [rl_zero (RF.zero i (by omega) hi) j hj]; grind
    · exact ⟨fun _ => 0, fun z => absurd z hs⟩
  obtain ⟨X, hX⟩ := Classical.axiomOfChoice hex
  obtain ⟨b, ⟨s0, hs0, hb0⟩, hb⟩ := dep (a := r - 1) (by omega) (fun s q => if q < a' then X s (c - a' + q) else 0)
  rw [show r - 1 + 1 = r by omega] at hs0 hb
  -- the relation takes the rows of G to 0
  have hG : ∀ j, j < w → SP r (fun s => b s * G (u + s) j) = 0 := fun j hj => by
    have e : ∀ s, s < r → b s * G (u + s) j = SP a' (fun q => (b s * X s (c - a' + q)) * F (c - a' + q) j) := fun s hs => by
      rw [(hX s hs).1 j hj, SP_sub (f := fun k => X s k * F k j) cn (a := a') (by omega) (fun i hi hc => (hX s hs).2 i hi hc j hj), ← SP_mul]
      exact SP_congr fun q hq => by grind
    rw [SP_congr e, SP_swap]
    refine SP_zero fun q hq => ?_
    rw [SP_mulr]
    have := hb q (by omega)
    simp only [if_pos hq] at this
    rw [this]; grind
  have := pred_zero RG (x := fun i => if u ≤ i then b (i - u) else 0) (fun j hj => by
    have e := SP_sub (f := fun i => (if u ≤ i then b (i - u) else 0) * G i j) dn (a := r) (by omega) (fun i hi hc => by
      rcases hc with hc | hc
      · rw [if_neg (by omega)]; grind
      · rw [rl_zero (RG.zero i hc hi) j hj]; grind)
    rw [e, ← hG j hj]
    refine SP_congr fun q hq => ?_
    have e2 : d - r + q = u + q := by omega
    rw [e2, if_pos (by omega), show u + q - u = q by omega]) (u + s0) (by omega)
  rw [if_pos (by omega), show u + s0 - u = s0 by omega] at this
  exact hb0 this
/-- the degrees are determined -/
theorem deg_unique {n w c d : Nat} {F G : PT p} (hn : n ≤ 3) (RF : Red n w c F) (RG : Red n w d G) (h1 : Sp n w G F) (h2 : Sp n w F G) :
    c = d ∧ ∀ i, i < c → rl w (F i) = rl w (G i) := by
  have e : c = d := by
    have a1 : d ≤ c := by
      by_cases hd : d = 0
      · omega
      · have := (deg_side hn RF RG h1 (u := 0) (by omega)).1; omega
    have a2 : c ≤ d := by
      by_cases hd : c = 0
      · omega
      · have := (deg_side hn RG RF h2 (u := 0) (by omega)).1; omega
    omega
  subst e
  refine ⟨rfl, fun i hi => ?_⟩
  have b1 := (deg_side hn RF RG h1 hi).2
  have b2 := (deg_side hn RG RF h2 hi).2
  rw [show c - (c - i) = i by omega] at b1 b2
  omega
end
end K18
end
section
set_option linter.all false
set_option Elab.async false
/-! The rows that are worked at: what holds behind every step, and why a round makes the degrees fall. -/
namespace K18
open Lean.Grind (CommRing)
section
variable {p : Nat} [hp : Pr p]
/-- R is L times C, L can be undone, its determinant is a number; bounds -/
structure Wk (n w : Nat) (C : PT p) (b e : Nat) (R L : PT p) : Prop where
  eq : ∀ i j, i < n → j < w → R i j = mulT n L C i j
  sp : Sp n n unitT L
  det : len (dt n L) = 1
  rb : ∀ i, i < n → rl w (R i) ≤ b
  lb : ∀ i j, i < n → j < n → len (L i j) ≤ e
theorem len_unit (i j : Nat) : len ((unitT : PT p) i j) ≤ 1 := by
  unfold unitT
  split
  · rw [one_eq, len_c f_one_ne]; omega
  · rw [len_zero]; omega
theorem Wk.init {n w b : Nat} {C : PT p} (h1 : 1 ≤ n) (h3 : n ≤ 3) (hb : ∀ i, i < n → rl w (C i) ≤ b) : Wk n w C b 1 C unitT :=
  ⟨fun i j hi hj => (mulT_unit hi).symm, Sp.self, by rw [dt_unit h1 h3, one_eq, len_c f_one_ne], hb, fun i j _ _ => len_unit i j⟩
theorem Wk.mono {n w b e e' : Nat} {C R L : PT p} (W : Wk n w C b e R L) (h : e ≤ e') : Wk n w C b e' R L :=
  ⟨W.eq, W.sp, W.det, W.rb, fun i j hi hj => Nat.le_trans (W.lb i j hi hj) h⟩
theorem Wk.perm {n w b e : Nat} {C R L : PT p} {s : Nat → Nat} (h1 : 1 ≤ n) (h3 : n ≤ 3) (W : Wk n w C b e R L) (hs : ∀ i, i < n → s i < n) (inj : ∀ i j, i < n → j < n → s i = s j → i = j)
    (sur : ∀ i, i < n → ∃ k, k < n ∧ s k = i) : Wk n w C b e (fun i => R (s i)) (fun i => L (s i)) :=
  ⟨fun i j hi hj => W.eq (s i) j (hs i hi) hj, W.sp.trans (sp_perm sur), by
    rcases dt_perm (M := L) h1 h3 hs inj with h | h
    · rw [h]; exact W.det
    · rw [h, len_neg]; exact W.det, fun i hi => W.rb (s i) (hs i hi), fun i j hi hj => W.lb (s i) j (hs i hi) hj⟩
theorem Wk.stretch {n w b e a : Nat} {C R L : PT p} {c : Fin p} (h1 : 1 ≤ n) (h3 : n ≤ 3) (W : Wk n w C b e R L) (ha : a < n) (hc : c ≠ 0) : Wk n w C b e (stretchT R a c) (stretchT L a c) := by
  refine ⟨fun i j hi hj => ?_, W.sp.trans (sp_stretch hc), by rw [dt_stretch h1 h3 ha, len_cmul hc]; exact W.det, fun i hi => rl_le fun j hj => ?_, fun i j hi hj => ?_⟩
  · rw [mul_stretch]
    unfold stretchT
    rw [← W.eq i j hi hj]
  · have := W.rb i hi
    have := le_rl (r := R i) hj
    unfold stretchT
    split
    · rw [len_cmul hc]; omega
    · omega
  · have := W.lb i j hi hj
    unfold stretchT
    split
    · rw [len_cmul hc]; omega
    · omega
theorem Wk.take {n w b e a o k : Nat} {C R L : PT p} {f : Po p} (h1 : 1 ≤ n) (h3 : n ≤ 3) (W : Wk n w C b e R L) (ha : a < n) (ho : o < n) (hao : a ≠ o) (hf : len f ≤ k + 1)
    (hr : ∀ j, j < w → len (R a j - f * R o j) ≤ b) : Wk n w C b (e + k) (takeT R a o f) (takeT L a o f) := by
  refine ⟨fun i j hi hj => ?_, W.sp.trans (sp_take ha ho hao), by rw [dt_take h1 h3 ha ho hao]; exact W.det, fun i hi => rl_le fun j hj => ?_, fun i j hi hj => ?_⟩
  · rw [mul_take]
    unfold takeT
    rw [← W.eq a j ha hj, ← W.eq o j ho hj, ← W.eq i j hi hj]
  · have := W.rb i hi
    have := le_rl (r := R i) hj
    unfold takeT
    split
    · exact hr j hj
    · omega
  · have l1 := W.lb a j ha hj
    have l2 := W.lb o j ho hj
    have l3 := W.lb i j hi hj
    unfold takeT
    split
    · have := len_sub (L a j) (f * L o j)
      have := len_mul_le f (L o j)
      omega
    · omega

/-! ### one round -/
def facT (w : Nat) (t : Nat → Fin p) (at' k : Nat) (R : PT p) : Po p := cP (- t k) * sP (rl w (R at') - rl w (R k))
def stepT (w : Nat) (t : Nat → Fin p) (at' : Nat) (st : PT p × PT p) (k : Nat) : PT p × PT p :=
  if t k = 0 then st else (takeT st.1 at' k (facT w t at' k st.1), takeT st.2 at' k (facT w t at' k st.1))
def runT (w : Nat) (t : Nat → Fin p) (at' : Nat) (st : PT p × PT p) : Nat → PT p × PT p
  | 0 => st
  | k + 1 => stepT w t at' (runT w t at' st k) (at' + 1 + k)
structure Mid (n w : Nat) (C : PT p) (b e : Nat) (t : Nat → Fin p) (at' : Nat) (R : PT p) (m : Nat) (R' L' : PT p) : Prop where
  wk : Wk n w C b e R' L'
  same : ∀ i, i ≠ at' → R' i = R i
  le : ∀ j, j < w → len (R' at' j) ≤ rl w (R at')
  top : ∀ j, j < w → co (R' at' j) (rl w (R at') - 1) = S m fun i => lead w (R i) j * t i
theorem neg_ne {x : Fin p} (h : x ≠ 0) : - x ≠ 0 := fun e => h (by grind)
theorem lead_ne {w : Nat} {r : Nat → Po p} (h : 0 < rl w r) (hw : 1 ≤ w) : ∃ j, j < w ∧ lead w r j ≠ 0 := by
  obtain ⟨j, hj, e⟩ := rl_at (r := r) hw
  exact ⟨j, hj, by unfold lead; rw [← e]; exact co_top (by omega)⟩
theorem mid_zero {n w b e c at' : Nat} {C R L : PT p} {t : Nat → Fin p} (h1 : 1 ≤ n) (h3 : n ≤ 3) (W : Wk n w C b e R L) (hcn : c ≤ n) (hat : at' < c) (ht : t at' ≠ 0) (h0 : ∀ i, i < at' → t i = 0) :
    Mid n w C b e t at' R (at' + 1) (stretchT R at' (t at')) (stretchT L at' (t at')) := by
  refine ⟨W.stretch h1 h3 (by omega) ht, fun i hi => ?_, fun j hj => ?_, fun j hj => ?_⟩
  · funext j; unfold stretchT; rw [if_neg hi]
  · unfold stretchT; rw [if_pos rfl, len_cmul ht]; exact le_rl hj
  · unfold stretchT
    rw [if_pos rfl, cP_mul_co, S_one (k := at') (by omega) fun i hi hne => by rw [h0 i (by omega)]; grind]
    unfold lead
    grind
theorem mid_step {n w b e c at' k : Nat} {C R R' L' : PT p} {t : Nat → Fin p} (h1 : 1 ≤ n) (h3 : n ≤ 3) (hw : 1 ≤ w) (hb : b ≤ 13) (hcn : c ≤ n) (pos : ∀ i, i < c → 0 < rl w (R i))
    (desc : ∀ i j, i ≤ j → j < n → rl w (R j) ≤ rl w (R i)) (hsol : ∀ j, j < w → S c (fun i => lead w (R i) j * t i) = 0)
    (ht : t at' ≠ 0) (hk : at' + 1 + k < c) (M : Mid n w C b e t at' R (at' + 1 + k) R' L') :
    Mid n w C b (e + 12) t at' R (at' + 1 + (k + 1)) (stepT w t at' (R', L') (at' + 1 + k)).1 (stepT w t at' (R', L') (at' + 1 + k)).2 ∧
      (t (at' + 1 + k) ≠ 0 → rl w (R' at') = rl w (R at')) := by
  generalize hq : at' + 1 + k = q at hk M
  have hq1 : at' + 1 + (k + 1) = q + 1 := by omega
  rw [hq1]
  by_cases htk : t q = 0
  · refine ⟨?_, fun z => absurd htk z⟩
    unfold stepT
    rw [if_pos htk]
    refine ⟨M.wk.mono (by omega), M.same, M.le, fun j hj => ?_⟩
    show co (R' at' j) _ = S q _ + lead w (R q) j * t q
    rw [M.top j hj, htk]; grind
  · have hrl : rl w (R' at') = rl w (R at') := by
      have hle := rl_le M.le
      by_cases hall : ∀ j, j < w → S q (fun i => lead w (R i) j * t i) = 0
      · exfalso
        by_cases hc : q = c - 1
        · obtain ⟨j, hj, hne⟩ := lead_ne (pos q hk) hw
          have e1 := hsol j hj
          have e2 : c = q + 1 := by omega
          rw [e2] at e1
          have e3 : S q (fun i => lead w (R i) j * t i) + lead w (R q) j * t q = 0 := e1
          rw [hall j hj] at e3
          exact f_mul_ne hne htk (by grind)
        · have e1 : at' = 0 := by omega
          have e2 : q = 1 := by omega
          subst e1
          -- the first one alone
          have p0 := pos 0 (by omega)
          obtain ⟨j, hj, hne⟩ := lead_ne (r := R 0) p0 hw
          have := hall j hj
          rw [e2] at this
          have e3 : (0 : Fin p) + lead w (R 0) j * t 0 = 0 := this
          have t0 : t 0 = 0 := by
            rcases f_mul_z (show lead w (R 0) j * t 0 = 0 by grind) with z | z
            · exact absurd z hne
            · exact z
          exact ht t0
      · obtain ⟨j, hj⟩ := Classical.not_forall.mp hall
        obtain ⟨hj, hne⟩ := Classical.not_imp.mp hj
        rw [← M.top j hj] at hne
        have h1 := lt_len hne
        have h2 := le_rl (r := R' at') hj
        omega
    refine ⟨?_, fun _ => hrl⟩
    have hqa : q ≠ at' := by omega
    have esame : R' q = R q := M.same q hqa
    have dq := desc at' q (by omega) (by omega)
    have pq := pos q hk
    have hbq := M.wk.rb at' (by omega)
    have est : stepT w t at' (R', L') q = (takeT R' at' q (facT w t at' q R'), takeT L' at' q (facT w t at' q R')) := by
      unfold stepT; rw [if_neg htk]
    rw [est]
    have hf : len (facT w t at' q R') = rl w (R at') - rl w (R q) + 1 := by
      unfold facT
      rw [len_cmul (neg_ne htk), len_sP, hrl, esame]
    have hlen : ∀ j, j < w → len (R' at' j - facT w t at' q R' * R' q j) ≤ rl w (R at') := fun j hj => by
      have a1 := len_sub (R' at' j) (facT w t at' q R' * R' q j)
      have a2 := len_mul_le (facT w t at' q R') (R' q j)
      have a3 := M.le j hj
      have a4 : len (R' q j) ≤ rl w (R q) := by rw [esame]; exact le_rl hj
      omega
    have hb12 : rl w (R at') ≤ 13 := by
      have := M.wk.rb
      have r1 := rl_le M.le
      rw [← hrl]; omega
    refine ⟨M.wk.take h1 h3 (by omega) (by omega) (fun z => hqa z.symm) (by omega) fun j hj => ?_, fun i hi => ?_, fun j hj => ?_, fun j hj => ?_⟩
    · have := hlen j hj; omega
    · funext j; show takeT R' at' q _ i j = _; unfold takeT; rw [if_neg hi, M.same i hi]
    · show len (takeT R' at' q _ at' j) ≤ _; unfold takeT; rw [if_pos rfl]; exact hlen j hj
    · show co (takeT R' at' q _ at' j) _ = S q _ + lead w (R q) j * t q
      unfold takeT
      rw [if_pos rfl, co_sub, M.top j hj]
      have e : rl w (R at') - 1 = (rl w (R at') - rl w (R q)) + (rl w (R q) - 1) := by omega
      have a4 : len (R' q j) ≤ rl w (R q) := by rw [esame]; exact le_rl hj
      have a5 : co (facT w t at' q R') (rl w (R at') - rl w (R q)) = - t q := by
        unfold facT
        rw [cP_mul_co, co_sP, hrl, esame, if_pos rfl]; grind
      rw [e, co_mul_top _ _ (by omega) (by omega), a5, esame]
      unfold lead
      grind

theorem mid_all {n w b e c at' : Nat} {C R L : PT p} {t : Nat → Fin p} (h1 : 1 ≤ n) (h3 : n ≤ 3) (hw : 1 ≤ w) (hb : b ≤ 13) (W : Wk n w C b e R L) (hcn : c ≤ n) (pos : ∀ i, i < c → 0 < rl w (R i))
    (desc : ∀ i j, i ≤ j → j < n → rl w (R j) ≤ rl w (R i)) (hsol : ∀ j, j < w → S c (fun i => lead w (R i) j * t i) = 0)
    (hat : at' < c) (ht : t at' ≠ 0) (h0 : ∀ i, i < at' → t i = 0) : ∀ k, at' + 1 + k ≤ c →
    Mid n w C b (e + 12 * k) t at' R (at' + 1 + k) (runT w t at' (stretchT R at' (t at'), stretchT L at' (t at')) k).1 (runT w t at' (stretchT R at' (t at'), stretchT L at' (t at')) k).2
  | 0, _ => mid_zero h1 h3 W hcn hat ht h0
  | k + 1, hk => by
    have M := mid_all h1 h3 hw hb W hcn pos desc hsol hat ht h0 k (by omega)
    have := (mid_step h1 h3 hw hb hcn pos desc hsol ht (by omega) M).1
    rw [show e + 12 * (k + 1) = e + 12 * k + 12 by omega]
    exact this
def SN : Nat → (Nat → Nat) → Nat
  | 0, _ => 0
  | m + 1, f => SN m f + f m
theorem SN_le : ∀ {m : Nat} {f g : Nat → Nat}, (∀ j, j < m → f j ≤ g j) → SN m f ≤ SN m g
  | 0, _, _, _ => Nat.le_refl _
  | m + 1, f, g, h => Nat.add_le_add (SN_le fun j hj => h j (by omega)) (h m (by omega))
theorem SN_lt : ∀ {m : Nat} {f g : Nat → Nat} {k : Nat}, k < m → f k < g k → (∀ j, j < m → f j ≤ g j) → SN m f < SN m g
  | 0, _, _, _, h, _, _ => by omega
  | m + 1, f, g, k, hk, hlt, h => by
    show SN m f + f m < SN m g + g m
    by_cases e : k = m
    · subst e
      have := SN_le (m := k) (f := f) (g := g) fun j (hj : j < k) => h j (by omega)
      omega
    · have := SN_lt (m := m) (f := f) (g := g) (k := k) (by omega) hlt fun j hj => h j (by omega)
      have := h m (by omega)
      omega
theorem SN_perm {n : Nat} {f : Nat → Nat} {s : Nat → Nat} (h1 : 1 ≤ n) (h3 : n ≤ 3) (hs : ∀ i, i < n → s i < n) (inj : ∀ i j, i < n → j < n → s i = s j → i = j) : SN n (fun i => f (s i)) = SN n f := by
  have : n = 1 ∨ n = 2 ∨ n = 3 := by omega
  rcases this with h | h | h <;> subst h
  · have := hs 0 (by omega)
    have e : s 0 = 0 := by omega
    simp only [SN, e]
  · have h0 := hs 0 (by omega)
    have h1 := hs 1 (by omega)
    have h01 := inj 0 1 (by omega) (by omega)
    have : (s 0 = 0 ∧ s 1 = 1) ∨ (s 0 = 1 ∧ s 1 = 0) := by omega
    rcases this with ⟨e, e'⟩ | ⟨e, e'⟩ <;> simp only [SN, e, e'] <;> omega
  · have h0 := hs 0 (by omega)
    have h1 := hs 1 (by omega)
    have h2 := hs 2 (by omega)
    have h01 := inj 0 1 (by omega) (by omega)
    have h02 := inj 0 2 (by omega) (by omega)
    have h12 := inj 1 2 (by omega) (by omega)
    have : (s 0 = 0 ∧ s 1 = 1 ∧ s 2 = 2) ∨ (s 0 = 1 ∧ s 1 = 2 ∧ s 2 = 0) ∨ (s 0 = 2 ∧ s 1 = 0 ∧ s 2 = 1) ∨ (s 0 = 1 ∧ s 1 = 0 ∧ s 2 = 2) ∨ (s 0 = 0 ∧ s 1 = 2 ∧ s 2 = 1) ∨ (s 0 = 2 ∧ s 1 = 1 ∧ s 2 = 0) := by omega
    rcases this with ⟨e, e', e''⟩ | ⟨e, e', e''⟩ | ⟨e, e', e''⟩ | ⟨e, e', e''⟩ | ⟨e, e', e''⟩ | ⟨e, e', e''⟩ <;> simp only [SN, e, e', e''] <;> omega
/-- the sum of the degrees -/
def deg (n w : Nat) (R : PT p) : Nat := SN n fun i => rl w (R i)
theorem round_falls {n w b e c at' : Nat} {C R L R' L' : PT p} {t : Nat → Fin p} (hw : 1 ≤ w) (hcn : c ≤ n) (pos : ∀ i, i < c → 0 < rl w (R i)) (hsol : ∀ j, j < w → S c (fun i => lead w (R i) j * t i) = 0)
    (hat : at' < c) (M : Mid n w C b e t at' R c R' L') : deg n w R' < deg n w R := by
  have hlt : rl w (R' at') < rl w (R at') := by
    have p0 := pos at' hat
    have : rl w (R' at') ≤ rl w (R at') - 1 := rl_le fun j hj => len_le fun k hk => by
      by_cases e : k = rl w (R at') - 1
      · rw [e, M.top j hj]; exact hsol j hj
      · exact co_high (by have := M.le j hj; omega)
    omega
  refine SN_lt (k := at') (by omega) hlt fun j hj => ?_
  by_cases e : j = at'
  · subst e; omega
  · rw [M.same j e]; exact Nat.le_refl _

/-! ### the rows that are not 0 -/
def nzc (n w : Nat) (R : PT p) : Nat := ((List.range n).filter fun i => decide (0 < rl w (R i))).length
theorem nzc_ok {w : Nat} {R : PT p} : ∀ {n : Nat}, (∀ i j, i ≤ j → j < n → rl w (R j) ≤ rl w (R i)) →
    nzc n w R ≤ n ∧ (∀ i, i < nzc n w R → 0 < rl w (R i)) ∧ ∀ i, nzc n w R ≤ i → i < n → rl w (R i) = 0
  | 0, _ => ⟨Nat.le_refl _, fun i h => absurd h (Nat.not_lt_zero _), fun i _ h => by omega⟩
  | n + 1, desc => by
    obtain ⟨a, b, c⟩ := nzc_ok (R := R) (w := w) (n := n) fun i j h1 h2 => desc i j h1 (by omega)
    have e : nzc (n + 1) w R = nzc n w R + if 0 < rl w (R n) then 1 else 0 := by
      unfold nzc
      rw [List.range_succ, List.filter_append, List.length_append]
      by_cases h : 0 < rl w (R n)
      · rw [if_pos h]; simp [h]
      · rw [if_neg h]; simp [h]
    by_cases h : 0 < rl w (R n)
    · have hc : nzc n w R = n := by
        by_cases q : nzc n w R < n
        · have := c (nzc n w R) (Nat.le_refl _) q
          have := desc (nzc n w R) n (by omega) (by omega)
          omega
        · omega
      rw [e, if_pos h, hc]
      refine ⟨Nat.le_refl _, fun i hi => ?_, fun i h1 h2 => by omega⟩
      by_cases q : i = n
      · rw [q]; exact h
      · exact b i (by omega)
    · rw [e, if_neg h, Nat.add_zero]
      refine ⟨by omega, b, fun i h1 h2 => ?_⟩
      by_cases q : i = n
      · rw [q]; omega
      · exact c i h1 (by omega)
theorem red_of {n w : Nat} {R : PT p} (desc : ∀ i j, i ≤ j → j < n → rl w (R j) ≤ rl w (R i)) (hk : nzc n w R = 0 ∨ kerf w (nzc n w R) (fun j i => lead w (R i) j) = []) : Red n w (nzc n w R) R := by
  obtain ⟨a, b, c⟩ := nzc_ok desc
  refine ⟨a, b, c, desc, fun v hv i hi => ?_⟩
  rcases hk with hk | hk
  · omega
  · exact ker_nil hk (v := v) (fun j hj => by
      rw [← hv j hj]
      exact S_congr fun k _ => by grind) i hi
end
end K18
end
section
set_option Elab.async false
set_option linter.all false
set_option maxRecDepth 100000
/-! What an expression gives, as data (PyData, read by Dp), all that stood staying. -/
namespace KR
open PySem PySem.Spec PyProof.Rows L2 Evl

mutual
theorem dp_ex {K : PySem.W.Frag} {H H' : Hp} (e : Ex H H') : ∀ (d : PyData) (v : V), Dp K H v d → Dp K H' v d
  | _, _, .non => .non
  | _, _, .bl b => .bl b
  | _, _, .int i => .int i
  | _, _, .str x => .str x
  | _, _, .lst h ha => .lst (ex_l e h) (dpA_ex e _ _ ha)
  | _, _, .tup h ha => .tup (ex_t e h) (dpA_ex e _ _ ha)
theorem dpA_ex {K : PySem.W.Frag} {H H' : Hp} (e : Ex H H') : ∀ (ds : List PyData) (vs : List V), DpAll K H vs ds → DpAll K H' vs ds
  | _, _, .nil => .nil
  | _, _, .cons h ha => .cons (dp_ex e _ _ h) (dpA_ex e _ _ ha)
end
/-- tuples stay -/
def ExT (H H' : Hp) : Prop := ∀ a o, H a = some o → (∀ xs, o ≠ .lst xs) → (∀ C dx fs, o ≠ .ins C dx fs) → (∀ ps, o ≠ .tbl ps) → H' a = some o
theorem ExT.refl (H : Hp) : ExT H H := fun _ _ h _ _ _ => h
theorem ExT.trans {H H1 H2 : Hp} (a : ExT H H1) (b : ExT H1 H2) : ExT H H2 := fun x o h n1 n2 n3 => b x o (a x o h n1 n2 n3) n1 n2 n3
theorem Ex.toT {H H1 : Hp} (a : Ex H H1) : ExT H H1 := fun x o h _ _ _ => a x o h
theorem exT_t {K : PySem.W.Frag} {H H' : Hp} {a : Addr} {xs : List V} (e : ExT H H') (h : SqT K H a xs) : SqT K H' a xs := by
  rcases h with (h | ⟨o, h⟩) | h
  · exact .inl (.inl (e a _ h (fun _ z => nomatch z) (fun _ _ _ z => nomatch z) (fun _ z => nomatch z)))
  · exact .inl (.inr ⟨o, e a _ h (fun _ z => nomatch z) (fun _ _ _ z => nomatch z) (fun _ z => nomatch z)⟩)
  · exact .inr h
mutual
/-- no list within -/
def flatD : PyData → Bool
  | .list _ => false
  | .tuple ds => flatDs ds
  | _ => true
def flatDs : List PyData → Bool
  | [] => true
  | d :: ds => flatD d && flatDs ds
end
mutual
theorem dp_exT {K : PySem.W.Frag} {H H' : Hp} (e : ExT H H') : ∀ (d : PyData) (v : V), flatD d = true → Dp K H v d → Dp K H' v d
  | _, _, _, .non => .non
  | _, _, _, .bl b => .bl b
  | _, _, _, .int i => .int i
  | _, _, _, .str x => .str x
  | .list ds, _, f, .lst h ha => by simp [flatD] at f
  | .tuple ds, _, f, .tup h ha => .tup (exT_t e h) (dpA_exT e _ _ (by simpa [flatD] using f) ha)
theorem dpA_exT {K : PySem.W.Frag} {H H' : Hp} (e : ExT H H') : ∀ (ds : List PyData) (vs : List V), flatDs ds = true → DpAll K H vs ds → DpAll K H' vs ds
  | _, _, _, .nil => .nil
  | d :: ds, _, f, .cons h ha => by
    simp only [flatDs, Bool.and_eq_true] at f
    exact .cons (dp_exT e _ _ f.1 h) (dpA_exT e _ _ f.2 ha)
end
theorem flat_map {α : Type} {f : α → PyData} (h : ∀ a, flatD (f a) = true) : ∀ l : List α, flatDs (l.map f) = true
  | [] => rfl
  | a :: l => by simp [flatDs, h a, flat_map h l]

theorem dpA_len {K : PySem.W.Frag} {H : Hp} : ∀ {vs : List V} {ds : List PyData}, DpAll K H vs ds → vs.length = ds.length
  | _, _, .nil => rfl
  | _, _, .cons _ t => congrArg (· + 1) (dpA_len t)
theorem dpA_get {K : PySem.W.Frag} {H : Hp} : ∀ {vs : List V} {ds : List PyData} {i : Nat} {d : PyData}, DpAll K H vs ds → ds[i]? = some d → ∃ v, vs[i]? = some v ∧ Dp K H v d
  | _, _, _, _, .nil, e => by simp at e
  | _, _, 0, _, .cons r _, e => by simp at e; subst e; exact ⟨_, rfl, r⟩
  | _, _, i + 1, _, .cons _ t, e => by
    obtain ⟨u, h1, h2⟩ := dpA_get (i := i) t (by simpa using e)
    exact ⟨u, by simpa using h1, h2⟩
theorem dpA_getV {K : PySem.W.Frag} {H : Hp} : ∀ {vs : List V} {ds : List PyData} {i : Nat} {v : V}, DpAll K H vs ds → vs[i]? = some v → ∃ d, ds[i]? = some d ∧ Dp K H v d
  | _, _, _, _, .nil, e => by simp at e
  | _, _, 0, _, .cons r _, e => by simp at e; subst e; exact ⟨_, rfl, r⟩
  | _, _, i + 1, _, .cons _ t, e => by
    obtain ⟨u, h1, h2⟩ := dpA_getV (i := i) t (by simpa using e)
    exact ⟨u, by simpa using h1, h2⟩
theorem dpA_app {K : PySem.W.Frag} {H : Hp} : ∀ {vs ws : List V} {ds es : List PyData}, DpAll K H vs ds → DpAll K H ws es → DpAll K H (vs ++ ws) (ds ++ es)
  | _, _, _, _, .nil, s => s
  | _, _, _, _, .cons r t, s => .cons r (dpA_app t s)
theorem dpA_take {K : PySem.W.Frag} {H : Hp} : ∀ {vs : List V} {ds : List PyData} (n : Nat), DpAll K H vs ds → DpAll K H (vs.take n) (ds.take n)
  | _, _, 0, _ => .nil
  | _, _, _ + 1, .nil => .nil
  | _, _, n + 1, .cons r t => .cons r (dpA_take n t)
theorem dpA_drop {K : PySem.W.Frag} {H : Hp} : ∀ {vs : List V} {ds : List PyData} (n : Nat), DpAll K H vs ds → DpAll K H (vs.drop n) (ds.drop n)
  | _, _, 0, r => r
  | _, _, _ + 1, .nil => .nil
  | _, _, n + 1, .cons _ t => dpA_drop n t
theorem dpA_set {K : PySem.W.Frag} {H : Hp} {v : V} {d : PyData} (r : Dp K H v d) : ∀ {vs : List V} {ds : List PyData} (n : Nat), DpAll K H vs ds → DpAll K H (vs.set n v) (ds.set n d)
  | _, _, _, .nil => .nil
  | _, _, 0, .cons _ t => .cons r t
  | _, _, n + 1, .cons q t => .cons q (dpA_set r n t)
theorem dpA_rep {K : PySem.W.Frag} {H : Hp} {v : V} {d : PyData} (r : Dp K H v d) : ∀ n : Nat, DpAll K H (List.replicate n v) (List.replicate n d)
  | 0 => .nil
  | n + 1 => .cons r (dpA_rep r n)
theorem dpA_ints {K : PySem.W.Frag} {H : Hp} : ∀ ns : List Int, DpAll K H (ns.map V.int) (ns.map PyData.int)
  | [] => .nil
  | n :: ns => .cons (.int n) (dpA_ints ns)
theorem dpA_intsV {K : PySem.W.Frag} {H : Hp} : ∀ {ns : List Int} {vs : List V}, DpAll K H vs (ns.map PyData.int) → vs = ns.map V.int
  | [], _, .nil => rfl
  | n :: ns, _, .cons (.int _) t => by rw [dpA_intsV t]; rfl
theorem dpA_blsV {K : PySem.W.Frag} {H : Hp} : ∀ {ns : List Bool} {vs : List V}, DpAll K H vs (ns.map PyData.bool) → vs = ns.map V.bl
  | [], _, .nil => rfl
  | n :: ns, _, .cons (.bl _) t => by rw [dpA_blsV t]; rfl

section
variable {K : PySem.W.Frag} {σ : L2.St} {H H' : Hp} {ta tb tc te : TE} {t u : TT} {d d1 d2 d3 : PyData} {ds es : List PyData} {i j : Int}
def EvD (K : PySem.W.Frag) (te : TE) (σ : L2.St) (H : Hp) (d : PyData) : Prop := ∀ H1, Ex H H1 → ∀ Q : VK, (∀ v H2, Ex H1 H2 → Dp K H2 v d → Q v H2) → te σ H1 Q
def EvDs (K : PySem.W.Frag) (ta : TA) (σ : L2.St) (H : Hp) (ds : List PyData) : Prop := ∀ H1, Ex H H1 → ∀ Q : List V → Hp → Prop, (∀ vs H2, Ex H1 H2 → DpAll K H2 vs ds → Q vs H2) → ta σ H1 Q
theorem EvD.mono (e : Ex H H') (h : EvD K te σ H d) : EvD K te σ H' d := fun H1 a Q q => h H1 (e.trans a) Q q
theorem EvDs.mono {ta : TA} (e : Ex H H') (h : EvDs K ta σ H ds) : EvDs K ta σ H' ds := fun H1 a Q q => h H1 (e.trans a) Q q
theorem EvD.use {Q : VK} (h : EvD K te σ H d) (q : ∀ v H2, Ex H H2 → Dp K H2 v d → Q v H2) : te σ H Q := h H (Ex.refl H) Q q
theorem EvT.use {b : Bool} {Q : Bool → Hp → Prop} (h : EvT t σ H b) (q : ∀ H2, Ex H H2 → Q b H2) : t σ H Q := h H (Ex.refl H) Q q
theorem ed_is (h : EvD K te σ H d) (e : d = d1) : EvD K te σ H d1 := e ▸ h
theorem et_is' {a b : Bool} (h : EvT t σ H a) (e : a = b) : EvT t σ H b := e ▸ h
theorem ed_var {i : Nat} {v : V} (h : σ[i]? = some (some v)) (r : Dp K H v d) : EvD K (tVar i) σ H d := fun H1 e _ q => ⟨v, h, q v H1 (Ex.refl H1) (dp_ex e _ _ r)⟩
theorem ed_int : EvD K (tC (.int i)) σ H (.int i) := fun H1 _ _ q => q _ H1 (Ex.refl H1) (.int _)
theorem ed_bl {b : Bool} : EvD K (tC (.bl b)) σ H (.bool b) := fun H1 _ _ q => q _ H1 (Ex.refl H1) (.bl _)
theorem ed_non : EvD K (tC .non) σ H .none := fun H1 _ _ q => q _ H1 (Ex.refl H1) .non
theorem dp_int {v : V} (h : Dp K H v (.int i)) : v = .int i := by cases h; rfl
theorem dp_bl {v : V} {b : Bool} (h : Dp K H v (.bool b)) : v = .bl b := by cases h; rfl
theorem dp_tup {v : V} (h : Dp K H v (.tuple ds)) : ∃ a xs, v = .ref a ∧ SqT K H a xs ∧ DpAll K H xs ds := by cases h; exact ⟨_, _, rfl, by assumption, by assumption⟩
theorem dp_lst {v : V} (h : Dp K H v (.list ds)) : ∃ a xs, v = .ref a ∧ SqL K H a xs ∧ DpAll K H xs ds := by cases h; exact ⟨_, _, rfl, by assumption, by assumption⟩
/-- ints to an int -/
theorem ed_op0 {g : Int → Int → Int} (ha : EvD K ta σ H (.int i)) (hb : EvD K tb σ H (.int j)) : EvD K (tOp (rI0 fun i j => .int (g i j)) ta tb) σ H (.int (g i j)) := fun H1 e Q q =>
  ha H1 e _ fun v H2 e2 r => hb H2 (e.trans e2) _ fun w H3 e3 s => ⟨i, j, dp_int r, dp_int s, q _ H3 (e2.trans e3) (.int _)⟩
theorem ed_opC {C : Int → Int → Prop} {g : Int → Int → Int} (ha : EvD K ta σ H (.int i)) (hb : EvD K tb σ H (.int j)) (hc : C i j) : EvD K (tOp (rI C fun i j => .int (g i j)) ta tb) σ H (.int (g i j)) := fun H1 e Q q =>
  ha H1 e _ fun v H2 e2 r => hb H2 (e.trans e2) _ fun w H3 e3 s => ⟨i, j, dp_int r, dp_int s, hc, q _ H3 (e2.trans e3) (.int _)⟩
/-- ints to a truth value -/
theorem ed_opB {g : Int → Int → Bool} (ha : EvD K ta σ H (.int i)) (hb : EvD K tb σ H (.int j)) : EvD K (tOp (rI0 fun i j => .bl (g i j)) ta tb) σ H (.bool (g i j)) := fun H1 e Q q =>
  ha H1 e _ fun v H2 e2 r => hb H2 (e.trans e2) _ fun w H3 e3 s => ⟨i, j, dp_int r, dp_int s, q _ H3 (e2.trans e3) (.bl _)⟩
theorem ed_neg (ha : EvD K ta σ H (.int i)) : EvD K (tUn (rU fun i => .int (-i)) ta) σ H (.int (-i)) := fun H1 e Q q =>
  ha H1 e _ fun v H2 e2 r => ⟨i, dp_int r, q _ H2 e2 (.int _)⟩
theorem int_dec (i j : Int) : decide ((V.int i) = V.int j) = decide (i = j) := by
  by_cases h : i = j
  · rw [h]; simp
  · rw [decide_eq_false h, decide_eq_false fun z => h (V.int.inj z)]
theorem bl_dec (i j : Bool) : decide ((V.bl i) = V.bl j) = (i == j) := by cases i <;> cases j <;> rfl
theorem ed_eqI (ha : EvD K ta σ H (.int i)) (hb : EvD K tb σ H (.int j)) : EvD K (tOp rEq ta tb) σ H (.bool (decide (i = j))) := fun H1 e Q q =>
  ha H1 e _ fun v H2 e2 r => hb H2 (e.trans e2) _ fun w H3 e3 s => by
    cases r; cases s
    exact ⟨rfl, q _ H3 (e2.trans e3) (by rw [int_dec]; exact .bl _)⟩
theorem ed_neI (ha : EvD K ta σ H (.int i)) (hb : EvD K tb σ H (.int j)) : EvD K (tOp rNe ta tb) σ H (.bool (!decide (i = j))) := fun H1 e Q q =>
  ha H1 e _ fun v H2 e2 r => hb H2 (e.trans e2) _ fun w H3 e3 s => by
    cases r; cases s
    exact ⟨rfl, q _ H3 (e2.trans e3) (by rw [int_dec]; exact .bl _)⟩
theorem ed_eqB {a b : Bool} (ha : EvD K ta σ H (.bool a)) (hb : EvD K tb σ H (.bool b)) : EvD K (tOp rEq ta tb) σ H (.bool (a == b)) := fun H1 e Q q =>
  ha H1 e _ fun v H2 e2 r => hb H2 (e.trans e2) _ fun w H3 e3 s => by
    cases r; cases s
    exact ⟨rfl, q _ H3 (e2.trans e3) (by rw [bl_dec]; exact .bl _)⟩
theorem ed_neB {a b : Bool} (ha : EvD K ta σ H (.bool a)) (hb : EvD K tb σ H (.bool b)) : EvD K (tOp rNe ta tb) σ H (.bool (!(a == b))) := fun H1 e Q q =>
  ha H1 e _ fun v H2 e2 r => hb H2 (e.trans e2) _ fun w H3 e3 s => by
    cases r; cases s
    exact ⟨rfl, q _ H3 (e2.trans e3) (by rw [bl_dec]; exact .bl _)⟩
theorem ed_eqD (ha : EvD K ta σ H d1) (hb : EvD K tb σ H d2) (s1 : SeqAt.shaped d1 = true) (s2 : SeqAt.shaped d2 = true) : EvD K (tOp (rEqD K) ta tb) σ H (.bool (PyData.eqv d1 d2)) := fun H1 e Q q =>
  ha H1 e _ fun v H2 e2 r => hb H2 (e.trans e2) _ fun w H3 e3 s => ⟨d1, d2, dp_ex e3 _ _ r, s, s1, s2, q _ H3 (e2.trans e3) (.bl _)⟩
theorem ed_neD (ha : EvD K ta σ H d1) (hb : EvD K tb σ H d2) (s1 : SeqAt.shaped d1 = true) (s2 : SeqAt.shaped d2 = true) : EvD K (tOp (rNeD K) ta tb) σ H (.bool (!PyData.eqv d1 d2)) := fun H1 e Q q =>
  ha H1 e _ fun v H2 e2 r => hb H2 (e.trans e2) _ fun w H3 e3 s => ⟨d1, d2, dp_ex e3 _ _ r, s, s1, s2, q _ H3 (e2.trans e3) (.bl _)⟩
theorem et_test {b : Bool} (h : EvD K te σ H (.bool b)) : EvT (tTest te) σ H b := fun H1 e _ q => h H1 e _ fun v H2 e2 r => ⟨b, dp_bl r, q H2 e2⟩
theorem et_B {b : Bool} (h : EvD K te σ H (.bool b)) : EvT (tB te) σ H b := fun H1 e _ q => h H1 e _ fun v H2 e2 r => ⟨b, dp_bl r, q H2 e2⟩
theorem ed_andV {a b : Bool} (h1 : EvD K ta σ H (.bool a)) (h2 : a = true → EvD K tb σ H (.bool b)) : EvD K (tAndV ta tb) σ H (.bool (a && b)) := fun H1 e Q q => h1 H1 e _ fun v H2 e2 r => ⟨a, dp_bl r, by
  cases a with
  | true =>
    show tb σ H2 Q
    exact h2 rfl H2 (e.trans e2) Q fun w H3 e3 s => q w H3 (e2.trans e3) s
  | false =>
    show Q (.bl false) H2
    exact q _ H2 e2 (.bl _)⟩
theorem ed_orV {a b : Bool} (h1 : EvD K ta σ H (.bool a)) (h2 : a = false → EvD K tb σ H (.bool b)) : EvD K (tOrV ta tb) σ H (.bool (a || b)) := fun H1 e Q q => h1 H1 e _ fun v H2 e2 r => ⟨a, dp_bl r, by
  cases a with
  | true =>
    show Q (.bl true) H2
    exact q _ H2 e2 (.bl _)
  | false =>
    show tb σ H2 Q
    exact h2 rfl H2 (e.trans e2) Q fun w H3 e3 s => q w H3 (e2.trans e3) s⟩
theorem ed_notV {a : Bool} (h1 : EvD K ta σ H (.bool a)) : EvD K (tNotV ta) σ H (.bool (!a)) := fun H1 e _ q => h1 H1 e _ fun v H2 e2 r => ⟨a, dp_bl r, q _ H2 e2 (.bl _)⟩
theorem ed_if {b : Bool} (h : EvT t σ H b) (h1 : b = true → EvD K ta σ H d) (h2 : b = false → EvD K tb σ H d) : EvD K (tIf t ta tb) σ H d := fun H1 e Q q => h H1 e _ fun H2 e2 => by
  cases b with
  | true =>
    show ta σ H2 Q
    exact h1 rfl H2 (e.trans e2) Q fun v H3 e3 r => q v H3 (e2.trans e3) r
  | false =>
    show tb σ H2 Q
    exact h2 rfl H2 (e.trans e2) Q fun v H3 e3 r => q v H3 (e2.trans e3) r
/-- arguments -/
theorem eds_nil : EvDs K tNil σ H [] := fun H1 _ _ q => q _ H1 (Ex.refl H1) .nil
theorem eds_cons {tr : TA} (h : EvD K ta σ H d) (hr : EvDs K tr σ H ds) : EvDs K (tCons ta tr) σ H (d :: ds) := fun H1 e _ q =>
  h H1 e _ fun v H2 e2 r => hr H2 (e.trans e2) _ fun vs H3 e3 s => q _ H3 (e2.trans e3) (.cons (dp_ex e3 _ _ r) s)
theorem eds_starT {tr : TA} (h : EvD K ta σ H (.tuple es)) (hr : EvDs K tr σ H ds) : EvDs K (StX.tStar K ta tr) σ H (es ++ ds) := fun H1 e _ q =>
  h H1 e _ fun v H2 e2 r => by
    obtain ⟨a, xs, rfl, hs, hd⟩ := dp_tup r
    exact ⟨a, xs, rfl, .inl hs, hr H2 (e.trans e2) _ fun vs H3 e3 s => q _ H3 (e2.trans e3) (dpA_app (dpA_ex e3 _ _ hd) s)⟩
theorem eds_starL {tr : TA} (h : EvD K ta σ H (.list es)) (hr : EvDs K tr σ H ds) : EvDs K (StX.tStar K ta tr) σ H (es ++ ds) := fun H1 e _ q =>
  h H1 e _ fun v H2 e2 r => by
    obtain ⟨a, xs, rfl, hs, hd⟩ := dp_lst r
    exact ⟨a, xs, rfl, .inr hs, hr H2 (e.trans e2) _ fun vs H3 e3 s => q _ H3 (e2.trans e3) (dpA_app (dpA_ex e3 _ _ hd) s)⟩
theorem ed_tup {t : TA} (h : EvDs K t σ H ds) (hl : ds.length ≤ 100000) : EvD K (tTup t) σ H (.tuple ds) := fun H1 e _ q =>
  h H1 e _ fun vs H2 e2 r => ⟨sz_of (by rw [dpA_len r]; exact hl), fun p hp => q _ _ (e2.trans (Ex.new hp)) (.tup (st_of upd_same) (dpA_ex (Ex.new hp) _ _ r))⟩
theorem ed_lst {t : TA} (h : EvDs K t σ H ds) (hl : ds.length ≤ 100000) : EvD K (tLst t) σ H (.list ds) := fun H1 e _ q =>
  h H1 e _ fun vs H2 e2 r => ⟨sz_of (by rw [dpA_len r]; exact hl), fun p hp => q _ _ (e2.trans (Ex.new hp)) (.lst (sq_of upd_same) (dpA_ex (Ex.new hp) _ _ r))⟩
/-- items -/
theorem atI_of {xs : List V} {k : Nat} {v : V} (h : xs[k]? = some v) (hi : i = (k : Int)) : atI xs i = some v := by rw [hi]; exact atI_nat h
theorem atI_neg1 {xs : List V} {v : V} (h : xs[xs.length - 1]? = some v) (h0 : xs ≠ []) : atI xs (-1) = some v := by
  have e : xs = xs.dropLast ++ [xs.getLast h0] := (List.dropLast_concat_getLast h0).symm
  have e2 : v = xs.getLast h0 := by
    rw [List.getLast_eq_getElem]
    rw [List.getElem?_eq_getElem (by cases xs with | nil => exact absurd rfl h0 | cons a b => simp)] at h
    exact (Option.some.inj h).symm
  have q : atI (xs.dropLast ++ [xs.getLast h0]) (-1) = some (xs.getLast h0) := atI_last _ _
  rw [← e] at q
  rw [e2]; exact q
theorem ed_ixT {k : Nat} (ha : EvD K ta σ H (.tuple ds)) (hb : EvD K tb σ H (.int i)) (hi : i = (k : Int)) (h : ds[k]? = some d) : EvD K (tOp (rIx K) ta tb) σ H d := fun H1 e Q q =>
  ha H1 e _ fun v H2 e2 r => hb H2 (e.trans e2) _ fun w H3 e3 s => by
    obtain ⟨a, xs, rfl, hs, hd⟩ := dp_tup r
    obtain ⟨x, hx, rx⟩ := dpA_get hd h
    exact .inr (.inl ⟨a, xs, i, x, rfl, dp_int s, ex_t e3 hs, atI_of hx hi, q x H3 (e2.trans e3) (dp_ex e3 _ _ rx)⟩)
theorem ed_ixL {k : Nat} (ha : EvD K ta σ H (.list ds)) (hb : EvD K tb σ H (.int i)) (hi : i = (k : Int)) (h : ds[k]? = some d) : EvD K (tOp (rIx K) ta tb) σ H d := fun H1 e Q q =>
  ha H1 e _ fun v H2 e2 r => hb H2 (e.trans e2) _ fun w H3 e3 s => by
    obtain ⟨a, xs, rfl, hs, hd⟩ := dp_lst r
    obtain ⟨x, hx, rx⟩ := dpA_get hd h
    exact .inl ⟨a, xs, i, x, rfl, dp_int s, ex_l e3 hs, atI_of hx hi, q x H3 (e2.trans e3) (dp_ex e3 _ _ rx)⟩
theorem ed_ixT1 (ha : EvD K ta σ H (.tuple ds)) (hb : EvD K tb σ H (.int (-1))) (h : ds.getLast? = some d) : EvD K (tOp (rIx K) ta tb) σ H d := fun H1 e Q q =>
  ha H1 e _ fun v H2 e2 r => hb H2 (e.trans e2) _ fun w H3 e3 s => by
    obtain ⟨a, xs, rfl, hs, hd⟩ := dp_tup r
    rw [List.getLast?_eq_getElem?] at h
    obtain ⟨x, hx, rx⟩ := dpA_get hd h
    rw [← dpA_len hd] at hx
    have h0 : xs ≠ [] := fun z => by rw [z] at hx; simp at hx
    exact .inr (.inl ⟨a, xs, -1, x, rfl, dp_int s, ex_t e3 hs, atI_neg1 hx h0, q x H3 (e2.trans e3) (dp_ex e3 _ _ rx)⟩)
/-- len, list, tuple, int, max -/
def rLenS (K : PySem.W.Frag) : List V → Hp → VK → Prop := fun xs H Q => ∃ p ys, xs = [.ref p] ∧ (SqL K H p ys ∨ SqT K H p ys) ∧ Q (.int ys.length) H
theorem ed_lenT (ha : EvD K ta σ H (.tuple ds)) : EvD K (tCB (rLenS K) (tCons ta tNil)) σ H (.int (ds.length : Int)) := fun H1 e Q q =>
  ha H1 e _ fun v H2 e2 r => by
    obtain ⟨a, xs, rfl, hs, hd⟩ := dp_tup r
    exact ⟨a, xs, rfl, .inr hs, q _ H2 e2 (by rw [dpA_len hd]; exact .int _)⟩
theorem ed_lenL (ha : EvD K ta σ H (.list ds)) : EvD K (tCB (rLenS K) (tCons ta tNil)) σ H (.int (ds.length : Int)) := fun H1 e Q q =>
  ha H1 e _ fun v H2 e2 r => by
    obtain ⟨a, xs, rfl, hs, hd⟩ := dp_lst r
    exact ⟨a, xs, rfl, .inl hs, q _ H2 e2 (by rw [dpA_len hd]; exact .int _)⟩
def rListS (K : PySem.W.Frag) : List V → Hp → VK → Prop := fun xs H Q => ∃ p ys, xs = [.ref p] ∧ (SqL K H p ys ∨ SqT K H p ys) ∧ ∀ l, H l = none → Q (.ref l) (upd H l (.lst ys))
theorem ed_listT (ha : EvD K ta σ H (.tuple ds)) : EvD K (tCB (rListS K) (tCons ta tNil)) σ H (.list ds) := fun H1 e Q q =>
  ha H1 e _ fun v H2 e2 r => by
    obtain ⟨a, xs, rfl, hs, hd⟩ := dp_tup r
    exact ⟨a, xs, rfl, .inr hs, fun l hl => q _ _ (e2.trans (Ex.new hl)) (.lst (sq_of upd_same) (dpA_ex (Ex.new hl) _ _ hd))⟩
theorem ed_listL (ha : EvD K ta σ H (.list ds)) : EvD K (tCB (rListS K) (tCons ta tNil)) σ H (.list ds) := fun H1 e Q q =>
  ha H1 e _ fun v H2 e2 r => by
    obtain ⟨a, xs, rfl, hs, hd⟩ := dp_lst r
    exact ⟨a, xs, rfl, .inl hs, fun l hl => q _ _ (e2.trans (Ex.new hl)) (.lst (sq_of upd_same) (dpA_ex (Ex.new hl) _ _ hd))⟩
def rTupS (K : PySem.W.Frag) : List V → Hp → VK → Prop := fun xs H Q => ∃ p ys, xs = [.ref p] ∧ ((SqL K H p ys ∧ ∀ l, H l = none → Q (.ref l) (upd H l (.tup ys))) ∨ (SqT K H p ys ∧ Q (.ref p) H))
theorem ed_tupleL (ha : EvD K ta σ H (.list ds)) : EvD K (tCB (rTupS K) (tCons ta tNil)) σ H (.tuple ds) := fun H1 e Q q =>
  ha H1 e _ fun v H2 e2 r => by
    obtain ⟨a, xs, rfl, hs, hd⟩ := dp_lst r
    exact ⟨a, xs, rfl, .inl ⟨hs, fun l hl => q _ _ (e2.trans (Ex.new hl)) (.tup (st_of upd_same) (dpA_ex (Ex.new hl) _ _ hd))⟩⟩
def rInt1 : List V → Hp → VK → Prop := fun xs H Q => (∃ i, xs = [.int i] ∧ Q (.int i) H) ∨ ∃ k, xs = [.bl k] ∧ Q (.int (if k then 1 else 0)) H
theorem ed_int1 (ha : EvD K ta σ H (.int i)) : EvD K (tCB rInt1 (tCons ta tNil)) σ H (.int i) := fun H1 e Q q =>
  ha H1 e _ fun v H2 e2 r => .inl ⟨i, by rw [dp_int r], q _ H2 e2 (.int _)⟩
def rMax2' : List V → Hp → VK → Prop := fun xs H Q => ∃ i j, xs = [.int i, .int j] ∧ Q (.int (if j > i then j else i)) H
theorem ed_max2 (ha : EvD K ta σ H (.int i)) (hb : EvD K tb σ H (.int j)) : EvD K (tCB rMax2' (tCons ta (tCons tb tNil))) σ H (.int (max i j)) := fun H1 e Q q =>
  ha H1 e _ fun v H2 e2 r => hb H2 (e.trans e2) _ fun w H3 e3 s => ⟨i, j, by rw [dp_int r, dp_int s], q _ H3 (e2.trans e3) (by
    have : (if j > i then j else i) = max i j := by split <;> omega
    rw [this]; exact .int _)⟩
theorem ed_maxL {ns : List Int} {m : Int} (ha : EvD K ta σ H (.list (ns.map PyData.int))) (h1 : m ∈ ns) (h2 : ∀ y ∈ ns, y ≤ m) : EvD K (tCB (rMax K) (tCons ta tNil)) σ H (.int m) := fun H1 e Q q =>
  ha H1 e _ fun v H2 e2 r => by
    obtain ⟨a, xs, rfl, hs, hd⟩ := dp_lst r
    rw [dpA_intsV hd] at hs
    refine ⟨a, ns, rfl, hs, List.length_pos_of_mem h1, fun m' hm hle => q _ H2 e2 ?_⟩
    have : m' = m := by have := h2 m' hm; have := hle m h1; omega
    rw [this]; exact .int _
theorem ed_allL {bs : List Bool} (ha : EvD K ta σ H (.list (bs.map PyData.bool))) : EvD K (tCB (rAll K) (tCons ta tNil)) σ H (.bool (bs.all id)) := fun H1 e Q q =>
  ha H1 e _ fun v H2 e2 r => by
    obtain ⟨a, xs, rfl, hs, hd⟩ := dp_lst r
    rw [dpA_blsV hd] at hs
    exact ⟨a, bs, rfl, hs, q _ H2 e2 (.bl _)⟩
/-- a NEW list of things that read as ds -/
def EvN (K : PySem.W.Frag) (te : TE) (σ : L2.St) (H : Hp) (ds : List PyData) : Prop := ∀ H1, Ex H H1 → ∀ Q : VK, (∀ p xs H2, H1 p = none → Ex H1 H2 → H2 p = some (.lst xs) → DpAll K H2 xs ds → Q (.ref p) H2) → te σ H1 Q
theorem EvN.toD (h : EvN K te σ H ds) : EvD K te σ H (.list ds) := fun H1 e Q q => h H1 e Q fun p xs H2 _ e2 hp r => q _ H2 e2 (.lst (sq_of hp) r)
theorem EvN.mono (e : Ex H H') (h : EvN K te σ H ds) : EvN K te σ H' ds := fun H1 a Q q => h H1 (e.trans a) Q q
theorem EvN.use {Q : VK} (h : EvN K te σ H ds) (q : ∀ p xs H2, H p = none → Ex H H2 → H2 p = some (.lst xs) → DpAll K H2 xs ds → Q (.ref p) H2) : te σ H Q := h H (Ex.refl H) Q q
theorem en_is (h : EvN K te σ H ds) (e : ds = es) : EvN K te σ H es := e ▸ h
theorem en_lst {t : TA} (h : EvDs K t σ H ds) (hl : ds.length ≤ 100000) : EvN K (tLst t) σ H ds := fun H1 e _ q =>
  h H1 e _ fun vs H2 e2 r => ⟨sz_of (by rw [dpA_len r]; exact hl), fun p hp => q p vs _ (fresh_back e2 hp) (e2.trans (Ex.new hp)) upd_same (dpA_ex (Ex.new hp) _ _ r)⟩
theorem en_listT (ha : EvD K ta σ H (.tuple ds)) : EvN K (tCB (rListS K) (tCons ta tNil)) σ H ds := fun H1 e Q q =>
  ha H1 e _ fun v H2 e2 r => by
    obtain ⟨a, xs, rfl, hs, hd⟩ := dp_tup r
    exact ⟨a, xs, rfl, .inr hs, fun l hl => q l xs _ (fresh_back e2 hl) (e2.trans (Ex.new hl)) upd_same (dpA_ex (Ex.new hl) _ _ hd)⟩
theorem en_listL (ha : EvD K ta σ H (.list ds)) : EvN K (tCB (rListS K) (tCons ta tNil)) σ H ds := fun H1 e Q q =>
  ha H1 e _ fun v H2 e2 r => by
    obtain ⟨a, xs, rfl, hs, hd⟩ := dp_lst r
    exact ⟨a, xs, rfl, .inl hs, fun l hl => q l xs _ (fresh_back e2 hl) (e2.trans (Ex.new hl)) upd_same (dpA_ex (Ex.new hl) _ _ hd)⟩
theorem en_cat (ha : EvN K ta σ H ds) (hb : EvN K tb σ H es) (hl : ds.length + es.length ≤ 100000) : EvN K (tOp rCat ta tb) σ H (ds ++ es) := fun H1 e Q q =>
  ha H1 e _ fun p xs H2 hp e2 h2 r => hb H2 (e.trans e2) _ fun p' ys H3 hp' e3 h3 r' =>
    ⟨p, p', xs, ys, rfl, rfl, e3 _ _ h2, h3, sz_of (by rw [dpA_len r, dpA_len r']; exact hl), fun l hl => q l _ _ (fresh_back (e2.trans e3) hl) ((e2.trans e3).trans (Ex.new hl)) upd_same (dpA_ex (Ex.new hl) _ _ (dpA_app (dpA_ex e3 _ _ r) r'))⟩
theorem dpA_flat {H : Hp} {xs : List V} {ds : List PyData} (r : DpAll K H xs ds) : ∀ n : Nat, DpAll K H (List.replicate n xs).flatten (List.replicate n ds).flatten
  | 0 => .nil
  | n + 1 => by
    rw [List.replicate_succ, List.replicate_succ, List.flatten_cons, List.flatten_cons]
    exact dpA_app r (dpA_flat r n)
theorem en_rep1 (ha : EvN K ta σ H [d]) (hb : EvD K tb σ H (.int i)) (hl : -100000 ≤ i ∧ i ≤ 100000) : EvN K (tOp rRep ta tb) σ H (List.replicate i.toNat d) := fun H1 e Q q =>
  ha H1 e _ fun p xs H2 hp e2 h2 r => hb H2 (e.trans e2) _ fun w H3 e3 s => by
    cases r with
    | cons r1 r2 =>
      cases r2
      refine ⟨p, i, _, rfl, dp_int s, e3 _ _ h2, by omega, by omega, sz_of (by simp; omega), fun l hl => q l _ _ (fresh_back (e2.trans e3) hl) ((e2.trans e3).trans (Ex.new hl)) upd_same ?_⟩
      have q2 : (List.replicate i.toNat [d]).flatten = List.replicate i.toNat d := by simp
      rw [← q2]
      exact dpA_flat (.cons (dp_ex (e3.trans (Ex.new hl)) _ _ r1) .nil) i.toNat
/-- slices -/
def EvO' (K : PySem.W.Frag) (to : TO) (σ : L2.St) (H : Hp) (o : Option Int) : Prop := EvO to σ H o
theorem eo_d (h : EvD K te σ H (.int i)) : EvO (tPart te) σ H (some i) := fun H1 e _ q => h H1 e _ fun v H2 e2 r => ⟨i, dp_int r, q H2 e2⟩
theorem cutV_to {xs : List V} {n : Nat} : cutV xs none (some (n : Int)) = xs.take n := by
  unfold cutV
  rw [HT.sIx_none, HT.sIx_nat]
  rw [List.drop_zero]
  by_cases h : n ≤ xs.length
  · rw [Nat.min_eq_left h, Nat.sub_zero]
  · rw [Nat.min_eq_right (by omega), Nat.sub_zero, List.take_of_length_le (Nat.le_refl _), List.take_of_length_le (by omega)]
theorem cutV_from {xs : List V} {n : Nat} : cutV xs (some (n : Int)) none = xs.drop n := by
  unfold cutV
  rw [HT.sIx_none, HT.sIx_nat]
  by_cases h : n ≤ xs.length
  · rw [Nat.min_eq_left h, List.take_of_length_le (by simp)]
  · rw [Nat.min_eq_right (by omega), List.drop_of_length_le (Nat.le_refl _), List.drop_of_length_le (by omega)]
    simp
theorem en_to {n : Nat} (ha : EvD K ta σ H (.list ds)) (hb : EvD K tb σ H (.int i)) (hi : i = (n : Int)) : EvN K (tSl (rSlL K) ta tNoPart (tPart tb)) σ H (ds.take n) := fun H1 e Q q =>
  ha H1 e _ fun v H2 e2 r => eo_none (H := H2) H2 (Ex.refl _) _ fun H3 e3 => eo_d hb H3 ((e.trans e2).trans e3) _ fun H4 e4 => by
    obtain ⟨a, xs, rfl, hs, hd⟩ := dp_lst r
    refine ⟨a, xs, rfl, ex_l (e3.trans e4) hs, fun p hp => q p _ _ (fresh_back ((e2.trans e3).trans e4) hp) (((e2.trans e3).trans e4).trans (Ex.new hp)) upd_same ?_⟩
    rw [hi, cutV_to]
    exact dpA_take n (dpA_ex ((e3.trans e4).trans (Ex.new hp)) _ _ hd)
/-- what a tuple's cut is, the whole or not -/
theorem ed_sl {lo hi : Option Int} {tl th : TO} (ha : EvD K ta σ H (.tuple ds)) (h1 : EvO tl σ H lo) (h2 : EvO th σ H hi) (hc : ∀ (xs : List V) (H : Hp), DpAll K H xs ds → DpAll K H (cutV xs lo hi) es) : EvD K (tSl (rSlA K) ta tl th) σ H (.tuple es) := fun H1 e Q q =>
  ha H1 e _ fun v H2 e2 r => h1 H2 (e.trans e2) _ fun H3 e3 => h2 H3 ((e.trans e2).trans e3) _ fun H4 e4 => by
    obtain ⟨a, xs, rfl, hs, hd⟩ := dp_tup r
    have hs4 := ex_t (e3.trans e4) hs
    have hd4 := dpA_ex (e3.trans e4) _ _ hd
    refine ⟨a, xs, rfl, hs4, fun hw => ?_, fun _ p hp => q _ _ (((e2.trans e3).trans e4).trans (Ex.new hp)) (.tup (st_of upd_same) (dpA_ex (Ex.new hp) _ _ (hc xs _ hd4)))⟩
    have e1 : cutV xs lo hi = xs := by
      unfold cutV
      rw [hw.1, hw.2, List.drop_zero, Nat.sub_zero, List.take_of_length_le (Nat.le_refl _)]
    have := hc xs _ hd4
    rw [e1] at this
    exact q _ H4 ((e2.trans e3).trans e4) (.tup hs4 this)
theorem ed_slTo {n : Nat} (ha : EvD K ta σ H (.tuple ds)) (hb : EvD K tb σ H (.int i)) (hi : i = (n : Int)) : EvD K (tSl (rSlA K) ta tNoPart (tPart tb)) σ H (.tuple (ds.take n)) :=
  ed_sl ha eo_none (eo_d hb) fun xs H h => by rw [hi, cutV_to]; exact dpA_take n h
theorem ed_slFrom {n : Nat} (ha : EvD K ta σ H (.tuple ds)) (hb : EvD K tb σ H (.int i)) (hi : i = (n : Int)) : EvD K (tSl (rSlA K) ta (tPart tb) tNoPart) σ H (.tuple (ds.drop n)) :=
  ed_sl ha (eo_d hb) eo_none fun xs H h => by rw [hi, cutV_from]; exact dpA_drop n h

/-- lists and tuples glued, repeated, cut -/
theorem sq_new {p : Addr} {o : HO} {a : Addr} {xs : List V} (hp : H p = none) (h : SqT K H a xs) : SqT K (upd H p o) a xs := ex_t (Ex.new hp) h
theorem ed_catT (ha : EvD K ta σ H (.tuple ds)) (hb : EvD K tb σ H (.tuple es)) (hl : ds.length + es.length ≤ 100000) : EvD K (tOp (rCatA K) ta tb) σ H (.tuple (ds ++ es)) := fun H1 e Q q =>
  ha H1 e _ fun v H2 e2 r => hb H2 (e.trans e2) _ fun w H3 e3 s => by
    obtain ⟨a, xs, rfl, hs, hd⟩ := dp_tup r
    obtain ⟨b, ys, rfl, hs2, hd2⟩ := dp_tup s
    have hd' := dpA_ex e3 _ _ hd
    refine ⟨a, b, xs, ys, rfl, rfl, ex_t e3 hs, hs2, sz_of (by rw [dpA_len hd, dpA_len hd2]; exact hl), fun hx => ?_, fun _ hy => ?_, fun _ _ p hp => ?_⟩
    · subst hx
      cases hd
      exact q _ H3 (e2.trans e3) (.tup hs2 hd2)
    · subst hy
      cases hd2
      exact q _ H3 (e2.trans e3) (.tup (ex_t e3 hs) (by rw [List.append_nil]; exact hd'))
    · exact q _ _ ((e2.trans e3).trans (Ex.new hp)) (.tup (st_of upd_same) (dpA_ex (Ex.new hp) _ _ (dpA_app hd' hd2)))
end
end KR
end
section
set_option Elab.async false
set_option linter.all false
set_option maxRecDepth 100000
/-! Comprehensions, loops, calls, statements over data. -/
namespace KR
open PySem PySem.Spec PyProof.Rows L2 Evl

structure Iter (K : PySem.W.Frag) (J : It) (H : Hp) (ds : List PyData) : Prop where
  go : ∀ i H3, Ex H H3 → i < ds.length → J.go i H3
  yld : ∀ i H3 x H4, Ex H H3 → i < ds.length → J.yld i H3 x H4 → Ex H3 H4 ∧ ∃ d, ds[i]? = some d ∧ Dp K H4 x d
  stop : ∀ H3, Ex H H3 → J.stop ds.length H3
def EvI (K : PySem.W.Frag) (wi : TI) (σ : L2.St) (H : Hp) (ds : List PyData) : Prop := ∀ H1, Ex H H1 → ∀ R : It → Hp → Prop, (∀ J H2, Ex H1 H2 → Iter K J H2 ds → R J H2) → wi σ H1 R
theorem mapAt {α β : Type} {f : α → β} {xs : List α} {i : Nat} {b : β} (h : (xs.map f)[i]? = some b) : ∃ a, xs[i]? = some a ∧ f a = b ∧ a ∈ xs := by
  rw [List.getElem?_map] at h
  cases e : xs[i]? with
  | none => rw [e] at h; cases h
  | some a => rw [e] at h; exact ⟨a, rfl, Option.some.inj h, List.mem_of_getElem? e⟩
section
variable {K : PySem.W.Frag} {σ : L2.St} {H H' : Hp} {ta tb te : TE} {tt : TT} {d : PyData} {ds es : List PyData} {i j : Int} {wi : TI} {g : TG}
theorem ei_is (h : EvI K wi σ H ds) (e : ds = es) : EvI K wi σ H es := e ▸ h
theorem ei_list (h : EvD K ta σ H (.list ds)) : EvI K (iList K ta) σ H ds := fun H1 e R k => h H1 e _ fun v H2 e2 r => by
  obtain ⟨a, xs, rfl, hs, hd⟩ := dp_lst r
  refine ⟨a, rfl, ⟨xs, hs⟩, k _ H2 e2 ⟨fun i H3 e3 hi => ?_, fun i H3 x H4 e3 hi hy => ?_, fun H3 e3 => ⟨xs, ex_l e3 hs, by rw [dpA_len hd]; exact Nat.le_refl _⟩⟩⟩
  · exact ⟨xs, xs[i]'(by rw [dpA_len hd]; exact hi), ex_l e3 hs, by simp [dpA_len hd, hi]⟩
  · obtain ⟨rfl, hx⟩ := hy
    obtain ⟨d, h1, h2⟩ := dpA_getV hd (hx xs (ex_l e3 hs))
    exact ⟨Ex.refl _, d, h1, dp_ex e3 _ _ h2⟩
theorem ei_tup (h : EvD K ta σ H (.tuple ds)) : EvI K (iTup K ta) σ H ds := fun H1 e R k => h H1 e _ fun v H2 e2 r => by
  obtain ⟨a, xs, rfl, hs, hd⟩ := dp_tup r
  refine ⟨a, rfl, ⟨xs, hs⟩, k _ H2 e2 ⟨fun i H3 e3 hi => ?_, fun i H3 x H4 e3 hi hy => ?_, fun H3 e3 => ⟨xs, ex_t e3 hs, by rw [dpA_len hd]; exact Nat.le_refl _⟩⟩⟩
  · exact ⟨xs, xs[i]'(by rw [dpA_len hd]; exact hi), ex_t e3 hs, by simp [dpA_len hd, hi]⟩
  · obtain ⟨rfl, hx⟩ := hy
    obtain ⟨d, h1, h2⟩ := dpA_getV hd (hx xs (ex_t e3 hs))
    exact ⟨Ex.refl _, d, h1, dp_ex e3 _ _ h2⟩
theorem rangeAt {n i : Nat} {f : Nat → PyData} (h : i < n) : ((List.range n).map f)[i]? = some (f i) := by
  rw [List.getElem?_map, List.getElem?_range h]; rfl
theorem ei_rng1 {t : TA} (h : EvDs K t σ H [.int i]) (hi : -100000 ≤ i ∧ i ≤ 100000) : EvI K (iRng1 t) σ H ((List.range i.toNat).map fun (k : Nat) => .int (k : Int)) := fun H1 e R k => h H1 e _ fun vs H2 e2 r => by
  cases r with
  | cons r1 r2 =>
    cases r2; cases r1
    refine ⟨i, rfl, by omega, by omega, k _ H2 e2 ⟨fun m H3 e3 hm => ?_, fun m H3 x H4 e3 hm hy => ?_, fun H3 e3 => ?_⟩⟩
    · rw [List.length_map, List.length_range] at hm; exact hm
    · rw [List.length_map, List.length_range] at hm
      obtain ⟨rfl, rfl⟩ := hy
      exact ⟨Ex.refl _, _, rangeAt hm, by rw [Int.zero_add]; exact .int _⟩
    · show i.toNat ≤ _; rw [List.length_map, List.length_range]; exact Nat.le_refl _
theorem ei_rng2 {t : TA} (h : EvDs K t σ H [.int i, .int j]) (hi : -100000 ≤ i ∧ i ≤ 100000) (hj : -100000 ≤ j ∧ j ≤ 100000) : EvI K (iRng2 t) σ H ((List.range (j - i).toNat).map fun (k : Nat) => .int (i + k)) := fun H1 e R k => h H1 e _ fun vs H2 e2 r => by
  cases r with
  | cons r1 r2 =>
    cases r2 with
    | cons r2 r3 =>
    cases r3; cases r1; cases r2
    refine ⟨i, j, rfl, ⟨by omega, by omega, by omega, by omega⟩, k _ H2 e2 ⟨fun m H3 e3 hm => ?_, fun m H3 x H4 e3 hm hy => ?_, fun H3 e3 => ?_⟩⟩
    · rw [List.length_map, List.length_range] at hm; exact hm
    · rw [List.length_map, List.length_range] at hm
      obtain ⟨rfl, rfl⟩ := hy
      exact ⟨Ex.refl _, _, rangeAt hm, .int _⟩
    · show (j - i).toNat ≤ _; rw [List.length_map, List.length_range]; exact Nat.le_refl _
theorem zipAt {ds es : List PyData} {i : Nat} {d e : PyData} (h : ds[i]? = some d) (h2 : es[i]? = some e) : (List.zipWith (fun a b => PyData.tuple [a, b]) ds es)[i]? = some (.tuple [d, e]) := by
  rw [List.getElem?_zipWith, h, h2]
theorem ei_zipL {t : TA} (h : EvDs K t σ H [.list ds, .list es]) : EvI K (RZ.iZipA K t) σ H (List.zipWith (fun a b => .tuple [a, b]) ds es) := fun H1 e R k => h H1 e _ fun vs H2 e2 r => by
  cases r with
  | cons r1 r2 =>
    cases r2 with
    | cons r2 r3 =>
    cases r3
    obtain ⟨a, xs, rfl, hs, hd⟩ := dp_lst r1
    obtain ⟨b, ys, rfl, hs2, hd2⟩ := dp_lst r2
    refine ⟨a, b, xs, ys, rfl, .inl ⟨hs, hs2, k _ H2 e2 ⟨fun m H3 e3 hm => ?_, fun m H3 x H4 e3 hm hy => ?_, fun H3 e3 => ?_⟩⟩⟩
    · rw [List.length_zipWith] at hm
      exact ⟨xs, ys, xs[m]'(by rw [dpA_len hd]; omega), ys[m]'(by rw [dpA_len hd2]; omega), ex_l e3 hs, ex_l e3 hs2, by simp, by simp⟩
    · obtain ⟨T, x1, y1, rfl, nT, rfl, f1, f2⟩ := hy
      obtain ⟨d1, q1, q2⟩ := dpA_getV hd (f1 xs (ex_l e3 hs))
      obtain ⟨d2, q3, q4⟩ := dpA_getV hd2 (f2 ys (ex_l e3 hs2))
      exact ⟨Ex.new nT, _, zipAt q1 q3, .tup (st_of upd_same) (.cons (dp_ex (e3.trans (Ex.new nT)) _ _ q2) (.cons (dp_ex (e3.trans (Ex.new nT)) _ _ q4) .nil))⟩
    · refine ⟨xs, ys, ex_l e3 hs, ex_l e3 hs2, ?_⟩
      rw [List.length_zipWith, dpA_len hd, dpA_len hd2]; omega
theorem ei_zipT {t : TA} (h : EvDs K t σ H [.tuple ds, .tuple es]) : EvI K (RZ.iZipA K t) σ H (List.zipWith (fun a b => .tuple [a, b]) ds es) := fun H1 e R k => h H1 e _ fun vs H2 e2 r => by
  cases r with
  | cons r1 r2 =>
    cases r2 with
    | cons r2 r3 =>
    cases r3
    obtain ⟨a, xs, rfl, hs, hd⟩ := dp_tup r1
    obtain ⟨b, ys, rfl, hs2, hd2⟩ := dp_tup r2
    refine ⟨a, b, xs, ys, rfl, .inr ⟨hs, hs2, k _ H2 e2 ⟨fun m H3 e3 hm => ?_, fun m H3 x H4 e3 hm hy => ?_, fun H3 e3 => ?_⟩⟩⟩
    · rw [List.length_zipWith] at hm
      exact ⟨xs, ys, xs[m]'(by rw [dpA_len hd]; omega), ys[m]'(by rw [dpA_len hd2]; omega), ex_t e3 hs, ex_t e3 hs2, by simp, by simp⟩
    · obtain ⟨T, x1, y1, rfl, nT, rfl, f1, f2⟩ := hy
      obtain ⟨d1, q1, q2⟩ := dpA_getV hd (f1 xs (ex_t e3 hs))
      obtain ⟨d2, q3, q4⟩ := dpA_getV hd2 (f2 ys (ex_t e3 hs2))
      exact ⟨Ex.new nT, _, zipAt q1 q3, .tup (st_of upd_same) (.cons (dp_ex (e3.trans (Ex.new nT)) _ _ q2) (.cons (dp_ex (e3.trans (Ex.new nT)) _ _ q4) .nil))⟩
    · refine ⟨xs, ys, ex_t e3 hs, ex_t e3 hs2, ?_⟩
      rw [List.length_zipWith, dpA_len hd, dpA_len hd2]; omega

/-! ### comprehensions -/
theorem exT_lst {p : Addr} {xs ys : List V} (h : H p = some (.lst xs)) : ExT H (upd H p (.lst ys)) := fun a o ha n1 _ _ => by
  by_cases e : a = p
  · rw [e, h] at ha; exact absurd (Option.some.inj ha).symm (n1 xs)
  · rw [upd_ne e]; exact ha
theorem take_at {α : Type} {xs : List α} {i : Nat} {a : α} (h : xs[i]? = some a) : xs.take (i + 1) = xs.take i ++ [a] := by
  rw [List.take_add_one, h]; rfl
/-- the elements: data without lists -/
theorem en_lcG {α : Type} {vs : List Nat} (xs : List α) (em : α → PyData) (keep : α → Bool) (out : α → PyData) (hI : EvI K wi σ H (xs.map em)) (hn : xs.length ≤ 50000) (hf : ∀ a ∈ xs, flatD (out a) = true)
    (turn : ∀ a v H', a ∈ xs → Ex H H' → Dp K H' v (em a) → ∀ Q' : L2.St → Hp → Prop, (∀ σ2 H2, Ex H' H2 → wipe σ2 vs = wipe σ vs → EvT tt σ2 H2 (keep a) → (keep a = true → EvD K te σ2 H2 (out a)) → Q' σ2 H2) → g v (wipe σ vs) H' Q') :
    EvN K (tLc wi g tt te vs) σ H ((xs.filter keep).map out) := fun H0 e0 Q q => hI H0 e0 _ fun J H1 e1 it Dl hD => by
  refine ⟨fun i m H' => m = xs.length - i ∧ i ≤ xs.length ∧ Ex H1 H' ∧ ∃ acc, H' Dl = some (.lst acc) ∧ DpAll K H' acc (((xs.take i).filter keep).map out), ⟨xs.length, by omega, Nat.zero_le _, Ex.new hD, [], upd_same, .nil⟩, ?_⟩
  rintro i m H' ⟨rfl, hi, e2, acc, hacc, hr⟩
  by_cases hlt : i < xs.length
  · have hlt' : i < (xs.map em).length := by rw [List.length_map]; exact hlt
    refine .inr ⟨it.go i H' e2 hlt', fun H'' => i + 1 ≤ xs.length ∧ Ex H1 H'' ∧ ∃ acc, H'' Dl = some (.lst acc) ∧ DpAll K H'' acc (((xs.take (i + 1)).filter keep).map out), fun H'' ⟨h1, h2, h3⟩ => ⟨_, by omega, rfl, h1, h2, h3⟩, fun x H3 hy => ?_⟩
    obtain ⟨e3, d, hd, rd⟩ := it.yld i H' x H3 e2 hlt' hy
    obtain ⟨a, ha, rfl, hm⟩ := mapAt hd
    have len1 : acc.length ≤ xs.length := by
      rw [dpA_len hr, List.length_map]
      exact Nat.le_trans (List.length_filter_le _ _) (by rw [List.length_take]; omega)
    have hfl : flatDs (((xs.take i).filter keep).map out) = true := by
      have : ∀ l : List α, (∀ a ∈ l, flatD (out a) = true) → flatDs (l.map out) = true := fun l => by
        induction l with
        | nil => intro _; rfl
        | cons a l ih => intro h; simp [flatDs, h a (by simp), ih fun b hb => h b (by simp [hb])]
      exact this _ fun b hb => hf b (List.mem_of_mem_take (List.mem_filter.mp hb).1)
    refine turn a x H3 hm (((e0.trans e1).trans e2).trans e3) rd _ fun σ2 H4 e4 hw ht he => ⟨hw, ht H4 (Ex.refl _) _ fun H5 e5 => ?_⟩
    have s1 : Ex H' H5 := (e3.trans e4).trans e5
    cases hk : keep a with
    | true =>
      show te σ2 H5 fun y H6 => ∃ acc, H6 Dl = some (.lst acc) ∧ acc.length < sizeLine ∧ _
      refine he hk H5 e5 _ fun y H6 e6 ry => ⟨acc, e6 _ _ (s1 _ _ hacc), sz_lt (by omega), by omega, Ex.mut (((e2.trans s1)).trans e6) hD, acc ++ [y], upd_same, ?_⟩
      rw [take_at ha, List.filter_append, List.map_append]
      have ef : [a].filter keep = [a] := by simp [hk]
      rw [ef]
      have hx := exT_lst (ys := acc ++ [y]) (e6 _ _ (s1 _ _ hacc))
      exact dpA_app (dpA_exT hx _ _ hfl (dpA_ex (s1.trans e6) _ _ hr)) (.cons (dp_exT hx _ _ (hf a hm) ry) .nil)
    | false =>
      show i + 1 ≤ xs.length ∧ _
      refine ⟨by omega, e2.trans s1, acc, s1 _ _ hacc, ?_⟩
      rw [take_at ha, List.filter_append, List.map_append]
      have ef : [a].filter keep = [] := by simp [hk]
      rw [ef, List.map_nil, List.append_nil]
      exact dpA_ex s1 _ _ hr
  · have ei : i = xs.length := by omega
    subst ei
    refine .inl ⟨?_, ?_⟩
    · have := it.stop H' e2
      rw [List.length_map] at this
      exact this
    · rw [List.take_of_length_le (Nat.le_refl _)] at hr
      exact q Dl acc H' (fresh_back e1 hD) (e1.trans e2) hacc hr
theorem en_lc {α : Type} {j : Nat} {vs : List Nat} (xs : List α) (em : α → PyData) (keep : α → Bool) (out : α → PyData) (hI : EvI K wi σ H (xs.map em)) (hn : xs.length ≤ 50000) (hf : ∀ a ∈ xs, flatD (out a) = true)
    (hw : ∀ x, wipe ((wipe σ vs).set j (some x)) vs = wipe σ vs)
    (ht : ∀ a v H', a ∈ xs → Ex H H' → Dp K H' v (em a) → EvT tt ((wipe σ vs).set j (some v)) H' (keep a))
    (he : ∀ a v H', a ∈ xs → keep a = true → Ex H H' → Dp K H' v (em a) → EvD K te ((wipe σ vs).set j (some v)) H' (out a)) :
    EvN K (tLc wi (gName j) tt te vs) σ H ((xs.filter keep).map out) :=
  en_lcG xs em keep out hI hn hf fun a v H' ha e r Q' k => k _ H' (Ex.refl _) (hw v) (ht a v H' ha e r) fun hk => he a v H' ha hk e r
theorem et_yes : EvT tYes σ H true := fun H1 _ _ q => q H1 (Ex.refl H1)
theorem filter_true {α : Type} (xs : List α) : xs.filter (fun _ => true) = xs := by simp
theorem en_lc0 {α : Type} {j : Nat} {vs : List Nat} (xs : List α) (em out : α → PyData) (hI : EvI K wi σ H (xs.map em)) (hn : xs.length ≤ 50000) (hf : ∀ a ∈ xs, flatD (out a) = true)
    (hw : ∀ x, wipe ((wipe σ vs).set j (some x)) vs = wipe σ vs)
    (he : ∀ a v H', a ∈ xs → Ex H H' → Dp K H' v (em a) → EvD K te ((wipe σ vs).set j (some v)) H' (out a)) :
    EvN K (tLc wi (gName j) tYes te vs) σ H (xs.map out) :=
  en_is (en_lc xs em (fun _ => true) out hI hn hf hw (fun _ _ _ _ _ _ => et_yes) fun a v H' ha _ e r => he a v H' ha e r) (by rw [filter_true])
abbrev gTwo (K : PySem.W.Frag) (j k : Nat) : TG := gTup K 2 (gCons (gName j) (gCons (gName k) gNil))
theorem two_of {v : V} {d1 d2 : PyData} {σ' : L2.St} {Q' : L2.St → Hp → Prop} {j k : Nat} (r : Dp K H v (.tuple [d1, d2])) (h : ∀ x y, Dp K H x d1 → Dp K H y d2 → Q' ((σ'.set j (some x)).set k (some y)) H) : gTwo K j k v σ' H Q' := by
  obtain ⟨a, xs, rfl, hs, hd⟩ := dp_tup r
  cases hd with
  | cons r1 r2 =>
    cases r2 with
    | cons r2 r3 =>
      cases r3
      exact ⟨a, _, rfl, hs, rfl, _, _, rfl, _, _, rfl, rfl, h _ _ r1 r2⟩
/-- pairs -/
theorem en_lcP {α β : Type} {j k : Nat} {vs : List Nat} (xs : List (α × β)) (e1 : α → PyData) (e2 : β → PyData) (keep : α × β → Bool) (out : α × β → PyData) (hI : EvI K wi σ H (xs.map fun p => .tuple [e1 p.1, e2 p.2])) (hn : xs.length ≤ 50000) (hf : ∀ a ∈ xs, flatD (out a) = true)
    (hw : ∀ x y, wipe (((wipe σ vs).set j (some x)).set k (some y)) vs = wipe σ vs)
    (ht : ∀ a v w H', a ∈ xs → Ex H H' → Dp K H' v (e1 a.1) → Dp K H' w (e2 a.2) → EvT tt (((wipe σ vs).set j (some v)).set k (some w)) H' (keep a))
    (he : ∀ a v w H', a ∈ xs → keep a = true → Ex H H' → Dp K H' v (e1 a.1) → Dp K H' w (e2 a.2) → EvD K te (((wipe σ vs).set j (some v)).set k (some w)) H' (out a)) :
    EvN K (tLc wi (gTwo K j k) tt te vs) σ H ((xs.filter keep).map out) :=
  en_lcG xs _ keep out hI hn hf fun a v H' ha e r Q' k' => two_of r fun x y r1 r2 => k' _ H' (Ex.refl _) (hw x y) (ht a x y H' ha e r1 r2) fun hk => he a x y H' ha hk e r1 r2
theorem en_lcP0 {α β : Type} {j k : Nat} {vs : List Nat} (xs : List (α × β)) (e1 : α → PyData) (e2 : β → PyData) (out : α × β → PyData) (hI : EvI K wi σ H (xs.map fun p => .tuple [e1 p.1, e2 p.2])) (hn : xs.length ≤ 50000) (hf : ∀ a ∈ xs, flatD (out a) = true)
    (hw : ∀ x y, wipe (((wipe σ vs).set j (some x)).set k (some y)) vs = wipe σ vs)
    (he : ∀ a v w H', a ∈ xs → Ex H H' → Dp K H' v (e1 a.1) → Dp K H' w (e2 a.2) → EvD K te (((wipe σ vs).set j (some v)).set k (some w)) H' (out a)) :
    EvN K (tLc wi (gTwo K j k) tYes te vs) σ H (xs.map out) :=
  en_is (en_lcP xs e1 e2 (fun _ => true) out hI hn hf hw (fun _ _ _ _ _ _ _ _ => et_yes) fun a v w H' ha _ e r1 r2 => he a v w H' ha e r1 r2) (by rw [filter_true])
theorem zip_data {α β : Type} {e1 : α → PyData} {e2 : β → PyData} : ∀ (as : List α) (bs : List β), List.zipWith (fun a b => PyData.tuple [a, b]) (as.map e1) (bs.map e2) = (as.zip bs).map fun p => .tuple [e1 p.1, e2 p.2]
  | [], _ => by simp
  | _ :: _, [] => by simp
  | a :: as, b :: bs => by simp [zip_data as bs]

/-! ### a new list of new lists -/
def LLs (K : PySem.W.Frag) (H : Hp) (Dl : Addr) (vs : List V) (rows : List (List PyData)) : Prop :=
  vs.length = rows.length ∧ ∀ (i : Nat) (r : List PyData), rows[i]? = some r → ∃ (p : Addr) (xs : List V), vs[i]? = some (V.ref p) ∧ p ≠ Dl ∧ H p = some (.lst xs) ∧ DpAll K H xs r
def FlatRows (rows : List (List PyData)) : Prop := ∀ r ∈ rows, flatDs r = true
theorem LLs.ex {Dl : Addr} {vs : List V} {rows : List (List PyData)} (e : Ex H H') (h : LLs K H Dl vs rows) : LLs K H' Dl vs rows :=
  ⟨h.1, fun i r hr => let ⟨p, xs, h1, h2, h3, h4⟩ := h.2 i r hr; ⟨p, xs, h1, h2, e _ _ h3, dpA_ex e _ _ h4⟩⟩
/-- the outer list is written -/
theorem LLs.outer {Dl : Addr} {vs ws us : List V} {rows : List (List PyData)} (hD : H Dl = some (.lst us)) (fr : FlatRows rows) (h : LLs K H Dl vs rows) : LLs K (upd H Dl (.lst ws)) Dl vs rows :=
  ⟨h.1, fun i r hr => let ⟨p, xs, h1, h2, h3, h4⟩ := h.2 i r hr; ⟨p, xs, h1, h2, by rw [upd_ne h2]; exact h3, dpA_exT (exT_lst hD) _ _ (fr r (List.mem_of_getElem? hr)) h4⟩⟩
theorem LLs.dp {Dl : Addr} : ∀ {vs : List V} {rows : List (List PyData)}, LLs K H Dl vs rows → DpAll K H vs (rows.map .list)
  | [], [], _ => .nil
  | [], r :: rows, h => absurd h.1 (by simp)
  | v :: vs, [], h => absurd h.1 (by simp)
  | v :: vs, r :: rows, h => by
    obtain ⟨p, xs, h1, h2, h3, h4⟩ := h.2 0 r rfl
    have e : v = .ref p := Option.some.inj h1
    refine .cons (by rw [e]; exact .lst (sq_of h3) h4) (LLs.dp ⟨by have := h.1; simpa using this, fun i r hr => h.2 (i + 1) r hr⟩)
def EvLL (K : PySem.W.Frag) (te : TE) (σ : L2.St) (H : Hp) (rows : List (List PyData)) : Prop := ∀ H1, Ex H H1 → ∀ Q : VK, (∀ Dl vs H2, H1 Dl = none → Ex H1 H2 → H2 Dl = some (.lst vs) → LLs K H2 Dl vs rows → Q (.ref Dl) H2) → te σ H1 Q
theorem EvLL.toN {rows : List (List PyData)} (h : EvLL K te σ H rows) : EvN K te σ H (rows.map .list) := fun H1 e Q q => h H1 e Q fun p vs H2 h1 h2 h3 h4 => q p vs H2 h1 h2 h3 h4.dp
theorem ell_lc {α : Type} {j : Nat} {vs : List Nat} (xs : List α) (em : α → PyData) (out : α → List PyData) (hI : EvI K wi σ H (xs.map em)) (hn : xs.length ≤ 50000) (hf : ∀ a ∈ xs, flatDs (out a) = true)
    (hw : ∀ x, wipe ((wipe σ vs).set j (some x)) vs = wipe σ vs)
    (he : ∀ a v H', a ∈ xs → Ex H H' → Dp K H' v (em a) → EvN K te ((wipe σ vs).set j (some v)) H' (out a)) :
    EvLL K (tLc wi (gName j) tYes te vs) σ H (xs.map out) := fun H0 e0 Q q => hI H0 e0 _ fun J H1 e1 it Dl hD => by
  refine ⟨fun i m H' => m = xs.length - i ∧ i ≤ xs.length ∧ Ex H1 H' ∧ ∃ acc, H' Dl = some (.lst acc) ∧ LLs K H' Dl acc ((xs.take i).map out), ⟨xs.length, by omega, Nat.zero_le _, Ex.new hD, [], upd_same, rfl, fun i r h => by simp at h⟩, ?_⟩
  rintro i m H' ⟨rfl, hi, e2, acc, hacc, hr⟩
  by_cases hlt : i < xs.length
  · have hlt' : i < (xs.map em).length := by rw [List.length_map]; exact hlt
    refine .inr ⟨it.go i H' e2 hlt', fun H'' => i + 1 ≤ xs.length ∧ Ex H1 H'' ∧ ∃ acc, H'' Dl = some (.lst acc) ∧ LLs K H'' Dl acc ((xs.take (i + 1)).map out), fun H'' ⟨h1, h2, h3⟩ => ⟨_, by omega, rfl, h1, h2, h3⟩, fun x H3 hy => ?_⟩
    obtain ⟨e3, d, hd, rd⟩ := it.yld i H' x H3 e2 hlt' hy
    obtain ⟨a, ha, rfl, hm⟩ := mapAt hd
    have len1 : acc.length = i := by
      rw [hr.1, List.length_map, List.length_take]; omega
    refine ⟨hw x, he a x H3 hm (((e0.trans e1).trans e2).trans e3) rd H3 (Ex.refl _) _ fun p ys H6 hp e6 h6 r6 => ?_⟩
    have s1 : Ex H' H6 := e3.trans e6
    have hD3 : H3 Dl = some (.lst acc) := e3 _ _ hacc
    have hne : p ≠ Dl := fun z => by rw [z, hD3] at hp; cases hp
    refine ⟨acc, s1 _ _ hacc, sz_lt (by omega), by omega, Ex.mut (e2.trans s1) hD, acc ++ [.ref p], upd_same, ?_⟩
    have fr : FlatRows ((xs.take i).map out) := fun r hr => by
      obtain ⟨b, hb, rfl⟩ := List.mem_map.mp hr
      exact hf b (List.mem_of_mem_take hb)
    have base := (hr.ex s1).outer (ws := acc ++ [.ref p]) (s1 _ _ hacc) fr
    rw [take_at ha, List.map_append]
    refine ⟨by rw [List.length_append, List.length_append, base.1] <;> rfl, fun k r hk => ?_⟩
    by_cases hki : k < i
    · rw [List.getElem?_append_left (by rw [List.length_map, List.length_take]; omega)] at hk
      obtain ⟨p', xs', h1, h2, h3, h4⟩ := base.2 k r hk
      exact ⟨p', xs', by rw [List.getElem?_append_left (by omega)]; exact h1, h2, h3, h4⟩
    · rw [List.getElem?_append_right (by rw [List.length_map, List.length_take]; omega)] at hk
      have hk0 : k - ((xs.take i).map out).length = 0 := by
        by_cases z : k - ((xs.take i).map out).length = 0
        · exact z
        · rw [List.getElem?_eq_none (by simp only [List.map_cons, List.map_nil, List.length_cons, List.length_nil]; omega)] at hk; cases hk
      have hki' : k = i := by rw [List.length_map, List.length_take] at hk0; omega
      rw [hk0] at hk
      have er : out a = r := Option.some.inj hk
      refine ⟨p, ys, by rw [List.getElem?_append_right (by omega), len1, hki', Nat.sub_self]; rfl, hne, by rw [upd_ne hne]; exact h6, ?_⟩
      rw [← er]
      exact dpA_exT (exT_lst (s1 _ _ hacc)) _ _ (hf a hm) r6
  · have ei : i = xs.length := by omega
    subst ei
    refine .inl ⟨?_, ?_⟩
    · have := it.stop H' e2
      rw [List.length_map] at this
      exact this
    · rw [List.take_of_length_le (Nat.le_refl _)] at hr
      exact q Dl acc H' (fresh_back e1 hD) (e1.trans e2) hacc hr

/-! ### calls -/
/-- a def that gives data: α its ghosts -/
def spF {α : Type} (K : PySem.W.Frag) (arg : α → List PyData) (pre : α → Prop) (res : α → PyData) : Sp := fun vs H Q _ => ∃ a, pre a ∧ DpAll K H vs (arg a) ∧ ∀ v H', Ex H H' → Dp K H' v (res a) → Q v H'
theorem ed_call {α : Type} {arg : α → List PyData} {pre : α → Prop} {res : α → PyData} {t : TA} (a : α) (h : EvDs K t σ H (arg a)) (hp : pre a) : EvD K (tCall (spF K arg pre res) [] E0 t) σ H (res a) := fun H1 e Q q =>
  h H1 e _ fun vs H2 e2 r => ⟨a, hp, by rw [List.append_nil]; exact r, fun v H3 e3 s => q v H3 (e2.trans e3) s⟩
/-- a def of the module that keeps a promise -/
def Ok (P : Program) (w : World) (K : PySem.W.Frag) (mg : Str → Option Value) (base : Heap) (x : Str) (ps : List Str) (k : Nat) (sp : Sp) : Prop :=
  ∃ f fd, FnOk P w K mg base CX0 k f fd ps sp ∧ Binds K fd ps [] ∧ mg x = some (.ref f) ∧ PySem.W.keepIn K (.ref f) = true ∧ ∃ oc od osl, K.lookup f = some ⟨oc, od, .func fd, osl⟩
theorem pe_ok {X : Cx} {x : Str} {e : Expr} {es : List Expr} {p pos : Pos} {t : TA} {ps : List Str} {k : Nat} {sp : Sp} (O : Ok X.prog X.w X.K X.mg X.base x ps k sp) (hr : Room k X.A) (hg : Gl X x) (ha : PA X (e :: es) t)
    (hdb : (x == ("__debug__" : Str)) = false := by decide) (he : starEach (e :: es) X.env = (false, eval e X.env) :: starEach es X.env := by rfl) (hpl : (backTo pos (starEach es X.env)).any (·.1) = false := by rfl) : PE X (.Call (.Name x p) (e :: es) [] pos) (tCall sp [] E0 t) := by
  obtain ⟨f, fd, F, b, g, kp, _⟩ := O
  exact pe_call F hr hg g kp b .nil pass0 ha (hdb := hdb) (he := he) (hpl := hpl)

/-- a promise with ghosts -/
theorem Ok.any {P : Program} {w : World} {K : PySem.W.Frag} {mg : Str → Option Value} {base : Heap} {x : Str} {ps : List Str} {k : Nat} {ι : Type} {sp : ι → Sp} (i0 : ι) (h : ∀ i, Ok P w K mg base x ps k (sp i)) : Ok P w K mg base x ps k (fun vs H Q E => ∃ i, sp i vs H Q E) := by
  obtain ⟨f, fd, F, b, g, kp, oc, od, osl, lk⟩ := h i0
  have all : ∀ i, FnOk P w K mg base CX0 k f fd ps (sp i) := fun i => by
    obtain ⟨f', fd', F', b', g', kp', oc', od', osl', lk'⟩ := h i
    rw [g] at g'
    cases g'
    rw [lk] at lk'
    cases lk'
    exact F'
  exact ⟨f, fd, ⟨fun vs H Q E ⟨i, q⟩ => (all i).len vs H Q E q, fun A outer s H args us vs Q E hr he hb hv ⟨i, q⟩ => (all i).run A outer s H args us vs Q E hr he hb hv q⟩, b, g, kp, oc, od, osl, lk⟩

/-! ### statements -/
variable {D : Ends} {tu tw tz : TS}
theorem sd_asg {i : Nat} (h : EvD K te σ H d) (k : ∀ v H1, Ex H H1 → Dp K H1 v d → D.nx (σ.set i (some v)) H1) : tAsg te (gName i) D σ H := h H (Ex.refl H) _ k
theorem sn_asg {i : Nat} (h : EvN K te σ H ds) (k : ∀ p xs H1, H p = none → Ex H H1 → H1 p = some (.lst xs) → DpAll K H1 xs ds → D.nx (σ.set i (some (.ref p))) H1) : tAsg te (gName i) D σ H := h H (Ex.refl H) _ k
theorem sd_ret (h : EvD K te σ H d) (k : ∀ v H1, Ex H H1 → Dp K H1 v d → D.rt v H1) : tRet te D σ H := h H (Ex.refl H) _ k
theorem sd_if {b : Bool} {t : TT} (h : EvT t σ H b) (h1 : b = true → ∀ H1, Ex H H1 → tu D σ H1) (h2 : b = false → ∀ H1, Ex H H1 → tw D σ H1) : tIfS t tu tw D σ H := s_if h h1 h2
theorem qd_asg {i : Nat} (h : EvD K te σ H d) (k : ∀ v H1, Ex H H1 → Dp K H1 v d → tz D (σ.set i (some v)) H1) : tSeq (tAsg te (gName i)) tz D σ H := h H (Ex.refl H) _ k
theorem qn_asg {i : Nat} (h : EvN K te σ H ds) (k : ∀ p xs H1, H p = none → Ex H H1 → H1 p = some (.lst xs) → DpAll K H1 xs ds → tz D (σ.set i (some (.ref p))) H1) : tSeq (tAsg te (gName i)) tz D σ H := h H (Ex.refl H) _ k
theorem qll_asg {i : Nat} {rows : List (List PyData)} (h : EvLL K te σ H rows) (k : ∀ p xs H1, H p = none → Ex H H1 → H1 p = some (.lst xs) → LLs K H1 p xs rows → tz D (σ.set i (some (.ref p))) H1) : tSeq (tAsg te (gName i)) tz D σ H := h H (Ex.refl H) _ k
theorem q_when' {b : Bool} {t : TT} (h : EvT t σ H b) (h1 : b = true → ∀ H1, Ex H H1 → tu { D with nx := tz D } σ H1) (h2 : b = false → ∀ H1, Ex H H1 → tz D σ H1) : tSeq (tIfS t tu tNext) tz D σ H := s_if (D := { D with nx := tz D }) h h1 h2
theorem q_if' {b : Bool} {t : TT} (h : EvT t σ H b) (h1 : b = true → ∀ H1, Ex H H1 → tu { D with nx := tz D } σ H1) (h2 : b = false → ∀ H1, Ex H H1 → tw { D with nx := tz D } σ H1) : tSeq (tIfS t tu tw) tz D σ H := s_if (D := { D with nx := tz D }) h h1 h2
/-- a for, by a word of the turn: pure sources -/
theorem s_for (hI : EvI K wi σ H ds) (Pv : Nat → L2.St → Hp → Prop) (h0 : ∀ H1, Ex H H1 → Pv 0 σ H1)
    (hs : ∀ (H0 : Hp), Ex H H0 → ∀ (i : Nat) d x σ' H', ds[i]? = some d → (∀ a o, H0 a = some o → H' a = some o) → Dp K H' x d → Pv i σ' H' → g x σ' H' fun σ2 H2 => tu { D with nx := Pv (i + 1), ct := Pv (i + 1), bk := D.nx } σ2 H2)
    (hk : ∀ (H0 : Hp), Ex H H0 → ∀ i σ' H', Pv i σ' H' → Ex H0 H') (hm : ∀ i σ' H' H'', Ex H' H'' → Pv i σ' H' → Pv i σ' H'') (hd : ∀ σ' H', Pv ds.length σ' H' → D.nx σ' H') : tFor wi g tu D σ H :=
  hI H (Ex.refl H) _ fun J H1 e1 it => by
    refine ⟨fun i m σ' H' => m = ds.length - i ∧ i ≤ ds.length ∧ Pv i σ' H', ⟨ds.length, by omega, Nat.zero_le _, h0 H1 e1⟩, ?_⟩
    rintro i m σ' H' ⟨rfl, hi, p⟩
    have e2 := hk H1 e1 i σ' H' p
    by_cases hlt : i < ds.length
    · refine .inr ⟨it.go i H' e2 hlt, Pv (i + 1), fun σ'' H'' p' => ⟨_, by omega, rfl, hlt, p'⟩, fun x H3 hy => ?_⟩
      obtain ⟨e3, d, hd', rd⟩ := it.yld i H' x H3 e2 hlt hy
      exact hs H1 e1 i d x σ' H3 hd' (e2.trans e3) rd (hm i σ' H' H3 e3 p)
    · have ei : i = ds.length := by omega
      subst ei
      exact .inl ⟨it.stop H' e2, hd σ' H' p⟩
end
end KR
end
section
set_option Elab.async false
set_option linter.all false
set_option maxRecDepth 100000
set_option maxHeartbeats 2000000
/-! enumerate of a tuple; zip of a tuple and a list. -/
namespace KX
open PySem PySem.Spec PyProof.Rows L2 Evl KR

theorem meets_enumerate_newB1 {v : Value} {o : Obj} {H : Heap → Prop} (B : Begins v o H) :
    Meets (Builtin.«enumerate.__new__» ⟨[.type "enumerate", v], []⟩) (fun _ R s => H s.heap ∧
      R (.ok (.ret (.ref (s.heap.push o).objs.size))) { s with heap := (s.heap.push o).push { cls := .type "enumerate", data := .fields #[.none, .bool false, .ref s.heap.objs.size, rawInt 0, .none, .none] } }) :=
  .of_wp fun prog w A R s h => by
    obtain ⟨hp, g, d, tk, os⟩ := s; obtain ⟨h1, h⟩ := h
    have hsub := sub_enumerate
    have q1 : ∀ {A' : Around} {E : Value → Shared → Prop} {Q : Value → Shared → Prop}, Q (.ref hp.objs.size) ⟨hp.push o, g, d, tk, os⟩ → wpAny (model prog w) A' (pyIter v) Q E ⟨hp, g, d, tk, os⟩ :=
      fun q => B.iter prog w _ _ ⟨hp, g, d, tk, os⟩ _ h1 q
    wp_walk using q1
    refine wpAny_stack_any fun st => wpAny_pure ?_
    split
    · rename_i c _ _ _ _ _
      cases (c == Value.type "enumerate")
      · wp_walk using q1
        exact ⟨_, rfl, h⟩
      · wp_walk using q1
        exact ⟨_, rfl, h⟩
    · wp_walk using q1
      exact ⟨_, rfl, h⟩
theorem enum_begins1 {prog : Program} {w : World} {A : Around} {E : Value → Shared → Prop} {s : Shared} {v : Value} {o : Obj} {H : Heap → Prop} {Q : Value → Shared → Prop} (B : Begins v o H) (h1 : H s.heap)
    (h : ∀ h', IsEnum h' (s.heap.objs.size + 1) s.heap.objs.size 0 .none → h'.get? s.heap.objs.size = some o → h'.objs.size = s.heap.objs.size + 2 →
      (∀ b o, s.heap.get? b = some o → h'.get? b = some o) → Q (.ref (s.heap.objs.size + 1)) { s with heap := h' }) :
    wpAny (model prog w) A (call (.type "enumerate") [v]) Q E s := by
  refine callType_new F.called_enumerate (by decide) (F.typeCall_enumerate_1 _) (F.newCall_enumerate_1 _) (fun obj => F.args_object_init_2 obj _) F.entry_enumerate_new
    (meets_enumerate_newB1 B) ⟨h1, ?_⟩
  have hz : (s.heap.push o).objs.size = s.heap.objs.size + 1 := Heap.size_push ..
  show _ ∧ _
  rw [hz]
  have he : IsEnum ((s.heap.push o).push { cls := .type "enumerate", data := .fields #[.none, .bool false, .ref s.heap.objs.size, rawInt 0, .none, .none] }) (s.heap.objs.size + 1) s.heap.objs.size 0 .none := by
    have := Heap.get?_push_size (s.heap.push o) (o := { cls := .type "enumerate", data := .fields #[.none, .bool false, .ref s.heap.objs.size, rawInt 0, .none, .none] }) rfl
    rw [hz] at this; exact this
  refine ⟨⟨_, he, rfl⟩, h _ he (Heap.get?_push_of_some _ (Heap.get?_push_size _ B.free)) (by rw [Heap.size_push, hz]) fun b o x => Heap.get?_push_of_some _ (Heap.get?_push_of_some _ x)⟩

def IteT (K : PySem.W.Frag) (a : Addr) : It :=
  ⟨fun i H => ∃ (xs : List V) (x : V), SqT K H a xs ∧ xs[i]? = some x, fun i H v H' => ∃ T x, v = .ref T ∧ H T = none ∧ H' = upd H T (.tup [.int (i : Nat), x]) ∧ ∀ xs, SqT K H a xs → xs[i]? = some x, fun i H => ∃ xs : List V, SqT K H a xs ∧ xs.length = i⟩
theorem tup_ne {h : Heap} {a b : Addr} {items : Array Value} {o : Obj} (ht : h.IsTuple a items) (ho : h.get? b = some o) (hc : o.cls ≠ .type "tuple") : a ≠ b := fun e => by
  obtain ⟨o', h1, h2, _⟩ := ht
  rw [e, ho] at h1
  exact hc (by rw [Option.some.inj h1]; exact h2)
theorem turn_enumT {P : Program} {w : World} {K : PySem.W.Frag} {elts : List Expr} {kk : Nat} {tpos : Pos} (a e it : Addr) :
    Turn P w K (.Tuple elts kk tpos) (IteT K a) [e, it] e (fun i h => (∃ old, IsEnum h e it ((i : Nat) : Int) old) ∧ h.IsTupleIter it a i ∧ e ≠ it) where
  mem := by simp
  obj := fun i h st b hb => by
    obtain ⟨⟨old, he⟩, ⟨o, ho, hc, hd⟩, _⟩ := st
    have e' : b = e ∨ b = it := by simpa using hb
    rcases e' with z | z
    · rw [z]; exact ⟨_, he, fun v q => nomatch q⟩
    · rw [z]; exact ⟨o, ho, fun v q => by rw [hd] at q; cases q⟩
  keep := fun i h h' st k => let ⟨⟨old, he⟩, hi, hne⟩ := st; ⟨⟨old, k e (by simp) _ he⟩, hi.at fun o q => k it (by simp) o q, hne⟩
  item := by
    intro X hP hw hK hc i pins s σ H E I hf st hg
    subst hP hw hK
    obtain ⟨⟨old, he⟩, hit, hne⟩ := st
    obtain ⟨xs, x, hq, hx⟩ := hg
    obtain ⟨its, rv, p, hz⟩ := I.tuple hq
    obtain ⟨u, hu, ru⟩ := rv.get hx
    have hel : e < s.heap.objs.size := Heap.lt_size he
    have hil : it < s.heap.objs.size := by obtain ⟨_, q, _⟩ := hit; exact Heap.lt_size q
    have hT : s.heap.IsTuple a its.toArray := p
    have hae : a ≠ e := tup_ne hT he (by simp)
    have hai : a ≠ it := by obtain ⟨o, ho, hc', _⟩ := hit; exact tup_ne hT ho (by rw [hc']; simp)
    refine wpAny_pyNext_enum_itemD (Draws.tuple (A := X.A.in1) (show X.A.in1.handled = none from I.ok.hd hc) it a hai its.toArray) he ⟨hit, hT⟩ (i := i) ?_ hne (by simp; exact ⟨hne, hae.symm⟩) fun x' h' tk hP ho hst hTn hsz hk => ?_
    · rw [List.size_toArray, ← rv.length]; exact (List.getElem?_eq_some_iff.mp hx).1
    obtain ⟨hit', hT'⟩ := hst
    have ex : x' = u := by
      have h1 : its[i]? = some x' := by simpa using hP
      rw [hu] at h1; exact (Option.some.inj h1).symm
    subst ex
    refine ⟨_, rfl, wpAny_letOwnedTupleGo_enum (s := { s with heap := h', toks := tk + 1 }) ho fun h'' he' sb => ?_⟩
    have hT2 : h''.get? s.heap.objs.size = some { cls := .type "tuple", data := .seq #[.int i tk, x'] } := (sb.2 _ (Nat.ne_of_gt hel)).trans hTn
    have new : ObjOk X.prog X.w (upd H s.heap.objs.size (.tup [.int (i : Nat), x])) h'' s.heap.objs.size (.tup [.int (i : Nat), x]) :=
      ⟨by show 2 ≤ sizeLine; decide, [.int i tk, x'], .cons ⟨_, rfl⟩ (.cons ru .nil), ⟨_, hT2, rfl, _, rfl⟩⟩
    have I1 : Inv X pins σ (upd H s.heap.objs.size (.tup [.int (i : Nat), x])) { s with heap := h'', toks := tk + 1 } :=
      I.turnedNew (ch := [e, it]) (fun b ob hb q => (sb.2 b (fun z => hb (by simp [z]))).trans (hk b ob (fun z => hb (by simp [z])) (fun z => hb (by simp [z])) q)) hf (Nat.le_refl _) new
    refine ⟨.ref s.heap.objs.size, _, I1, rfl, ⟨_, x, rfl, I.hok.fresh (Nat.le_refl _), rfl, fun ys hy => by rw [I.tuple_inj hy hq]; exact hx⟩, ⟨⟨x', ?_⟩, hit'.at fun o q => (sb.2 it (Ne.symm hne)).trans q, hne⟩, fun b hb => ?_⟩
    · have e1 : ((i + 1 : Nat) : Int) = (i : Int) + 1 := by omega
      rw [e1]; exact he'
    · have hb' : b < s.heap.objs.size := by
        have e' : b = e ∨ b = it := by simpa using hb
        rcases e' with z | z
        · rw [z]; exact hel
        · rw [z]; exact hil
      rw [upd_ne (Nat.ne_of_lt hb')]
      exact (hf b hb).1
  done := by
    intro X hP hw hK hc i pins s σ H E I hf st hg
    subst hP hw hK
    obtain ⟨⟨old, he⟩, hit, hne⟩ := st
    obtain ⟨xs, hq, hx⟩ := hg
    obtain ⟨its, rv, p, hz⟩ := I.tuple hq
    obtain ⟨f0, f1, f2, f3, f4, f5⟩ := hf it (by simp)
    have hl := rv.length
    have hT : s.heap.IsTuple a its.toArray := p
    have hai : a ≠ it := by obtain ⟨o, ho, hc', _⟩ := hit; exact tup_ne hT ho (by rw [hc']; simp)
    have ei : i = its.toArray.size := by rw [List.size_toArray]; omega
    refine wpAny_pyNext_enum_endD (Draws.tuple (A := X.A.in1) (show X.A.in1.handled = none from I.ok.hd hc) it a hai its.toArray) he (by rw [← ei]; exact ⟨hit, hT⟩) fun h' eb => ⟨rfl, I.turned (t' := s.toks) (fun b o hb q => eb b o hb q) f0 f1 f3 f4 f5⟩
  self := fun A i s Q E st h => let ⟨⟨_, he⟩, _⟩ := st; wpAny_pyIter_enum he h
def iEnumT (K : PySem.W.Frag) (ta : TA) : TI := fun σ H R => ta σ H fun vs H1 => ∃ a xs, vs = [.ref a] ∧ SqT K H1 a xs ∧ R (IteT K a) H1
theorem pi_enumT {X : Cx} {e : Expr} {ta : TA} {p pos tpos : Pos} {elts : List Expr} {kk : Nat} (hg : Gl X "enumerate") (hm : X.mg "enumerate" = none) (ha : PA X [e] ta) (hs : starEach [e] X.env = [(false, eval e X.env)] := by rfl) :
    PI X (.Tuple elts kk tpos) (.Call (.Name "enumerate" p) [e] [] pos) (iEnumT X.K ta) := by
  refine ⟨fun pins s σ H R I h => ?_⟩
  refine Call_ (ld_blt I hg hm boot_enumerate (PyProof.Rows.callWith_type1 (thn (ha.run pos pins s σ H _ I h) fun us s1 ⟨vs, H1, I1, r1, q1⟩ => ?_) hs rfl))
  obtain ⟨a, xs, ex, hq, q⟩ := q1
  subst ex
  cases r1 with
  | cons r rr =>
    cases rr
    cases r
    obtain ⟨its, rv, p', hz⟩ := I1.tuple hq
    refine enum_begins1 (begins_tuple a its.toArray) (show s1.heap.IsTuple a its.toArray from p') fun h' he hit hsz hk => wpAny_pyIter_enum he ?_
    have I2 : Inv X pins σ H1 { s1 with heap := h' } := I1.kept (t' := s1.toks) hk
    refine ⟨s1.heap.objs.size + 1, [s1.heap.objs.size + 1, s1.heap.objs.size], _, _, H1, rfl, I2, turn_enumT a (s1.heap.objs.size + 1) s1.heap.objs.size, ⟨⟨.none, he⟩, ⟨_, hit, rfl, rfl⟩, Nat.succ_ne_self _⟩, fun b hb => ?_, q⟩
    have e' : b = s1.heap.objs.size + 1 ∨ b = s1.heap.objs.size := by simpa using hb
    have hle : s1.heap.objs.size ≤ b := by
      rcases e' with z | z
      · rw [z]; exact Nat.le_add_right _ _
      · rw [z]; exact Nat.le_refl _
    exact I1.fpOk hle (I1.hok.fresh hle)
theorem enum_data : ∀ (ds : List PyData) (k i : Nat) (d : PyData), ds[i]? = some d → ((ds.zipIdx k).map fun p => PyData.tuple [.int (p.2 : Int), p.1])[i]? = some (.tuple [.int ((k + i : Nat) : Int), d]) := fun ds k i d h => by
  rw [List.getElem?_map, List.getElem?_zipIdx, h]; rfl
theorem ei_enumT {K : PySem.W.Frag} {σ : L2.St} {H : Hp} {t : TA} {ds : List PyData} (h : EvDs K t σ H [.tuple ds]) : EvI K (iEnumT K t) σ H (ds.zipIdx.map fun p => .tuple [.int (p.2 : Int), p.1]) := fun H1 e R k => h H1 e _ fun vs H2 e2 r => by
  cases r with
  | cons r1 r2 =>
    cases r2
    obtain ⟨a, xs, rfl, hs, hd⟩ := dp_tup r1
    have hl : (ds.zipIdx.map fun p => PyData.tuple [.int (p.2 : Int), p.1]).length = xs.length := by simp [dpA_len hd]
    refine ⟨a, xs, rfl, hs, k _ H2 e2 ⟨fun m H3 e3 hm => ?_, fun m H3 x H4 e3 hm hy => ?_, fun H3 e3 => ?_⟩⟩
    · rw [hl] at hm
      exact ⟨xs, xs[m], ex_t e3 hs, by simp [hm]⟩
    · obtain ⟨T, x1, rfl, nT, rfl, f1⟩ := hy
      obtain ⟨d1, q1, q2⟩ := dpA_getV hd (f1 xs (ex_t e3 hs))
      have q3 := enum_data ds 0 m d1 q1
      rw [Nat.zero_add] at q3
      exact ⟨Ex.new nT, _, q3, .tup (st_of upd_same) (.cons (.int _) (.cons (dp_ex (e3.trans (Ex.new nT)) _ _ q2) .nil))⟩
    · exact ⟨xs, ex_t e3 hs, hl.symm⟩

/-! ### zip of a tuple and a list -/
def ItzM (K : PySem.W.Frag) (a b : Addr) : It :=
  ⟨fun i H => ∃ (xs ys : List V) (x y : V), SqT K H a xs ∧ SqL K H b ys ∧ xs[i]? = some x ∧ ys[i]? = some y,
    fun i H v H' => ∃ T x y, v = .ref T ∧ H T = none ∧ H' = upd H T (.tup [x, y]) ∧ (∀ xs, SqT K H a xs → xs[i]? = some x) ∧ ∀ ys, SqL K H b ys → ys[i]? = some y,
    fun i H => ∃ xs ys : List V, SqT K H a xs ∧ SqL K H b ys ∧ i = min xs.length ys.length⟩
theorem turn_zipM {P : Program} {w : World} {K : PySem.W.Frag} {elts : List Expr} {kk : Nat} {tpos : Pos} {a b z TI TO i1 i2 : Addr} (S : ZipSep2 z TI TO i1 i2 [i1, a] [i2, b]) (hne1 : a ≠ i1) (hne2 : b ≠ i2) :
    Turn P w K (.Tuple elts kk tpos) (ItzM K a b) [z, TI, TO, i1, i2] z (fun i h => IsZip h z TI TO .none ∧ IsTupOf2 h TI (.ref i1) (.ref i2) ∧ (∃ x y, IsTupOf2 h TO x y) ∧ h.IsTupleIter i1 a i ∧ h.IsListIter i2 b i) where
  mem := by simp
  obj := fun i h st c hc => by
    obtain ⟨hz, hTI, ⟨x, y, hTO⟩, ⟨o1, e1, _, d1⟩, ⟨o2, e2, _, d2⟩⟩ := st
    have e' : c = z ∨ c = TI ∨ c = TO ∨ c = i1 ∨ c = i2 := by simpa using hc
    rcases e' with q | q | q | q | q
    · rw [q]; exact ⟨_, hz, fun v q => nomatch q⟩
    · rw [q]; exact ⟨_, hTI, fun v q => nomatch q⟩
    · rw [q]; exact ⟨_, hTO, fun v q => nomatch q⟩
    · rw [q]; exact ⟨o1, e1, fun v q => by rw [d1] at q; cases q⟩
    · rw [q]; exact ⟨o2, e2, fun v q => by rw [d2] at q; cases q⟩
  keep := fun i h h' st k => by
    obtain ⟨hz, hTI, ⟨x, y, hTO⟩, h1, h2⟩ := st
    exact ⟨k z (by simp) _ hz, k TI (by simp) _ hTI, ⟨x, y, k TO (by simp) _ hTO⟩, h1.at fun o q => k i1 (by simp) o q, h2.at fun o q => k i2 (by simp) o q⟩
  item := by
    intro X hP hw hK hc i pins s σ H E I hf st hg
    subst hP hw hK
    obtain ⟨hz, hTI, ⟨x0, y0, hTO⟩, h1, h2⟩ := st
    obtain ⟨xs, ys, x, y, hqx, hqy, hx, hy⟩ := hg
    obtain ⟨its, rv, p, _⟩ := I.tuple hqx
    obtain ⟨its2, rv2, p2, _⟩ := I.list hqy
    obtain ⟨u, hu, ru⟩ := rv.get hx
    obtain ⟨u2, hu2, ru2⟩ := rv2.get hy
    have hzl : z < s.heap.objs.size := Heap.lt_size hz
    have hh : X.A.in1.handled = none := I.ok.hd hc
    have lt1 : i < its.toArray.size := by rw [List.size_toArray, ← rv.length]; exact (List.getElem?_eq_some_iff.mp hx).1
    have lt2 : i < its2.toArray.size := by rw [List.size_toArray, ← rv2.length]; exact (List.getElem?_eq_some_iff.mp hy).1
    refine wpAny_pyNext_zipD2_item S (Draws.tuple hh i1 a hne1 its.toArray) (Draws.list hh i2 b hne2 its2.toArray) hz hTI hTO (i := i) ⟨h1, p⟩ ⟨h2, p2.isList⟩ lt1 lt2 fun x1 x2 h' tk hx1 hx2 z' TO' ⟨h1', _⟩ ⟨h2', _⟩ hT hsz hk => ?_
    have ex1 : x1 = u := by
      have q : its[i]? = some x1 := by simpa using hx1
      rw [hu] at q; exact (Option.some.inj q).symm
    have ex2 : x2 = u2 := by
      have q : its2[i]? = some x2 := by simpa using hx2
      rw [hu2] at q; exact (Option.some.inj q).symm
    subst ex1 ex2
    refine ⟨_, rfl, wpAny_letOwnedTupleGo_zip (s := { s with heap := h', toks := tk }) z' fun h'' z'' sb => ?_⟩
    have hT2 : h''.get? s.heap.objs.size = some { cls := .type "tuple", data := .seq #[x1, x2] } := (sb.2 _ (Nat.ne_of_gt hzl)).trans hT
    have new : ObjOk X.prog X.w (upd H s.heap.objs.size (.tup [x, y])) h'' s.heap.objs.size (.tup [x, y]) :=
      ⟨by show 2 ≤ sizeLine; decide, [x1, x2], .cons ru (.cons ru2 .nil), ⟨_, hT2, rfl, _, rfl⟩⟩
    have I1 : Inv X pins σ (upd H s.heap.objs.size (.tup [x, y])) { s with heap := h'', toks := tk } :=
      I.turnedNew (t' := tk) (ch := [z, TI, TO, i1, i2]) (fun c o hb q => (sb.2 c (fun q' => hb (by simp [q']))).trans (hk c o (fun q' => hb (by simp [q'])) (fun q' => hb (by simp [q'])) (fun q' => hb (by simp [q'])) (fun q' => hb (by simp [q'])) q)) hf (Nat.le_refl _) new
    refine ⟨.ref s.heap.objs.size, _, I1, rfl, ⟨_, x, y, rfl, I.hok.fresh (Nat.le_refl _), rfl, fun l hl => by rw [I.tuple_inj hl hqx]; exact hx, fun l hl => by rw [I.list_inj hl hqy]; exact hy⟩, ⟨z'', ?_, ⟨x1, x2, ?_⟩, ?_, ?_⟩, fun c hcm => ?_⟩
    · exact (sb.2 _ S.TIz).trans (hk _ _ S.TIz S.TITO S.TIi1 S.TIi2 hTI)
    · exact (sb.2 _ S.TOz).trans TO'
    · exact h1'.at fun o q => (sb.2 _ S.zi1.symm).trans q
    · exact h2'.at fun o q => (sb.2 _ S.zi2.symm).trans q
    · have hlt : c < s.heap.objs.size := by
        have e' : c = z ∨ c = TI ∨ c = TO ∨ c = i1 ∨ c = i2 := by simpa using hcm
        rcases e' with q | q | q | q | q
        · rw [q]; exact hzl
        · rw [q]; exact Heap.lt_size hTI
        · rw [q]; exact Heap.lt_size hTO
        · rw [q]; obtain ⟨_, e1, _⟩ := h1; exact Heap.lt_size e1
        · rw [q]; obtain ⟨_, e2, _⟩ := h2; exact Heap.lt_size e2
      rw [upd_ne (Nat.ne_of_lt hlt)]
      exact (hf c hcm).1
  done := by
    intro X hP hw hK hc i pins s σ H E I hf st hg
    subst hP hw hK
    obtain ⟨hz, hTI, ⟨x0, y0, hTO⟩, h1, h2⟩ := st
    obtain ⟨xs, ys, hqx, hqy, hend⟩ := hg
    obtain ⟨its, rv, p, _⟩ := I.tuple hqx
    obtain ⟨its2, rv2, p2, _⟩ := I.list hqy
    have l1 := rv.length
    have l2 := rv2.length
    have hh : X.A.in1.handled = none := I.ok.hd hc
    exact wpAny_pyNext_zipD2_end S (Draws.tuple hh i1 a hne1 its.toArray) (Draws.list hh i2 b hne2 its2.toArray) hz hTI hTO (i := i) ⟨h1, p⟩ ⟨h2, p2.isList⟩ (by rw [List.size_toArray]; omega) (by rw [List.size_toArray]; omega) (by rw [List.size_toArray, List.size_toArray]; omega)
      fun h' tk hk => ⟨rfl, I.turnedL (t' := tk) (ch := [z, TI, TO, i1, i2]) (fun c o hb q =>
      hk c o (fun q' => hb (by simp [q'])) (fun q' => hb (by simp [q'])) (fun q' => hb (by simp [q'])) (fun q' => hb (by simp [q'])) q) hf⟩
  self := fun A i s Q E st h => wpAny_pyIter_zip st.1 h
theorem nm2 {x a b : Nat} (h1 : x ≠ a) (h2 : x ≠ b) : x ∉ [a, b] := by simp [h1, h2]
theorem sep5 (n a b : Nat) (la : a < n) (lb : b < n) : ZipSep2 (n + 4) (n + 2) (n + 3) n (n + 1) [n, a] [n + 1, b] where
  TIz := Nat.ne_of_lt (by omega)
  TOz := Nat.ne_of_lt (by omega)
  TITO := Nat.ne_of_lt (by omega)
  TIi1 := Nat.ne_of_gt (by omega)
  mem1 := by simp
  zf1 := nm2 (by omega) (by omega)
  Tf1 := nm2 (by omega) (by omega)
  TIi2 := Nat.ne_of_gt (by omega)
  mem2 := by simp
  zf2 := nm2 (by omega) (by omega)
  Tf2 := nm2 (by omega) (by omega)
  sep1_2 := nm2 (by omega) (by omega)
  sep2_1 := nm2 (by omega) (by omega)
def iZipM (K : PySem.W.Frag) (ta : TA) : TI := fun σ H R => ta σ H fun vs H1 => ∃ a b xs ys, vs = [.ref a, .ref b] ∧ SqT K H1 a xs ∧ SqL K H1 b ys ∧ R (ItzM K a b) H1
theorem pi_zipM {X : Cx} {e e2 : Expr} {ta : TA} {p pos tpos : Pos} {elts : List Expr} {kk : Nat} (hg : Gl X "zip") (hm : X.mg "zip" = none) (ha : PA X [e, e2] ta)
    (hs : starEach [e, e2] X.env = (false, eval e X.env) :: starEach [e2] X.env := by rfl) (hpl : (backTo pos (starEach [e2] X.env)).any (·.1) = false := by rfl) :
    PI X (.Tuple elts kk tpos) (.Call (.Name "zip" p) [e, e2] [] pos) (iZipM X.K ta) := by
  refine ⟨fun pins s σ H R I h => ?_⟩
  refine Call_ (ld_blt I hg hm PyProof.Rows.boot_zip (PyProof.Rows.callWith_type1 (thn (ha.run pos pins s σ H _ I h) fun us s1 ⟨vs, H1, I1, r1, q1⟩ => ?_) hs hpl))
  obtain ⟨a, b, xs, ys, ex, hqx, hqy, q⟩ := q1
  subst ex
  cases r1 with
  | cons r rr =>
    cases rr with
    | cons r' rr =>
      cases rr
      cases r
      cases r'
      obtain ⟨its, rv, p1, _⟩ := I1.tuple hqx
      obtain ⟨its2, rv2, p2, _⟩ := I1.list hqy
      have la : a < s1.heap.objs.size := by obtain ⟨_, e1, _⟩ := id p1; exact Heap.lt_size e1
      have lb : b < s1.heap.objs.size := p2.lt
      refine zip_begins2 (begins_tuple a its.toArray) (begins_list b its2.toArray) p1 p2.isList fun h' hz hTI hTO h1 h2 hsz hk => wpAny_pyIter_zip hz ?_
      have I2 : Inv X pins σ H1 { s1 with heap := h' } := I1.kept (t' := s1.toks) hk
      have S : ZipSep2 (s1.heap.objs.size + 4) (s1.heap.objs.size + 2) (s1.heap.objs.size + 3) s1.heap.objs.size (s1.heap.objs.size + 1) [s1.heap.objs.size, a] [s1.heap.objs.size + 1, b] := sep5 _ _ _ la lb
      refine ⟨s1.heap.objs.size + 4, [s1.heap.objs.size + 4, s1.heap.objs.size + 2, s1.heap.objs.size + 3, s1.heap.objs.size, s1.heap.objs.size + 1], _, _, H1, rfl, I2, turn_zipM S (Nat.ne_of_lt la) (Nat.ne_of_lt (Nat.lt_succ_of_lt lb)), ⟨hz, hTI, ⟨_, _, hTO⟩, ⟨_, h1, rfl, rfl⟩, ⟨_, h2, rfl, rfl⟩⟩, fun c hcm => ?_, q⟩
      have e' : c = s1.heap.objs.size + 4 ∨ c = s1.heap.objs.size + 2 ∨ c = s1.heap.objs.size + 3 ∨ c = s1.heap.objs.size ∨ c = s1.heap.objs.size + 1 := by simpa using hcm
      have hle : s1.heap.objs.size ≤ c := by
        rcases e' with z | z | z | z | z
        · rw [z]; exact Nat.le_add_right _ _
        · rw [z]; exact Nat.le_add_right _ _
        · rw [z]; exact Nat.le_add_right _ _
        · rw [z]; exact Nat.le_refl _
        · rw [z]; exact Nat.le_add_right _ _
      exact I1.fpOk hle (I1.hok.fresh hle)
theorem ei_zipM {K : PySem.W.Frag} {σ : L2.St} {H : Hp} {t : TA} {ds es : List PyData} (h : EvDs K t σ H [.tuple ds, .list es]) : EvI K (iZipM K t) σ H (List.zipWith (fun a b => .tuple [a, b]) ds es) := fun H1 e R k => h H1 e _ fun vs H2 e2 r => by
  cases r with
  | cons r1 r2 =>
    cases r2 with
    | cons r2 r3 =>
    cases r3
    obtain ⟨a, xs, rfl, hs, hd⟩ := dp_tup r1
    obtain ⟨b, ys, rfl, hs2, hd2⟩ := dp_lst r2
    refine ⟨a, b, xs, ys, rfl, hs, hs2, k _ H2 e2 ⟨fun m H3 e3 hm => ?_, fun m H3 x H4 e3 hm hy => ?_, fun H3 e3 => ?_⟩⟩
    · rw [List.length_zipWith] at hm
      exact ⟨xs, ys, xs[m]'(by rw [dpA_len hd]; omega), ys[m]'(by rw [dpA_len hd2]; omega), ex_t e3 hs, ex_l e3 hs2, by simp, by simp⟩
    · obtain ⟨T, x1, y1, rfl, nT, rfl, f1, f2⟩ := hy
      obtain ⟨d1, q1, q2⟩ := dpA_getV hd (f1 xs (ex_t e3 hs))
      obtain ⟨d2, q3, q4⟩ := dpA_getV hd2 (f2 ys (ex_l e3 hs2))
      exact ⟨Ex.new nT, _, zipAt q1 q3, .tup (st_of upd_same) (.cons (dp_ex (e3.trans (Ex.new nT)) _ _ q2) (.cons (dp_ex (e3.trans (Ex.new nT)) _ _ q4) .nil))⟩
    · refine ⟨xs, ys, ex_t e3 hs, ex_l e3 hs2, ?_⟩
      rw [List.length_zipWith, dpA_len hd, dpA_len hd2]
end KX
end
section
set_option Elab.async false
set_option linter.all false
set_option maxRecDepth 100000
set_option maxHeartbeats 2000000
/-! Loops whose source stands by a word of one's own. -/
namespace KX
open PySem PySem.Spec PyProof.Rows L2 Evl KR
/-- flat enough for == -/
def Shp (n : Nat) (d : PyData) : Prop := d.canLay0 = true ∧ d.depth ≤ n
theorem shp_int {n : Nat} {i : Int} : Shp n (.int i) := ⟨by simp [PyData.canLay0], by simp [PyData.depth]⟩
theorem shp_all {n : Nat} : ∀ {ds : List PyData}, (∀ d ∈ ds, Shp n d) → PyData.canLayAll0 ds = true ∧ PyData.depthAll ds ≤ n
  | [], _ => by simp [PyData.canLayAll0, PyData.depthAll]
  | d :: ds, h => by
    have h1 := h d (by simp)
    have h2 := shp_all (ds := ds) fun e he => h e (by simp [he])
    refine ⟨by simp [PyData.canLayAll0, h1.1, h2.1], ?_⟩
    simp only [PyData.depthAll]
    exact Nat.max_le.mpr ⟨h1.2, h2.2⟩
theorem shp_tup {n : Nat} {ds : List PyData} (h : ∀ d ∈ ds, Shp n d) : Shp (n + 1) (.tuple ds) := by
  obtain ⟨h1, h2⟩ := shp_all h
  exact ⟨by simp [PyData.canLay0, h1], by simp only [PyData.depth]; omega⟩
theorem shp_lst {n : Nat} {ds : List PyData} (h : ∀ d ∈ ds, Shp n d) : Shp (n + 1) (.list ds) := by
  obtain ⟨h1, h2⟩ := shp_all h
  exact ⟨by simp [PyData.canLay0, h1], by simp only [PyData.depth]; omega⟩
theorem shp_map {α : Type} {n : Nat} {f : α → PyData} {l : List α} (h : ∀ a ∈ l, Shp n (f a)) : ∀ d ∈ l.map f, Shp n d := fun d hd => by
  obtain ⟨a, ha, rfl⟩ := List.mem_map.mp hd
  exact h a ha
theorem Shp.ok {n : Nat} {d : PyData} (h : Shp n d) (hn : n ≤ 64 := by decide) : SeqAt.shaped d = true := by
  unfold SeqAt.shaped
  rw [h.1, Bool.true_and]
  exact decide_eq_true (Nat.le_trans h.2 hn)
theorem pg_two {X : Cx} {i j : Nat} {x y : Str} {px py tp : Pos} {k : Nat} (hc : X.calm = true) (hN : X.N.Nodup) (hi : X.N[i]? = some x) (hj : X.N[j]? = some y) (hx : X.env.scope.names.lookup x = some .local) (hy : X.env.scope.names.lookup y = some .local) :
    PG X (.Tuple [.Name x px, .Name y py] k tp) (gTwo X.K i j) := pg_tup hc (pgs_cons (pg_name hN hi (.inl hx) (.inr hx)) (pgs_cons (pg_name hN hj (.inl hy) (.inr hy)) pgs_nil))
structure IterG (K : PySem.W.Frag) (J : It) (G : Hp → Prop) (ds : List PyData) : Prop where
  go : ∀ i H3, G H3 → i < ds.length → J.go i H3
  yld : ∀ i H3 x H4, G H3 → i < ds.length → J.yld i H3 x H4 → Ex H3 H4 ∧ ∃ d, ds[i]? = some d ∧ Dp K H4 x d
  stop : ∀ H3, G H3 → J.stop ds.length H3
def EvIG (K : PySem.W.Frag) (wi : TI) (σ : L2.St) (H : Hp) (G : Hp → Prop) (ds : List PyData) : Prop := ∀ H1, Ex H H1 → ∀ R : It → Hp → Prop, (∀ J H2, Ex H1 H2 → IterG K J G ds → R J H2) → wi σ H1 R
section
variable {K : PySem.W.Frag} {σ : L2.St} {H H' : Hp} {ta tb te : TE} {tt : TT} {d : PyData} {ds es : List PyData} {i j : Int} {wi : TI} {g : TG} {G : Hp → Prop}
theorem eg_tup {k : Nat} {v : V} (h : σ[k]? = some (some v)) (r : Dp K H v (.tuple ds)) (hG : ∀ H3, G H3 → Dp K H3 v (.tuple ds)) : EvIG K (iTup K (tVar k)) σ H G ds := fun H1 e R q => by
  obtain ⟨a, xs, rfl, hs, hd⟩ := dp_tup r
  refine ⟨.ref a, h, a, rfl, ⟨xs, ex_t e hs⟩, q _ H1 (Ex.refl _) ⟨fun i H3 g3 hi => ?_, fun i H3 x H4 g3 hi hy => ?_, fun H3 g3 => ?_⟩⟩
  all_goals obtain ⟨b, ys, eb, hs3, hd3⟩ := dp_tup (hG H3 g3)
  all_goals cases eb
  · exact ⟨ys, ys[i]'(by rw [dpA_len hd3]; exact hi), hs3, by simp [dpA_len hd3, hi]⟩
  · obtain ⟨rfl, hx⟩ := hy
    obtain ⟨d, h1, h2⟩ := dpA_getV hd3 (hx ys hs3)
    exact ⟨Ex.refl _, d, h1, h2⟩
  · exact ⟨ys, hs3, by rw [dpA_len hd3]; exact Nat.le_refl _⟩
theorem eg_lst {k : Nat} {v : V} (h : σ[k]? = some (some v)) (r : Dp K H v (.list ds)) (hG : ∀ H3, G H3 → Dp K H3 v (.list ds)) : EvIG K (iList K (tVar k)) σ H G ds := fun H1 e R q => by
  obtain ⟨a, xs, rfl, hs, hd⟩ := dp_lst r
  refine ⟨.ref a, h, a, rfl, ⟨xs, ex_l e hs⟩, q _ H1 (Ex.refl _) ⟨fun i H3 g3 hi => ?_, fun i H3 x H4 g3 hi hy => ?_, fun H3 g3 => ?_⟩⟩
  all_goals obtain ⟨b, ys, eb, hs3, hd3⟩ := dp_lst (hG H3 g3)
  all_goals cases eb
  · exact ⟨ys, ys[i]'(by rw [dpA_len hd3]; exact hi), hs3, by simp [dpA_len hd3, hi]⟩
  · obtain ⟨rfl, hx⟩ := hy
    obtain ⟨d, h1, h2⟩ := dpA_getV hd3 (hx ys hs3)
    exact ⟨Ex.refl _, d, h1, h2⟩
  · exact ⟨ys, hs3, by rw [dpA_len hd3]; exact Nat.le_refl _⟩
theorem eg_enumT {k : Nat} {v : V} (h : σ[k]? = some (some v)) (r : Dp K H v (.tuple ds)) (hG : ∀ H3, G H3 → Dp K H3 v (.tuple ds)) : EvIG K (iEnumT K (tCons (tVar k) tNil)) σ H G (ds.zipIdx.map fun p => .tuple [.int (p.2 : Int), p.1]) := fun H1 e R q => by
  obtain ⟨a, xs, rfl, hs, hd⟩ := dp_tup r
  have hl : (ds.zipIdx.map fun p => PyData.tuple [.int (p.2 : Int), p.1]).length = ds.length := by simp
  refine ⟨.ref a, h, a, xs, rfl, ex_t e hs, q _ H1 (Ex.refl _) ⟨fun i H3 g3 hi => ?_, fun i H3 x H4 g3 hi hy => ?_, fun H3 g3 => ?_⟩⟩
  all_goals obtain ⟨b, ys, eb, hs3, hd3⟩ := dp_tup (hG H3 g3)
  all_goals cases eb
  · rw [hl] at hi
    exact ⟨ys, ys[i]'(by rw [dpA_len hd3]; exact hi), hs3, by simp [dpA_len hd3, hi]⟩
  · obtain ⟨T, x1, rfl, nT, rfl, f1⟩ := hy
    obtain ⟨d1, q1, q2⟩ := dpA_getV hd3 (f1 ys hs3)
    have q3 := enum_data ds 0 i d1 q1
    rw [Nat.zero_add] at q3
    exact ⟨Ex.new nT, _, q3, .tup (st_of upd_same) (.cons (.int _) (.cons (dp_ex (Ex.new nT) _ _ q2) .nil))⟩
  · exact ⟨ys, hs3, by rw [hl, dpA_len hd3]⟩
theorem eg_rng1 {t : TA} (h : EvDs K t σ H [.int i]) (hi : -100000 ≤ i ∧ i ≤ 100000) : EvIG K (iRng1 t) σ H G ((List.range i.toNat).map fun (k : Nat) => .int (k : Int)) := fun H1 e R k => h H1 e _ fun vs H2 e2 r => by
  cases r with
  | cons r1 r2 =>
    cases r2; cases r1
    refine ⟨i, rfl, by omega, by omega, k _ H2 e2 ⟨fun m H3 e3 hm => ?_, fun m H3 x H4 e3 hm hy => ?_, fun H3 e3 => ?_⟩⟩
    · rw [List.length_map, List.length_range] at hm; exact hm
    · rw [List.length_map, List.length_range] at hm
      obtain ⟨rfl, rfl⟩ := hy
      exact ⟨Ex.refl _, _, rangeAt hm, by rw [Int.zero_add]; exact .int _⟩
    · show i.toNat ≤ _; rw [List.length_map, List.length_range]; exact Nat.le_refl _
theorem eg_rng2 {t : TA} (h : EvDs K t σ H [.int i, .int j]) (hi : -100000 ≤ i ∧ i ≤ 100000) (hj : -100000 ≤ j ∧ j ≤ 100000) : EvIG K (iRng2 t) σ H G ((List.range (j - i).toNat).map fun (k : Nat) => .int (i + k)) := fun H1 e R k => h H1 e _ fun vs H2 e2 r => by
  cases r with
  | cons r1 r2 =>
    cases r2 with
    | cons r2 r3 =>
    cases r3; cases r1; cases r2
    refine ⟨i, j, rfl, ⟨by omega, by omega, by omega, by omega⟩, k _ H2 e2 ⟨fun m H3 e3 hm => ?_, fun m H3 x H4 e3 hm hy => ?_, fun H3 e3 => ?_⟩⟩
    · rw [List.length_map, List.length_range] at hm; exact hm
    · rw [List.length_map, List.length_range] at hm
      obtain ⟨rfl, rfl⟩ := hy
      exact ⟨Ex.refl _, _, rangeAt hm, .int _⟩
    · show (j - i).toNat ≤ _; rw [List.length_map, List.length_range]; exact Nat.le_refl _
/-- zip of two tuples held by names -/
theorem eg_zipT {k l : Nat} {v u : V} (h : σ[k]? = some (some v)) (h2 : σ[l]? = some (some u)) (r : Dp K H v (.tuple ds)) (r2 : Dp K H u (.tuple es)) (hG : ∀ H3, G H3 → Dp K H3 v (.tuple ds) ∧ Dp K H3 u (.tuple es)) :
    EvIG K (RZ.iZipA K (tCons (tVar k) (tCons (tVar l) tNil))) σ H G (List.zipWith (fun a b => .tuple [a, b]) ds es) := fun H1 e R q => by
  obtain ⟨a, xs, rfl, hs, hd⟩ := dp_tup r
  obtain ⟨b, ys, rfl, hs2, hd2⟩ := dp_tup r2
  have hl : (List.zipWith (fun a b => PyData.tuple [a, b]) ds es).length = min ds.length es.length := List.length_zipWith
  refine ⟨.ref a, h, .ref b, h2, a, b, xs, ys, rfl, .inr ⟨ex_t e hs, ex_t e hs2, q _ H1 (Ex.refl _) ⟨fun i H3 g3 hi => ?_, fun i H3 x H4 g3 hi hy => ?_, fun H3 g3 => ?_⟩⟩⟩
  all_goals obtain ⟨g1, g2⟩ := hG H3 g3
  all_goals obtain ⟨a', xs', ea, hs3, hd3⟩ := dp_tup g1
  all_goals obtain ⟨b', ys', eb, hs4, hd4⟩ := dp_tup g2
  all_goals cases ea
  all_goals cases eb
  · rw [hl] at hi
    exact ⟨xs', ys', xs'[i]'(by rw [dpA_len hd3]; omega), ys'[i]'(by rw [dpA_len hd4]; omega), hs3, hs4, by simp, by simp⟩
  · obtain ⟨T, x1, y1, rfl, nT, rfl, f1, f2⟩ := hy
    obtain ⟨d1, q1, q2⟩ := dpA_getV hd3 (f1 xs' hs3)
    obtain ⟨d2, q3, q4⟩ := dpA_getV hd4 (f2 ys' hs4)
    exact ⟨Ex.new nT, _, zipAt q1 q3, .tup (st_of upd_same) (.cons (dp_ex (Ex.new nT) _ _ q2) (.cons (dp_ex (Ex.new nT) _ _ q4) .nil))⟩
  · refine ⟨xs', ys', hs3, hs4, ?_⟩
    rw [hl, dpA_len hd3, dpA_len hd4]; omega
variable {D : Ends} {tu tw tz : TS}
theorem s_forG (hI : EvIG K wi σ H G ds) (Pv : Nat → L2.St → Hp → Prop) (h0 : ∀ H1, Ex H H1 → Pv 0 σ H1) (hG : ∀ i σ' H', i ≤ ds.length → Pv i σ' H' → G H')
    (hs : ∀ (i : Nat) d x σ' H' H'', ds[i]? = some d → Pv i σ' H' → Ex H' H'' → Dp K H'' x d → g x σ' H'' fun σ2 H2 => tu { D with nx := Pv (i + 1), ct := Pv (i + 1), bk := D.nx } σ2 H2)
    (hd : ∀ σ' H', Pv ds.length σ' H' → D.nx σ' H') : tFor wi g tu D σ H :=
  hI H (Ex.refl H) _ fun J H1 e1 it => by
    refine ⟨fun i m σ' H' => m = ds.length - i ∧ i ≤ ds.length ∧ Pv i σ' H', ⟨ds.length, by omega, Nat.zero_le _, h0 H1 e1⟩, ?_⟩
    rintro i m σ' H' ⟨rfl, hi, p⟩
    have gg := hG i σ' H' hi p
    by_cases hlt : i < ds.length
    · refine .inr ⟨it.go i H' gg hlt, Pv (i + 1), fun σ'' H'' p' => ⟨_, by omega, rfl, hlt, p'⟩, fun x H3 hy => ?_⟩
      obtain ⟨e3, d, hd', rd⟩ := it.yld i H' x H3 gg hlt hy
      exact hs i d x σ' H' H3 hd' p e3 rd
    · have ei : i = ds.length := by omega
      subst ei
      exact .inl ⟨it.stop H' gg, hd σ' H' p⟩
theorem q_forG (hI : EvIG K wi σ H G ds) (Pv : Nat → L2.St → Hp → Prop) (h0 : ∀ H1, Ex H H1 → Pv 0 σ H1) (hG : ∀ i σ' H', i ≤ ds.length → Pv i σ' H' → G H')
    (hs : ∀ (i : Nat) d x σ' H' H'', ds[i]? = some d → Pv i σ' H' → Ex H' H'' → Dp K H'' x d → g x σ' H'' fun σ2 H2 => tu { D with nx := Pv (i + 1), ct := Pv (i + 1), bk := tz D } σ2 H2)
    (hd : ∀ σ' H', Pv ds.length σ' H' → tz D σ' H') : tSeq (tFor wi g tu) tz D σ H := s_forG (D := { D with nx := tz D }) hI Pv h0 hG hs hd
/-- a comprehension, whatever its turns do: the word tells the list made so far -/
theorem ev_lcG {vs : List Nat} {Q : VK} (hI : EvIG K wi σ H G ds) (Pv : Addr → Nat → Hp → Prop) (h0 : ∀ H1 Dl, Ex H H1 → H1 Dl = none → Pv Dl 0 (upd H1 Dl (.lst []))) (hG : ∀ Dl i H', i ≤ ds.length → Pv Dl i H' → G H')
    (hs : ∀ Dl (i : Nat) d x H' H'', ds[i]? = some d → Pv Dl i H' → Ex H' H'' → Dp K H'' x d → g x (wipe σ vs) H'' fun σ2 H2 => wipe σ2 vs = wipe σ vs ∧ tt σ2 H2 fun b H3 =>
      if b = true then te σ2 H3 fun y H4 => ∃ acc, H4 Dl = some (.lst acc) ∧ acc.length < sizeLine ∧ Pv Dl (i + 1) (upd H4 Dl (.lst (acc ++ [y]))) else Pv Dl (i + 1) H3)
    (hd : ∀ Dl H', Pv Dl ds.length H' → Q (.ref Dl) H') : tLc wi g tt te vs σ H Q :=
  hI H (Ex.refl H) _ fun J H1 e1 it Dl hD => by
    refine ⟨fun i m H' => m = ds.length - i ∧ i ≤ ds.length ∧ Pv Dl i H', ⟨ds.length, by omega, Nat.zero_le _, h0 H1 Dl e1 hD⟩, ?_⟩
    rintro i m H' ⟨rfl, hi, p⟩
    have gg := hG Dl i H' hi p
    by_cases hlt : i < ds.length
    · refine .inr ⟨it.go i H' gg hlt, Pv Dl (i + 1), fun H'' p' => ⟨_, by omega, rfl, hlt, p'⟩, fun x H3 hy => ?_⟩
      obtain ⟨e3, d, hd', rd⟩ := it.yld i H' x H3 gg hlt hy
      exact hs Dl i d x H' H3 hd' p e3 rd
    · have ei : i = ds.length := by omega
      subst ei
      exact .inl ⟨it.stop H' gg, hd Dl H' p⟩
end

/-! ### the rules with the written part named -/
section
variable {X : Cx} {K : PySem.W.Frag}
theorem kLen (h : X.K = K) : CallR X (.builtin "len") (KR.rLenS K) := h ▸ call_len_seq
theorem kList (h : X.K = K) : CallR X (.type "list") (KR.rListS K) := h ▸ call_list_of
theorem kTuple (h : X.K = K) : CallR X (.type "tuple") (KR.rTupS K) := h ▸ call_tuple_of
theorem kMax (h : X.K = K) (hc : X.calm = true) : CallR X (.builtin "max") (rMax K) := h ▸ cr_max hc
theorem kAll (h : X.K = K) (hc : X.calm = true) : CallR X (.builtin "all") (rAll K) := h ▸ cr_all hc
theorem kIsi (h : X.K = K) : CallR X (.builtin "isinstance") (rIsi K) := h ▸ call_isi
theorem kIsiT (h : X.K = K) : CallR X (.builtin "isinstance") (rIsiT K) := h ▸ call_isiT
theorem kIx (h : X.K = K) : IxR X (rIx K) := h ▸ ix_seq
theorem kEqD (h : X.K = K) (hu : X.A.units + 64 < cLine) : OpR X (compareOp .Eq) (rEqD K) := h ▸ op_eqD hu
theorem kNeD (h : X.K = K) (hu : X.A.units + 64 < cLine) : OpR X (compareOp .NotEq) (rNeD K) := h ▸ op_neD hu
theorem kNotIn (h : X.K = K) : OpR X (compareOp .NotIn) (rIn K true) := h ▸ op_notIn_seq
theorem kSlL (h : X.K = K) : SlR X (rSlL K) := h ▸ sl_list
theorem kSlT (h : X.K = K) : SlR X (rSlA K) := h ▸ sl_tupA
theorem kCatT (h : X.K = K) : OpR X (binaryOp .Add) (rCatA K) := h ▸ op_catA
variable {tg l e e2 : Expr} {tl te : TE} {ta : TA} {p pos tpos : Pos} {elts : List Expr} {kk : Nat}
theorem kpi_list (h : X.K = K) (hl : PE X l tl) : PI X tg l (iList K tl) := h ▸ pi_list hl
theorem kpi_tup (h : X.K = K) (hl : PE X l tl) : PI X tg l (iTup K tl) := h ▸ pi_tup hl
theorem kpi_enumT (h : X.K = K) (hg : Gl X "enumerate") (hm : X.mg "enumerate" = none) (ha : PA X [e] ta) (hs : starEach [e] X.env = [(false, eval e X.env)] := by rfl) : PI X (.Tuple elts kk tpos) (.Call (.Name "enumerate" p) [e] [] pos) (iEnumT K ta) := h ▸ pi_enumT hg hm ha hs
theorem kpi_zipA (h : X.K = K) (hg : Gl X "zip") (hm : X.mg "zip" = none) (ha : PA X [e, e2] ta)
    (hs : starEach [e, e2] X.env = (false, eval e X.env) :: starEach [e2] X.env := by rfl) (hpl : (backTo pos (starEach [e2] X.env)).any (·.1) = false := by rfl) :
    PI X (.Tuple elts kk tpos) (.Call (.Name "zip" p) [e, e2] [] pos) (RZ.iZipA K ta) := h ▸ RZ.pi_zipA hg hm ha hs hpl
theorem kpi_zipM (h : X.K = K) (hg : Gl X "zip") (hm : X.mg "zip" = none) (ha : PA X [e, e2] ta)
    (hs : starEach [e, e2] X.env = (false, eval e X.env) :: starEach [e2] X.env := by rfl) (hpl : (backTo pos (starEach [e2] X.env)).any (·.1) = false := by rfl) :
    PI X (.Tuple elts kk tpos) (.Call (.Name "zip" p) [e, e2] [] pos) (iZipM K ta) := h ▸ pi_zipM hg hm ha hs hpl
theorem kpa_star {es : List Expr} {t : TA} {sp : Pos} (h : X.K = K) (he : PE X e te) (hr : PA X es t) (hs : starEach (.Starred e sp :: es) X.env = (true, eval e X.env) :: starEach es X.env := by rfl) : PA X (.Starred e sp :: es) (StX.tStar K te t) := h ▸ StX.pa_star he hr hs
theorem kpe_fld {f : Str} (h : X.K = K) (he : PE X e te) (hb : attributeBase e f X.env (eval e X.env) = eval e X.env) : PE X (.Attribute e f pos) (tFld K te f) := h ▸ pe_fld he hb
theorem kpg_two {i j : Nat} {x y : Str} {px py tp : Pos} {k : Nat} (h : X.K = K) (hc : X.calm = true) (hN : X.N.Nodup) (hi : X.N[i]? = some x) (hj : X.N[j]? = some y) (hx : X.env.scope.names.lookup x = some .local) (hy : X.env.scope.names.lookup y = some .local) :
    PG X (.Tuple [.Name x px, .Name y py] k tp) (gTwo K i j) := h ▸ pg_two hc hN hi hj hx hy
theorem kpe_app (h : X.K = K) (he : PE X e te) (hl : PA X [l] ta) {cpos apos : Pos} (hbase : attributeBase e "append" X.env (eval e X.env) = eval e X.env := by rfl) : True := True.intro
end
end KX
end
section
set_option Elab.async false
set_option linter.all false
set_option maxRecDepth 100000
set_option maxHeartbeats 2000000
/-! A list of lists that is written: B the addresses that may be written. -/
namespace KX
open PySem PySem.Spec PyProof.Rows L2 Evl KR
section
variable {K : PySem.W.Frag} {σ : L2.St} {H H' : Hp} {ta tb te : TE} {d : PyData} {ds : List PyData} {D : Ends} {B : List Addr}
def LB (K : PySem.W.Frag) (H : Hp) (B : List Addr) (vs : List V) (rows : List (List PyData)) : Prop :=
  vs.length = rows.length ∧ ∀ (i : Nat) (r : List PyData), rows[i]? = some r → ∃ (p : Addr) (xs : List V), vs[i]? = some (V.ref p) ∧ p ∉ B ∧ H p = some (.lst xs) ∧ DpAll K H xs r
theorem LB.of {Dl : Addr} {vs : List V} {rows : List (List PyData)} (h : LLs K H Dl vs rows) : LB K H [Dl] vs rows :=
  ⟨h.1, fun i r hr => let ⟨p, xs, h1, h2, h3, h4⟩ := h.2 i r hr; ⟨p, xs, h1, by simp [h2], h3, h4⟩⟩
theorem LB.ex {vs : List V} {rows : List (List PyData)} (e : Ex H H') (h : LB K H B vs rows) : LB K H' B vs rows :=
  ⟨h.1, fun i r hr => let ⟨p, xs, h1, h2, h3, h4⟩ := h.2 i r hr; ⟨p, xs, h1, h2, e _ _ h3, dpA_ex e _ _ h4⟩⟩
theorem LB.grow {vs : List V} {rows : List (List PyData)} {a : Addr} (n : H a = none) (h : LB K H B vs rows) : LB K H (a :: B) vs rows :=
  ⟨h.1, fun i r hr => let ⟨p, xs, h1, h2, h3, h4⟩ := h.2 i r hr; ⟨p, xs, h1, by simp [h2, ne_of_none h3 n], h3, h4⟩⟩
theorem LB.less {vs : List V} {rows : List (List PyData)} {B' : List Addr} (hB : ∀ a ∈ B', a ∈ B) (h : LB K H B vs rows) : LB K H B' vs rows :=
  ⟨h.1, fun i r hr => let ⟨p, xs, h1, h2, h3, h4⟩ := h.2 i r hr; ⟨p, xs, h1, fun z => h2 (hB p z), h3, h4⟩⟩
theorem LB.flat {vs : List V} {rows : List (List PyData)} (fr : FlatRows rows) (e : ExT H H') (hk : ∀ q o, H q = some o → q ∉ B → H' q = some o) (h : LB K H B vs rows) : LB K H' B vs rows :=
  ⟨h.1, fun i r hr => let ⟨p, xs, h1, h2, h3, h4⟩ := h.2 i r hr; ⟨p, xs, h1, h2, hk _ _ h3 h2, dpA_exT e _ _ (fr r (List.mem_of_getElem? hr)) h4⟩⟩
theorem LB.outer {a : Addr} {vs ws us : List V} {rows : List (List PyData)} (ha : a ∈ B) (hD : H a = some (.lst us)) (fr : FlatRows rows) (h : LB K H B vs rows) : LB K (upd H a (.lst ws)) B vs rows :=
  h.flat fr (exT_lst hD) fun q o hq hB => by
    have hne : q ≠ a := fun z => hB (by rw [z]; exact ha)
    rw [upd_ne hne]; exact hq
theorem LB.dp : ∀ {vs : List V} {rows : List (List PyData)}, LB K H B vs rows → DpAll K H vs (rows.map .list)
  | [], [], _ => .nil
  | [], r :: rows, h => absurd h.1 (by simp)
  | v :: vs, [], h => absurd h.1 (by simp)
  | v :: vs, r :: rows, h => by
    obtain ⟨p, xs, h1, h2, h3, h4⟩ := h.2 0 r rfl
    have e : v = .ref p := Option.some.inj h1
    exact .cons (by rw [e]; exact .lst (sq_of h3) h4) (LB.dp ⟨by have := h.1; simpa using this, fun i r hr => h.2 (i + 1) r hr⟩)
theorem LB.set {vs : List V} {rows : List (List PyData)} {i : Nat} {p : Addr} {xs : List V} {r : List PyData} (hp : p ∉ B) (hx : H p = some (.lst xs)) (hr : DpAll K H xs r) (h : LB K H B vs rows) : LB K H B (vs.set i (.ref p)) (rows.set i r) := by
  refine ⟨by rw [List.length_set, List.length_set, h.1], fun j s hs => ?_⟩
  by_cases e : i = j
  · subst e
    have hi : i < rows.length := by
      by_cases z : i < rows.length
      · exact z
      · rw [List.getElem?_eq_none (by rw [List.length_set]; omega)] at hs; cases hs
    rw [List.getElem?_set_self hi] at hs
    have hs' : r = s := Option.some.inj hs
    subst hs'
    exact ⟨p, xs, by rw [List.getElem?_set_self (by rw [h.1]; exact hi)], hp, hx, hr⟩
  · rw [List.getElem?_set_ne e] at hs
    obtain ⟨q, ys, h1, h2, h3, h4⟩ := h.2 j s hs
    exact ⟨q, ys, by rw [List.getElem?_set_ne e]; exact h1, h2, h3, h4⟩
/-- an item of a list held by a name, as it is -/
theorem ev_ixV {j k : Nat} {a : Addr} {vs : List V} {v : V} {i : Int} (h : σ[j]? = some (some (.ref a))) (hs : SqL K H a vs) (hb : EvD K tb σ H (.int i)) (hi : i = (k : Int)) (hv : vs[k]? = some v) : Ev (tOp (rIx K) (tVar j) tb) σ H v := fun H1 e Q q =>
  ⟨.ref a, h, hb H1 e _ fun w H2 e2 s => .inl ⟨a, vs, i, v, rfl, dp_int s, ex_l (e.trans e2) hs, atI_of hv hi, q H2 e2⟩⟩
/-- the heap without what stands at a -/
def hide (H : Hp) (a : Addr) : Hp := fun q => if q = a then none else H q
theorem hide_ne {a q : Addr} (h : q ≠ a) : hide H a q = H q := by unfold hide; rw [if_neg h]
theorem hide_ex {a : Addr} {o : HO} : Ex (hide H a) (upd H a o) := fun q u hq => by
  unfold hide at hq
  by_cases e : q = a
  · rw [if_pos e] at hq; cases hq
  · rw [if_neg e] at hq; rw [upd_ne e]; exact hq
theorem hide_mono {a : Addr} (e : Ex H H') : Ex (hide H a) (hide H' a) := fun q u hq => by
  unfold hide at hq ⊢
  by_cases z : q = a
  · rw [if_pos z] at hq; cases hq
  · rw [if_neg z] at hq ⊢; exact e _ _ hq
/-- what holds of a heap in which the list at a was written -/
structure Wr (a : Addr) (H H' : Hp) : Prop where
  keep : ∀ q o, H q = some o → q ≠ a → H' q = some o
theorem Wr.of (e : Ex H H') {a : Addr} {o : HO} : Wr a H (upd H' a o) := ⟨fun q u hq hne => by rw [upd_ne hne]; exact e _ _ hq⟩
theorem Wr.back {a : Addr} {H0 : Hp} (h : Wr a H H') (e : Ex H0 H) (n : H0 a = none) : Ex H0 H' := fun q o hq => h.keep q o (e _ _ hq) (ne_of_none hq n)
theorem Wr.trans {a : Addr} {H2 : Hp} (h : Wr a H H') (h2 : Wr a H' H2) : Wr a H H2 := ⟨fun q o hq hne => h2.keep q o (h.keep q o hq hne) hne⟩
theorem Wr.exT {a : Addr} {us : List V} (h : Wr a H H') (ha : H a = some (.lst us)) : ExT H H' := fun q o hq n1 _ _ => h.keep q o hq fun z => by
  subst z
  rw [ha] at hq
  exact n1 us (Option.some.inj hq).symm
theorem Wr.hide {a : Addr} (h : Wr a H H') : Ex (hide H a) H' := fun q o hq => by
  unfold KX.hide at hq
  by_cases z : q = a
  · rw [if_pos z] at hq; cases hq
  · rw [if_neg z] at hq; exact h.keep q o hq z
/-- xs[a], xs[b] = xs[b], xs[a] -/
theorem s_swap {k a b : Nat} {Da : Addr} {vs : List V} {va vb : V} {t1 t2 t3 t4 : TE} {i1 i2 i3 i4 : Int} (hD : H Da = some (.lst vs)) (hk : σ[k]? = some (some (.ref Da)))
    (h1 : EvD K t1 σ H (.int (b : Int))) (h2 : EvD K t2 σ H (.int (a : Int))) (h3 : EvD K t3 σ H (.int (a : Int))) (h4 : EvD K t4 σ (hide H Da) (.int (b : Int))) (hva : vs[a]? = some va) (hvb : vs[b]? = some vb)
    (q : ∀ H', Wr Da H H' → H' Da = some (.lst ((vs.set a vb).set b va)) → D.nx σ H') :
    tAsg (tTup (tCons (tOp (rIx K) (tVar k) t1) (tCons (tOp (rIx K) (tVar k) t2) tNil))) (gTup K 2 (gCons (gSub (tVar k) t3 rSetL) (gCons (gSub (tVar k) t4 rSetL) gNil))) D σ H := by
  have la := (List.getElem?_eq_some_iff.mp hva).1
  have lb := (List.getElem?_eq_some_iff.mp hvb).1
  refine ev_ixV hk (sq_of hD) h1 rfl hvb H (Ex.refl H) _ fun H1 e1 => ev_ixV hk (sq_of hD) h2 rfl hva H1 e1 _ fun H2 e2 => ⟨(by decide : 2 ≤ sizeLine), fun T nT => ?_⟩
  have e3 : Ex H (upd H2 T (.tup [vb, va])) := (e1.trans e2).trans (Ex.new nT)
  refine ⟨T, [vb, va], rfl, st_of upd_same, rfl, vb, [va], rfl, .ref Da, hk, h3 _ e3 _ fun w H4 e4 r4 => ⟨Da, vs, (a : Int), a, rfl, dp_int r4, (e3.trans e4) _ _ hD, ixN_nat la, ?_⟩⟩
  have e5 : Ex (hide H Da) (upd H4 Da (.lst (vs.set a vb))) := (hide_mono (e3.trans e4)).trans hide_ex
  refine ⟨va, [], rfl, .ref Da, hk, h4 _ e5 _ fun w H6 e6 r6 => ⟨Da, vs.set a vb, (b : Int), b, rfl, dp_int r6, e6 _ _ upd_same, ixN_nat (by rw [List.length_set]; exact lb), rfl, ?_⟩⟩
  refine q _ ⟨fun r o hr hne => ?_⟩ upd_same
  rw [upd_ne hne]
  refine e6 _ _ ?_
  rw [upd_ne hne]
  exact (e3.trans e4) _ _ hr
theorem LB.swap {vs : List V} {rows : List (List PyData)} {a b : Nat} {va vb : V} {ra rb : List PyData} (ha : rows[a]? = some ra) (hb : rows[b]? = some rb) (hva : vs[a]? = some va) (hvb : vs[b]? = some vb) (h : LB K H B vs rows) :
    LB K H B ((vs.set a vb).set b va) ((rows.set a rb).set b ra) := by
  obtain ⟨p, xs, h1, h2, h3, h4⟩ := h.2 a ra ha
  obtain ⟨p', xs', h1', h2', h3', h4'⟩ := h.2 b rb hb
  rw [hva] at h1
  rw [hvb] at h1'
  rw [Option.some.inj h1, Option.some.inj h1']
  exact (h.set h2' h3' h4').set h2 h3 h4
/-- xs[i] = a new list -/
theorem s_setRow {k j : Nat} {Da : Addr} {vs : List V} {rows : List (List PyData)} {r : List PyData} (hB : Da ∈ B) (hBt : ∀ a ∈ B, H a ≠ none) (hD : H Da = some (.lst vs)) (hL : LB K H B vs rows) (fr : FlatRows rows) (hf : flatDs r = true) (hk : σ[k]? = some (some (.ref Da)))
    (h : EvN K te σ H r) (hi : EvD K tb σ H (.int (j : Int))) (hj : j < rows.length)
    (q : ∀ vs' H', Wr Da H H' → H' Da = some (.lst vs') → LB K H' B vs' (rows.set j r) → D.nx σ H') : tAsg te (gSub (tVar k) tb rSetL) D σ H :=
  h H (Ex.refl H) _ fun p xs H1 np e1 hp hr => ⟨.ref Da, hk, hi H1 e1 _ fun w H2 e2 r2 => ⟨Da, vs, (j : Int), j, rfl, dp_int r2, (e1.trans e2) _ _ hD, ixN_nat (by rw [hL.1]; exact hj), by
    have hpB : p ∉ B := fun z => hBt p z np
    have fr' : FlatRows (rows.set j r) := fun s hs => by
      rcases List.mem_or_eq_of_mem_set hs with h | h
      · exact fr s h
      · rw [h]; exact hf
    refine q (vs.set j (.ref p)) _ (Wr.of (e1.trans e2)) upd_same ?_
    exact ((hL.ex (e1.trans e2)).set hpB (e2 _ _ hp) (dpA_ex e2 _ _ hr)).outer hB ((e1.trans e2) _ _ hD) fr'⟩⟩
variable {tz : TS}
/-- x, y = a new list of new lists, [] -/
theorem q_pairLL {i j : Nat} {rows : List (List PyData)} (h : EvLL K ta σ H rows) (k : ∀ Da vs L0 H', H Da = none → H L0 = none → Da ≠ L0 → Ex H H' → H' Da = some (.lst vs) → LB K H' [L0, Da] vs rows → H' L0 = some (.lst []) → tz D ((σ.set i (some (.ref Da))).set j (some (.ref L0))) H') :
    tSeq (tAsg (tTup (tCons ta (tCons (tLst tNil) tNil))) (gTup K 2 (gCons (gName i) (gCons (gName j) gNil)))) tz D σ H :=
  h H (Ex.refl H) _ fun Da vs H1 nD e1 hD hL => ⟨(by decide : 0 ≤ sizeLine), fun L0 nL => ⟨(by decide : 2 ≤ sizeLine), fun T0 nT => ⟨T0, _, rfl, st_of upd_same, rfl, _, _, rfl, _, _, rfl, rfl, by
    have e2 : Ex H1 (upd (upd H1 L0 (.lst [])) T0 (.tup [.ref Da, .ref L0])) := (Ex.new nL).trans (Ex.new nT)
    exact k Da vs L0 _ nD (fresh_back e1 nL) (fun z => by rw [← z, hD] at nL; cases nL) (e1.trans e2) (e2 _ _ hD) ((LB.grow nL (LB.of hL)).ex e2) (by rw [upd_ne (fun z => by rw [← z, upd_same] at nT; cases nT), upd_same])⟩⟩⟩
/-- x, y = a new list of new lists, an int -/
theorem q_pairLI {i j : Nat} {z : Int} {rows : List (List PyData)} (h : EvLL K ta σ H rows) (k : ∀ Da vs H', H Da = none → Ex H H' → H' Da = some (.lst vs) → LB K H' [Da] vs rows → tz D ((σ.set i (some (.ref Da))).set j (some (.int z))) H') :
    tSeq (tAsg (tTup (tCons ta (tCons (tC (.int z)) tNil))) (gTup K 2 (gCons (gName i) (gCons (gName j) gNil)))) tz D σ H :=
  h H (Ex.refl H) _ fun Da vs H1 nD e1 hD hL => ⟨(by decide : 2 ≤ sizeLine), fun T0 nT => ⟨T0, _, rfl, st_of upd_same, rfl, _, _, rfl, _, _, rfl, rfl,
    k Da vs _ nD (e1.trans (Ex.new nT)) ((Ex.new nT) _ _ hD) ((LB.of hL).ex (Ex.new nT))⟩⟩
end
end KX
end
section
set_option Elab.async false
set_option linter.all false
set_option maxRecDepth 100000
set_option maxHeartbeats 2000000
/-! tuple(zip(*rows)), rows a list of tuples. -/
namespace KV
open PySem PySem.Spec PyProof.Rows L2 Evl KR KX

section
variable {M : Model} {A : Around} {E : Value → Shared → Prop} {s : Shared}
theorem callWith_starT {T : String} {pos p : Pos} {e : Expr} {env : Env} {Q : Value → Shared → Prop} (h : wpAny M A (eval e env) (fun v s₁ => PySem.W.StarOf M A E v (fun vs s₂ => wpAny M A (call (.type T) vs) Q E s₂) s₁) E s)
    (he : starEach [.Starred e p] env = [(true, eval e env)] := by rfl) : wpAny M A (callWith pos (.type T) [] (backTo pos (starEach [.Starred e p] env)) []) Q E s := by
  rw [he]
  refine PySem.W.ks_call (P := fun _ => True) rfl (fun h _ => ⟨.machine, .inr (.inl rfl), fun A Q E s k q => ?_⟩) (PySem.W.ks_lone (wpAny_mono h (fun v s1 h1 => wpAny_mono h1 (fun b s2 h2 => ⟨h2.1, wpAny_mono h2.2 (fun vs s3 h3 => ⟨True.intro, h3⟩) fun _ _ x => x⟩) fun _ _ x => x) fun _ _ x => x))
  exact wpAny_pure q
theorem forIn_steps {α β : Type} {body : α → β → Sem (ForInStep β)} {Q : β → Shared → Prop} (I : Nat → β → Shared → Prop) : ∀ (vs : List α) (i : Nat) (r : β) (s : Shared), I i r s →
    (∀ (j : Nat) (v : α) (r : β) (s : Shared), vs[j]? = some v → I (i + j) r s → wpAny M A (body v r) (fun st s' => ∃ r', st = .yield r' ∧ I (i + j + 1) r' s') E s) → (∀ r s, I (i + vs.length) r s → Q r s) → wpAny M A (forIn vs r body) Q E s
  | [], i, r, s, h, _, hq => by
    rw [List.forIn_nil]
    exact wpAny_pure (hq r s h)
  | v :: vs, i, r, s, h, hs, hq => by
    rw [List.forIn_cons]
    refine wpAny_bind (wpAny_mono (hs 0 v r s rfl h) (fun st s1 ⟨r', e, h1⟩ => ?_) fun _ _ x => x)
    subst e
    refine forIn_steps I vs (i + 1) r' s1 h1 (fun j v r s hv hI => ?_) fun r s hI => hq r s ?_
    · have e1 : i + 1 + j = i + (j + 1) := by omega
      rw [e1] at hI ⊢
      exact hs (j + 1) v r s hv hI
    · have e1 : i + 1 + vs.length = i + (v :: vs).length := by simp; omega
      rw [e1] at hI; exact hI
end
abbrev IsTupN (h : Heap) (T : Addr) (vs : List Value) : Prop := h.get? T = some { cls := .type "tuple", data := .seq vs.toArray }
abbrev IsZipF (h : Heap) (z TI TO : Addr) (x : Value) (f : Bool) : Prop := h.get? z = some { cls := .type "zip", dict := none, data := .fields #[x, .bool f, .bool false, .ref TI, .ref TO], slots := #[] }
abbrev Zs := List (Addr × Addr × List Value)
/-- the iterators: j of them a step further -/
def Its (h : Heap) (zs : Zs) (k j : Nat) : Prop := ∀ (i : Nat) (q : Addr × Addr × List Value), zs[i]? = some q → h.IsTupleIter q.1 q.2.1 (if i < j then k + 1 else k) ∧ h.IsTuple q.2.1 q.2.2.toArray
def Nd (zs : Zs) : Prop := ∀ (i j : Nat) (q r : Addr × Addr × List Value), zs[i]? = some q → zs[j]? = some r → q.1 = r.1 → i = j
section
variable {prog : Program} {w : World} {A : Around} {E : Value → Shared → Prop} {s : Shared}
theorem Its.tup_ne {h : Heap} {zs : Zs} {k j i i2 : Nat} {q r : Addr × Addr × List Value} (I : Its h zs k j) (hq : zs[i]? = some q) (hr : zs[i2]? = some r) : r.2.1 ≠ q.1 := fun e => by
  obtain ⟨⟨o, h1, h2, _⟩, _⟩ := I i q hq
  obtain ⟨_, ⟨o2, h3, h4, _⟩⟩ := I i2 r hr
  rw [e, h1] at h3
  rw [← Option.some.inj h3, h2] at h4
  simp at h4
theorem Its.step {h h' : Heap} {zs : Zs} {k j : Nat} {q : Addr × Addr × List Value} (I : Its h zs k j) (nd : Nd zs) (hq : zs[j]? = some q) (h1 : h'.IsTupleIter q.1 q.2.1 (k + 1)) (sb : Heap.SameBut q.1 h h') : Its h' zs k (j + 1) := fun i r hr => by
  obtain ⟨a, b⟩ := I i r hr
  refine ⟨?_, b.extBut sb.extBut (I.tup_ne hq hr)⟩
  by_cases e : i = j
  · subst e
    rw [hq] at hr
    obtain rfl := Option.some.inj hr
    rw [if_pos (by omega)]; exact h1
  · have hne : r.1 ≠ q.1 := fun z => e (nd i j r q hr hq z)
    have e2 : (if i < j + 1 then k + 1 else k) = if i < j then k + 1 else k := by
      by_cases z : i < j
      · rw [if_pos z, if_pos (by omega)]
      · rw [if_neg z, if_neg (by omega)]
    rw [e2]
    exact a.extBut sb.extBut hne
theorem Its.over {h h' : Heap} {zs : Zs} {k j : Nat} {x : Addr} (I : Its h zs k j) (sb : Heap.ExtBut x h h') (hx : ∀ q ∈ zs, q.1 ≠ x ∧ q.2.1 ≠ x) : Its h' zs k j := fun i r hr => by
  obtain ⟨a, b⟩ := I i r hr
  obtain ⟨n1, n2⟩ := hx r (List.mem_of_getElem? hr)
  exact ⟨a.extBut sb n1, b.extBut sb n2⟩
theorem Its.keeps {h h' : Heap} {zs : Zs} {k j : Nat} (I : Its h zs k j) (kp : ∀ b o, h.get? b = some o → h'.get? b = some o) : Its h' zs k j := fun i r hr => by
  obtain ⟨a, b⟩ := I i r hr
  exact ⟨a.at fun o e => kp _ o e, b.at fun o e => kp _ o e⟩
theorem Its.end {h : Heap} {zs : Zs} {k j : Nat} (I : Its h zs k j) (hj : zs.length ≤ j) : Its h zs (k + 1) 0 := fun i r hr => by
  have := (List.getElem?_eq_some_iff.mp hr).1
  obtain ⟨a, b⟩ := I i r hr
  rw [if_pos (by omega)] at a
  exact ⟨by rw [if_neg (by omega)]; exact a, b⟩
/-- behind the first turn: the tuple T is still out -/
theorem next_held {z TI TO T : Addr} {f : Bool} {oT : Obj} {zs : Zs} {k : Nat} {Q : Value → Shared → Prop} (nd : Nd zs) (hne : zs ≠ []) (hz : IsZipF s.heap z TI TO (rawInt T) f) (hT : s.heap.get? T = some oT) (hTI : IsTupN s.heap TI (zs.map fun q => .ref q.1)) (I : Its s.heap zs k 0)
    (hx : ∀ q ∈ zs, k < q.2.2.length) (hsz : zs.length ≤ 100)
    (hQ : ∀ h', IsZipF h' z TI TO (rawInt T) true → Its h' zs (k + 1) 0 → IsTupN h' s.heap.objs.size (zs.map fun q => q.2.2.getD k .none) → h'.objs.size = s.heap.objs.size + 1 →
      (∀ c o, c ≠ z → (∀ q ∈ zs, c ≠ q.1) → s.heap.get? c = some o → h'.get? c = some o) → Q (.ref s.heap.objs.size) { s with heap := h' }) :
    wpAny (model prog w) A (Builtin.«zip.__next__» ⟨[.ref z], []⟩) (fun fin s' => ∃ v, fin = .done (.ret v) ∧ Q v s') E s := by
  have znq : ∀ q ∈ zs, q.1 ≠ z ∧ q.2.1 ≠ z := fun q hq => by
    obtain ⟨i, hi⟩ := List.mem_iff_getElem?.mp hq
    obtain ⟨⟨o, h1, h2, _⟩, ⟨o2, h3, h4, _⟩⟩ := I i q hi
    refine ⟨fun e => ?_, fun e => ?_⟩
    · rw [e] at h1; rw [hz] at h1; rw [← Option.some.inj h1] at h2; simp at h2
    · rw [e] at h3; rw [hz] at h3; rw [← Option.some.inj h3] at h4; simp at h4
  show wpAny _ _ (field (.ref z) 2 >>= _) _ _ _
  refine wpAny_bind (wpAny_field hz rfl (x := .bool false) rfl ?_)
  show wpAny _ _ (field (.ref z) 3 >>= _) _ _ _
  refine wpAny_bind (wpAny_field hz rfl (x := .ref TI) rfl ?_)
  refine wpAny_bind (wpAny_seqItems hTI rfl ?_)
  have hemp : ((zs.map fun q => Value.ref q.1).toArray).isEmpty = false := by
    cases zs with
    | nil => exact absurd rfl hne
    | cons a l => rfl
  simp only [hemp, Bool.false_eq_true, if_false]
  show wpAny _ _ (Builtin.SmallTypes.ownedTupleIsFree (.ref z) >>= _) _ _ _
  refine wpAny_bind (wpAny_tupleHeld_zip hz hT fun h₁ hz₁ hs₁ => ?_)
  simp only [Bool.false_eq_true, if_false]
  refine wpAny_bind ?_
  rw [← Array.forIn_toList]
  refine forIn_steps (fun j (r : Option Fin × Array Value) (s' : Shared) => r.1 = none ∧ r.2.toList = (zs.take j).map (fun q => q.2.2.getD k .none) ∧ ∃ h', s' = { s with heap := h' } ∧ IsZipF h' z TI TO (rawInt T) true ∧ Its h' zs k j ∧
    h'.objs.size = s.heap.objs.size ∧ ∀ c o, c ≠ z → (∀ q ∈ zs, c ≠ q.1) → s.heap.get? c = some o → h'.get? c = some o) _ 0 _ _ ⟨rfl, rfl, h₁, rfl, hz₁, I.over hs₁.extBut znq, hs₁.1, fun c o c1 _ e => hs₁.extBut _ _ c1 e⟩
    (fun j v r s' hv hI => ?_) (fun r s' hI => ?_)
  · rw [Nat.zero_add] at hI ⊢
    obtain ⟨e1, e2, h', rfl, hz', I', sz', kp'⟩ := hI
    have hvl : ((zs.map fun q => Value.ref q.1).toArray.toList)[j]? = some v := hv
    rw [List.toList_toArray, List.getElem?_map] at hvl
    cases hq : zs[j]? with
    | none => rw [hq] at hvl; cases hvl
    | some q =>
      rw [hq] at hvl
      obtain rfl : v = .ref q.1 := (Option.some.inj hvl).symm
      have hm : q ∈ zs := List.mem_of_getElem? hq
      obtain ⟨hit, htu⟩ := I' j q hq
      rw [if_neg (Nat.lt_irrefl _)] at hit
      have hxk : q.2.2.toArray[k]? = some (q.2.2.getD k .none) := by
        have := hx q hm
        rw [List.getElem?_toArray, List.getElem?_eq_getElem this, List.getD_eq_getElem?_getD, List.getElem?_eq_getElem this]; rfl
      refine wpAny_bind (wpAny_holding ?_)
      show wpAny _ _ (Builtin.SmallTypes.nextOf (.ref q.1) >>= _) _ _ _
      refine wpAny_bind (PySem.wpAny_nextOf_tuple_item (s := { s with heap := h' }) hit htu hxk fun h2 hit2 sb => wpAny_pure ?_)
      refine wpAny_pure ⟨_, rfl, rfl, ?_, h2, rfl, sb.extBut _ _ (fun e => (znq q hm).1 e.symm) hz', I'.step nd hq hit2 sb, by rw [sb.1]; exact sz', fun c o c1 c2 e => sb.extBut _ _ (c2 q hm) (kp' c o c1 c2 e)⟩
      rw [Array.toList_push, e2]
      rw [List.take_add_one, hq]
      simp
  · obtain ⟨e1, e2, h', rfl, hz', I', sz', kp'⟩ := hI
    obtain ⟨r1, r2⟩ := r
    simp only at e1 e2
    subst e1
    have hlen : 0 + (zs.map fun q => Value.ref q.1).toArray.toList.length = zs.length := by simp
    rw [hlen] at e2 I'
    rw [List.take_length] at e2
    show wpAny _ _ (newTuple r2.toList >>= _) _ _ _
    rw [e2]
    refine wpAny_bind (wpAny_newTuple ?_)
    have hp : IsTupN (h'.push { cls := .type "tuple", data := .seq (zs.map fun q => q.2.2.getD k .none).toArray }) h'.objs.size (zs.map fun q => q.2.2.getD k .none) := Heap.get?_push_size _ rfl
    have hz4 : (h'.push { cls := .type "tuple", data := .seq (zs.map fun q => q.2.2.getD k .none).toArray }).objs.size = h'.objs.size + 1 := Heap.size_push ..
    refine wpAny_pure ⟨_, rfl, ?_⟩
    show Q (.ref h'.objs.size) _
    rw [sz'] at hp hz4 ⊢
    exact hQ _ (Heap.get?_push_of_some _ hz') ((I'.end (Nat.le_refl _)).keeps fun b o e => Heap.get?_push_of_some _ e) hp hz4 fun c o c1 c2 e => Heap.get?_push_of_some _ (kp' c o c1 c2 e)

theorem updateSeq_N {T : Addr} {outs : List Value} {x : Value} {k : Nat} {Q : Unit → Shared → Prop} (hT : IsTupN s.heap T outs) (hl : outs.length ≤ 100)
    (h : ∀ h', IsTupN h' T (outs.set k x) → Heap.SameBut T s.heap h' → Q () { s with heap := h' }) :
    wpAny (model prog w) A (updateSeq T (·.setIfInBounds k x)) Q E s := by
  have hs : outs.toArray.size ≤ 100 := by simpa using hl
  refine wpAny_updateSeq hT rfl (h _ ?_ (Heap.SameBut.update ..)) (Nat.le_trans hs (by decide)) (by rw [Array.size_setIfInBounds]; exact Nat.le_trans hs (by decide))
  show Heap.get? _ _ = _
  rw [Heap.get?_update_self _ hT rfl]
  simp [Obj.mapSeq]
theorem next_first {z TI TO : Addr} {outs : List Value} {zs : Zs} {Q : Value → Shared → Prop} (nd : Nd zs) (hne : zs ≠ []) (hz : IsZip s.heap z TI TO .none) (hTI : IsTupN s.heap TI (zs.map fun q => .ref q.1)) (hTO : IsTupN s.heap TO outs) (I : Its s.heap zs 0 0)
    (hx : ∀ q ∈ zs, 0 < q.2.2.length) (hsz : zs.length ≤ 100) (hol : outs.length = zs.length) (hTOq : ∀ q ∈ zs, q.1 ≠ TO ∧ q.2.1 ≠ TO) (hzTO : z ≠ TO)
    (hQ : ∀ h', IsZipF h' z TI TO (rawInt s.heap.objs.size) false → Its h' zs 1 0 → IsTupN h' s.heap.objs.size (zs.map fun q => q.2.2.getD 0 .none) → h'.objs.size = s.heap.objs.size + 1 →
      (∀ c o, c ≠ z → c ≠ TO → (∀ q ∈ zs, c ≠ q.1) → s.heap.get? c = some o → h'.get? c = some o) → Q (.ref s.heap.objs.size) { s with heap := h' }) :
    wpAny (model prog w) A (Builtin.«zip.__next__» ⟨[.ref z], []⟩) (fun fin s' => ∃ v, fin = .done (.ret v) ∧ Q v s') E s := by
  have znq : ∀ q ∈ zs, q.1 ≠ z ∧ q.2.1 ≠ z := fun q hq => by
    obtain ⟨i, hi⟩ := List.mem_iff_getElem?.mp hq
    obtain ⟨⟨o, h1, h2, _⟩, ⟨o2, h3, h4, _⟩⟩ := I i q hi
    refine ⟨fun e => ?_, fun e => ?_⟩
    · rw [e] at h1; rw [hz] at h1; rw [← Option.some.inj h1] at h2; simp at h2
    · rw [e] at h3; rw [hz] at h3; rw [← Option.some.inj h3] at h4; simp at h4
  show wpAny _ _ (field (.ref z) 2 >>= _) _ _ _
  refine wpAny_bind (wpAny_field hz rfl (x := .bool false) rfl ?_)
  show wpAny _ _ (field (.ref z) 3 >>= _) _ _ _
  refine wpAny_bind (wpAny_field hz rfl (x := .ref TI) rfl ?_)
  refine wpAny_bind (wpAny_seqItems hTI rfl ?_)
  have hemp : ((zs.map fun q => Value.ref q.1).toArray).isEmpty = false := by
    cases zs with
    | nil => exact absurd rfl hne
    | cons a l => rfl
  simp only [hemp, Bool.false_eq_true, if_false]
  show wpAny _ _ (Builtin.SmallTypes.ownedTupleIsFree (.ref z) >>= _) _ _ _
  refine wpAny_bind ?_
  unfold Builtin.SmallTypes.ownedTupleIsFree
  refine wpAny_bind (wpAny_field hz rfl (x := .none) rfl (wpAny_pure ?_))
  simp only [if_true]
  refine wpAny_bind (wpAny_rule ?_)
  refine wpAny_bind (wpAny_field hz rfl (x := .ref TO) rfl ?_)
  refine wpAny_bind (wpAny_setField_rec hz (by simp) fun g0 hz0 hs0 => ?_)
  replace hz0 : IsZip g0 z TI TO .ellipsis := hz0
  replace hs0 : Heap.SameBut z s.heap g0 := hs0
  refine wpAny_bind ?_
  refine forIn_steps (fun j (r : Option Fin × Unit) (s' : Shared) => r.1 = none ∧ ∃ h' outs', s' = { s with heap := h' } ∧ IsZip h' z TI TO .ellipsis ∧ IsTupN h' TO outs' ∧ outs'.length = zs.length ∧ (∀ i q, i < j → zs[i]? = some q → outs'[i]? = some (q.2.2.getD 0 .none)) ∧ Its h' zs 0 j ∧
    h'.objs.size = s.heap.objs.size ∧ ∀ c o, c ≠ z → c ≠ TO → (∀ q ∈ zs, c ≠ q.1) → s.heap.get? c = some o → h'.get? c = some o) _ 0 _ _ ⟨rfl, g0, outs, rfl, hz0, hs0.extBut _ _ (fun e => hzTO e.symm) hTO, hol, fun i q h => absurd h (Nat.not_lt_zero _), I.over hs0.extBut znq, hs0.1, fun c o c1 _ _ e => hs0.extBut _ _ c1 e⟩
    (fun j v r s' hv hI => ?_) (fun r s' hI => ?_)
  · rw [Nat.zero_add] at hI ⊢
    obtain ⟨e1, h', outs', rfl, hz', hO', ol', oe', I', sz', kp'⟩ := hI
    rw [List.getElem?_zipIdx, List.getElem?_map] at hv
    cases hq : zs[j]? with
    | none => rw [hq] at hv; cases hv
    | some q =>
      rw [hq] at hv
      obtain rfl : v = (.ref q.1, 0 + j) := (Option.some.inj hv).symm
      have hm : q ∈ zs := List.mem_of_getElem? hq
      obtain ⟨hit, htu⟩ := I' j q hq
      rw [if_neg (Nat.lt_irrefl _)] at hit
      have hxk : q.2.2.toArray[0]? = some (q.2.2.getD 0 .none) := by
        have := hx q hm
        rw [List.getElem?_toArray, List.getElem?_eq_getElem this, List.getD_eq_getElem?_getD, List.getElem?_eq_getElem this]; rfl
      refine wpAny_bind (wpAny_onRaise ?_)
      show wpAny _ _ (Builtin.SmallTypes.nextOf (.ref q.1) >>= _) _ _ _
      refine wpAny_bind (PySem.wpAny_nextOf_tuple_item (s := { s with heap := h' }) hit htu hxk fun h2 hit2 sb => wpAny_pure ?_)
      have hO2 : IsTupN h2 TO outs' := sb.extBut _ _ (fun e => (hTOq q hm).1 e.symm) hO'
      refine wpAny_bind (wpAny_seqItems (s := { s with heap := h2 }) hO2 rfl ?_)
      refine wpAny_bind (updateSeq_N (s := { s with heap := h2 }) hO2 (by omega) fun h3 hO3 sb3 => ?_)
      refine wpAny_bind (wpAny_letGo (wpAny_pure ?_))
      rw [Nat.zero_add] at hO3
      have tq : ∀ r ∈ zs, r.1 ≠ TO ∧ r.2.1 ≠ TO := hTOq
      refine ⟨_, rfl, rfl, h3, _, rfl, sb3.extBut _ _ hzTO (sb.extBut _ _ (fun e => (znq q hm).1 e.symm) hz'), hO3, by rw [List.length_set]; exact ol', fun i r hi hr => ?_, (I'.step nd hq hit2 sb).over sb3.extBut tq, by rw [sb3.1, sb.1]; exact sz', fun c o c1 c2 c3 e => sb3.extBut _ _ c2 (sb.extBut _ _ (c3 q hm) (kp' c o c1 c2 c3 e))⟩
      by_cases e : i = j
      · subst e
        rw [hq] at hr
        obtain rfl := Option.some.inj hr
        have := (List.getElem?_eq_some_iff.mp hq).1
        rw [List.getElem?_set_self (by omega)]
      · rw [List.getElem?_set_ne (fun z => e z.symm)]
        exact oe' i r (by omega) hr
  · obtain ⟨e1, h', outs', rfl, hz', hO', ol', oe', I', sz', kp'⟩ := hI
    obtain ⟨r1, r2⟩ := r
    simp only at e1
    subst e1
    have hlen : 0 + (zs.map fun q => Value.ref q.1).zipIdx.length = zs.length := by simp
    rw [hlen] at oe' I'
    have eo : outs' = zs.map fun q => q.2.2.getD 0 .none := List.ext_getElem? fun i => by
      rw [List.getElem?_map]
      cases hq : zs[i]? with
      | none =>
        have := List.getElem?_eq_none_iff.mp hq
        exact List.getElem?_eq_none (by omega)
      | some q => exact oe' i q (List.getElem?_eq_some_iff.mp hq).1 hq
    subst eo
    refine wpAny_bind (wpAny_seqItems (s := { s with heap := h' }) hO' rfl ?_)
    refine wpAny_bind (wpAny_newTuple ?_)
    show wpAny _ _ (Builtin.SmallTypes.ownedTupleHandOut (.ref z) (.ref h'.objs.size) >>= _) _ _ _
    refine wpAny_bind ?_
    unfold Builtin.SmallTypes.ownedTupleHandOut
    have hzlt : z < h'.objs.size := Heap.lt_size hz'
    have hz₆ : IsZip (h'.push { cls := .type "tuple", data := .seq (zs.map fun q => q.2.2.getD 0 .none).toArray }) z TI TO .ellipsis := Heap.get?_push_of_some _ hz'
    refine wpAny_bind (wpAny_setField_rec hz₆ (by simp) fun h₇ hz₇ hs₇ => ?_)
    replace hz₇ : IsZip h₇ z TI TO (rawInt h'.objs.size) := hz₇
    refine wpAny_setField_rec hz₇ (by simp) fun h₈ hz₈ hs₈ => ?_
    replace hz₈ : IsZip h₈ z TI TO (rawInt h'.objs.size) := hz₈
    replace hs₇ : Heap.SameBut z (h'.push { cls := .type "tuple", data := .seq (zs.map fun q => q.2.2.getD 0 .none).toArray }) h₇ := hs₇
    replace hs₈ : Heap.SameBut z h₇ h₈ := hs₈
    have up : ∀ c o, c ≠ z → h'.get? c = some o → h₈.get? c = some o := fun c o c1 e => hs₈.extBut _ _ c1 (hs₇.extBut _ _ c1 (Heap.get?_push_of_some _ e))
    have hT₈ : IsTupN h₈ h'.objs.size (zs.map fun q => q.2.2.getD 0 .none) := hs₈.extBut _ _ (Nat.ne_of_gt hzlt) (hs₇.extBut _ _ (Nat.ne_of_gt hzlt) (Heap.get?_push_size _ rfl))
    have hz8 : h₈.objs.size = h'.objs.size + 1 := by rw [hs₈.1, hs₇.1, Heap.size_push]
    rw [sz'] at hz₈ hT₈ hz8
    refine wpAny_pure ⟨_, rfl, ?_⟩
    show Q (.ref h'.objs.size) _
    rw [sz']
    have I8 : Its h₈ zs 1 0 := by
      have a := I'.end (Nat.le_refl _)
      have b : Its (h'.push { cls := .type "tuple", data := .seq (zs.map fun q => q.2.2.getD 0 .none).toArray }) zs 1 0 := a.keeps fun b o e => Heap.get?_push_of_some _ e
      exact (b.over hs₇.extBut znq).over hs₈.extBut znq
    exact hQ _ hz₈ I8 hT₈ hz8 fun c o c1 c2 c3 e => up c o c1 (kp' c o c1 c2 c3 e)

theorem next_end {z TI TO T : Addr} {f : Bool} {oT : Obj} {q : Addr × Addr × List Value} {zs : Zs} {k : Nat} {Q : Fin → Shared → Prop} (hh : A.handled = none) (hz : IsZipF s.heap z TI TO (rawInt T) f) (hT : s.heap.get? T = some oT) (hTI : IsTupN s.heap TI ((q :: zs).map fun q => .ref q.1)) (I : Its s.heap (q :: zs) k 0)
    (hx : q.2.2.length ≤ k)
    (hE : ∀ h' e, (∀ c o, c ≠ z → c ≠ q.1 → s.heap.get? c = some o → h'.get? c = some o) → (∃ o, h'.get? e = some o ∧ o.cls = .type "StopIteration") → E (.ref e) { s with heap := h' }) :
    wpAny (model prog w) A (Builtin.«zip.__next__» ⟨[.ref z], []⟩) Q E s := by
  obtain ⟨hit, htu⟩ := I 0 q rfl
  rw [if_neg (Nat.lt_irrefl _)] at hit
  have nq : q.1 ≠ z ∧ q.2.1 ≠ z := by
    obtain ⟨⟨o, h1, h2, _⟩, ⟨o2, h3, h4, _⟩⟩ := I 0 q rfl
    refine ⟨fun e => ?_, fun e => ?_⟩
    · rw [e] at h1; rw [hz] at h1; rw [← Option.some.inj h1] at h2; simp at h2
    · rw [e] at h3; rw [hz] at h3; rw [← Option.some.inj h3] at h4; simp at h4
  show wpAny _ _ (field (.ref z) 2 >>= _) _ _ _
  refine wpAny_bind (wpAny_field hz rfl (x := .bool false) rfl ?_)
  show wpAny _ _ (field (.ref z) 3 >>= _) _ _ _
  refine wpAny_bind (wpAny_field hz rfl (x := .ref TI) rfl ?_)
  refine wpAny_bind (wpAny_seqItems hTI rfl ?_)
  have hemp : (((q :: zs).map fun q => Value.ref q.1).toArray).isEmpty = false := rfl
  simp only [hemp, Bool.false_eq_true, if_false]
  show wpAny _ _ (Builtin.SmallTypes.ownedTupleIsFree (.ref z) >>= _) _ _ _
  refine wpAny_bind (wpAny_tupleHeld_zip hz hT fun h₁ hz₁ hs₁ => ?_)
  simp only [Bool.false_eq_true, if_false]
  refine wpAny_bind ?_
  rw [← Array.forIn_toList]
  simp only [List.map_cons, List.forIn_cons]
  refine wpAny_bind (wpAny_bind (wpAny_holding ?_))
  show wpAny _ _ (Builtin.SmallTypes.nextOf (.ref q.1) >>= _) _ _ _
  refine wpAny_bind (PySem.wpAny_nextOf_tuple_end (s := { s with heap := h₁ }) hh (hit.extBut hs₁.extBut nq.1) (htu.extBut hs₁.extBut nq.2) (by rw [List.getElem?_toArray]; exact List.getElem?_eq_none hx) fun h₂ e hs₂ he => ?_)
  exact hE h₂ e (fun c o c1 c2 x => hs₂ _ _ c2 (hs₁.extBut _ _ c1 x)) he
theorem pyNext_held {z TI TO T : Addr} {f : Bool} {oT : Obj} {zs : Zs} {k : Nat} {Q : Option Value → Shared → Prop} (nd : Nd zs) (hne : zs ≠ []) (hz : IsZipF s.heap z TI TO (rawInt T) f) (hT : s.heap.get? T = some oT) (hTI : IsTupN s.heap TI (zs.map fun q => .ref q.1)) (I : Its s.heap zs k 0)
    (hx : ∀ q ∈ zs, k < q.2.2.length) (hsz : zs.length ≤ 100)
    (hQ : ∀ h', IsZipF h' z TI TO (rawInt T) true → Its h' zs (k + 1) 0 → IsTupN h' s.heap.objs.size (zs.map fun q => q.2.2.getD k .none) → h'.objs.size = s.heap.objs.size + 1 →
      (∀ c o, c ≠ z → (∀ q ∈ zs, c ≠ q.1) → s.heap.get? c = some o → h'.get? c = some o) → Q (some (.ref s.heap.objs.size)) { s with heap := h' }) :
    wpAny (model prog w) A (pyNext (.ref z)) Q E s := by
  have hTy : s.TypeIs (.ref z) "zip" := ⟨_, hz, rfl⟩
  unfold pyNext
  exact wpAny_bind (wpAny_attempt (wpAny_callSpecial?_slot (name := Str.ofString "__next__") hTy PySem.F.slot_zip_next
    (wpAny_call_entry PySem.F.slot_zip_next hTy PySem.F.entry_zip_next
      (next_held nd hne hz hT hTI I hx hsz fun h' a1 a3 a4 a5 a6 => wpAny_pure (hQ h' a1 a3 a4 a5 a6)) (PySem.F.args_zip_next_1 _))))
theorem pyNext_first {z TI TO : Addr} {outs : List Value} {zs : Zs} {Q : Option Value → Shared → Prop} (nd : Nd zs) (hne : zs ≠ []) (hz : IsZip s.heap z TI TO .none) (hTI : IsTupN s.heap TI (zs.map fun q => .ref q.1)) (hTO : IsTupN s.heap TO outs) (I : Its s.heap zs 0 0)
    (hx : ∀ q ∈ zs, 0 < q.2.2.length) (hsz : zs.length ≤ 100) (hol : outs.length = zs.length) (hTOq : ∀ q ∈ zs, q.1 ≠ TO ∧ q.2.1 ≠ TO) (hzTO : z ≠ TO)
    (hQ : ∀ h', IsZipF h' z TI TO (rawInt s.heap.objs.size) false → Its h' zs 1 0 → IsTupN h' s.heap.objs.size (zs.map fun q => q.2.2.getD 0 .none) → h'.objs.size = s.heap.objs.size + 1 →
      (∀ c o, c ≠ z → c ≠ TO → (∀ q ∈ zs, c ≠ q.1) → s.heap.get? c = some o → h'.get? c = some o) → Q (some (.ref s.heap.objs.size)) { s with heap := h' }) :
    wpAny (model prog w) A (pyNext (.ref z)) Q E s := by
  have hTy : s.TypeIs (.ref z) "zip" := ⟨_, hz, rfl⟩
  unfold pyNext
  exact wpAny_bind (wpAny_attempt (wpAny_callSpecial?_slot (name := Str.ofString "__next__") hTy PySem.F.slot_zip_next
    (wpAny_call_entry PySem.F.slot_zip_next hTy PySem.F.entry_zip_next
      (next_first nd hne hz hTI hTO I hx hsz hol hTOq hzTO fun h' a1 a3 a4 a5 a6 => wpAny_pure (hQ h' a1 a3 a4 a5 a6)) (PySem.F.args_zip_next_1 _))))
theorem pyNext_end {z TI TO T : Addr} {f : Bool} {oT : Obj} {q : Addr × Addr × List Value} {zs : Zs} {k : Nat} {Q : Option Value → Shared → Prop} (hh : A.handled = none) (hz : IsZipF s.heap z TI TO (rawInt T) f) (hT : s.heap.get? T = some oT) (hTI : IsTupN s.heap TI ((q :: zs).map fun q => .ref q.1)) (I : Its s.heap (q :: zs) k 0)
    (hx : q.2.2.length ≤ k)
    (hQ : ∀ h', (∀ c o, c ≠ z → c ≠ q.1 → s.heap.get? c = some o → h'.get? c = some o) → Q none { s with heap := h' }) :
    wpAny (model prog w) A (pyNext (.ref z)) Q E s := by
  have hTy : s.TypeIs (.ref z) "zip" := ⟨_, hz, rfl⟩
  unfold pyNext
  refine wpAny_bind (wpAny_attempt (wpAny_callSpecial?_slot (name := Str.ofString "__next__") hTy PySem.F.slot_zip_next
    (wpAny_call_entry PySem.F.slot_zip_next hTy PySem.F.entry_zip_next (next_end hh hz hT hTI I hx fun h' e hk he => ?_) (PySem.F.args_zip_next_1 _))))
  obtain ⟨o, ho, hc⟩ := he
  refine wpAny_bind (wpAny_isInstance (T := "StopIteration") (b := true) ⟨o, ho, hc⟩ isSubtype_stop ?_)
  exact wpAny_pure (hQ _ hk)
end
end KV
end
section
set_option Elab.async false
set_option linter.all false
set_option maxRecDepth 100000
set_option maxHeartbeats 2000000
/-! tuple(zip(*rows)): the loop that collects the turns. -/
namespace KV
open PySem PySem.Spec PyProof.Rows L2 Evl KR KX
theorem far {a b N : Addr} (h : b < N) (h2 : N ≤ a) : a ≠ b := fun e => Nat.lt_irrefl _ (Nat.lt_of_lt_of_le (e ▸ h) h2)
structure ZFix (N z TI TO S : Addr) (zs : Zs) : Prop where
  nz : z < N
  nTI : TI < N
  nTO : TO < N
  nS : S < N
  nq : ∀ q ∈ zs, q.1 < N
  zTO : z ≠ TO
  TIz : TI ≠ z
  TITO : TI ≠ TO
  TIq : ∀ q ∈ zs, TI ≠ q.1
  qTO : ∀ q ∈ zs, q.1 ≠ TO ∧ q.2.1 ≠ TO
  Sz : S ≠ z
  STI : S ≠ TI
  STO : S ≠ TO
  Sq : ∀ q ∈ zs, q.1 ≠ S ∧ q.2.1 ≠ S
  nd : Nd zs
  ne : zs ≠ []
  len : zs.length ≤ 100
structure ZSt (hb : Heap) (N z TI TO S : Addr) (zs : Zs) (i : Nat) (h : Heap) (acc : List Value) : Prop where
  ti : IsTupN h TI (zs.map fun q => .ref q.1)
  its : Its h zs i 0
  zp : (i = 0 ∧ IsZip h z TI TO .none ∧ ∃ outs, IsTupN h TO outs ∧ outs.length = zs.length) ∨ (0 < i ∧ ∃ (T : Addr) (f : Bool) (oT : Obj), IsZipF h z TI TO (rawInt T) f ∧ h.get? T = some oT ∧ N ≤ T)
  al : acc.length = i
  at' : ∀ j, j < i → ∃ a : Addr, acc[j]? = some (.ref a) ∧ IsTupN h a (zs.map fun q => q.2.2.getD j .none) ∧ N ≤ a
  kp : ∀ c o, c ≠ z → c ≠ TO → c ≠ S → (∀ q ∈ zs, c ≠ q.1) → hb.get? c = some o → h.get? c = some o
  sz : N ≤ h.objs.size
section
variable {hb : Heap} {N z TI TO S : Addr} {zs : Zs} {i : Nat} {h h' : Heap} {acc : List Value}
theorem ZSt.over (F : ZFix N z TI TO S zs) (Z : ZSt hb N z TI TO S zs i h acc) (k : ∀ c o, c ≠ S → h.get? c = some o → h'.get? c = some o) (hs : h.objs.size ≤ h'.objs.size) : ZSt hb N z TI TO S zs i h' acc := by
  refine ⟨k _ _ F.STI.symm Z.ti, Z.its.over (fun c o hc e => k c o hc e) F.Sq, ?_, Z.al, fun j hj => ?_, fun c o c1 c2 c3 c4 e => k c o c3 (Z.kp c o c1 c2 c3 c4 e), Nat.le_trans Z.sz hs⟩
  · rcases Z.zp with ⟨e, hz, outs, ho, hl⟩ | ⟨e, T, f, oT, hz, hT, hn⟩
    · exact .inl ⟨e, k _ _ F.Sz.symm hz, outs, k _ _ F.STO.symm ho, hl⟩
    · exact .inr ⟨e, T, f, oT, k _ _ F.Sz.symm hz, k _ _ (far F.nS hn) hT, hn⟩
  · obtain ⟨a, e1, e2, e3⟩ := Z.at' j hj
    exact ⟨a, e1, k _ _ (far F.nS e3) e2, e3⟩
end
section
variable {prog : Program} {w : World} {A : Around} {E : Value → Shared → Prop} {s : Shared} {hb : Heap} {N z TI TO S : Addr} {zs : Zs} {i : Nat} {acc : List Value}
theorem ZSt.next {Q : Option Value → Shared → Prop} (F : ZFix N z TI TO S zs) (Z : ZSt hb N z TI TO S zs i s.heap acc) (hx : ∀ q ∈ zs, i < q.2.2.length)
    (hQ : ∀ h', (∀ c o, c ≠ z → c ≠ TO → (∀ q ∈ zs, c ≠ q.1) → s.heap.get? c = some o → h'.get? c = some o) → ZSt hb N z TI TO S zs (i + 1) h' (acc ++ [.ref s.heap.objs.size]) → Q (some (.ref s.heap.objs.size)) { s with heap := h' }) :
    wpAny (model prog w) A (pyNext (.ref z)) Q E s := by
  have build : ∀ (h' : Heap) (T : Addr) (f : Bool) (oT : Obj), IsZipF h' z TI TO (rawInt T) f → h'.get? T = some oT → N ≤ T → Its h' zs (i + 1) 0 → IsTupN h' s.heap.objs.size (zs.map fun q => q.2.2.getD i .none) → h'.objs.size = s.heap.objs.size + 1 →
      (∀ c o, c ≠ z → c ≠ TO → (∀ q ∈ zs, c ≠ q.1) → s.heap.get? c = some o → h'.get? c = some o) → ZSt hb N z TI TO S zs (i + 1) h' (acc ++ [.ref s.heap.objs.size]) := fun h' T f oT a1 a2 a3 a4 a5 a6 a7 => by
    refine ⟨a7 _ _ F.TIz F.TITO F.TIq Z.ti, a4, .inr ⟨by omega, T, f, oT, a1, a2, a3⟩, by rw [List.length_append, Z.al]; rfl, fun j hj => ?_, fun c o c1 c2 c3 c4 e => a7 c o c1 c2 c4 (Z.kp c o c1 c2 c3 c4 e), by rw [a6]; exact Nat.le_succ_of_le Z.sz⟩
    by_cases e : j = i
    · subst e
      refine ⟨s.heap.objs.size, ?_, a5, Z.sz⟩
      rw [List.getElem?_append_right (by rw [Z.al]; exact Nat.le_refl _), Z.al]; simp
    · obtain ⟨a, e1, e2, e3⟩ := Z.at' j (by omega)
      refine ⟨a, ?_, a7 _ _ (far F.nz e3) (far F.nTO e3) (fun q hq => far (F.nq q hq) e3) e2, e3⟩
      rw [List.getElem?_append_left (by rw [Z.al]; omega)]; exact e1
  rcases Z.zp with ⟨e, hz, outs, ho, hl⟩ | ⟨e, T, f, oT, hz, hT, hn⟩
  · subst e
    refine pyNext_first F.nd F.ne hz Z.ti ho Z.its hx F.len hl F.qTO F.zTO fun h' a1 a2 a3 a4 a5 => ?_
    exact hQ h' a5 (build h' s.heap.objs.size false _ a1 a3 Z.sz a2 a3 a4 a5)
  · refine pyNext_held F.nd F.ne hz hT Z.ti Z.its hx F.len fun h' a1 a2 a3 a4 a5 => ?_
    have a5' : ∀ c o, c ≠ z → c ≠ TO → (∀ q ∈ zs, c ≠ q.1) → s.heap.get? c = some o → h'.get? c = some o := fun c o c1 _ c3 e => a5 c o c1 c3 e
    refine hQ h' a5' (build h' T true oT a1 (a5 _ _ (far F.nz hn) (fun q hq => far (F.nq q hq) hn) hT) hn a2 a3 a4 a5')
theorem ZSt.done {Q : Option Value → Shared → Prop} (hh : A.handled = none) (F : ZFix N z TI TO S zs) (Z : ZSt hb N z TI TO S zs i s.heap acc) (hi : 0 < i) (hx : ∀ q ∈ zs, q.2.2.length ≤ i)
    (hQ : ∀ h', (∀ c o, c ≠ z → (∀ q ∈ zs, c ≠ q.1) → s.heap.get? c = some o → h'.get? c = some o) → Q none { s with heap := h' }) : wpAny (model prog w) A (pyNext (.ref z)) Q E s := by
  rcases Z.zp with ⟨e, _⟩ | ⟨e, T, f, oT, hz, hT, hn⟩
  · omega
  · have ne := F.ne
    have hti := Z.ti
    have hits := Z.its
    cases zs with
    | nil => exact absurd rfl ne
    | cons q zs =>
      exact pyNext_end hh hz hT hti hits (hx q (List.mem_cons_self ..)) fun h' kp => hQ h' fun c o c1 c2 e => kp c o c1 (c2 q (List.mem_cons_self ..)) e
/-- what stands behind the loop -/
structure ZEnd (hb : Heap) (N z TO S : Addr) (zs : Zs) (wd : Nat) (h : Heap) (acc : List Value) : Prop where
  al : acc.length = wd
  at' : ∀ j, j < wd → ∃ a : Addr, acc[j]? = some (.ref a) ∧ IsTupN h a (zs.map fun q => q.2.2.getD j .none) ∧ N ≤ a
  kp : ∀ c o, c ≠ z → c ≠ TO → c ≠ S → (∀ q ∈ zs, c ≠ q.1) → hb.get? c = some o → h.get? c = some o
theorem ext_loop {wd : Nat} {R : Result → Shared → Prop} (hh : A.handled = none) (F : ZFix N z TI TO S zs) (hw : 0 < wd) (hx : ∀ q ∈ zs, q.2.2.length = wd) (hn : wd ≤ 1000) (res : Value) :
    ∀ (k i : Nat) (s : Shared) (acc : Array Value) (c : Nat), wd - i = k → i ≤ wd → ZSt hb N z TI TO S zs i s.heap acc.toList → s.heap.get? S = some { cls := .type "list", dict := none, data := .seq acc c, slots := #[] } →
    (∀ h' acc' c', h'.get? S = some { cls := .type "list", dict := none, data := .seq acc' c', slots := #[] } → ZEnd hb N z TO S zs wd h' acc'.toList → R (.ok (.ret res)) { s with heap := h' }) →
    codeAny (model prog w) A (.builtin "list.extend.loop" ⟨[.ref S, .ref z, res], []⟩) R s := by
  intro k
  induction k with
  | zero =>
    intro i s acc c hk hi Z hS hR
    have hin : i = wd := by omega
    subst hin
    refine codeAny_builtin PySem.F.entry_extend_loop ?_
    rw [Around.under_plainId PySem.F.plain_extend_loop _]
    show wpAny _ A.in1 (pyNext (.ref z) >>= _) _ _ s
    refine wpAny_bind (Z.done (A := A.in1) hh F hw (fun q hq => by rw [hx q hq]; exact Nat.le_refl _) fun h' kp => ?_)
    refine wpAny_pure (hR h' acc c (kp _ _ F.Sz (fun q hq e => (F.Sq q hq).1 e.symm) hS) ⟨Z.al, fun j hj => ?_, fun c o c1 c2 c3 c4 e => kp c o c1 c4 (Z.kp c o c1 c2 c3 c4 e)⟩)
    obtain ⟨a, e1, e2, e3⟩ := Z.at' j hj
    exact ⟨a, e1, kp _ _ (far F.nz e3) (fun q hq => far (F.nq q hq) e3) e2, e3⟩
  | succ k ih =>
    intro i s acc c hk hi Z hS hR
    have hlt : i < wd := by omega
    refine codeAny_builtin PySem.F.entry_extend_loop ?_
    rw [Around.under_plainId PySem.F.plain_extend_loop _]
    show wpAny _ A.in1 (pyNext (.ref z) >>= _) _ _ s
    refine wpAny_bind (Z.next F (fun q hq => by rw [hx q hq]; exact hlt) fun h' kp Z' => ?_)
    have hS' := kp S _ F.Sz F.STO (fun q hq e => (F.Sq q hq).1 e.symm) hS
    have hal : acc.size = i := by have := Z.al; rw [Array.length_toList] at this; exact this
    show wpAny _ A.in1 (updateSeq S (·.push (.ref s.heap.objs.size)) >>= _) _ _ _
    refine wpAny_bind ?_
    refine wpAny_updateSeq (s := { s with heap := h' }) hS' rfl (wpAny_pure ⟨plainId_quiet PySem.F.plain_extend_loop _, ih (i + 1) { s with heap := h'.update S (Obj.mapSeq (·.push (.ref s.heap.objs.size))) } (acc.push (.ref s.heap.objs.size)) _ (by omega) hlt ?_ (Heap.get?_update_self _ hS' rfl) fun h2 acc' c' hS2 Z2 => ?_⟩)
      (by rw [hal, sizeLine_eq]; omega) (by show (acc.push _).size ≤ sizeLine + 1; rw [Array.size_push, hal, sizeLine_eq]; omega)
    · rw [Array.toList_push]
      exact Z'.over F (fun b o hb e => (Heap.get?_update_other _ _ (fun h : S = b => hb h.symm)).trans e) (by show h'.objs.size ≤ (h'.update S _).objs.size; rw [Heap.size_update]; exact Nat.le_refl _)
    · exact hR h2 acc' c' hS2 Z2

theorem nolen_zip : typeLookup (.type "zip") "__len__" = pure none := by rw [typeLookup_type, builtinLookup_eq_fast]; kernel_rfl
theorem nohint_zip : typeLookup (.type "zip") "__length_hint__" = pure none := by rw [typeLookup_type, builtinLookup_eq_fast]; kernel_rfl
/-- a zip that has not begun -/
structure ZNew (h : Heap) (z TI TO : Addr) (zs : Zs) : Prop where
  zp : IsZip h z TI TO .none
  ti : IsTupN h TI (zs.map fun q => .ref q.1)
  to : ∃ outs, IsTupN h TO outs ∧ outs.length = zs.length
  its : Its h zs 0 0
  zTO : z ≠ TO
  TIz : TI ≠ z
  TITO : TI ≠ TO
  TIq : ∀ q ∈ zs, TI ≠ q.1
  qTO : ∀ q ∈ zs, q.1 ≠ TO ∧ q.2.1 ≠ TO
  nd : Nd zs
  ne : zs ≠ []
  len : zs.length ≤ 100
theorem ZNew.lt {h : Heap} (Z : ZNew h z TI TO zs) : ∀ q ∈ zs, q.1 < h.objs.size ∧ q.2.1 < h.objs.size := fun q hq => by
  obtain ⟨i, hi⟩ := List.mem_iff_getElem?.mp hq
  obtain ⟨⟨o, h1, _⟩, ⟨o2, h3, _⟩⟩ := Z.its i q hi
  exact ⟨Heap.lt_size h1, Heap.lt_size h3⟩
theorem collect_zip {wd : Nat} {Q : List Value → Shared → Prop} (hh : A.handled = none) (Z : ZNew s.heap z TI TO zs) (hw : 0 < wd) (hx : ∀ q ∈ zs, q.2.2.length = wd) (hn : wd ≤ 1000)
    (hQ : ∀ h' acc, acc.length = wd → (∀ j, j < wd → ∃ a : Addr, acc[j]? = some (.ref a) ∧ IsTupN h' a (zs.map fun q => q.2.2.getD j .none) ∧ s.heap.objs.size ≤ a) → (∀ c o, c ≠ z → c ≠ TO → (∀ q ∈ zs, c ≠ q.1) → s.heap.get? c = some o → h'.get? c = some o) → Q acc { s with heap := h' }) :
    wpAny (model prog w) A (collect (.ref z)) Q E s := by
  obtain ⟨outs, hTO, hol⟩ := Z.to
  have lz : z < s.heap.objs.size := Heap.lt_size Z.zp
  have lTI : TI < s.heap.objs.size := Heap.lt_size Z.ti
  have lTO : TO < s.heap.objs.size := Heap.lt_size hTO
  have lq := Z.lt
  have hSi : s.heap.objs.size ≠ z := Nat.ne_of_gt lz
  have F : ZFix (s.heap.objs.size + 1) z TI TO s.heap.objs.size zs := ⟨Nat.lt_succ_of_lt lz, Nat.lt_succ_of_lt lTI, Nat.lt_succ_of_lt lTO, Nat.lt_succ_self _, fun q hq => Nat.lt_succ_of_lt (lq q hq).1, Z.zTO, Z.TIz, Z.TITO, Z.TIq, Z.qTO, hSi, Nat.ne_of_gt lTI, Nat.ne_of_gt lTO,
    fun q hq => ⟨Nat.ne_of_lt (lq q hq).1, Nat.ne_of_lt (lq q hq).2⟩, Z.nd, Z.ne, Z.len⟩
  unfold collect
  refine wpAny_bind (wpAny_runValue (codeAny_builtin PySem.F.entry_proto_collect ?_))
  rw [Around.under_plainId PySem.F.plain_proto_collect _]
  show wpAny _ A.in1 (newList [] >>= fun l' => again (.builtin "list.__iadd__" ⟨[l', .ref z], []⟩)) _ _ s
  refine wpAny_bind (wpAny_newObj_type ?_)
  refine wpAny_pure ⟨plainId_quiet PySem.F.plain_list_iadd _, codeAny_builtin PySem.F.entry_list_iadd ?_⟩
  rw [Around.under_plainId PySem.F.plain_list_iadd _]
  have hS₁ : (s.heap.push { cls := .type "list", data := .seq ([] : List Value).toArray }).get? s.heap.objs.size = some { cls := .type "list", data := .seq ([] : List Value).toArray } := Heap.get?_push_size _ rfl
  have up : ∀ c o, s.heap.get? c = some o → (s.heap.push { cls := .type "list", data := .seq ([] : List Value).toArray }).get? c = some o := fun c o e => Heap.get?_push_of_some _ e
  have hz1 : IsZip (s.heap.push { cls := .type "list", data := .seq ([] : List Value).toArray }) z TI TO .none := up _ _ Z.zp
  have hT : ({ s with heap := s.heap.push { cls := .type "list", data := .seq ([] : List Value).toArray } } : Shared).TypeIs (.ref z) "zip" := ⟨_, hz1, rfl⟩
  have h1 : Builtin.List.listSameRef (.ref s.heap.objs.size) (.ref z) = false := by simp [Builtin.List.listSameRef, hSi]
  show wpAny _ A.in1 (Builtin.List.listExtendWith (.ref s.heap.objs.size) (.ref z) (.ref s.heap.objs.size)) _ _ _
  unfold Builtin.List.listExtendWith
  refine wpAny_bind (wpAny_typeOf hT ?_)
  have h2 : (Value.type "zip" == Value.type "list") = false := by decide
  have h3 : (Value.type "zip" == Value.type "tuple") = false := by decide
  simp only [h1, h2, h3, Bool.or_false, Bool.false_eq_true, if_false]
  refine wpAny_bind (wpAny_pyIter_zip (s := { s with heap := s.heap.push { cls := .type "list", data := .seq ([] : List Value).toArray } }) hz1 ?_)
  refine wpAny_bind (wpAny_holding ?_)
  unfold Builtin.List.listLengthHint
  refine wpAny_bind (wpAny_specialOf hT nolen_zip ?_)
  show wpAny _ A.in1 (specialOf (Value.ref z) (Str.ofString "__length_hint__") >>= _) _ _ _
  refine wpAny_bind (wpAny_specialOf hT nohint_zip ?_)
  refine wpAny_pure ?_
  show wpAny _ A.in1 (rule "list.extend.makes-room" >>= fun _ => Builtin.List.listTouch (.ref s.heap.objs.size) >>= fun _ =>
    again (.builtin "list.extend.loop" ⟨[.ref s.heap.objs.size, .ref z, .ref s.heap.objs.size], []⟩)) _ _ _
  refine wpAny_bind (wpAny_rule ?_)
  refine wpAny_bind ?_
  show wpAny _ A.in1 (updateSeq s.heap.objs.size (·.push .none) >>= fun _ => updateSeq s.heap.objs.size (·.pop)) _ _ _
  refine wpAny_bind (wpAny_updateSeq (s := { s with heap := s.heap.push { cls := .type "list", data := .seq ([] : List Value).toArray } }) hS₁ rfl ?_)
  have hS₂ := Heap.get?_update_self (Obj.mapSeq (·.push Value.none)) hS₁ rfl
  refine wpAny_updateSeq (s := { s with heap := (s.heap.push { cls := .type "list", data := .seq ([] : List Value).toArray }).update s.heap.objs.size (Obj.mapSeq (·.push Value.none)) }) hS₂ rfl ?_
  have hS₃ := Heap.get?_update_self (Obj.mapSeq (·.pop)) hS₂ rfl
  have oth : ∀ b o, b ≠ s.heap.objs.size → (s.heap.push { cls := .type "list", data := .seq ([] : List Value).toArray }).get? b = some o →
      (((s.heap.push { cls := .type "list", data := .seq ([] : List Value).toArray }).update s.heap.objs.size (Obj.mapSeq (·.push Value.none))).update s.heap.objs.size (Obj.mapSeq (·.pop))).get? b = some o :=
    fun b o hb e => (Heap.get?_update_other _ _ (Ne.symm hb)).trans ((Heap.get?_update_other _ _ (Ne.symm hb)).trans e)
  have Z0 : ZSt (s.heap.push { cls := .type "list", data := .seq ([] : List Value).toArray }) (s.heap.objs.size + 1) z TI TO s.heap.objs.size zs 0 (s.heap.push { cls := .type "list", data := .seq ([] : List Value).toArray }) [] :=
    ⟨up _ _ Z.ti, Z.its.keeps fun b o e => up b o e, .inl ⟨rfl, hz1, outs, up _ _ hTO, hol⟩, rfl, fun j hj => absurd hj (Nat.not_lt_zero _), fun c o _ _ _ _ e => e, by rw [Heap.size_push]; exact Nat.le_refl _⟩
  refine wpAny_pure ⟨plainId_quiet PySem.F.plain_extend_loop _, ext_loop (hb := s.heap.push { cls := .type "list", data := .seq ([] : List Value).toArray }) (N := s.heap.objs.size + 1) (TI := TI) (TO := TO) (zs := zs) (by exact hh) F hw hx hn _ wd 0 _ _ _ rfl (Nat.zero_le _)
    (Z0.over F oth (by rw [Heap.size_update, Heap.size_update]; exact Nat.le_refl _)) hS₃ fun h' acc' c' hS' Z' => ?_⟩
  show wpAny _ A (load s.heap.objs.size >>= _) _ _ _
  refine wpAny_bind (wpAny_load (s := { s with heap := h' }) hS' ?_)
  refine wpAny_pure (hQ h' _ Z'.al (fun j hj => ?_) fun c o c1 c2 c3 e => Z'.kp c o c1 c2 (Nat.ne_of_lt (Heap.lt_size e)) c3 (up c o e))
  obtain ⟨a, e1, e2, e3⟩ := Z'.at' j hj
  exact ⟨a, e1, e2, Nat.le_trans (Nat.le_succ _) e3⟩

theorem code_tuple_new_zip {wd : Nat} {Q₁ : Value → Shared → Prop} (hh : A.handled = none) (Z : ZNew s.heap z TI TO zs) (hw : 0 < wd) (hx : ∀ q ∈ zs, q.2.2.length = wd) (hn : wd ≤ 1000)
    (h : ∀ (h' : Heap) (acc : List Value), acc.length = wd → (∀ j, j < wd → ∃ a : Addr, acc[j]? = some (.ref a) ∧ IsTupN h' a (zs.map fun q => q.2.2.getD j .none) ∧ s.heap.objs.size ≤ a) → (∀ c o, c ≠ z → c ≠ TO → (∀ q ∈ zs, c ≠ q.1) → s.heap.get? c = some o → h'.get? c = some o) →
      Q₁ (.ref h'.objs.size) { s with heap := h'.push { cls := .type "tuple", data := .seq acc.toArray } }) :
    codeAny (model prog w) A (.call (.builtin "tuple.__new__") ⟨[.type "tuple", .ref z], []⟩) (wants Q₁ E) s := by
  refine codeAny_of_tree ?_
  show wpAny _ A.in1 (do checkBuiltinCall "tuple.__new__" ⟨[.type "tuple", .ref z], []⟩; again (.builtin "tuple.__new__" ⟨[.type "tuple", .ref z], []⟩)) _ _ s
  refine wpAny_bind (wpAny_of_eq (PySem.F.newCall_tuple_1 _) (wpAny_pure ⟨plainId_quiet PySem.F.plain_tuple_new _, codeAny_builtin PySem.F.entry_tuple_new ?_⟩))
  rw [Around.under_plainId PySem.F.plain_tuple_new _]
  have hsub := sub_tuple_self
  have hinit := init_tuple_lookup
  have hmh := madeHere_tuple
  have hTI : s.TypeIs (.ref z) "zip" := ⟨_, Z.zp, rfl⟩
  have hh1 : A.in1.handled = none := hh
  wp_walk using wpAny_typeOf hTI, collect_zip (A := A.in1) hh1 Z hw hx hn
  intro h' acc ha hat hk
  show wpAny _ _ (Builtin.Tuple.tupleExact acc.toArray >>= fun v => ret v) _ _ _
  unfold Builtin.Tuple.tupleExact
  refine wpAny_bind (wpAny_newObj_type ?_ (by show acc.toArray.size ≤ sizeLine; rw [List.size_toArray, ha, sizeLine_eq]; omega))
  exact wpAny_pure (h h' acc ha hat hk)
theorem call_tuple_zip {wd : Nat} {Q : Value → Shared → Prop} (hh : A.handled = none) (Z : ZNew s.heap z TI TO zs) (hw : 0 < wd) (hx : ∀ q ∈ zs, q.2.2.length = wd) (hn : wd ≤ 1000)
    (h : ∀ (h' : Heap) (acc : List Value), acc.length = wd → (∀ j, j < wd → ∃ a : Addr, acc[j]? = some (.ref a) ∧ IsTupN h' a (zs.map fun q => q.2.2.getD j .none) ∧ s.heap.objs.size ≤ a) → (∀ c o, c ≠ z → c ≠ TO → (∀ q ∈ zs, c ≠ q.1) → s.heap.get? c = some o → h'.get? c = some o) →
      Q (.ref h'.objs.size) { s with heap := h'.push { cls := .type "tuple", data := .seq acc.toArray } }) :
    wpAny (model prog w) A (call (.type "tuple") [.ref z]) Q E s := by
  refine callType_codes (Q₁ := fun obj s₁ => s₁.TypeIs obj "tuple" ∧ Q obj s₁) PySem.F.called_tuple (PySem.F.typeCall_tuple_1 _) PySem.F.entry_object_init
    (code_tuple_new_zip (A := A.in1) hh Z hw hx hn fun h' acc ha hat hk => ⟨⟨_, Heap.get?_push_size _ rfl, rfl⟩, h h' acc ha hat hk⟩) fun obj s₁ h₁ => ?_
  exact ⟨h₁.1, PySem.F.args_object_init_2 obj _, object_init_meets PySem.F.called_tuple.init.lookup PySem.F.called_tuple.made (by decide) prog w A.in1 _ s₁ ⟨h₁.1, rfl, h₁.2⟩⟩
end

/-! ### zip of one -/
theorem typeCall_zip_1 (a : Value) : checkTypeCall "zip" ⟨[a], []⟩ = pure () := by kernel_rfl
theorem newCall_zip_1 (a : Value) : checkBuiltinCall "zip.__new__" ⟨[.type "zip", a], []⟩ = pure () := by kernel_rfl
abbrev gzT1 (h : Heap) (o1 : Obj) : Heap := (h.push o1).push { cls := .type "tuple", data := .seq #[.ref h.objs.size] }
abbrev gzO1 (h : Heap) (o1 : Obj) : Heap := (gzT1 h o1).push { cls := .type "tuple", data := .seq #[.none] }
abbrev gzZ1 (h : Heap) (o1 : Obj) : Heap := (gzO1 h o1).push { cls := .type "zip", data := .fields #[.none, .bool false, .bool false, .ref (h.push o1).objs.size, .ref (gzT1 h o1).objs.size] }
theorem meets_zip_newB1 {v1 : Value} {o1 : Obj} {H1 : Heap → Prop} (B1 : Begins v1 o1 H1) :
    Meets (Builtin.«zip.__new__» ⟨[.type "zip", v1], []⟩) (fun _ R s => H1 s.heap ∧
      R (.ok (.ret (.ref (gzO1 s.heap o1).objs.size))) { s with heap := gzZ1 s.heap o1 }) :=
  .of_wp fun prog w A R s h => by
    obtain ⟨hp, g, d, tk, os⟩ := s; obtain ⟨h1, h⟩ := h
    have hsub := sub_zip
    have q1 : ∀ {A' : Around} {E : Value → Shared → Prop} {Q : Value → Shared → Prop}, Q (.ref hp.objs.size) ⟨(hp.push o1), g, d, tk, os⟩ → wpAny (model prog w) A' (pyIter v1) Q E ⟨hp, g, d, tk, os⟩ :=
      fun q => B1.iter prog w _ _ ⟨hp, g, d, tk, os⟩ _ (B1.keeps _ _ h1 fun b o' e => e) q
    wp_walk using q1
    exact ⟨_, rfl, h⟩
section
variable {prog : Program} {w : World} {A : Around} {E : Value → Shared → Prop} {s : Shared}
theorem zip_begins1 {v1 : Value} {o1 : Obj} {H1 : Heap → Prop} {Q : Value → Shared → Prop} (B1 : Begins v1 o1 H1) (h1 : H1 s.heap)
    (h : ∀ h', IsZip h' (s.heap.objs.size + 3) (s.heap.objs.size + 1) (s.heap.objs.size + 2) .none → IsTupN h' (s.heap.objs.size + 1) [.ref s.heap.objs.size] →
      IsTupN h' (s.heap.objs.size + 2) [.none] → h'.get? s.heap.objs.size = some o1 →
      (∀ c o, s.heap.get? c = some o → h'.get? c = some o) → Q (.ref (s.heap.objs.size + 3)) { s with heap := h' }) :
    wpAny (model prog w) A (call (.type "zip") [v1]) Q E s := by
  refine callType_new PySem.F.called_zip (by decide) (typeCall_zip_1 _) (newCall_zip_1 _) (fun obj => PySem.F.args_object_init_2 obj _) PySem.F.entry_zip_new
    (meets_zip_newB1 B1) ⟨h1, ?_⟩
  have z1 : (s.heap.push o1).objs.size = s.heap.objs.size + 1 := by rw [Heap.size_push]
  have zT : (gzT1 s.heap o1).objs.size = s.heap.objs.size + 2 := by rw [Heap.size_push, z1]
  have zO : (gzO1 s.heap o1).objs.size = s.heap.objs.size + 3 := by rw [Heap.size_push, zT]
  have gZ : (gzZ1 s.heap o1).get? (gzO1 s.heap o1).objs.size = some { cls := .type "zip", data := .fields #[.none, .bool false, .bool false, .ref (s.heap.push o1).objs.size, .ref (gzT1 s.heap o1).objs.size] } := Heap.get?_push_size _ rfl
  have gO : (gzZ1 s.heap o1).get? (gzT1 s.heap o1).objs.size = some { cls := .type "tuple", data := .seq #[.none] } := Heap.get?_push_of_some _ (Heap.get?_push_size _ rfl)
  have gT : (gzZ1 s.heap o1).get? (s.heap.push o1).objs.size = some { cls := .type "tuple", data := .seq #[.ref s.heap.objs.size] } := Heap.get?_push_of_some _ (Heap.get?_push_of_some _ (Heap.get?_push_size _ rfl))
  have g1 : (gzZ1 s.heap o1).get? s.heap.objs.size = some o1 := Heap.get?_push_of_some _ (Heap.get?_push_of_some _ (Heap.get?_push_of_some _ (Heap.get?_push_size _ B1.free)))
  rw [zO, zT, z1] at gZ
  rw [zT] at gO
  rw [z1] at gT
  show _ ∧ _
  rw [zO]
  exact ⟨⟨_, gZ, rfl⟩, h _ gZ gT gO g1 fun c o e => Heap.get?_push_of_some _ (Heap.get?_push_of_some _ (Heap.get?_push_of_some _ (Heap.get?_push_of_some _ e)))⟩
theorem mkNew {h h' : Heap} {zs : Zs} (ne : zs ≠ []) (len : zs.length ≤ 100) (gZ : IsZip h' (h.objs.size + (zs.length + 2)) (h.objs.size + zs.length) (h.objs.size + (zs.length + 1)) .none)
    (gT : IsTupN h' (h.objs.size + zs.length) (zs.map fun q => .ref q.1)) (gO : ∃ outs, IsTupN h' (h.objs.size + (zs.length + 1)) outs ∧ outs.length = zs.length) (ht : ∀ q ∈ zs, h.IsTuple q.2.1 q.2.2.toArray)
    (hi : ∀ (i : Nat) (q : Addr × Addr × List Value), zs[i]? = some q → q.1 = h.objs.size + i ∧ h'.get? q.1 = some { cls := .type "tuple_iterator", data := .fields #[.ref q.2.1, .int 0 0] })
    (kp : ∀ c o, h.get? c = some o → h'.get? c = some o) : ZNew h' (h.objs.size + (zs.length + 2)) (h.objs.size + zs.length) (h.objs.size + (zs.length + 1)) zs := by
  have A1 : ∀ q ∈ zs, h.objs.size ≤ q.1 ∧ q.1 < h.objs.size + zs.length ∧ q.2.1 < h.objs.size := fun q hq => by
    obtain ⟨i, hi'⟩ := List.mem_iff_getElem?.mp hq
    have hl := (List.getElem?_eq_some_iff.mp hi').1
    rw [(hi i q hi').1]
    obtain ⟨o, e, _⟩ := ht q hq
    exact ⟨Nat.le_add_right _ _, Nat.add_lt_add_left hl _, Heap.lt_size e⟩
  refine ⟨gZ, gT, gO, fun i q hq => ?_, Nat.ne_of_gt (Nat.add_lt_add_left (Nat.lt_succ_self _) _), Nat.ne_of_lt (Nat.add_lt_add_left (Nat.lt_succ_of_lt (Nat.lt_succ_self _)) _), Nat.ne_of_lt (Nat.add_lt_add_left (Nat.lt_succ_self _) _), fun q hq => Nat.ne_of_gt (A1 q hq).2.1,
    fun q hq => ⟨Nat.ne_of_lt (Nat.lt_trans (A1 q hq).2.1 (Nat.add_lt_add_left (Nat.lt_succ_self _) _)), Nat.ne_of_lt (Nat.lt_of_lt_of_le (A1 q hq).2.2 (Nat.le_add_right _ _))⟩, fun i j q r hq hr e => ?_, ne, len⟩
  · have hm := List.mem_of_getElem? hq
    rw [if_neg (Nat.not_lt_zero _)]
    obtain ⟨o, e1, e2, n, e3⟩ := ht q hm
    exact ⟨⟨_, (hi i q hq).2, rfl, rfl⟩, ⟨o, kp _ _ e1, e2, n, e3⟩⟩
  · rw [(hi i q hq).1, (hi j r hr).1] at e
    exact Nat.add_left_cancel e
theorem call_zip {ts : List (Addr × List Value)} {Q : Value → Shared → Prop} (h1 : 1 ≤ ts.length) (h3 : ts.length ≤ 3) (ht : ∀ t ∈ ts, s.heap.IsTuple t.1 t.2.toArray)
    (h : ∀ h' z TI TO zs, ZNew h' z TI TO zs → zs.map (fun q => q.2) = ts → s.heap.objs.size ≤ z → s.heap.objs.size ≤ TO → (∀ q ∈ zs, s.heap.objs.size ≤ q.1) → (∀ c o, s.heap.get? c = some o → h'.get? c = some o) → Q (.ref z) { s with heap := h' }) :
    wpAny (model prog w) A (call (.type "zip") (ts.map fun t => .ref t.1)) Q E s := by
  have fin : ∀ (h' : Heap) (zs : Zs), zs ≠ [] → zs.length ≤ 100 → zs.map (fun q => q.2) = ts → IsZip h' (s.heap.objs.size + (zs.length + 2)) (s.heap.objs.size + zs.length) (s.heap.objs.size + (zs.length + 1)) .none →
      IsTupN h' (s.heap.objs.size + zs.length) (zs.map fun q => .ref q.1) → (∃ outs, IsTupN h' (s.heap.objs.size + (zs.length + 1)) outs ∧ outs.length = zs.length) → 
      (∀ (i : Nat) (q : Addr × Addr × List Value), zs[i]? = some q → q.1 = s.heap.objs.size + i ∧ h'.get? q.1 = some { cls := .type "tuple_iterator", data := .fields #[.ref q.2.1, .int 0 0] }) → (∀ c o, s.heap.get? c = some o → h'.get? c = some o) →
      Q (.ref (s.heap.objs.size + (zs.length + 2))) { s with heap := h' } := fun h' zs a1 a2 a3 a4 a5 a6 a7 a8 =>
    h h' _ _ _ zs (mkNew a1 a2 a4 a5 a6 (fun q hq => ht q.2 (by rw [← a3]; exact List.mem_map_of_mem hq)) a7 a8) a3 (Nat.le_add_right _ _) (Nat.le_add_right _ _) (fun q hq => by
      obtain ⟨i, hi⟩ := List.mem_iff_getElem?.mp hq
      rw [(a7 i q hi).1]; exact Nat.le_add_right _ _) a8
  clear h
  match ts, h1, h3, ht, fin with
  | [t1], _, _, ht, fin =>
    refine zip_begins1 (begins_tuple t1.1 t1.2.toArray) (ht t1 (by simp)) fun h' gZ gT gO g1 kp => ?_
    refine fin h' [(s.heap.objs.size, t1)] (by simp) (by simp) rfl gZ gT ⟨_, gO, rfl⟩ (fun i q hq => ?_) kp
    match i, hq with
    | 0, hq => obtain rfl := Option.some.inj hq; exact ⟨rfl, g1⟩
    | i + 1, hq => simp at hq
  | [t1, t2], _, _, ht, fin =>
    refine zip_begins2 (begins_tuple t1.1 t1.2.toArray) (begins_tuple t2.1 t2.2.toArray) (ht t1 (by simp)) (ht t2 (by simp)) fun h' gZ gT gO g1 g2 _ kp => ?_
    refine fin h' [(s.heap.objs.size, t1), (s.heap.objs.size + 1, t2)] (by simp) (by simp) rfl gZ gT ⟨[.none, .none], gO, rfl⟩ (fun i q hq => ?_) kp
    match i, hq with
    | 0, hq => obtain rfl := Option.some.inj hq; exact ⟨rfl, g1⟩
    | 1, hq => obtain rfl := Option.some.inj hq; exact ⟨rfl, g2⟩
    | i + 2, hq => simp at hq
  | [t1, t2, t3], _, _, ht, fin =>
    refine zip_begins3 (begins_tuple t1.1 t1.2.toArray) (begins_tuple t2.1 t2.2.toArray) (begins_tuple t3.1 t3.2.toArray) (ht t1 (by simp)) (ht t2 (by simp)) (ht t3 (by simp)) fun h' gZ gT gO g1 g2 g3 _ kp => ?_
    refine fin h' [(s.heap.objs.size, t1), (s.heap.objs.size + 1, t2), (s.heap.objs.size + 2, t3)] (by simp) (by simp) rfl gZ gT ⟨[.none, .none, .none], gO, rfl⟩ (fun i q hq => ?_) kp
    match i, hq with
    | 0, hq => obtain rfl := Option.some.inj hq; exact ⟨rfl, g1⟩
    | 1, hq => obtain rfl := Option.some.inj hq; exact ⟨rfl, g2⟩
    | 2, hq => obtain rfl := Option.some.inj hq; exact ⟨rfl, g3⟩
    | i + 3, hq => simp at hq
end

/-! ### the rule -/
section
variable {X : Cx} {pins : List (Addr × Obj)} {σ : L2.St} {H : Hp} {s : Shared}
theorem laidT {T : Addr → Option (List V)} {h' : Heap} {t' : Nat} (I : Inv X pins σ H s) (k : ∀ b u, s.heap.get? b = some u → h'.get? b = some u)
    (new : ∀ b xs, T b = some xs → s.heap.objs.size ≤ b ∧ xs.length ≤ sizeLine ∧ ∃ its, Vals xs its ∧ IsTup h' b its.toArray) :
    Inv X pins σ (fun b => match T b with | some xs => some (.tup xs) | none => H b) { s with heap := h', toks := t' } := by
  have hN : ∀ b xs, T b = some xs → H b = none := fun b xs e => I.hok.fresh (new b xs e).1
  have up : ∀ b o, H b = some o → (match T b with | some xs => some (HO.tup xs) | none => H b) = some o := fun b o e => by
    cases q : T b with
    | none => simp only; exact e
    | some xs => rw [hN b xs q] at e; cases e
  refine I.un ⟨fun b o q _ _ _ => k b o q, fun b o q _ _ _ => ⟨o.slots, k b o q⟩, fun b o q n _ => ?_, fun b o q _ => ⟨o, k b o q⟩, fun b xs q => up b _ q, fun b o u q => up b _ q, fun b ps q => ⟨#[], by rw [up b _ q]; simp⟩⟩ fun b o q => ?_
  · cases e : T b with
    | none => simp only; exact n
    | some xs => exact absurd (Heap.lt_size q) (Nat.not_lt.mpr (new b xs e).1)
  · cases e : T b with
    | none =>
      simp only [e] at q
      exact (I.hok b o q).stay (fun c u _ r => k c u r) (fun c r => up c _ r) fun c xs r => up c _ r
    | some xs =>
      simp only [e] at q
      obtain rfl := Option.some.inj q
      obtain ⟨_, h1, its, h2, h3⟩ := new b xs e
      exact ⟨h1, its, h2, h3⟩
theorem rows_vals (I : Inv X pins σ H s) : ∀ {rs : List (Addr × List V)}, (∀ r ∈ rs, SqT X.K H r.1 r.2) → ∃ ts : List (Addr × List Value), Paired (fun (r : Addr × List V) (t : Addr × List Value) => r.1 = t.1 ∧ Vals r.2 t.2 ∧ s.heap.IsTuple t.1 t.2.toArray) rs ts
  | [], _ => ⟨[], .nil⟩
  | r :: rs, h => by
    obtain ⟨ts, p⟩ := rows_vals I (rs := rs) fun q hq => h q (List.mem_cons_of_mem _ hq)
    obtain ⟨its, r1, r2, _⟩ := I.tuple (h r (List.mem_cons_self ..))
    exact ⟨(r.1, its) :: ts, .cons ⟨rfl, r1, r2⟩ p⟩
theorem refs_vals : ∀ {rs : List (Addr × List V)} {us : List Value}, Vals (rs.map fun r => .ref r.1) us → us = rs.map fun r => .ref r.1
  | [], _, .nil => rfl
  | r :: rs, _, .cons h t => by
    have e : _ = Value.ref r.1 := h
    rw [e, refs_vals t]; rfl
theorem ts_refs {h : Heap} : ∀ {rs : List (Addr × List V)} {ts : List (Addr × List Value)}, Paired (fun (r : Addr × List V) (t : Addr × List Value) => r.1 = t.1 ∧ Vals r.2 t.2 ∧ h.IsTuple t.1 t.2.toArray) rs ts → (rs.map fun r => Value.ref r.1) = ts.map fun t => .ref t.1
  | _, _, .nil => rfl
  | _, _, .cons a t => by
    show Value.ref _ :: _ = Value.ref _ :: _
    rw [a.1]; exact congrArg _ (ts_refs t)
theorem ts_cols {h : Heap} {j : Nat} : ∀ {rs : List (Addr × List V)} {ts : List (Addr × List Value)}, Paired (fun (r : Addr × List V) (t : Addr × List Value) => r.1 = t.1 ∧ Vals r.2 t.2 ∧ h.IsTuple t.1 t.2.toArray) rs ts → (∀ r ∈ rs, j < r.2.length) →
    Vals (rs.map fun r => r.2.getD j .non) (ts.map fun t => t.2.getD j .none)
  | _, _, .nil, _ => .nil
  | _, _, .cons a p, hl => by
    refine .cons ?_ (ts_cols p fun q hq => hl q (List.mem_cons_of_mem _ hq))
    have hj := hl _ (List.mem_cons_self ..)
    obtain ⟨u, e1, e2⟩ := a.2.1.get (List.getElem?_eq_getElem hj)
    show RelV (List.getD _ j V.non) (List.getD _ j Value.none)
    rw [List.getD_eq_getElem?_getD, List.getD_eq_getElem?_getD, e1, List.getElem?_eq_getElem hj]
    exact e2
theorem ts_mem {h : Heap} : ∀ {rs : List (Addr × List V)} {ts : List (Addr × List Value)}, Paired (fun (r : Addr × List V) (t : Addr × List Value) => r.1 = t.1 ∧ Vals r.2 t.2 ∧ h.IsTuple t.1 t.2.toArray) rs ts → ∀ t ∈ ts, h.IsTuple t.1 t.2.toArray ∧ ∃ r ∈ rs, Vals r.2 t.2
  | _, _, .nil, t, h => by simp at h
  | _, _, .cons a p, t, h => by
    rcases List.mem_cons.mp h with e | h
    · subst e; exact ⟨a.2.2, _, List.mem_cons_self .., a.2.1⟩
    · obtain ⟨b, r, hr, c⟩ := ts_mem p t h
      exact ⟨b, r, List.mem_cons_of_mem _ hr, c⟩
end
def tZipS (K : PySem.W.Frag) (te : TE) : TE := fun σ H Q => te σ H fun v H1 => ∃ (a : Addr) (rs : List (Addr × List V)) (wd : Nat), v = .ref a ∧ (SqT K H1 a (rs.map fun r => .ref r.1) ∨ SqL K H1 a (rs.map fun r => .ref r.1)) ∧
  (∀ r ∈ rs, SqT K H1 r.1 r.2 ∧ r.2.length = wd) ∧ 1 ≤ rs.length ∧ rs.length ≤ 3 ∧ 0 < wd ∧ wd ≤ 1000 ∧
  ∀ H2 p (as : List Addr), Ex H1 H2 → H2 p = some (.tup (as.map .ref)) → as.length = wd → (∀ j, j < wd → ∃ b, as[j]? = some b ∧ H2 b = some (.tup (rs.map fun r => r.2.getD j .non))) → Q (.ref p) H2
section
variable {X : Cx} {e : Expr} {te : TE} {p1 p2 pos1 pos2 sp : Pos} {K : PySem.W.Frag}
theorem kpe_zipstar (hK : X.K = K) (hc : X.calm = true) (hg : Gl X "tuple") (hm : X.mg "tuple" = none) (hg2 : Gl X "zip") (hm2 : X.mg "zip" = none) (he : PE X e te)
    (na : starEach [.Call (.Name "zip" p2) [.Starred e sp] [] pos2] X.env = (false, eval (.Call (.Name "zip" p2) [.Starred e sp] [] pos2) X.env) :: starEach [] X.env := by rfl)
    (ns : starEach [.Starred e sp] X.env = [(true, eval e X.env)] := by rfl) :
    PE X (.Call (.Name "tuple" p1) [.Call (.Name "zip" p2) [.Starred e sp] [] pos2] [] pos1) (tZipS K te) := by
  subst hK
  refine ⟨fun pins s σ H Q I h => ?_⟩
  refine Call_ (ld_blt I hg hm boot_tuple (PyProof.Rows.callWith_type1 (args_cons (Call_ (ld_blt I hg2 hm2 PyProof.Rows.boot_zip (callWith_starT (thn (he.run pins s σ H _ I h) fun v s1 ⟨y, H1, I1, ry, a, rs, wd, ey, hx, hr, n1, n3, w0, w1, q⟩ => ?_) ns))) na) na))
  subst ey
  obtain rfl : v = Value.ref a := ry
  refine StX.star_any I1 hx fun us s2 I2 rv => ?_
  obtain ⟨ts, P⟩ := rows_vals I2 fun r hm => (hr r hm).1
  have hus : us = ts.map fun t => .ref t.1 := (refs_vals rv).trans (ts_refs P)
  subst hus
  have hlen : rs.length = ts.length := Paired.length P
  have M := ts_mem P
  refine call_zip (s := s2) (by omega) (by omega) (fun t hm => (M t hm).1) fun h1 z TI TO zs Z hz f1 f2 f3 k1 => ?_
  refine args_nil ?_
  refine call_tuple_zip (s := { s2 with heap := h1 }) (wd := wd) (I2.ok.hd hc) Z w0 (fun q hq => ?_) w1 fun h2 acc al at2 k2 => ?_
  · have hq2 : q.2 ∈ ts := by rw [← hz]; exact List.mem_map_of_mem hq
    obtain ⟨_, r, hr1, hr2⟩ := M _ hq2
    rw [← hr2.length]; exact (hr r hr1).2
  -- the addresses of the turns
  have fr : ∀ c, s2.heap.objs.size ≤ c → ∀ o, s2.heap.get? c = some o → False := fun c hc o e => absurd (Heap.lt_size e) (Nat.not_lt.mpr hc)
  have kk : ∀ c o, s2.heap.get? c = some o → h2.get? c = some o := fun c o e =>
    k2 c o (fun x => fr c (by rw [x]; exact f1) o e) (fun x => fr c (by rw [x]; exact f2) o e) (fun q hq x => fr c (by rw [x]; exact f3 q hq) o e) (k1 c o e)
  have hs1 : s2.heap.objs.size ≤ h1.objs.size := Nat.le_trans f1 (Nat.le_of_lt (Heap.lt_size Z.zp))
  have cols : ∀ j, (zs.map fun q => q.2.2.getD j Value.none) = ts.map fun t => t.2.getD j .none := fun j => by rw [← hz, List.map_map]; rfl
  obtain ⟨as, has⟩ : ∃ as : List Addr, acc = as.map .ref := by
    have : ∀ v ∈ acc, ∃ a : Addr, v = .ref a := fun v hv => by
      obtain ⟨j, hj⟩ := List.mem_iff_getElem?.mp hv
      have := (List.getElem?_eq_some_iff.mp hj).1
      obtain ⟨b, e1, _⟩ := at2 j (by omega)
      rw [hj] at e1
      exact ⟨b, Option.some.inj e1⟩
    clear at2 al
    induction acc with
    | nil => exact ⟨[], rfl⟩
    | cons v acc ih =>
      obtain ⟨b, rfl⟩ := this v (List.mem_cons_self ..)
      obtain ⟨as, e⟩ := ih fun u hu => this u (List.mem_cons_of_mem _ hu)
      exact ⟨b :: as, by rw [e]; rfl⟩
  subst has
  have al' : as.length = wd := by rw [← al, List.length_map]
  have at3 : ∀ j, j < wd → ∃ b, as[j]? = some b ∧ IsTupN h2 b (ts.map fun t => t.2.getD j .none) ∧ s2.heap.objs.size ≤ b := fun j hj => by
    obtain ⟨b, e1, e2, e3⟩ := at2 j hj
    rw [List.getElem?_map] at e1
    cases q : as[j]? with
    | none => rw [q] at e1; cases e1
    | some b' =>
      rw [q] at e1
      obtain rfl : b' = b := by injection Option.some.inj e1
      rw [cols j] at e2
      exact ⟨b', rfl, e2, Nat.le_trans hs1 e3⟩
  have cv : ∀ j, j < wd → Vals (rs.map fun r => r.2.getD j .non) (ts.map fun t => t.2.getD j .none) := fun j hj => ts_cols P fun r hm => by rw [(hr r hm).2]; exact hj
  generalize hh3 : h2.push { cls := .type "tuple", data := .seq (as.map Value.ref).toArray } = h3
  have k3 : ∀ c o, h2.get? c = some o → h3.get? c = some o := fun c o e => by rw [← hh3]; exact Heap.get?_push_of_some _ e
  have p3 : h3.get? h2.objs.size = some { cls := .type "tuple", data := .seq (as.map Value.ref).toArray } := by rw [← hh3]; exact Heap.get?_push_size _ rfl
  have hp2 : s2.heap.objs.size ≤ h2.objs.size := by
    obtain ⟨b, _, e2, e3⟩ := at3 0 w0
    exact Nat.le_trans e3 (Nat.le_of_lt (Heap.lt_size e2))
  have hN : H1 h2.objs.size = none := I2.hok.fresh hp2
  -- the table of what is new
  let T : Addr → Option (List V) := fun b => if b = h2.objs.size then some (as.map .ref) else if hq : ∃ j, j < wd ∧ as[j]? = some b then some (rs.map fun r => r.2.getD (Classical.choose hq) .non) else none
  have I3 : Inv X pins σ _ { s2 with heap := h3, toks := s2.toks } := laidT (T := T) I2 (fun b u e => k3 b u (kk b u e)) fun b xs e => by
    by_cases hb : b = h2.objs.size
    · have e' : some (as.map V.ref) = some xs := by
        have : T b = some (as.map .ref) := if_pos hb
        rw [← this]; exact e
      obtain rfl := Option.some.inj e'
      rw [hb]
      refine ⟨hp2, by rw [List.length_map, al', sizeLine_eq]; omega, as.map .ref, ?_, ⟨_, p3, rfl, _, rfl⟩⟩
      clear al al' at2 at3 p3 hh3 q T e e' I
      induction as with
      | nil => exact .nil
      | cons b as ih => exact .cons rfl ih
    · by_cases hq : ∃ j, j < wd ∧ as[j]? = some b
      · have e' : some (rs.map fun r => r.2.getD (Classical.choose hq) V.non) = some xs := by
          have : T b = some (rs.map fun r => r.2.getD (Classical.choose hq) .non) := (if_neg hb).trans (dif_pos hq)
          rw [← this]; exact e
        obtain rfl := Option.some.inj e'
        obtain ⟨c1, c2⟩ := Classical.choose_spec hq
        obtain ⟨b', e1, e2, e3⟩ := at3 _ c1
        obtain rfl : b' = b := Option.some.inj (e1.symm.trans c2)
        exact ⟨e3, by rw [List.length_map, sizeLine_eq]; omega, _, cv _ c1, ⟨_, k3 _ _ e2, rfl, _, rfl⟩⟩
      · have : T b = none := (if_neg hb).trans (dif_neg hq)
        rw [this] at e; cases e
  refine ⟨.ref h2.objs.size, _, I3, rfl, q _ _ as (fun b o e => ?_) ?_ al' fun j hj => ?_⟩
  · have hb : T b = none := by
      by_cases hb : b = h2.objs.size
      · rw [hb, hN] at e; cases e
      · refine (if_neg hb).trans (dif_neg fun ⟨j, hj, hq⟩ => ?_)
        obtain ⟨b', e1, e2, e3⟩ := at3 j hj
        obtain rfl : b' = b := Option.some.inj (e1.symm.trans hq)
        rw [I2.hok.fresh e3] at e; cases e
    simp only [hb]; exact e
  · have : T h2.objs.size = some (as.map .ref) := if_pos rfl
    simp only [this]
  · obtain ⟨b, e1, e2, e3⟩ := at3 j hj
    refine ⟨b, e1, ?_⟩
    have hb : b ≠ h2.objs.size := Nat.ne_of_lt (Heap.lt_size e2)
    have hq : ∃ j, j < wd ∧ as[j]? = some b := ⟨j, hj, e1⟩
    have ht : T b = some (rs.map fun r => r.2.getD (Classical.choose hq) .non) := (if_neg hb).trans (dif_pos hq)
    simp only [ht]
    obtain ⟨c1, c2⟩ := Classical.choose_spec hq
    obtain ⟨b', d1, d2, d3⟩ := at3 _ c1
    obtain rfl : b' = b := Option.some.inj (d1.symm.trans c2)
    have heq : (ts.map fun t => t.2.getD (Classical.choose hq) Value.none) = ts.map fun t => t.2.getD j .none := by
      have e2' := e2
      unfold IsTupN at e2' d2
      rw [d2] at e2'
      have := Option.some.inj e2'
      injection this with _ _ h3
      injection h3 with h4
      simpa using h4
    have v1 := cv _ c1
    rw [heq] at v1
    rw [v1.inj (cv j hj)]
end
end KV
end
section
set_option Elab.async false
set_option linter.all false
set_option maxRecDepth 100000
set_option maxHeartbeats 4000000
/-! tuple * int, any small int. -/
namespace KT
open PySem PySem.Spec PyProof.Rows L2 Evl KR KX
theorem tuple_mul1 (l : Addr) (items : Array Value) (n : Nat) (dd : Option Addr) (sl : Array (Option Value)) (x : Int) (u : Tok) (c0 : (decide (x < -(2 ^ 63)) || decide (x ≥ 2 ^ 63)) = false) (c1 : (items.isEmpty || x == 1) = true) :
    Meets (Builtin.«tuple.__mul__» ⟨[.ref l, .int x u], []⟩) (fun _ R s => s.heap.get? l = some { cls := .type "tuple", dict := dd, data := .seq items n, slots := sl } ∧ R (.ok (.ret (Value.ref l))) s) :=
  .of_wp fun prog w A R s h => by
    obtain ⟨hp, g, d, tk, os⟩ := s
    obtain ⟨hl, h⟩ := h
    have f1 := AutoSeq1.idx_int
    have hT : (⟨hp, g, d, tk, os⟩ : Shared).TypeIs (.ref l) "tuple" := ⟨_, hl, rfl⟩
    wp_walk using wpAny_loadPart' hl
    repeat (first
      | (refine wpAny_ite_false (decide_eq_false (by rw [c0]; exact Bool.false_ne_true)) ?_; wp_walk using wpAny_loadPart' hl, wpAny_typeOf hT)
      | (refine wpAny_ite_true (decide_eq_true c1) ?_; wp_walk using wpAny_loadPart' hl, wpAny_typeOf hT))
    exact ⟨_, rfl, h⟩
theorem tuple_mul0 (l : Addr) (items : Array Value) (n : Nat) (dd : Option Addr) (sl : Array (Option Value)) (x : Int) (u : Tok) (c0 : (decide (x < -(2 ^ 63)) || decide (x ≥ 2 ^ 63)) = false) (c1 : (items.isEmpty || x == 1) = false) (c2 : (decide (x ≤ 0) || items.isEmpty) = true) :
    Meets (Builtin.«tuple.__mul__» ⟨[.ref l, .int x u], []⟩) (fun _ R s => s.heap.get? l = some { cls := .type "tuple", dict := dd, data := .seq items n, slots := sl } ∧
      R (.ok (.ret (Value.ref s.heap.objs.size))) { s with heap := s.heap.push { cls := Value.type "tuple", data := Data.seq #[] }, toks := s.toks }) :=
  .of_wp fun prog w A R s h => by
    obtain ⟨hp, g, d, tk, os⟩ := s
    obtain ⟨hl, h⟩ := h
    have f1 := AutoSeq1.idx_int
    wp_walk using wpAny_loadPart' hl
    repeat (first
      | (refine wpAny_ite_false (decide_eq_false (by rw [c0]; exact Bool.false_ne_true)) ?_; wp_walk using wpAny_loadPart' hl)
      | (refine wpAny_ite_false (decide_eq_false (by rw [c1]; exact Bool.false_ne_true)) ?_; wp_walk using wpAny_loadPart' hl)
      | (refine wpAny_ite_true (decide_eq_true c2) ?_; wp_walk using wpAny_loadPart' hl))
    exact ⟨_, rfl, h⟩

def rRepT0 (K : PySem.W.Frag) : R2 := fun x y H Q => ∃ l k xs, x = .ref l ∧ y = .int k ∧ SqT K H l xs ∧ xs ≠ [] ∧ -1000 ≤ k ∧ k ≤ 1000 ∧ xs.length ≤ 1000 ∧ (k = 1 → Q (.ref l) H) ∧ (k ≠ 1 → ∀ p, H p = none → Q (.ref p) (upd H p (.tup (List.replicate k.toNat xs).flatten)))
section
variable {X : Cx}
theorem op_repT0 : OpR X (binaryOp .Mult) (rRepT0 X.K) := by
  intro pins s σ H x y v u Q I rx ry h
  obtain ⟨l, k, xs, rfl, rfl, hT, hne, h1, h2, hz, q1, q⟩ := h
  by_cases hk2 : 2 ≤ k
  · exact op_repT pins s σ H _ _ v u Q I rx ry ⟨l, k, xs, rfl, rfl, hT, hne, hk2, h2, hz, q (by omega)⟩
  cases rx
  obtain ⟨t, rfl⟩ := ry
  obtain ⟨its, r, ⟨⟨cls, dd, data, sl⟩, ho, hc, n, hd⟩, hs⟩ := I.tuple hT
  simp only at hc hd
  subst hc hd
  have hle : its.length = xs.length := r.length.symm
  have hn : its ≠ [] := fun e => hne (by
    rw [e] at hle
    exact List.eq_nil_of_length_eq_zero hle.symm)
  have hi : its.toArray.isEmpty = false := by
    cases its with
    | nil => exact absurd rfl hn
    | cons a b => rfl
  have c0 : (decide (k < -(2 ^ 63)) || decide (k ≥ 2 ^ 63)) = false := by
    rw [decide_eq_false (by omega), decide_eq_false (by omega)] <;> rfl
  by_cases hk1 : k = 1
  · have c1 : (its.toArray.isEmpty || k == 1) = true := by rw [hk1]; simp
    exact wpAny_binaryOp_repeat_ref (T := "tuple") (U := "int") (by decide) ⟨_, ho, rfl⟩ (fun s' => typeIs_int s' k t) noFill_tuple_mul PySem.F.fills_int_mul PySem.F.slot_int_rmul repeat_tuple PySem.F.slot_int_index.lookup
      (call_meets PySem.F.slot_int_rmul (typeIs_int s k t) PySem.F.entry_int_rmul (PySem.F.args_int_rmul_2 _ _) (int_rmul_tuple k t l its.toArray n dd sl)
        ⟨ho, rfl, ⟨_, ho, rfl⟩, call_meets PySem.F.slot_tuple_mul ⟨_, ho, rfl⟩ PySem.F.entry_tuple_mul (PySem.F.args_tuple_mul_2 _ _) (tuple_mul1 l its.toArray n dd sl k t c0 c1) ⟨ho, ⟨.ref l, H, I, rfl, q1 hk1⟩⟩⟩)
  · have c1 : (its.toArray.isEmpty || k == 1) = false := by
      rw [hi, Bool.false_or]
      exact beq_eq_false_iff_ne.mpr hk1
    have c2 : (decide (k ≤ 0) || its.toArray.isEmpty) = true := by
      rw [hi, Bool.or_false]
      exact decide_eq_true (by omega)
    have hz0 : k.toNat = 0 := by omega
    refine wpAny_binaryOp_repeat_ref (T := "tuple") (U := "int") (by decide) ⟨_, ho, rfl⟩ (fun s' => typeIs_int s' k t) noFill_tuple_mul PySem.F.fills_int_mul PySem.F.slot_int_rmul repeat_tuple PySem.F.slot_int_index.lookup
      (call_meets PySem.F.slot_int_rmul (typeIs_int s k t) PySem.F.entry_int_rmul (PySem.F.args_int_rmul_2 _ _) (int_rmul_tuple k t l its.toArray n dd sl)
        ⟨ho, rfl, ⟨_, ho, rfl⟩, call_meets PySem.F.slot_tuple_mul ⟨_, ho, rfl⟩ PySem.F.entry_tuple_mul (PySem.F.args_tuple_mul_2 _ _) (tuple_mul0 l its.toArray n dd sl k t c0 c1 c2) ⟨ho, ?_⟩⟩)
    have e0 : (List.replicate k.toNat xs).flatten = [] := by rw [hz0]; rfl
    rw [e0] at q
    refine ⟨.ref s.heap.objs.size, _, I.laid (t' := s.toks) (o := .tup []) (fun b ob q => Heap.get?_push_of_some _ q) (Nat.le_refl _) ?_, rfl, q hk1 _ (I.hok.fresh (Nat.le_refl _))⟩
    exact ⟨by simp, [], .nil, IsTup.new _ _⟩
theorem kRepT0 {K : PySem.W.Frag} (h : X.K = K) : OpR X (binaryOp .Mult) (rRepT0 K) := h ▸ op_repT0
end
section
variable {K : PySem.W.Frag} {ta tb : TE} {σ : L2.St} {H : Hp} {d : PyData} {i : Int}
theorem ed_repT0 (ha : EvD K ta σ H (.tuple [d])) (hb : EvD K tb σ H (.int i)) (hl : -1000 ≤ i ∧ i ≤ 1000) : EvD K (tOp (rRepT0 K) ta tb) σ H (.tuple (List.replicate i.toNat d)) := fun H1 e Q q =>
  ha H1 e _ fun v H2 e2 r => hb H2 (e.trans e2) _ fun w H3 e3 s => by
    obtain ⟨a, xs, rfl, hT, hA⟩ := dp_tup r
    cases hA with
    | cons r1 r2 =>
      cases r2
      refine ⟨a, i, _, rfl, dp_int s, ex_t e3 hT, by simp, by omega, by omega, by simp, fun hk => ?_, fun hk l hl => q _ _ ((e2.trans e3).trans (Ex.new hl)) (.tup (SqT.of upd_same) ?_)⟩
      · have : i.toNat = 1 := by omega
        exact q _ _ (e2.trans e3) (by rw [this]; exact .tup (ex_t e3 hT) (.cons (dp_ex e3 _ _ r1) .nil))
      · have q2 : (List.replicate i.toNat [d]).flatten = List.replicate i.toNat d := by simp
        rw [← q2]
        exact dpA_flat (.cons (dp_ex (e3.trans (Ex.new hl)) _ _ r1) .nil) i.toNat
end
end KT
end
section
set_option Elab.async false
set_option linter.all false
set_option maxRecDepth 100000
set_option maxHeartbeats 2000000
/-! sorted(range(n), key=a lambda of one parameter). -/
namespace KU
open PySem PySem.Spec PySem.Calls PyProof.Rows PySem.W L2
def IntV (v : Value) (z : Int) : Prop := ∃ t, v = .int z t
section
variable {prog : Program} {w : World} {A : Around} {E : Value → Shared → Prop} {s : Shared} {a kS : Addr} {vs : List Value} {zs : List Int} {key : Int → Int} {keys : Array Value} {e e1 : Nat} {P : PySem.Fin → Shared → Prop}
theorem alike_ints (l : List Int) : AllAlike (l.map PyData.int) := fun d hd d' hd' => by
  obtain ⟨x, _, rfl⟩ := List.mem_map.mp hd
  obtain ⟨y, _, rfl⟩ := List.mem_map.mp hd'
  rfl
theorem sortable_ints (l : List Int) : Sortable (l.map PyData.int) := .inr fun d hd => by
  obtain ⟨x, _, rfl⟩ := List.mem_map.mp hd
  exact ⟨fun z => (nomatch z), fun xs z => (nomatch z)⟩
theorem each_int {h : Heap} {l : List Value} {ns : List Int} (hk : EachIs IntV l ns) : EachIs (fun v d => ∃ as, Reads h v d as) l (ns.map PyData.int) := by
  induction hk with
  | nil => exact .nil
  | cons h1 _ ih =>
    obtain ⟨t, rfl⟩ := h1
    exact .cons ⟨_, .int _ _⟩ ih
theorem end_ints (nk : s.heap.get? kS = some (seqObj "list" keys e)) (na : s.heap.get? a = some (seqObj "list" #[] e1)) (hka : kS ≠ a)
    (hk : EachIs IntV keys.toList (zs.map key)) (hv : EachIs IntV vs zs) (hz : zs.length ≤ 1000) (hu : A.units + 32 < cLine)
    (h : ∀ h' tk c out, (∀ b o, b ≠ kS → b ≠ a → s.heap.get? b = some o → h'.get? b = some o) → h'.get? a = some (seqObj "list" (List.toArray out) c) → EachIs IntV out (zs.mergeSort fun x y => decide (key x ≤ key y)) → P (.done (.ret .none)) { s with heap := h', toks := tk }) :
    wpAny (model prog w) A (ksk_end a false vs.toArray e1 (.ref kS) keys) P E s := by
  have hvl := hv.length
  have hkl := hk.length
  rw [Array.length_toList, List.length_map] at hkl
  have hmm : (zs.map key).map PyData.int = zs.map fun z => PyData.int (key z) := by rw [List.map_map]; rfl
  refine keyH_end (κ := dataKind s.heap ((zs.map key).map PyData.int)) (h₁ := hidT s.heap fun b => if b = kS then some (.lst []) else none) (fun b o hb q => ?_) ?_ nk na hka
    (SortsAt.data (each_int hk) (alike_ints _) (sortable_ints _) fun d hd => ?_) (by omega) (by rw [hvl, sizeLine_eq]; omega) fun h' tk c kp hD => ?_
  · exact (of_hidT q).1
  · cases q : (hidT s.heap fun b => if b = kS then some (.lst []) else none).get? kS with
    | none => rfl
    | some o =>
      have := (of_hidT q).2
      rw [if_pos rfl] at this; cases this
  · obtain ⟨x, _, rfl⟩ := List.mem_map.mp hd
    show A.units + 0 < cLine
    omega
  · refine h h' tk c _ (fun b o h1 h2 q => kp b o h2 (hidT_get q (if_neg h1))) hD ?_
    have ko : KeyedOut false ((zs.map key).map PyData.int) vs (sortVals (dataKind s.heap ((zs.map key).map PyData.int)) false keys.toList vs) := ⟨s.heap, keys.toList, alike_ints _, rfl, each_int hk⟩
    rw [hmm] at ko ⊢
    have := keyedOut_each (bs := zs) (fun z => PyData.int (key z)) ko hv
    rw [dataLe_int] at this
    exact this
theorem rest_inv {f : Value} (J : Nat → Shared → Prop) (hJ : J 0 s) (nk : s.heap.get? kS = some (seqObj "list" #[] 0)) (na : s.heap.get? a = some (seqObj "list" #[] e1)) (hka : kS ≠ a)
    (hv : EachIs IntV vs zs) (hz : zs.length ≤ 1000) (hu : A.units + 32 < cLine)
    (turn : ∀ (i : Nat) (z : Int) (x : Value) (s' : Shared), zs[i]? = some z → IntV x z → J i s' → (∃ kA e, s'.heap.get? kS = some (seqObj "list" kA e)) → s'.heap.get? a = some (seqObj "list" #[] e1) →
      wpAny (model prog w) A (call f [x]) (fun v s'' => IntV v (key z) ∧ (∀ o, s'.heap.get? kS = some o → s''.heap.get? kS = some o) ∧ s''.heap.get? a = some (seqObj "list" #[] e1) ∧
        ∀ h', Heap.SameBut kS s''.heap h' → J (i + 1) { s'' with heap := h' }) (fun _ _ => False) s')
    (done : ∀ s' h' tk c out, J zs.length s' → (∀ b o, b ≠ kS → b ≠ a → s'.heap.get? b = some o → h'.get? b = some o) → h'.get? a = some (seqObj "list" (List.toArray out) c) → EachIs IntV out (zs.mergeSort fun x y => decide (key x ≤ key y)) → P (.done (.ret .none)) { s' with heap := h', toks := tk }) :
    wpAny (model prog w) A (ksk_rest a f false vs.toArray e1 (.ref kS)) P E s := by
  have hvl := hv.length
  unfold ksk_rest
  refine wpAny_bind (wpAny_rule ?_)
  first
    | rw [List.forIn_toArray]
    | (rw [← Array.forIn_toList]; simp only [List.toList_toArray])
    | rw [← Array.forIn_toList]
  refine wpAny_bind (ksk_fold (fun i s' => J i s' ∧ ∃ kA e, s'.heap.get? kS = some (seqObj "list" kA e) ∧ s'.heap.get? a = some (seqObj "list" #[] e1) ∧ EachIs IntV kA.toList ((zs.take i).map key)) vs 0 s
    ⟨hJ, #[], 0, nk, na, EachIs.nil⟩ ?step ?done)
  case step =>
    rintro j x s' hx ⟨hj, kA, e, nk', na', hk⟩
    simp only [Nat.zero_add] at hj hk ⊢
    have hjv : j < vs.length := (List.getElem?_eq_some_iff.mp hx).1
    obtain ⟨z, hzj⟩ : ∃ z, zs[j]? = some z := ⟨_, List.getElem?_eq_getElem (by omega)⟩
    have hxz : IntV x z := by
      have hm : (x, z) ∈ vs.zip zs := List.mem_of_getElem? (i := j) (by rw [List.getElem?_zip_eq_some]; exact ⟨hx, hzj⟩)
      exact hv.zip _ hm
    have hkl := hk.length
    rw [Array.length_toList, List.length_map, List.length_take] at hkl
    refine wpAny_bind (wpAny_attempt (wpAny_mono (turn j z x s' hzj hxz hj ⟨kA, e, nk'⟩ na') (fun v s'' hq => ?_) fun _ _ hF => hF.elim))
    obtain ⟨hv1, hkS, hna, hJ'⟩ := hq
    try dsimp only
    have nk2 := hkS _ nk'
    have s1 := Heap.SameBut.update s''.heap kS (Obj.mapSeq (·.push v))
    obtain ⟨c2, hc2⟩ : ∃ c2, (s''.heap.update kS (Obj.mapSeq (·.push v))).get? kS = some (seqObj "list" (kA.push v) c2) := ⟨_, get?_update_seq nk2 (·.push v)⟩
    have ek : (zs.take (j + 1)).map key = (zs.take j).map key ++ [key z] := by rw [List.take_add_one, hzj]; simp
    have ea : (kA.push v).toList = kA.toList ++ [v] := by simp
    have hsz : kA.size ≤ 1000 := by omega
    refine wpAny_bind (listUpdate_at nk2 rfl ?_ (by rw [sizeLine_eq]; omega) (by rw [Array.size_push, sizeLine_eq]; omega))
    refine wpAny_pure ⟨rfl, hJ' _ s1, kA.push v, c2, hc2, (s1.2 a hka.symm).trans hna, ?_⟩
    rw [ea, ek]
    exact each_snoc hv1 hk
  case done =>
    rintro s' ⟨hj, kA, e, nk', na', hk⟩
    have e3 : 0 + vs.length = zs.length := by omega
    rw [e3] at hj hk
    rw [List.take_length] at hk
    try dsimp only
    refine wpAny_bind (listItems_at nk' rfl ?_)
    exact end_ints nk' na' hka hk hv hz hu fun h' tk c out k hD ho => done s' h' tk c out hj k hD ho
end

/-! ### a lambda of one parameter -/
open LamX Evl
/-- one parameter x, no name of its own else: captured ones and globals -/
structure LamS1 (sc scope : Scope) (x : Str) : Prop where
  kind : scope.kind = .function
  co : scope.isCoroutine = false
  gen : scope.isGenerator = false
  own : ∀ y ∈ scope.names, y.2 ≠ .cell ∧ (y.2 = .local → y.1 = x)
  arg : scope.names.lookup x = some .local
  free : ∀ y ∈ scope.names, y.2 = .free → sc.names.lookup y.1 = some .cell ∨ sc.names.lookup y.1 = some .free
def lamS1B (sc scope : Scope) (x : Str) : Bool :=
  decide (scope.kind = .function) && !scope.isCoroutine && !scope.isGenerator && decide (scope.names.lookup x = some .local) && scope.names.all fun y => !decide (y.2 = .cell) && (!decide (y.2 = .local) || decide (y.1 = x)) && (!decide (y.2 = .free) || decide (sc.names.lookup y.1 = some .cell) || decide (sc.names.lookup y.1 = some .free))
theorem lamS1_by {sc scope : Scope} {x : Str} (h : lamS1B sc scope x = true) : LamS1 sc scope x := by
  unfold lamS1B at h
  simp only [Bool.and_eq_true, Bool.or_eq_true, Bool.not_eq_true', decide_eq_true_eq, decide_eq_false_iff_not, List.all_eq_true] at h
  obtain ⟨⟨⟨⟨h1, h2⟩, h3⟩, h5⟩, h4⟩ := h
  refine ⟨h1, h2, h3, fun y hy => ⟨(h4 y hy).1.1, fun e => ?_⟩, h5, fun y hy e => ?_⟩
  · rcases (h4 y hy).1.2 with z | z
    · exact absurd e z
    · exact z
  · rcases (h4 y hy).2 with (z | z) | z
    · exact absurd e z
    · exact .inl z
    · exact .inr z
theorem LamS1.has {X : Cx} {scope : Scope} {x : Str} (L : LamS1 X.env.scope scope x) (ok : X.Ok) : ∀ y ∈ scope.names, y.2 = .free → ∃ c, X.env.cells.lookup y.1 = some c := fun y hy e => by
  rcases L.free y hy e with k | k
  · exact ok.has _ (.inl k)
  · exact ok.has _ (.inr k)
section
variable {X : Cx} {pins : List (Addr × Obj)} {σ : L2.St} {H : Hp} {s : Shared}
theorem lam_start1 {A : Around} {outer : List Env} {E : XK} {scope : Scope} {f c' : Addr} {h₁ : Heap} {tk i : Nat} {x : Str} {v : V} {u : Value} (I : Inv X pins σ H s) (L : LamS1 X.env.scope scope x) (hi : X.N[i]? = some x) (hN : X.N.Nodup) (rv : RelV v u)
    (e0 : Env0 X.prog X.w X.K X.mg X.base A outer s H) (hd : A.handled = none)
    (hns : h₁.Ns s.heap.objs.size fun y => ([(x, u)] : List (Str × Value)).reverse.lookup y) (kp : ∀ b o, s.heap.get? b = some o → h₁.get? b = some o) :
    Inv (lamCx X A outer s H E scope f c').nox [] (σ.set i (some v)) H { s with heap := h₁, toks := tk } := by
  have hfree := L.has I.ok
  have cm : ∀ {y c}, (cloFrom X.env.cells scope.names []).lookup y = some c → X.env.cells.lookup y = some c := fun {y c} e => by
    rcases cloFrom_mem (PySem.mem_of_lookup e) with hm | ⟨h1, h2⟩
    · cases hm
    · obtain ⟨c1, hc⟩ := hfree _ h1 rfl
      have hc : X.env.cells.lookup y = some c1 := hc
      have e2 : c = c1 := by
        rw [h2, hc] <;> rfl
      rw [e2]
      exact hc
  have look : ∀ {y}, scope.names.lookup y = some .free → ∃ c, (cloFrom X.env.cells scope.names []).lookup y = some c := fun {y} hl => by
    have hy : (y, NameKind.free) ∈ scope.names := PySem.mem_of_lookup hl
    exact mem_lookup (cloFrom_has (cells := X.env.cells) (acc := []) hy)
  have cellK : ∀ {c : Addr} {v : Option Value}, s.heap.IsCell c v → h₁.IsCell c v := fun {c v} ⟨o, ho, hd⟩ => ⟨_, kp _ _ ho, hd⟩
  have noA : ∀ b : Addr, b ∉ (lamCx X A outer s H E scope f c').ex := fun b z => absurd (show b ∈ ([] : List Addr) from z) (by simp)
  refine ⟨⟨e0.mod, L.kind, rfl, rfl, Nat.le_refl _, fun y z c e1 e2 => I.ok.inj y z c (cm e1) (cm e2), fun y hy => ?_, fun y c z _ => ?_, fun _ => hd, Around.frames_deeper e0.frames, .inr ⟨rfl, rfl⟩, fun b z => absurd z (noA b), e0.bs, e0.bsz, fun b _ _ => noA b,
      fun b z => absurd z (noA b), e0.funs, e0.frf⟩,
    rfl, e0.bare, Un.kept kp, ⟨_, hns, fun j y v' e1 e2 e3 => ?_⟩, fun y c e => ?_, e0.hok.fresh (Nat.le_refl _), fun y c e => ?_, fun q hq => absurd (show q ∈ ([] : List (Addr × Obj)) ++ [] from hq) (by simp), e0.hok.kept kp, by rw [List.length_set]; exact I.len⟩
  · have hy : scope.names.lookup y = some .cell ∨ scope.names.lookup y = some .free := hy
    rcases hy with hy | hy
    · exact absurd rfl (L.own _ (PySem.mem_of_lookup hy)).1
    · exact look hy
  · have z : false = true := z
    cases z
  · have e3 : Vis scope y := e3
    have e1 : X.N[j]? = some y := e1
    have k3 : scope.names.lookup y = some .local ∨ scope.names.lookup y = some .free := by
      rcases e3 with k | k | k
      · exact .inl k
      · exact absurd rfl (L.own _ (PySem.mem_of_lookup k)).1
      · exact .inr k
    rcases k3 with k | k
    · have hy : y = x := (L.own _ (PySem.mem_of_lookup k)).2 rfl
      subst hy
      have hij : j = i := nodup_ix hN e1 hi
      subst hij
      have hlt : j < σ.length := by rw [I.len]; exact (List.getElem?_eq_some_iff.mp hi).1
      rw [List.getElem?_set_self hlt] at e2
      obtain rfl : v = v' := by injection Option.some.inj e2
      exact ⟨u, rv, .inl ⟨k, by show ([(y, u)] : List (Str × Value)).reverse.lookup y = some u; simp⟩⟩
    · have hyx : y ≠ x := fun z => by rw [z, L.arg] at k; cases k
      have hij : i ≠ j := fun z => hyx (by rw [← z, hi] at e1; exact (Option.some.inj e1).symm)
      rw [List.getElem?_set_ne hij] at e2
      obtain ⟨m, hn, hl⟩ := I.loc
      have hvis : Vis X.env.scope y := (L.free _ (PySem.mem_of_lookup k) rfl).elim (fun k => .inr (.inl k)) (fun k => .inr (.inr k))
      obtain ⟨w', r, q⟩ := hl j y v' e1 e2 hvis
      obtain ⟨c2, h2⟩ := look k
      refine ⟨w', r, .inr ⟨.inr k, c2, h2, ?_⟩⟩
      have c1 := cm h2
      rcases q with ⟨k', _⟩ | ⟨_, c3, e', z⟩
      · have k' : X.env.scope.names.lookup y = some .local := k'
        rcases L.free _ (PySem.mem_of_lookup k) rfl with k2 | k2 <;> rw [show X.env.scope.names.lookup y = _ from k2] at k' <;> cases k'
      · rw [c1] at e'
        cases e'
        exact cellK z
  · obtain ⟨w', z⟩ := I.cell y c (cm e)
    exact ⟨w', cellK z⟩
  · exact I.freeC y c (cm e)

theorem lam_call {A : Around} {E : XK} {scope : Scope} {f c' : Addr} {i k : Nat} {x : Str} {v : V} {u pm ctv : Value} {params : Arguments} {body : Expr} {tb : TE} {Q : VK} (I : Inv X pins σ H s) (L : LamS1 X.env.scope scope x)
    (hf : s.heap.get? f = some (PySem.W.kla_obj "<lambda>" (X.env.qual ++ "<lambda>") params body scope (cloFrom X.env.cells scope.names []) pm c' ctv)) (hc : H c' = some (CodeO c' (X.env.qual ++ "<lambda>")))
    (hbind : bindArgs (PySem.W.kla_fn "<lambda>" (X.env.qual ++ "<lambda>") params body scope (cloFrom X.env.cells scope.names []) pm (.ref c') ctv) ⟨[u], []⟩ = pure [(x, u)])
    (hA : A.frames = some X.stack) (hr : Room (k + 1) A)
    (hbody : ∀ (A : Around) (outer : List Env) (s : Shared) (H : Hp), Room k (A.deeper (lamEnv X scope s.heap.objs.size f c')) → PE (lamCx X A outer s H E scope f c').nox body tb)
    (hi : X.N[i]? = some x) (hN : X.N.Nodup) (rv : RelV v u) (q : tb (σ.set i (some v)) H Q) :
    wpAny (model X.prog X.w) A (call (.ref f) [u]) (fun u' s'' => ∃ v' H', Inv X pins σ H' s'' ∧ RelV v' u' ∧ Q v' H' ∧ ∀ b o, s.heap.get? b = some o → H b = none → b ∉ frs X.stack → s''.heap.get? b = some o ∧ H' b = none) (fun _ _ => False) s := by
  have e0 := I.env0
  have e1 : Env0 X.prog X.w X.K X.mg X.base A X.stack s H := ⟨hA, e0.mod, e0.bs, e0.bsz, e0.funs, e0.frf, e0.hok, e0.bare⟩
  obtain ⟨⟨oc, vs, t, hoc, hdc, hvc⟩, _, _⟩ := I.hok c' _ hc
  have rc : codeAny (model X.prog X.w) A (.call (.ref f) ⟨[u], []⟩) (fun r s' => match r with | .ok (.ret u') => CE X.stack X.prog X.w H s Q u' s' | _ => False) s := by
    refine PySem.W.kla_callFunE hr.depth hf rfl L.co L.gen rfl ⟨c', oc, vs, t, rfl, hoc, hdc, hvc⟩ ?_
    rw [hbind]
    refine wpAny_pure (wpAny_newFunctionEnv (fun y hy => (L.own y hy).1) (fun y hy => ?_) (fun h₁ hns hsb => ⟨I.nolimit.fresh _ hsb, ?_⟩) L.kind)
    · obtain rfl : y = (x, u) := by simpa using hy
      exact L.arg
    show codeAny _ _ (.expr body (lamEnv X scope s.heap.objs.size f c')) _ _
    have kp : ∀ b o, s.heap.get? b = some o → h₁.get? b = some o := fun b o e => hsb.extBut b o (Nat.ne_of_lt (Heap.lt_size e)) (Heap.get?_push_of_some _ e)
    have J : Inv (lamCx X A X.stack s H E scope f c').nox [] (σ.set i (some v)) H { s with heap := h₁, toks := s.toks + ([(x, u)] : List (Str × Value)).length } :=
      lam_start1 I L hi hN rv e1 hr.hd hns kp
    refine PySem.W.kla_codeExpr (wpAny_mono ((hbody A X.stack s H (hr.deeper _)).run [] _ _ H Q J q) (fun v s' hq => ?_) fun e s' hq => hq.elim)
    obtain ⟨w', H', J', rv, q⟩ := hq
    exact ⟨w', H', J'.os, J'.bare, J'.base, J'.hok, rv, q⟩
  refine wpAny_call (codeAny_mono rc fun r s' hq => ?_)
  cases r with
  | error e => exact hq.elim
  | ok fl =>
    cases fl with
    | ret u' =>
      obtain ⟨v', H', os, bare, un, hok, r, q⟩ := hq
      obtain ⟨hh, g, d, t, os'⟩ := s'
      obtain rfl : os' = s.os := os
      exact ⟨v', H', I.call (h' := hh) (g' := g) (d' := d) (t' := t) (ch := []) un hok bare (fun b z => absurd z (by simp)), r, q, fun b o e n hb => ⟨un.keep b o e n hb (by simp), un.free b o e n (by simp)⟩⟩
    | next => exact False.elim hq
    | brk => exact False.elim hq
    | cont => exact False.elim hq

/-- an address that came behind -/
structure Nw (X : Cx) (pins : List (Addr × Obj)) (b : Addr) : Prop where
  old : b ∈ X.ex ∨ X.s_0.heap.objs.size ≤ b
  neL : b ≠ X.env.locals
  cell : ∀ x c, X.env.cells.lookup x = some c → c ≠ b
  pin : ∀ p ∈ X.pn ++ pins, p.1 ≠ b
  fr : b ∉ frs X.stack
theorem nw_of (I : Inv X pins σ H s) {b : Addr} (hb : s.heap.objs.size ≤ b) : Nw X pins b := by
  obtain ⟨_, h1, h2, h3, h4, h5⟩ := I.fpOk (H' := fun _ => none) hb rfl
  refine ⟨h3, h1, h4, h5, fun z => ?_⟩
  rcases List.mem_cons.mp (I.stkSub _ z) with e | e
  · exact h1 e
  · exact h2 e
theorem inv_two {kS a : Addr} {xs : List V} {h' : Heap} {t' : Nat} (I : Inv X pins σ H s) (k : ∀ b o, b ≠ kS → b ≠ a → s.heap.get? b = some o → h'.get? b = some o) (hn1 : H kS = none) (hn2 : H a = none) (N1 : Nw X pins kS) (N2 : Nw X pins a)
    (new : ObjOk X.prog X.w (upd H a (.lst xs)) h' a (.lst xs)) : Inv X pins σ (upd H a (.lst xs)) { s with heap := h', toks := t' } := by
  have up : ∀ b o, H b = some o → upd H a (.lst xs) b = some o := fun b o e => by rw [upd_ne (ne_of_none e hn2)]; exact e
  have ne1 : ∀ b o, H b = some o → b ≠ kS := fun b o e => ne_of_none e hn1
  have ne2 : ∀ b o, H b = some o → b ≠ a := fun b o e => ne_of_none e hn2
  refine I.step (g' := s.gens) (d' := s.drawn) (ch := [kS, a]) (fun b hb => ?_) (fun b o _ _ hc e _ => k b o (fun z => hc (by simp [z])) (fun z => hc (by simp [z])) e) (fun b o _ _ hc e _ => ⟨o.slots, k b o (fun z => hc (by simp [z])) (fun z => hc (by simp [z])) e⟩)
    (fun b o hc _ n => by rw [upd_ne (fun z => hc (by simp [z]))]; exact n) (fun b o hc e => ⟨o, k b o (fun z => hc (by simp [z])) (fun z => hc (by simp [z])) e⟩) (fun b xs e => up b _ e) (fun b o u e => up b _ e) (fun b ps e => ⟨#[], by rw [up b _ e]; simp⟩) (fun m hm => ?_) (fun b u e => ?_) I.bare
  · have e : b = kS ∨ b = a := by simpa using hb
    rcases e with e | e
    · subst e; exact ⟨N1.old, N1.neL, N1.cell, N1.pin⟩
    · subst e; exact ⟨N2.old, N2.neL, N2.cell, N2.pin⟩
  · obtain ⟨o, es, ep, ho, r⟩ := hm
    exact ⟨o, es, ep, k _ o (Ne.symm N1.neL) (Ne.symm N2.neL) ho, r⟩
  · by_cases hb : b = a
    · subst hb
      rw [upd_same] at e
      obtain rfl := Option.some.inj e
      exact new
    · rw [upd_ne hb] at e
      refine (I.hok b u e).stay (fun c v hc q => k c v ?_ ?_ q) (fun c q => up c _ q) fun c xs q => up c _ q
      · rcases hc with z | z
        · rw [z]; exact ne1 b u e
        · exact ne1 c _ z
      · rcases hc with z | z
        · rw [z]; exact hb
        · exact ne2 c _ z
theorem intV_rel {v : Value} {z : Int} (h : IntV v z) : RelV (.int z) v := h
theorem each_vals : ∀ {out : List Value} {zs : List Int}, EachIs IntV out zs → Vals (zs.map V.int) out
  | _, _, .nil => .nil
  | _, _, .cons h t => .cons h (each_vals t)
theorem items_each {n : Nat} {acc : Array Value} {lo : Int} (h : ItemsOf (fun i v => ∃ t, v = Value.int (lo + i * 1) t) acc n) : EachIs IntV acc.toList ((List.range n).map fun (i : Nat) => lo + (i : Int)) := by
  obtain ⟨h1, h2⟩ := h
  have key : ∀ (l : List Value) (m : Nat), (∀ i v, l[i]? = some v → ∃ t, v = Value.int (lo + ((m + i : Nat) : Int)) t) → EachIs IntV l ((List.range' m l.length).map fun (i : Nat) => lo + (i : Int)) := by
    intro l
    induction l with
    | nil => intro m _; exact .nil
    | cons v l ih =>
      intro m hl
      refine .cons ?_ (ih (m + 1) fun i u hu => ?_)
      · obtain ⟨t, e⟩ := hl 0 v rfl
        exact ⟨t, by rw [e]; simp⟩
      · obtain ⟨t, e⟩ := hl (i + 1) u (by simpa using hu)
        exact ⟨t, by rw [e]; congr 2; omega⟩
  have := key acc.toList 0 fun i v hv => by
    obtain ⟨t, e⟩ := h2 i v (by simpa using hv)
    exact ⟨t, by rw [e, Int.mul_one, Nat.zero_add]⟩
  rw [← h1]
  rw [Array.length_toList] at this
  rw [List.range_eq_range']
  exact this

theorem call_sortedLam {scope : Scope} {f c' r : Addr} {i k n : Nat} {x : Str} {pm ctv : Value} {t1 t2 t3 : Tok} {params : Arguments} {body : Expr} {tb : TE} {key : Int → Int} {Q : Value → Shared → Prop} (I : Inv X pins σ H s) (hc0 : X.calm = true) (L : LamS1 X.env.scope scope x)
    (hf : s.heap.get? f = some (PySem.W.kla_obj "<lambda>" (X.env.qual ++ "<lambda>") params body scope (cloFrom X.env.cells scope.names []) pm c' ctv)) (hfn : H f = none) (hfr : f ∉ frs X.stack) (hc : H c' = some (CodeO c' (X.env.qual ++ "<lambda>")))
    (hrg : IsRange s.heap r 0 (n : Int) 1 t1 t2 t3) (hn : n ≤ 1000)
    (hbind : ∀ u : Value, bindArgs (PySem.W.kla_fn "<lambda>" (X.env.qual ++ "<lambda>") params body scope (cloFrom X.env.cells scope.names []) pm (.ref c') ctv) ⟨[u], []⟩ = pure [(x, u)])
    (hr : Room (k + 3) X.A)
    (hbody : ∀ (A : Around) (outer : List Env) (s : Shared) (H : Hp), Room k (A.deeper (lamEnv X scope s.heap.objs.size f c')) → PE (lamCx X A outer s H (fun _ _ _ => False) scope f c').nox body tb)
    (hi : X.N[i]? = some x) (hN : X.N.Nodup)
    (hturn : ∀ (z : Int), 0 ≤ z → z < n → ∀ H3, Ex H H3 → tb (σ.set i (some (.int z))) H3 (fun v H4 => Ex H3 H4 ∧ v = .int (key z)))
    (hQ : ∀ s' H5 q, Inv X pins σ H5 s' → Ex H H5 → H5 q = some (.lst ((((List.range n).map fun (i : Nat) => (i : Int)).mergeSort fun x y => decide (key x ≤ key y)).map V.int)) → Q (.ref q) s') :
    wpAny (model X.prog X.w) X.A (call (.builtin "sorted") [.ref r] [(Str.ofString "key", .ref f)]) Q X.xe s := by
  have hh : X.A.handled = none := I.ok.hd hc0
  have hu := hr.un
  refine call_function_entry_kw kind_sorted plain_sorted entry_sorted (ksk_s1 _ _) ?_
  unfold Builtin.«sorted»
  refine wpAny_bind (m := checkCount "sorted" 1 1 _) (wpAny_pure ?_)
  have e1n : Builtin.Range.rangeSize 0 (n : Int) 1 = ((n : Nat) : Int) := by rw [PyProof.Rows.rangeSize_nat]; omega
  refine wpAny_bind (collect_range (A := X.A.in1) hh hrg (PySem.small_one (by omega) (by omega) (by omega) (by omega)) (n := n) e1n (by omega) fun h1 tk acc hk hit => ?_)
  have hev := items_each hit
  have ez : ((List.range n).map fun (i : Nat) => (0 : Int) + (i : Int)) = (List.range n).map fun (i : Nat) => (i : Int) := List.map_congr_left fun i _ => by omega
  rw [ez] at hev
  have hzl : ((List.range n).map fun (i : Nat) => (i : Int)).length = n := by rw [List.length_map, List.length_range]
  generalize hzs : ((List.range n).map fun (i : Nat) => (i : Int)) = zs at hev hzl hQ
  have hmem : ∀ z ∈ zs, 0 ≤ z ∧ z < n := fun z hz => by
    rw [← hzs] at hz
    obtain ⟨j, hj, rfl⟩ := List.mem_map.mp hz
    have := List.mem_range.mp hj
    omega
  have hacc : acc.toList.length = n := by rw [Array.length_toList]; exact hit.1
  have I1 : Inv X pins σ H { s with heap := h1, toks := tk } := I.kept hk
  have Na : Nw X pins h1.objs.size := nw_of I1 (Nat.le_refl _)
  have Ha : H h1.objs.size = none := I1.hok.fresh (Nat.le_refl _)
  refine wpAny_bind (wpAny_newList ?_ (by rw [hacc, sizeLine_eq]; omega))
  have hL : (h1.push (seqObj "list" acc.toList.toArray 0)).get? h1.objs.size = some (seqObj "list" acc.toList.toArray 0) := Heap.get?_push_size _ rfl
  have I2 : Inv X pins σ H { s with heap := h1.push (seqObj "list" acc.toList.toArray 0), toks := tk } := I1.kept (t' := tk) fun b o e => Heap.get?_push_of_some _ e
  refine wpAny_bind (wpAny_holding (wpAny_call_entry_kw slot_list_sort ⟨_, hL, rfl⟩ entry_list_sort ?_ (ksk_l1 _ _)))
  rw [ksk_t1]
  obtain ⟨e1, ho1⟩ : ∃ e1, ((h1.push (seqObj "list" acc.toList.toArray 0)).update h1.objs.size (Obj.mapSeq fun _ => (#[] : Array Value))).get? h1.objs.size = some (seqObj "list" #[] e1) := ⟨_, get?_update_seq hL fun _ => #[]⟩
  have sb := Heap.SameBut.update (h1.push (seqObj "list" acc.toList.toArray 0)) h1.objs.size (Obj.mapSeq fun _ => (#[] : Array Value))
  unfold ksk_tree
  refine wpAny_bind (listItems_at hL rfl ?_)
  refine wpAny_bind (listUpdate_at hL rfl ?_ (by rw [List.size_toArray, hacc, sizeLine_eq]; omega) (Nat.zero_le _))
  have I3 : Inv X pins σ H { s with heap := (h1.push (seqObj "list" acc.toList.toArray 0)).update h1.objs.size (Obj.mapSeq fun _ => (#[] : Array Value)), toks := tk } :=
    Inv.turned (s := { s with heap := h1.push (seqObj "list" acc.toList.toArray 0), toks := tk }) I2 (t' := tk) (it := h1.objs.size) (fun b o hb e => sb.extBut b o hb e) Ha Na.neL Na.old Na.cell Na.pin
  generalize hh3 : (h1.push (seqObj "list" acc.toList.toArray 0)).update h1.objs.size (Obj.mapSeq fun _ => (#[] : Array Value)) = h3 at ho1 I3 sb
  refine wpAny_bind (seqEpoch_at (s := { s with heap := h3, toks := tk }) ho1 rfl ?_)
  refine wpAny_bind (wpAny_newTuple ?_ (by show acc.toList.length ≤ _; rw [hacc, sizeLine_eq]; omega))
  have I4 : Inv X pins σ H { s with heap := h3.push (seqObj "tuple" acc.toList.toArray 0), toks := tk } := I3.kept (t' := tk) fun b o e => Heap.get?_push_of_some _ e
  have ho2 : (h3.push (seqObj "tuple" acc.toList.toArray 0)).get? h1.objs.size = some (seqObj "list" #[] e1) := Heap.get?_push_of_some _ ho1
  have hf3 : h3.get? f = some (PySem.W.kla_obj "<lambda>" (X.env.qual ++ "<lambda>") params body scope (cloFrom X.env.cells scope.names []) pm c' ctv) :=
    sb.extBut _ _ (Nat.ne_of_lt (Heap.lt_size (hk _ _ hf))) (Heap.get?_push_of_some _ (hk _ _ hf))
  have hf4 : (h3.push (seqObj "tuple" acc.toList.toArray 0)).get? f = some (PySem.W.kla_obj "<lambda>" (X.env.qual ++ "<lambda>") params body scope (cloFrom X.env.cells scope.names []) pm c' ctv) := Heap.get?_push_of_some _ hf3
  generalize hh4 : h3.push (seqObj "tuple" acc.toList.toArray 0) = h4 at I4 ho2 hf4
  have Nk : Nw X pins h4.objs.size := nw_of I4 (Nat.le_refl _)
  have Hk : H h4.objs.size = none := I4.hok.fresh (Nat.le_refl _)
  have hka : h4.objs.size ≠ h1.objs.size := Nat.ne_of_gt (Heap.lt_size ho2)
  show wpAny _ _ (newList [] >>= _) _ _ { s with heap := h4, toks := tk }
  refine wpAny_bind (wpAny_newList ?_ (Nat.zero_le _))
  have I5 : Inv X pins σ H { s with heap := h4.push (seqObj "list" #[] 0), toks := tk } := I4.kept (t' := tk) fun b o e => Heap.get?_push_of_some _ e
  refine wpAny_holding ?_
  refine rest_inv (s := { s with heap := h4.push (seqObj "list" #[] 0), toks := tk }) (zs := zs) (key := key) (kS := h4.objs.size) (a := h1.objs.size) (e1 := e1) (vs := acc.toList)
    (fun i s' => ∃ H', Inv X pins σ H' s' ∧ Ex H H' ∧ s'.heap.get? f = some (PySem.W.kla_obj "<lambda>" (X.env.qual ++ "<lambda>") params body scope (cloFrom X.env.cells scope.names []) pm c' ctv) ∧ H' f = none ∧ H' h4.objs.size = none ∧ H' h1.objs.size = none)
    ⟨H, I5, Ex.refl H, Heap.get?_push_of_some _ hf4, hfn, Hk, Ha⟩ (Heap.get?_push_size _ rfl) (Heap.get?_push_of_some _ ho2) hka hev (by omega) (by show X.A.units + 1 + 1 + 32 < cLine; omega)
    (fun j z v s' hz hv hJ hkS hna => ?_) (fun s' h' tk' c out hJ kp hD ho => ?_)
  · obtain ⟨H', J, eH, jf, jfn, jk, ja⟩ := hJ
    obtain ⟨kA, ek, hkS⟩ := hkS
    obtain ⟨z0, zn⟩ := hmem z (List.mem_of_getElem? hz)
    refine wpAny_mono (lam_call (A := X.A.in1.in1) (k := k) (E := fun _ _ _ => False) J L jf (eH _ _ hc) (hbind v) J.ok.frames hr.in1.in1 hbody hi hN (intV_rel hv) (hturn z z0 zn H' eH)) (fun u' s'' hq => ?_) fun _ _ hF => hF
    obtain ⟨v', H4, J4, rv, ⟨e4, rfl⟩, kp⟩ := hq
    refine ⟨rv, fun o ho => (kp _ _ ho jk Nk.fr).1, (kp _ _ hna ja Na.fr).1, fun h' sbk => ?_⟩
    have jk4 : H4 h4.objs.size = none := (kp _ _ hkS jk Nk.fr).2
    refine ⟨H4, J4.turned (t' := s''.toks) (it := h4.objs.size) (fun b o hb e => sbk.extBut b o hb e) jk4 Nk.neL Nk.old Nk.cell Nk.pin, eH.trans e4, sbk.extBut _ _ (fun e => ?_) (kp _ _ jf jfn hfr).1, (kp _ _ jf jfn hfr).2, jk4, (kp _ _ hna ja Na.fr).2⟩
    rw [e] at jf; rw [jf] at hkS
    have h9 := congrArg Obj.cls (Option.some.inj hkS)
    have h10 : Value.type "function" = Value.type "list" := h9
    exact absurd h10 (by decide)
  · obtain ⟨H', J, eH, jf, jfn, jk, ja⟩ := hJ
    have hol := ho.length
    rw [List.length_mergeSort] at hol
    refine ⟨.none, rfl, wpAny_pure ⟨_, rfl, ?_⟩⟩
    refine hQ _ (upd H' h1.objs.size (.lst ((zs.mergeSort fun x y => decide (key x ≤ key y)).map V.int))) _ (inv_two J kp jk ja Nk Na ⟨?_, out, c, each_vals ho, hD⟩) (eH.trans (Ex.new ja)) upd_same
    rw [List.length_map, List.length_mergeSort, sizeLine_eq]; omega

end
def tSK (T : List (Addr × Str)) (ta tb : TE) (i : Nat) : TE := fun σ H Q => ta σ H fun v H1 => ∃ n : Nat, v = .int (n : Int) ∧ n ≤ 1000 ∧ Tabs T H1 ∧ ∀ H2, ExtN H1 H2 → Tabs T H2 →
  ∃ key : Int → Int, (∀ (z : Int), 0 ≤ z → z < n → ∀ H3, Ex H2 H3 → tb (σ.set i (some (.int z))) H3 (fun v H4 => Ex H3 H4 ∧ v = .int (key z))) ∧
    ∀ H5 q, Ex H2 H5 → H5 q = some (.lst ((((List.range n).map fun (i : Nat) => (i : Int)).mergeSort fun x y => decide (key x ≤ key y)).map V.int)) → Q (.ref q) H5
section
variable {X : Cx} {e : Expr} {ta tb : TE} {p1 p2 pos pos2 kpos lpos : Pos} {T : List (Addr × Str)} {c P : Addr} {params : Arguments} {body : Expr} {scope : Scope} {i k : Nat} {x : Str}
theorem pe_sortedLam (hc0 : X.calm = true) (hg : Gl X "sorted") (hm : X.mg "sorted" = none) (hg2 : Gl X "range") (hm2 : X.mg "range" = none) (he : PE X e ta)
    (TB : TabB X.base X.mg c P) (hcode : X.env.code = .ref c) (hmT : (P, X.env.qual ++ "<lambda>") ∈ T) (hu : ∀ p ∈ T, p.1 = P → p.2 = X.env.qual ++ "<lambda>") (hdef : defaultsOf params X.env = ([], [])) (L : LamS1 X.env.scope scope x)
    (hbind : ∀ (clo : List (Str × Addr)) (pm cv ctv u : Value), bindArgs (PySem.W.kla_fn "<lambda>" (X.env.qual ++ "<lambda>") params body scope clo pm cv ctv) ⟨[u], []⟩ = pure [(x, u)])
    (hr : Room (k + 3) X.A) (hi : X.N[i]? = some x) (hN : X.N.Nodup)
    (hbody : ∀ (A : Around) (outer : List Env) (s : Shared) (H : Hp) (f c' : Addr), Room k (A.deeper (lamEnv X scope s.heap.objs.size f c')) → PE (lamCx X A outer s H (fun _ _ _ => False) scope f c').nox body tb)
    (na : starEach [e] X.env = (false, eval e X.env) :: starEach [] X.env := by rfl)
    (nr : starEach [.Call (.Name "range" p2) [e] [] pos2] X.env = (false, eval (.Call (.Name "range" p2) [e] [] pos2) X.env) :: starEach [] X.env := by rfl)
    (hall : (backToKw pos (keywordEach [⟨some "key", .Lambda params body scope lpos, kpos⟩] X.env)).all (·.1.isSome) = true := by rfl) (hnone : (backToKw pos (keywordEach [⟨some "key", .Lambda params body scope lpos, kpos⟩] X.env)).any (·.1.isNone) = false := by rfl)
    (hks : (backToKw pos (keywordEach [⟨some "key", .Lambda params body scope lpos, kpos⟩] X.env)).filterMap (·.1) = [Str.ofString "key"] := by rfl) :
    PE X (.Call (.Name "sorted" p1) [.Call (.Name "range" p2) [e] [] pos2] [⟨some "key", .Lambda params body scope lpos, kpos⟩] pos) (tSK T ta tb i) := by
  refine ⟨fun pins s σ H Q I h => ?_⟩
  refine wpAny_Call_Name_kw (ld_blt I hg hm (u := .builtin "sorted") (by rfl) ?_)
  refine PyProof.Rows.callWith_kw (args_cons (Call_ (ld_blt I hg2 hm2 boot_range (PyProof.Rows.callWith_type1 (one_arg he I h (fun v s2 y H2 I2 r q => ?_) na) na))) nr) (by rfl) (by rfl) hall hnone
  obtain ⟨n, rfl, hn, hT, q⟩ := q
  obtain ⟨t, rfl⟩ := r
  refine call_range_1 (args_nil ?_)
  have N2 := nw_of I2 (Nat.le_refl _)
  have nfs : s2.heap.objs.size ∉ X.fs := I2.nofs (Nat.le_refl _)
  have n2 : H2 s2.heap.objs.size = none := I2.hok.fresh (Nat.le_refl _)
  have hrg : IsRange (s2.heap.push { cls := .type "range", data := .fields #[.int 0 s2.toks, .int (n : Int) t, .int 1 (s2.toks + 1)] }) s2.heap.objs.size 0 (n : Int) 1 s2.toks t (s2.toks + 1) := IsRange.new _ _ _ _ _ _ _
  have I3 : Inv X pins σ H2 { s2 with heap := s2.heap.push { cls := .type "range", data := .fields #[.int 0 s2.toks, .int (n : Int) t, .int 1 (s2.toks + 1)] }, toks := s2.toks + 1 + 1 } := I2.kept fun b u e => Heap.get?_push_of_some _ e
  have I4 : Inv X (pins ++ [(s2.heap.objs.size, { cls := .type "range", dict := none, data := .fields #[.int 0 s2.toks, .int (n : Int) t, .int 1 (s2.toks + 1)], slots := #[] })]) σ H2 _ := I3.pins_of fun p hp => by
    rcases List.mem_append.mp hp with hp | hp
    · exact I3.pin p (List.mem_append_right _ hp)
    · obtain rfl := List.mem_singleton.mp hp
      exact ⟨hrg, n2, N2.neL, nfs, fun v z => by cases z⟩
  show wpAny _ _ (evalAll ((do let v ← eval (.Lambda params body scope lpos) X.env; standAt pos; pure v) :: (backToKw pos (keywordEach [] X.env)).map (·.2))) _ _ _
  refine wpAny_evalAll_cons (wpAny_bind (lam_make2 I4 TB hcode hmT hu hT hdef (L.has I4.ok) fun f c' pm ctv H1 s' I5 eN T1 hf hfn hfr hco => ?_))
  refine wpAny_bind (wpAny_standAt (wpAny_pure ?_))
  refine wpAny_evalAll_nil ?_
  rw [hks]
  obtain ⟨key, hturn, q⟩ := q H1 eN T1
  have hr5 : IsRange s'.heap s2.heap.objs.size 0 (n : Int) 1 s2.toks t (s2.toks + 1) := (I5.pin _ (List.mem_append_right _ (List.mem_append_right _ (List.mem_singleton_self _)))).1
  exact call_sortedLam (I5.pins_of fun p hp => I5.pin p (List.mem_append_right _ (List.mem_append_left _ hp))) hc0 L hf hfn hfr hco hr5 hn (hbind _ _ _ _) hr (fun A outer s H => hbody A outer s H f c') hi hN hturn fun s6 H5 q5 I6 e5 h5 => ⟨.ref q5, H5, I6, rfl, q H5 q5 e5 h5⟩
end
end KU
end
section
set_option Elab.async false
set_option linter.all false
set_option maxRecDepth 100000
set_option maxHeartbeats 4000000
/-! Walks: small defs. -/
namespace KW
open PySem PySem.Spec PyProof.Rows L2 Evl KR K18 KX

def topS (i : Nat) : Stmt := PySem.Challenge.pw_steerloops_k18_whole_row_reduced_matrice.main.body.getD i (.Pass ⟨0, 0, 0, 0⟩)
/-- the built-in names that the module leaves as they are -/
structure Bt (mg : Str → Option Value) : Prop where
  len : mg "len" = none
  range : mg "range" = none
  zip : mg "zip" = none
  tuple : mg "tuple" = none
  list : mg "list" = none
  int : mg "int" = none
  bool : mg "bool" = none
  str : mg "str" = none
  isinstance : mg "isinstance" = none
  max : mg "max" = none
  all : mg "all" = none
  sorted : mg "sorted" = none
  enumerate : mg "enumerate" = none
def primes : List Int := [2, 3, 5, 7, 11, 13, 17, 19, 23, 29, 31]
/-- the module's constants -/
structure Cn (K : PySem.W.Frag) (mg : Str → Option Value) where
  aP : Addr
  tD : Tok
  tS : Tok
  tE : Tok
  PRIMES : mg "PRIMES" = some (.ref aP)
  pr : ∀ H, SqT K H aP (primes.map V.int)
  MOST_DEGREE : mg "MOST_DEGREE" = some (.int 40 tD)
  MOST_SIDE : mg "MOST_SIDE" = some (.int 6 tS)
  MOST_ENTRY : mg "MOST_ENTRY" = some (.int 12 tE)
/-- a def of the text, bound in the module -/
structure DefAt (K : PySem.W.Frag) (mg : Str → Option Value) (x : Str) (st : Stmt) (ps : List Str) : Prop where
  ex : ∃ f fd, Fun K x x st f fd ∧ Binds K fd ps [] ∧ mg x = some (.ref f)
section
variable {P : Program} {w : World} {K : PySem.W.Frag} {mg : Str → Option Value} {base : Heap}
theorem DefAt.ok {x : Str} {st : Stmt} {N ps : List Str} {k : Nat} {sp : Sp} (D : DefAt K mg x st ps) (S : FnScope N ps (defScope st)) (len : ∀ vs H Q E, sp vs H Q E → vs.length = ps.length)
    (hbody : ∀ (f : Addr) (cdv : Value) (A : Around) (outer : List Env) (s : Shared) (H : Hp) (vs : List V) (Q : VK) (E : XK), Room k (A.deeper (envOfC x (defScope st) s.heap.objs.size f cdv)) → sp vs H Q E →
      ∃ t, PSs (cxOf CX0 P w K mg base N x (defScope st) f cdv A outer s H E).nox (defBody st) t ∧ t { nx := fun _ H' => Q .non H', rt := Q } (start N vs) H) : Ok P w K mg base x ps (k + 1) sp := by
  obtain ⟨f, fd, F, b, g⟩ := D.ex
  have ⟨oc, od, kV, doc, pm, an, cdv, ct, osl, e, lk, hcd⟩ := F.ex
  exact ⟨f, fd, F.ok S len (hbody f), b, g, F.kp, oc, od, osl, lk⟩
theorem spF_len {α : Type} {arg : α → List PyData} {pre : α → Prop} {res : α → PyData} {n : Nat} (h : ∀ a, (arg a).length = n) : ∀ vs H Q E, spF K arg pre res vs H Q E → vs.length = n :=
  fun vs H Q E ⟨a, _, r, _⟩ => by rw [dpA_len r, h]

theorem dpA1 {H : Hp} {vs : List V} {d : PyData} (r : DpAll K H vs [d]) : ∃ v, vs = [v] ∧ Dp K H v d := by
  cases r with
  | cons r1 r2 => cases r2; exact ⟨_, rfl, r1⟩
theorem dpA2 {H : Hp} {vs : List V} {d e : PyData} (r : DpAll K H vs [d, e]) : ∃ v w, vs = [v, w] ∧ Dp K H v d ∧ Dp K H w e := by
  cases r with
  | cons r1 r2 => obtain ⟨w, rfl, r3⟩ := dpA1 r2; exact ⟨_, _, rfl, r1, r3⟩
theorem dpA3 {H : Hp} {vs : List V} {d e g : PyData} (r : DpAll K H vs [d, e, g]) : ∃ v w u, vs = [v, w, u] ∧ Dp K H v d ∧ Dp K H w e ∧ Dp K H u g := by
  cases r with
  | cons r1 r2 => obtain ⟨w, u, rfl, r3, r4⟩ := dpA2 r2; exact ⟨_, _, _, rfl, r1, r3, r4⟩
/-! ### isinstance -/
def tyD : PyData → String
  | .none => "NoneType"
  | .bool _ => "bool"
  | .int _ => "int"
  | .str _ => "str"
  | .list _ => "list"
  | .tuple _ => "tuple"
  | .dict _ => "dict"
theorem dp_ty {H : Hp} {v : V} {d : PyData} (r : Dp K H v d) : TyX K H v (.type (tyD d)) := by
  cases r with
  | non => exact .base .non
  | bl b => exact .base (.bl b)
  | int i => exact .base (.int i)
  | str x => exact .base (.str x)
  | lst h ha =>
    rcases h with (h | ⟨o, h⟩) | ⟨o, its, n, h1, h2, _⟩
    · exact .base (.lst h)
    · exact .base (.frz h)
    · exact .kList h1 h2
  | tup h ha =>
    rcases h with (h | ⟨o, h⟩) | ⟨o, its, n, h1, h2, _⟩
    · exact .base (.tup h)
    · exact .fTuple h
    · exact .kTuple h1 h2
theorem ed_isi {ta : TE} {σ : L2.St} {H : Hp} {d : PyData} {ty : String} {b : Bool} {Ty : String} (h : EvD K ta σ H d) (hk : kitB Ty ty = some b) (ht : tyD d = Ty := by rfl) :
    EvD K (tCB (rIsi K) (tCons ta (tCons (tC (.ty ty)) tNil))) σ H (.bool b) := fun H1 e Q q => h H1 e _ fun v H2 e2 r => ⟨v, .ty ty, .type Ty, .type ty, b, rfl, .ty ty, by rw [← ht]; exact dp_ty r, kit_ty hk, q _ H2 e2 (.bl _)⟩

/-! ### is_int, is_in, need_prime, inverse -/
abbrev s_is_int : Stmt := topS 7
theorem sc_is_int : FnScope ["value"] ["value"] (defScope s_is_int) := ⟨rfl, rfl, rfl, by decide +kernel, rfl, by decide +kernel, by decide +kernel⟩
abbrev spIsInt (K : PySem.W.Frag) : Sp := spF K (fun i : Int => [.int i]) (fun _ => True) (fun _ => .bool true)
theorem ok_is_int (T : Bt mg) (D : DefAt K mg "is_int" s_is_int ["value"]) : Ok P w K mg base "is_int" ["value"] 1 (spIsInt K) := by
  refine D.ok sc_is_int (spF_len fun _ => rfl) fun f cdv A outer s H vs Q E hr h => ?_
  obtain ⟨i, _, r, q⟩ := h
  obtain ⟨_, rfl, r1⟩ := dpA1 r
  obtain rfl := dp_int r1
  refine ⟨_, (pss_one (ps_ret (pe_and (pe_callB (kIsi (K := K) rfl) (by rfl) T.isinstance (by decide +kernel) (pa_cons (pv 0) (pa_cons (pe_bltn (v := .ty "int") (by rfl) T.int (by decide +kernel) rfl) pa_nil))) (pe_one (pe_not (pe_callB (kIsi (K := K) rfl) (by rfl) T.isinstance (by decide +kernel) (pa_cons (pv 0) (pa_cons (pe_bltn (v := .ty "bool") (by rfl) T.bool (by decide +kernel) rfl) pa_nil)))))))), ?_⟩
  exact sd_ret (ed_andV (ed_isi (Ty := "int") (ed_var rfl (.int i)) (b := true) (by decide +kernel)) fun _ => ed_notV (ed_isi (Ty := "int") (ed_var rfl (.int i)) (b := false) (by decide +kernel))) q

abbrev s_is_in : Stmt := topS 8
theorem sc_is_in : FnScope ["value", "least", "most"] ["value", "least", "most"] (defScope s_is_in) := ⟨rfl, rfl, rfl, by decide +kernel, rfl, by decide +kernel, by decide +kernel⟩
abbrev spIsIn (K : PySem.W.Frag) : Sp := spF K (fun a : Int × Int × Int => [.int a.1, .int a.2.1, .int a.2.2]) (fun _ => True) (fun a => .bool (decide (a.2.1 ≤ a.1) && decide (a.1 ≤ a.2.2)))
theorem ed_chain {ta tb tc : TE} {σ : L2.St} {H : Hp} {i j k : Int} {g1 g2 : Int → Int → Bool} (ha : EvD K ta σ H (.int i)) (hb : EvD K tb σ H (.int j)) (hc : EvD K tc σ H (.int k)) :
    EvD K (tChain (rI0 fun i j => .bl (g1 i j)) (rI0 fun i j => .bl (g2 i j)) ta tb tc) σ H (.bool (g1 i j && g2 j k)) := fun H1 e Q q =>
  ha H1 e _ fun v H2 e2 r => hb H2 (e.trans e2) _ fun u H3 e3 s => ⟨i, j, dp_int r, dp_int s, g1 i j, rfl, by
    cases hg : g1 i j with
    | true =>
      show tc σ H3 _
      exact hc H3 ((e.trans e2).trans e3) _ fun x H4 e4 t => ⟨j, k, dp_int s, dp_int t, q _ H4 ((e2.trans e3).trans e4) (by rw [hg]; exact .bl _)⟩
    | false => exact q _ H3 (e2.trans e3) (by rw [hg]; exact .bl _)⟩
theorem ok_is_in (T : Bt mg) (D : DefAt K mg "is_in" s_is_in ["value", "least", "most"]) (O_is_int : Ok P w K mg base "is_int" ["value"] 1 (spIsInt K)) : Ok P w K mg base "is_in" ["value", "least", "most"] 2 (spIsIn K) := by
  refine D.ok sc_is_in (spF_len fun _ => rfl) fun f cdv A outer s H vs Q E hr h => ?_
  obtain ⟨⟨i, lo, hi⟩, _, r, q⟩ := h
  obtain ⟨_, _, _, rfl, r1, r2, r3⟩ := dpA3 r
  obtain rfl := dp_int r1
  obtain rfl := dp_int r2
  obtain rfl := dp_int r3
  refine ⟨_, (pss_one (ps_ret (pe_and (pe_ok O_is_int (hr.mono (by decide)) (by rfl) (pa_cons (pv 0) pa_nil)) (pe_one (pe_chain op_le op_le (pv 1) (pv 0) (pv 2)))))), ?_⟩
  exact sd_ret (ed_is (ed_andV (ed_call i (eds_cons (ed_var rfl (.int i)) eds_nil) True.intro) fun _ => ed_chain (ed_var rfl (.int lo)) (ed_var rfl (.int i)) (ed_var rfl (.int hi))) (by simp)) q

abbrev s_need_prime : Stmt := topS 9
theorem sc_need_prime : FnScope ["value"] ["value"] (defScope s_need_prime) := ⟨rfl, rfl, rfl, by decide +kernel, rfl, by decide +kernel, by decide +kernel⟩
abbrev spNeedPrime (K : PySem.W.Frag) (p : Nat) : Sp := spF K (fun _ : Unit => [.int (p : Int)]) (fun _ => True) (fun _ => .none)
theorem ok_need_prime {p : Nat} [hp : Pr p] (T : Bt mg) (C : Cn K mg) (D : DefAt K mg "need_prime" s_need_prime ["value"]) (O_is_int : Ok P w K mg base "is_int" ["value"] 1 (spIsInt K)) : Ok P w K mg base "need_prime" ["value"] 2 (spNeedPrime K p) := by
  refine D.ok sc_need_prime (spF_len fun _ => rfl) fun f cdv A outer s H vs Q E hr h => ?_
  obtain ⟨_, _, r, q⟩ := h
  obtain ⟨_, rfl, r1⟩ := dpA1 r
  obtain rfl := dp_int r1
  refine ⟨_, (pss_one (ps_if (PW.pt (pw_or (pt_not (pt_val (pe_ok O_is_int (hr.mono (by decide)) (by rfl) (pa_cons (pv 0) pa_nil)))) (pw_or1 (pt_cmpR (kNotIn (K := K) rfl) (pv 0) (pe_glob (v := .ref C.aP) rfl C.PRIMES rfl) rfl)))) (pss_one ps_never) pss_nil)), ?_⟩
  have e1 : inV (.int (p : Int)) (primes.map V.int) = true := by
    rcases hp.h with h | h | h <;> subst h <;> decide
  refine s_if (b := false) (et_or (a := false) (b := false) (et_not (a := true) (KR.et_B (ed_call (p : Int) (eds_cons (ed_var rfl (.int _)) eds_nil) True.intro))) fun _ => ?_) (fun z => nomatch z) fun _ H1 e => q _ H1 e .non
  refine et_is (et_test (Evl.ev_op (x := .int (p : Int)) (y := .ref C.aP) (ev_var rfl) ev_c (rv_niT (C.pr H) rfl (by decide)))) ?_
  rw [e1]; rfl

abbrev s_inverse : Stmt := topS 10
theorem sc_inverse : FnScope ["p", "number", "found", "turn"] ["p", "number"] (defScope s_inverse) := ⟨rfl, rfl, rfl, by decide +kernel, rfl, by decide +kernel, by decide +kernel⟩
abbrev dC {p : Nat} (x : Fin p) : PyData := .int (x.val : Int)
theorem mod_mul {p : Nat} (a b : Fin p) : ((a.val : Int) * (b.val : Int)) % (p : Int) = ((a * b : Fin p).val : Int) := by
  rw [Fin.val_mul, ← Int.natCast_mul, ← Int.natCast_emod]
theorem mod_add {p : Nat} (a b : Fin p) : ((a.val : Int) + (b.val : Int)) % (p : Int) = ((a + b : Fin p).val : Int) := by
  rw [Fin.val_add, ← Int.natCast_add, ← Int.natCast_emod]
theorem p_pos {p : Nat} [hp : Pr p] : (0 : Int) < (p : Int) := by
  rcases hp.h with h | h | h <;> omega
theorem p_le {p : Nat} [hp : Pr p] : (p : Int) ≤ 5 := by
  rcases hp.h with h | h | h <;> omega
theorem p_ge {p : Nat} [hp : Pr p] : (2 : Int) ≤ (p : Int) := by
  rcases hp.h with h | h | h <;> omega
theorem c_mul {p : Nat} [hp : Pr p] (a : Fin p) (j : Int) : CMul (a.val : Int) j := by
  have := a.isLt
  have := p_le (p := p)
  exact .inl ⟨by omega, by omega⟩
abbrev spInverse (K : PySem.W.Frag) (p : Nat) [Pr p] : Sp := spF K (fun x : Fin p => [.int (p : Int), dC x]) (fun _ => True) (fun x => dC (finv x))
theorem ok_inverse {p : Nat} [hp : Pr p] (T : Bt mg) (D : DefAt K mg "inverse" s_inverse ["p", "number"]) : Ok P w K mg base "inverse" ["p", "number"] 1 (spInverse K p) := by
  refine D.ok sc_inverse (spF_len fun _ => rfl) fun f cdv A outer s H vs Q E hr h => ?_
  obtain ⟨x, _, r, q⟩ := h
  obtain ⟨_, _, rfl, r1, r2⟩ := dpA2 r
  obtain rfl := dp_int r1
  obtain rfl := dp_int r2
  refine ⟨_, (pss_cons (ps_set (i := 2) sc_inverse.nd rfl (Or.inl rfl) pe_int)
      (pss_cons (ps_for PassesOwn.never rfl (pi_range1 (by rfl) T.range (pa_cons (pe_op op_sub (pv 0) pe_int) pa_nil)) (pg_name (i := 3) sc_inverse.nd rfl (Or.inl rfl)) (pss_one (ps_set (i := 2) sc_inverse.nd rfl (Or.inl rfl) (pe_op op_mod (pe_op op_mul (pv 2) (pv 1)) (pv 0)))))
      (pss_one (ps_ret (pv 2))))), ?_⟩
  have := p_ge (p := p)
  have := p_le (p := p)
  refine qd_asg (K := K) (d := .int 1) ed_int fun v H1 e1 r1 => ?_
  obtain rfl := dp_int r1
  refine q_forR1 (n := (p : Int) - 2) ?_ (by omega) (fun i σ' H' => Ex H H' ∧ ∃ y, σ' = [some (.int (p : Int)), some (.int (x.val : Int)), some (.int ((fpow x i).val : Int)), y]) (fun H2 e2 => ⟨e1.trans e2, none, ?_⟩) (fun i σ' H' hi ⟨e2, y, hy⟩ => ?_) fun σ' H' ⟨e2, y, hy⟩ => ?_
  · exact ea_cons (ev_op (ev_var rfl) ev_c rv_I0) ea_nil
  · show _ = [_, _, some (V.int ((1 : Fin p).val : Int)), _]
    have : ((1 : Fin p).val : Int) = 1 := by
      rcases id hp.h with h | h | h <;> subst h <;> rfl
    rw [this]; rfl
  · subst hy
    refine sd_asg (K := K) (d := dC (fpow x (i + 1))) (ed_is (ed_opC (ed_opC (ed_var rfl (.int _)) (ed_var rfl (.int _)) (c_mul _ _)) (ed_var rfl (.int _)) p_pos) (by rw [mod_mul]; rfl)) fun v H2 e3 r2 => ?_
    obtain rfl := dp_int r2
    exact ⟨e2.trans e3, _, rfl⟩
  · subst hy
    have e3 : ((p : Int) - 2).toNat = p - 2 := by omega
    rw [e3]
    exact sd_ret (d := dC (finv x)) (ed_var rfl (.int _)) fun v H1 e r => q v H1 (e2.trans e) r
end
end KW
end
section
set_option Elab.async false
set_option linter.all false
set_option maxRecDepth 100000
set_option maxHeartbeats 4000000
/-! Walks: polynomials. -/
namespace KW
open PySem PySem.Spec PyProof.Rows L2 Evl KR K18 KX
section
variable {P : Program} {w : World} {K : PySem.W.Frag} {mg : Str → Option Value} {base : Heap} {p : Nat} [hp : Pr p]
def dP (f : Po p) : PyData := .tuple (f.l.map dC)
theorem flat_dC (x : Fin p) : flatD (dC x) = true := rfl
theorem flat_dP (f : Po p) : flatD (dP f) = true := by
  unfold dP; simp only [flatD]; exact flat_map (fun a => rfl) _
/-- trimL takes a front part -/
theorem trimL_take : ∀ (l : List (Fin p)) (m : Nat), (∀ k, m ≤ k → l.getD k 0 = 0) → (m ≠ 0 → l.getD (m - 1) 0 ≠ 0) → trimL l = l.take m := fun l m h1 h2 => by
  have hm : m ≤ l.length := by
    by_cases h : m ≤ l.length
    · exact h
    · exact absurd (by rw [List.getD_eq_getElem?_getD, List.getElem?_eq_none (by omega)]; rfl) (h2 (by omega))
  have e : trimP l = (⟨l.take m, fun x hx => by
      rw [List.getLast?_eq_getElem?, List.length_take, Nat.min_eq_left hm, List.getElem?_take] at hx
      have h0 : m ≠ 0 := fun z => by subst z; simp at hx
      rw [if_pos (by omega)] at hx
      have := h2 h0
      rw [List.getD_eq_getElem?_getD, hx] at this
      exact this⟩ : Po p) := trimP_eq fun k => by
    show l.getD k 0 = (l.take m).getD k 0
    rw [List.getD_eq_getElem?_getD, List.getD_eq_getElem?_getD, List.getElem?_take]
    split
    · rfl
    · have := h1 k (by omega)
      rw [List.getD_eq_getElem?_getD] at this
      rw [this]; rfl
  exact congrArg Po.l e

/-! ### trimmed -/
abbrev s_trimmed : Stmt := topS 19
theorem sc_trimmed : FnScope ["some", "many"] ["some"] (defScope s_trimmed) := ⟨rfl, rfl, rfl, by decide +kernel, rfl, by decide +kernel, by decide +kernel⟩
-- slots 0 some, 1 many
abbrev spTrimmed (K : PySem.W.Frag) (p : Nat) [Pr p] : Sp := spF K (fun l : List (Fin p) => [.list (l.map dC)]) (fun l => l.length ≤ 50000) (fun l => dP (trimP l))
theorem dC_at {l : List (Fin p)} {k : Nat} (h : k < l.length) : (l.map dC)[k]? = some (dC (l.getD k 0)) := by
  rw [List.getElem?_map, List.getD_eq_getElem?_getD, List.getElem?_eq_getElem h]; rfl
theorem dC_zero {x : Fin p} : decide ((x.val : Int) = 0) = decide (x = 0) := by
  have : ((x.val : Int) = 0) ↔ x = 0 := by
    constructor
    · intro h
      apply Fin.ext
      have h2 : x.val = 0 := by omega
      rw [h2]; rfl
    · intro h
      rw [h]; rfl
  by_cases h : x = 0
  · rw [decide_eq_true h, decide_eq_true (this.mpr h)]
  · rw [decide_eq_false h, decide_eq_false fun z => h (this.mp z)]
theorem ok_trimmed (T : Bt mg) (D : DefAt K mg "trimmed" s_trimmed ["some"]) : Ok P w K mg base "trimmed" ["some"] 1 (spTrimmed K p) := by
  refine D.ok sc_trimmed (spF_len fun _ => rfl) fun f cdv A outer s H vs Q E hr h => ?_
  obtain ⟨l, hl, r, q⟩ := h
  obtain ⟨v, rfl, r1⟩ := dpA1 r
  refine ⟨_, (pss_cons (ps_set (i := 1) sc_trimmed.nd rfl (Or.inl rfl) (pe_callB (kLen (K := K) rfl) (by rfl) T.len (by decide +kernel) (pa_cons (pv 0) pa_nil)))
      (pss_cons (ps_while PassesOwn.never (PW.pt (pw_and (pt_cmpR op_gt (pv 1) pe_int (nomark _)) (pw_and1 (pt_cmpR op_eq (pe_ix (kIx (K := K) rfl) (pv 0) (pe_op op_sub (pv 1) pe_int) (fun _ _ => rfl)) pe_int (nomark _))))) (pss_one (ps_aug (i := 1) sc_trimmed.nd rfl (Or.inl rfl) pe_int ip_sub)))
      (pss_one (ps_ret (pe_callTy (kTuple (K := K) rfl) (by rfl) T.tuple (by decide +kernel) (pa_cons (pe_slice (kSlL (K := K) rfl) (pv 0) po_none (po_some (pv 1))) pa_nil)))))), ?_⟩
  have hll : (l.map (dC (p := p))).length = l.length := List.length_map ..
  refine qd_asg (ed_lenL (ed_var rfl r1)) fun v1 H1 e1 r2 => ?_
  obtain rfl := dp_int r2
  refine q_while (fun m σ' H' => ∃ k : Nat, m = k ∧ k ≤ l.length ∧ σ' = [some v, some (.int (k : Int))] ∧ Ex H H' ∧ ∀ j, k ≤ j → l.getD j 0 = 0) l.length ⟨l.length, rfl, Nat.le_refl _, by rw [hll]; rfl, e1, fun j hj => by rw [List.getD_eq_getElem?_getD, List.getElem?_eq_none hj]; rfl⟩ fun m σ' H' hW => ?_
  obtain ⟨k, rfl, hk, rfl, e2, hz⟩ := hW
  have fin : ∀ H2, Ex H' H2 → (m ≠ 0 → l.getD (m - 1) 0 ≠ 0) → _ := fun H2 e3 hne => sd_ret (D := { nx := fun _ H' => Q .non H', rt := Q }) (H := H2) (σ := [some v, some (.int (m : Int))]) (K := K) (d := dP (trimP l)) (te := tCB (rTupS K) (tCons (tSl (rSlL K) (tVar 0) tNoPart (tPart (tVar 1))) tNil))
    (ed_is (ed_tupleL (en_to (n := m) (ed_var rfl (dp_ex (e2.trans e3) _ _ r1)) (ed_var rfl (.int _)) rfl).toD) (by
      show PyData.tuple ((l.map dC).take m) = .tuple ((trimL l).map dC)
      rw [trimL_take l m hz hne, List.map_take])) fun v' H3 e4 r3 => q v' H3 ((e2.trans e3).trans e4) r3
  by_cases h0 : m = 0
  · subst h0
    refine ⟨false, ?_, (fun z => nomatch z), fun _ H2 e3 => fin H2 e3 fun z => absurd rfl z⟩
    exact et_is (et_and (a := false) (b := false) (et_is (KR.et_test (K := K) (ed_opB (ed_var rfl (.int _)) ed_int)) rfl) (fun z => nomatch z)) rfl
  · have hlt : m - 1 < l.length := by omega
    by_cases hx : l.getD (m - 1) 0 = 0
    · refine ⟨true, ?_, fun _ H2 e3 => ⟨fun σ2 H3 => ∃ k : Nat, k < m ∧ k ≤ l.length ∧ σ2 = [some v, some (.int (k : Int))] ∧ Ex H H3 ∧ ∀ j, k ≤ j → l.getD j 0 = 0, fun σ2 H3 ⟨k, h1, h2, h3, h4, h5⟩ => ⟨k, h1, k, rfl, h2, h3, h4, h5⟩, ?_⟩, (fun z => nomatch z)⟩
      · refine et_is (et_and (a := true) (b := true) (et_is (KR.et_test (K := K) (ed_opB (ed_var rfl (.int _)) ed_int)) (decide_eq_true (by omega))) fun _ => et_is (KR.et_test (K := K) (ed_eqI (ed_ixL (k := m - 1) (ed_var rfl (dp_ex e2 _ _ r1)) (ed_op0 (ed_var rfl (.int _)) ed_int) (by omega) (dC_at hlt)) ed_int)) (by rw [dC_zero]; exact decide_eq_true hx)) rfl
      · refine s_aug (a := (m : Int)) (b := 1) rfl ev_c fun H3 e4 => ⟨m - 1, by omega, by omega, ?_, (e2.trans e3).trans e4, fun j hj => ?_⟩
        · have : ((m - 1 : Nat) : Int) = (m : Int) - 1 := by omega
          rw [this]; rfl
        · by_cases hj2 : m ≤ j
          · exact hz j hj2
          · have : j = m - 1 := by omega
            rw [this]; exact hx
    · refine ⟨false, ?_, (fun z => nomatch z), fun _ H2 e3 => fin H2 e3 fun _ => hx⟩
      refine et_is (et_and (a := true) (b := false) (et_is (KR.et_test (K := K) (ed_opB (ed_var rfl (.int _)) ed_int)) (decide_eq_true (by omega))) fun _ => et_is (KR.et_test (K := K) (ed_eqI (ed_ixL (k := m - 1) (ed_var rfl (dp_ex e2 _ _ r1)) (ed_op0 (ed_var rfl (.int _)) ed_int) (by omega) (dC_at hlt)) ed_int)) (by rw [dC_zero]; exact decide_eq_false hx)) rfl

/-! ### scaled -/
abbrev s_scaled : Stmt := topS 21
theorem sc_scaled : FnScope ["p", "one", "number", "a"] ["p", "one", "number"] (defScope s_scaled) := ⟨rfl, rfl, rfl, by decide +kernel, rfl, by decide +kernel, by decide +kernel⟩
-- slots 0 p', 1 one, 2 number', 3 a
abbrev spScaled (K : PySem.W.Frag) (p : Nat) [Pr p] : Sp := spF K (fun a : Po p × Fin p => [.int (p : Int), dP a.1, dC a.2]) (fun a => len a.1 ≤ 40000) (fun a => dP (cP a.2 * a.1))
theorem ok_scaled (T : Bt mg) (D : DefAt K mg "scaled" s_scaled ["p", "one", "number"]) (O_trimmed : Ok P w K mg base "trimmed" ["some"] 1 (spTrimmed K p)) : Ok P w K mg base "scaled" ["p", "one", "number"] 2 (spScaled K p) := by
  refine D.ok sc_scaled (spF_len fun _ => rfl) fun f cdv A outer s H vs Q E hr h => ?_
  obtain ⟨⟨g, c⟩, hl, r, q⟩ := h
  obtain ⟨_, v, _, rfl, r1, r2, r3⟩ := dpA3 r
  obtain rfl := dp_int r1
  obtain rfl := dp_int r3
  refine ⟨_, (pss_one (ps_ret (pe_ok O_trimmed (hr.mono (by decide)) (by rfl) (pa_cons (pe_lc (own := [("a", 3)]) (g := gName 3) (tt := tYes) rfl sc_scaled.nd (kpi_tup (K := K) rfl (pv 1)) (blkOk_by (N := ["p", "one", "number", "a"]) (sc := defScope s_scaled) (by decide +kernel)) (fun _ _ _ _ _ => (pg_name (i := 3) sc_scaled.nd rfl (Or.inl rfl) (hf := Or.inr rfl))) (fun _ _ _ _ _ => pts_nil) (fun _ _ _ _ _ => (pe_op op_mod (pe_op op_mul (pv 3) (pv 2)) (pv 0)))) pa_nil)))), ?_⟩
  have hL : g.l.length ≤ 40000 := hl
  refine sd_ret (ed_is (ed_call (g.l.map (· * c)) (eds_cons (en_is (en_lc0 g.l dC (fun x => dC (x * c)) (ei_tup (ed_var rfl r2)) (by omega) (fun _ _ => rfl) (fun _ => rfl) fun x v' H' hx e rx => ?_) ?_).toD eds_nil) ?_) ?_) q
  · exact ed_is (ed_opC (ed_opC (ed_var rfl rx) (ed_var rfl (.int _)) (c_mul _ _)) (ed_var rfl (.int _)) p_pos) (by rw [mod_mul])
  · rw [List.map_map]; rfl
  · show (g.l.map (· * c)).length ≤ 50000
    rw [List.length_map]; omega
  · show dP (trimP _) = dP _
    rw [trimP_eq (f := cP c * g) fun k => ?_]
    rw [cP_mul_co, List.getD_eq_getElem?_getD, List.getElem?_map]
    show ((g.l[k]?).map (· * c)).getD 0 = c * g.l.getD k 0
    rw [List.getD_eq_getElem?_getD]
    cases g.l[k]? with
    | none => show (0 : Fin p) = c * 0; grind
    | some x => show x * c = c * x; grind
end
end KW
end
section
set_option Elab.async false
set_option linter.all false
set_option maxRecDepth 100000
set_option maxHeartbeats 4000000
/-! Walks: plus, minus, times. -/
namespace KW
open PySem PySem.Spec PyProof.Rows L2 Evl KR K18 KX
section
variable {P : Program} {w : World} {K : PySem.W.Frag} {mg : Str → Option Value} {base : Heap} {p : Nat} [hp : Pr p]
theorem q_par {K : PySem.W.Frag} {ta : TA} {tz : TS} {D : Ends} {σ : L2.St} {H : Hp} {i j : Nat} {d e : PyData} (h : EvDs K ta σ H [d, e]) (k : ∀ v w H1, Ex H H1 → Dp K H1 v d → Dp K H1 w e → tz D ((σ.set i (some v)).set j (some w)) H1) : tSeq (tPar i j ta) tz D σ H :=
  h H (Ex.refl H) _ fun vs H1 e1 r => by
    obtain ⟨v, w, rfl, r1, r2⟩ := dpA2 r
    exact ⟨v, w, rfl, k v w H1 e1 r1 r2⟩
def padL (f : Po p) (n : Nat) : List (Fin p) := f.l ++ List.replicate (n - f.l.length) 0
theorem padL_len {f : Po p} {n : Nat} (h : len f ≤ n) : (padL f n).length = n := by
  unfold padL; rw [List.length_append, List.length_replicate]; unfold len at h; omega
theorem padL_get {f : Po p} {n k : Nat} : (padL f n).getD k 0 = co f k := by
  unfold padL co
  rw [List.getD_eq_getElem?_getD, List.getD_eq_getElem?_getD]
  by_cases h : k < f.l.length
  · rw [List.getElem?_append_left h]
  · rw [List.getElem?_append_right (by omega), List.getElem?_replicate]
    rw [List.getElem?_eq_none (by omega : f.l.length ≤ k)]
    split <;> rfl
theorem zero_dC : PyData.int 0 = dC (0 : Fin p) := by
  have : ((0 : Fin p).val : Int) = 0 := by
    rcases id hp.h with h | h | h <;> subst h <;> rfl
  unfold dC; rw [this]
theorem one_dC : PyData.int 1 = dC (1 : Fin p) := by
  have : ((1 : Fin p).val : Int) = 1 := by
    rcases id hp.h with h | h | h <;> subst h <;> rfl
  unfold dC; rw [this]
theorem map_rep {α β : Type} (g : α → β) (n : Nat) (a : α) : (List.replicate n a).map g = List.replicate n (g a) := List.map_replicate
theorem zip_get {a b : List (Fin p)} {n : Nat} (ha : a.length = n) (hb : b.length = n) (k : Nat) : ((a.zip b).map fun q => q.1 + q.2).getD k 0 = a.getD k 0 + b.getD k 0 := by
  rw [List.getD_eq_getElem?_getD, List.getD_eq_getElem?_getD, List.getD_eq_getElem?_getD, List.getElem?_map]
  by_cases h : k < n
  · rw [List.getElem?_eq_getElem (by omega : k < a.length), List.getElem?_eq_getElem (by omega : k < b.length), List.getElem?_eq_getElem (by rw [List.length_zip]; omega : k < (a.zip b).length)]
    simp
  · rw [List.getElem?_eq_none (by omega : a.length ≤ k), List.getElem?_eq_none (by omega : b.length ≤ k), List.getElem?_eq_none (by rw [List.length_zip]; omega : (a.zip b).length ≤ k)]
    show (0 : Fin p) = 0 + 0
    grind
/-- a padded list as data -/
theorem pad_data (f : Po p) (i : Int) (n : Nat) (h : i = (n : Int) - (f.l.length : Int)) (hn : len f ≤ n) : (f.l.map dC) ++ (List.replicate i.toNat (PyData.int 0) ++ []) = (padL f n).map dC := by
  unfold padL
  have : i.toNat = n - f.l.length := by unfold len at hn; omega
  rw [List.map_append, map_rep, List.append_nil, this, ← zero_dC]

abbrev s_plus : Stmt := topS 20
theorem sc_plus : FnScope ["p", "one", "other", "many", "first", "second", "a", "b"] ["p", "one", "other"] (defScope s_plus) := ⟨rfl, rfl, rfl, by decide +kernel, rfl, by decide +kernel, by decide +kernel⟩
-- slots 0 p', 1 one, 2 other, 3 many, 4 first, 5 second, 6 a, 7 b
abbrev spPlus (K : PySem.W.Frag) (p : Nat) [Pr p] : Sp := spF K (fun a : Po p × Po p => [.int (p : Int), dP a.1, dP a.2]) (fun a => len a.1 ≤ 30000 ∧ len a.2 ≤ 30000) (fun a => dP (a.1 + a.2))
theorem ok_plus (T : Bt mg) (D : DefAt K mg "plus" s_plus ["p", "one", "other"]) (O_trimmed : Ok P w K mg base "trimmed" ["some"] 1 (spTrimmed K p)) : Ok P w K mg base "plus" ["p", "one", "other"] 2 (spPlus K p) := by
  refine D.ok sc_plus (spF_len fun _ => rfl) fun f0 cdv A outer s H vs Q E hr h => ?_
  obtain ⟨⟨f, g⟩, hl, r, q⟩ := h
  obtain ⟨_, v, u, rfl, r1, r2, r3⟩ := dpA3 r
  obtain rfl := dp_int r1
  replace r2 : Dp K H v (dP f) := r2
  replace r3 : Dp K H u (dP g) := r3
  refine ⟨_, (pss_cons (ps_set (i := 3) sc_plus.nd rfl (Or.inl rfl) (pe_callB (call_max2 rfl) (by rfl) T.max (by decide +kernel) (pa_cons (pe_callB (kLen (K := K) rfl) (by rfl) T.len (by decide +kernel) (pa_cons (pv 1) pa_nil)) (pa_cons (pe_callB (kLen (K := K) rfl) (by rfl) T.len (by decide +kernel) (pa_cons (pv 2) pa_nil)) pa_nil))))
      (pss_cons (ps_par (i := 4) (j := 5) rfl sc_plus.nd rfl rfl (by decide) rfl rfl (pa_cons (pe_lst (kpa_star (K := K) rfl (pv 1) (kpa_star (K := K) rfl (pe_op op_rep (pe_lst (pa_cons pe_int pa_nil)) (pe_op op_sub (pv 3) (pe_callB (kLen (K := K) rfl) (by rfl) T.len (by decide +kernel) (pa_cons (pv 1) pa_nil)))) pa_nil))) (pa_cons (pe_lst (kpa_star (K := K) rfl (pv 2) (kpa_star (K := K) rfl (pe_op op_rep (pe_lst (pa_cons pe_int pa_nil)) (pe_op op_sub (pv 3) (pe_callB (kLen (K := K) rfl) (by rfl) T.len (by decide +kernel) (pa_cons (pv 2) pa_nil)))) pa_nil))) pa_nil)) (by rfl))
      (pss_one (ps_ret (pe_ok O_trimmed (hr.mono (by decide)) (by rfl) (pa_cons (pe_lc (own := [("a", 6), ("b", 7)]) (g := gTwo K 6 7) (tt := tYes) rfl sc_plus.nd (kpi_zipA (K := K) rfl (by rfl) T.zip (pa_cons (pv 4) (pa_cons (pv 5) pa_nil))) (blkOk_by (N := ["p", "one", "other", "many", "first", "second", "a", "b"]) (sc := defScope s_plus) (by decide +kernel)) (fun _ _ _ _ _ => (kpg_two (K := K) (i := 6) (j := 7) rfl rfl sc_plus.nd rfl rfl rfl rfl)) (fun _ _ _ _ _ => pts_nil) (fun _ _ _ _ _ => (pe_op op_mod (pe_op op_add (pv 6) (pv 7)) (pv 0)))) pa_nil)))))), ?_⟩
  have hL1 : f.l.length ≤ 30000 := hl.1
  have hL2 : g.l.length ≤ 30000 := hl.2
  have hm1 : len f ≤ max f.l.length g.l.length := Nat.le_max_left _ _
  have hm2 : len g ≤ max f.l.length g.l.length := Nat.le_max_right _ _
  refine qd_asg (ed_is (ed_max2 (ed_lenT (ed_var rfl r2)) (ed_lenT (ed_var rfl r3))) (d1 := .int ((max f.l.length g.l.length : Nat) : Int)) (by rw [List.length_map, List.length_map]; congr 1; omega)) fun v1 H1 e1 q1 => ?_
  obtain rfl := dp_int q1
  refine q_par (K := K) (d := .list ((padL f (max f.l.length g.l.length)).map dC)) (e := .list ((padL g (max f.l.length g.l.length)).map dC)) (eds_cons ?_ (eds_cons ?_ eds_nil)) fun x y H2 e2 rx ry => ?_
  · refine ed_is (ed_lst (eds_starT (ed_var rfl (dp_ex e1 _ _ r2)) (eds_starL (en_rep1 (en_lst (eds_cons ed_int eds_nil) (by decide)) (ed_op0 (ed_var rfl (.int _)) (ed_lenT (ed_var rfl (dp_ex e1 _ _ r2)))) ?_).toD eds_nil)) ?_) ?_
    · rw [List.length_map]; omega
    · simp only [List.length_append, List.length_map, List.length_replicate, List.length_nil]; omega
    · rw [pad_data f _ _ (by rw [List.length_map]) hm1]
  · refine ed_is (ed_lst (eds_starT (ed_var rfl (dp_ex e1 _ _ r3)) (eds_starL (en_rep1 (en_lst (eds_cons ed_int eds_nil) (by decide)) (ed_op0 (ed_var rfl (.int _)) (ed_lenT (ed_var rfl (dp_ex e1 _ _ r3)))) ?_).toD eds_nil)) ?_) ?_
    · rw [List.length_map]; omega
    · simp only [List.length_append, List.length_map, List.length_replicate, List.length_nil]; omega
    · rw [pad_data g _ _ (by rw [List.length_map]) hm2]
  · refine sd_ret (ed_is (ed_call (((padL f (max f.l.length g.l.length)).zip (padL g (max f.l.length g.l.length))).map fun q => q.1 + q.2) (eds_cons (en_is (en_lcP0 (σ := [_, _, _, _, _, _, _, _]) ((padL f (max f.l.length g.l.length)).zip (padL g (max f.l.length g.l.length))) dC dC (fun q => dC (q.1 + q.2))
      (ei_is (ei_zipL (eds_cons (ed_var rfl rx) (eds_cons (ed_var rfl ry) eds_nil))) (zip_data _ _)) ?_ (fun _ _ => rfl) (fun _ _ => rfl) fun a v' w' H' ha e3 ra rb => ?_) ?_).toD eds_nil) ?_) ?_) fun v' H3 e3 r' => q v' H3 ((e1.trans e2).trans e3) r'
    · rw [List.length_zip, padL_len hm1, padL_len hm2]; omega
    · exact ed_is (ed_opC (ed_op0 (ed_var rfl ra) (ed_var rfl rb)) (ed_var rfl (.int _)) p_pos) (by rw [mod_add])
    · rw [List.map_map]; rfl
    · show List.length _ ≤ _
      rw [List.length_map, List.length_zip, padL_len hm1, padL_len hm2]; omega
    · show dP (trimP _) = dP _
      rw [trimP_eq (f := f + g) fun k => by rw [zip_get (padL_len hm1) (padL_len hm2), padL_get, padL_get, co_add]]

abbrev s_minus : Stmt := topS 22
theorem sc_minus : FnScope ["p", "one", "other"] ["p", "one", "other"] (defScope s_minus) := ⟨rfl, rfl, rfl, by decide +kernel, rfl, by decide +kernel, by decide +kernel⟩
abbrev spMinus (K : PySem.W.Frag) (p : Nat) [Pr p] : Sp := spF K (fun a : Po p × Po p => [.int (p : Int), dP a.1, dP a.2]) (fun a => len a.1 ≤ 30000 ∧ len a.2 ≤ 30000) (fun a => dP (a.1 - a.2))
theorem neg_one : PyData.int ((p : Int) - 1) = dC (-1 : Fin p) := by
  have : (((-1 : Fin p)).val : Int) = (p : Int) - 1 := by
    rcases id hp.h with h | h | h <;> subst h <;> rfl
  unfold dC; rw [this]
theorem ok_minus (T : Bt mg) (D : DefAt K mg "minus" s_minus ["p", "one", "other"]) (O_plus : Ok P w K mg base "plus" ["p", "one", "other"] 2 (spPlus K p)) (O_scaled : Ok P w K mg base "scaled" ["p", "one", "number"] 2 (spScaled K p)) : Ok P w K mg base "minus" ["p", "one", "other"] 3 (spMinus K p) := by
  refine D.ok sc_minus (spF_len fun _ => rfl) fun f0 cdv A outer s H vs Q E hr h => ?_
  obtain ⟨⟨f, g⟩, hl, r, q⟩ := h
  obtain ⟨_, v, u, rfl, r1, r2, r3⟩ := dpA3 r
  obtain rfl := dp_int r1
  replace r2 : Dp K H v (dP f) := r2
  replace r3 : Dp K H u (dP g) := r3
  refine ⟨_, (pss_one (ps_ret (pe_ok O_plus (hr.mono (by decide)) (by rfl) (pa_cons (pv 0) (pa_cons (pv 1) (pa_cons (pe_ok O_scaled (hr.mono (by decide)) (by rfl) (pa_cons (pv 0) (pa_cons (pv 2) (pa_cons (pe_op op_sub (pv 0) pe_int) pa_nil)))) pa_nil)))))), ?_⟩
  refine sd_ret (ed_is (ed_call (f, cP (-1) * g) (eds_cons (ed_var rfl (.int _)) (eds_cons (ed_var rfl r2) (eds_cons (ed_call (g, -1) (eds_cons (ed_var rfl (.int _)) (eds_cons (ed_var rfl r3) (eds_cons (ed_is (ed_op0 (ed_var rfl (.int _)) ed_int) neg_one) eds_nil))) ?_) eds_nil))) ?_) ?_) q
  · show len g ≤ 40000
    have h2 : len g ≤ 30000 := hl.2
    omega
  · refine ⟨hl.1, ?_⟩
    show len (cP (-1) * g) ≤ 30000
    have h1 : (-1 : Fin p) ≠ 0 := fun e => f_one_ne (p := p) (by grind)
    rw [len_cmul h1]; exact hl.2
  · have : f + cP (-1) * g = f - g := co_ext fun k => by
      rw [co_add, cP_mul_co, co_sub]; grind
    rw [this]
end
end KW
end
section
set_option Elab.async false
set_option linter.all false
set_option maxRecDepth 100000
set_option maxHeartbeats 4000000
/-! Walks: times. -/
namespace KW
open PySem PySem.Spec PyProof.Rows L2 Evl KR K18 KX
section math
variable {p : Nat} [hp : Pr p]
def pc (f g : Nat → Fin p) : Nat → Nat → Fin p
  | 0, _ => 0
  | i + 1, k => pc f g i k + (if i ≤ k then f i * g (k - i) else 0)
theorem pc_shift (f g : Nat → Fin p) : ∀ n k, pc f g (n + 1) (k + 1) = f 0 * g (k + 1) + pc (fun i => f (i + 1)) g n k
  | 0, k => by simp only [pc]; rw [if_pos (by omega)]; grind
  | n + 1, k => by
    have ih := pc_shift f g n k
    show pc f g (n + 1) (k + 1) + (if n + 1 ≤ k + 1 then f (n + 1) * g (k + 1 - (n + 1)) else 0) = f 0 * g (k + 1) + (pc (fun i => f (i + 1)) g n k + (if n ≤ k then f (n + 1) * g (k - n) else 0))
    rw [ih]
    by_cases h : n ≤ k
    · rw [if_pos h, if_pos (by omega), show k + 1 - (n + 1) = k - n by omega]; grind
    · rw [if_neg h, if_neg (by omega)]; grind
theorem pc_conv : ∀ (k : Nat) (f g : Nat → Fin p), pc f g (k + 1) k = conv k f g
  | 0, f, g => by simp only [pc, conv]; rw [if_pos (Nat.le_refl _)]; grind
  | k + 1, f, g => by rw [pc_shift, pc_conv k]; rfl
theorem pc_past (f g : Nat → Fin p) (k : Nat) : ∀ n, k + 1 ≤ n → pc f g n k = pc f g (k + 1) k
  | 0, h => by omega
  | n + 1, h => by
    by_cases e : n = k
    · subst e; rfl
    · show pc f g n k + (if n ≤ k then f n * g (k - n) else 0) = _
      rw [if_neg (by omega), pc_past f g k n (by omega)]; grind
theorem pc_len (f g : Nat → Fin p) (k m : Nat) (hf : ∀ i, m ≤ i → f i = 0) : ∀ d, pc f g (m + d) k = pc f g m k
  | 0 => rfl
  | d + 1 => by
    show pc f g (m + d) k + (if m + d ≤ k then f (m + d) * g (k - (m + d)) else 0) = _
    rw [pc_len f g k m hf d, hf (m + d) (by omega)]
    split <;> grind
theorem pc_done (f g : Po p) (k : Nat) : pc (co f) (co g) (len f) k = co (f * g) k := by
  rw [co_mul, ← pc_conv]
  have h1 := pc_len (co f) (co g) k (len f) (fun i h => co_high h) (k + 1)
  rw [← h1, pc_past _ _ _ _ (by omega)]
/-- inside the turn i, behind j steps -/
def pcs (f g : Nat → Fin p) (i j k : Nat) : Fin p := pc f g i k + (if i ≤ k ∧ k < i + j then f i * g (k - i) else 0)
theorem pcs_zero (f g : Nat → Fin p) (i k : Nat) : pcs f g i 0 k = pc f g i k := by
  unfold pcs; rw [if_neg (by omega)]; grind
theorem pcs_end (f g : Nat → Fin p) (i n k : Nat) (hg : ∀ j, n ≤ j → g j = 0) : pcs f g i n k = pc f g (i + 1) k := by
  unfold pcs
  show _ = pc f g i k + (if i ≤ k then f i * g (k - i) else 0)
  by_cases h : i ≤ k
  · by_cases h2 : k < i + n
    · rw [if_pos ⟨h, h2⟩, if_pos h]
    · rw [if_neg (by omega), if_pos h, hg (k - i) (by omega)]; grind
  · rw [if_neg (by omega), if_neg h]
theorem pcs_step (f g : Nat → Fin p) (i j k : Nat) : pcs f g i (j + 1) k = if k = i + j then pcs f g i j (i + j) + f i * g j else pcs f g i j k := by
  unfold pcs
  by_cases h : k = i + j
  · subst h
    rw [if_pos rfl, if_pos (by omega), if_neg (by omega : ¬ (i ≤ i + j ∧ i + j < i + j)), show i + j - i = j by omega]; grind
  · rw [if_neg h]
    by_cases h2 : i ≤ k ∧ k < i + j
    · rw [if_pos h2, if_pos (by omega)]
    · rw [if_neg h2, if_neg (by omega)]
/-- the cells of a list -/
def cells (n : Nat) (c : Nat → Fin p) : List V := (List.range n).map fun k => V.int ((c k).val : Int)
def cellsF (n : Nat) (c : Nat → Fin p) : List (Fin p) := (List.range n).map c
theorem cells_len (n : Nat) (c : Nat → Fin p) : (cells n c).length = n := by unfold cells; rw [List.length_map, List.length_range]
theorem cells_set (n : Nat) (c : Nat → Fin p) (j : Nat) (x : Fin p) : (cells n c).set j (V.int (x.val : Int)) = cells n fun k => if k = j then x else c k := by
  refine List.ext_getElem? fun i => ?_
  unfold cells
  rw [List.getElem?_set, List.getElem?_map, List.getElem?_map, List.length_map, List.length_range]
  by_cases hi : i < n
  · rw [List.getElem?_range hi]
    by_cases h : j = i
    · subst h; rw [if_pos rfl, if_pos hi]; simp
    · rw [if_neg h]; simp only [Option.map_some]; rw [if_neg (fun z => h z.symm)]
  · rw [List.getElem?_eq_none (by rw [List.length_range]; omega)]
    by_cases h : j = i
    · subst h; rw [if_pos rfl, if_neg hi]; rfl
    · rw [if_neg h]; rfl
theorem cellsF_get (n : Nat) (c : Nat → Fin p) (k : Nat) : (cellsF n c).getD k 0 = if k < n then c k else 0 := by
  unfold cellsF
  rw [List.getD_eq_getElem?_getD, List.getElem?_map]
  split
  · rename_i h; rw [List.getElem?_range h]; rfl
  · rename_i h; rw [List.getElem?_eq_none (by simp; omega)]; rfl
end math
section
variable {P : Program} {w : World} {K : PySem.W.Frag} {mg : Str → Option Value} {base : Heap} {p : Nat} [hp : Pr p]
theorem cells_dp {H : Hp} : ∀ (n : Nat) (c : Nat → Fin p), DpAll K H (cells n c) ((cellsF n c).map dC) := fun n c => by
  unfold cells cellsF
  generalize List.range n = l
  induction l with
  | nil => exact .nil
  | cons a l ih => exact .cons (.int _) ih
theorem cells_lst {H : Hp} {l : Addr} {n : Nat} {c : Nat → Fin p} (h : H l = some (.lst (cells n c))) : Dp K H (.ref l) (.list ((cellsF n c).map dC)) := .lst (sq_of h) (cells_dp n c)
theorem mod_mac (s a b : Fin p) : ((s.val : Int) + (a.val : Int) * (b.val : Int)) % (p : Int) = ((s + a * b : Fin p).val : Int) := by
  rw [Fin.val_add, Fin.val_mul, ← Int.natCast_mul, ← Int.natCast_add, ← Int.natCast_emod, Nat.add_mod_mod]
theorem sd_setL {te tb : TE} {D : Ends} {σ : L2.St} {H : Hp} {d : PyData} {l : Addr} {xs : List V} {j k : Nat} (hl : H l = some (.lst xs)) (h : EvD K te σ H d) (ho : σ[k]? = some (some (.ref l))) (hi : EvD K tb σ H (.int (j : Int))) (hj : j < xs.length)
    (q : ∀ v H1, Ex H H1 → Dp K H1 v d → D.nx σ (upd H1 l (.lst (xs.set j v)))) : tAsg te (gSub (tVar k) tb rSetL) D σ H := h H (Ex.refl H) _ fun v H1 e1 r => ⟨.ref l, ho, hi H1 e1 _ fun u H2 e2 r2 =>
  ⟨l, xs, (j : Int), j, rfl, dp_int r2, (e1.trans e2) l _ hl, ixN_nat hj, q v H2 (e1.trans e2) (dp_ex e2 _ _ r)⟩⟩
theorem rep_dC (n : Nat) : List.replicate n (PyData.int 0) = (cellsF n fun _ => (0 : Fin p)).map dC := by
  unfold cellsF
  rw [List.map_map]
  refine List.ext_getElem? fun i => ?_
  rw [List.getElem?_replicate, List.getElem?_map]
  by_cases h : i < n
  · rw [if_pos h, List.getElem?_range h]; simp [zero_dC (p := p)]
  · rw [if_neg h, List.getElem?_eq_none (by simp; omega)]; rfl
theorem dpA_cells {H : Hp} {xs : List V} {n : Nat} {c : Nat → Fin p} (r : DpAll K H xs ((cellsF n c).map dC)) : xs = cells n c := by
  have h : (cellsF n c).map dC = ((cellsF n c).map fun x => (x.val : Int)).map PyData.int := by rw [List.map_map]; rfl
  rw [h] at r
  rw [dpA_intsV r, List.map_map]
  unfold cells cellsF
  rw [List.map_map]
  rfl
theorem idx_at {l : List PyData} {i : Nat} {d : PyData} {k : Nat} (h : ((l.zipIdx k).map fun p => PyData.tuple [.int (p.2 : Int), p.1])[i]? = some d) : ∃ x, l[i]? = some x ∧ d = .tuple [.int ((k + i : Nat) : Int), x] := by
  rw [List.getElem?_map, List.getElem?_zipIdx] at h
  cases e : l[i]? with
  | none => rw [e] at h; cases h
  | some x => rw [e] at h; exact ⟨x, rfl, (Option.some.inj h).symm⟩
theorem co_at {f : Po p} {i : Nat} {d : PyData} (h : (f.l.map dC)[i]? = some d) : i < len f ∧ d = dC (co f i) := by
  rw [List.getElem?_map] at h
  cases e : f.l[i]? with
  | none => rw [e] at h; cases h
  | some x =>
    rw [e] at h
    refine ⟨(List.getElem?_eq_some_iff.mp e).1, ?_⟩
    unfold co
    rw [List.getD_eq_getElem?_getD, e]
    exact (Option.some.inj h).symm
theorem dP_nil {f : Po p} : PyData.eqv (dP f) (.tuple []) = decide (f = 0) := by
  unfold dP
  cases hf : f.l with
  | nil =>
    have : f = 0 := len_eq_zero (by unfold len; rw [hf]; rfl)
    rw [decide_eq_true this]
    simp [PyData.eqv, PyData.eqvAll]
  | cons a l =>
    have : f ≠ 0 := fun e => by
      have h := len_zero (p := p)
      rw [← e] at h
      unfold len at h; rw [hf] at h; simp at h
    rw [decide_eq_false this]
    simp [PyData.eqv, PyData.eqvAll]
theorem shp_dP (f : Po p) : Shp 1 (dP f) := shp_tup (shp_map fun a _ => shp_int)
abbrev s_times : Stmt := topS 23
theorem sc_times : FnScope ["p", "one", "other", "found", "at", "a", "place", "b"] ["p", "one", "other"] (defScope s_times) := ⟨rfl, rfl, rfl, by decide +kernel, rfl, by decide +kernel, by decide +kernel⟩
-- slots 0 p, 1 one, 2 other, 3 found, 4 at, 5 a, 6 place, 7 b
abbrev spTimes (K : PySem.W.Frag) (p : Nat) [Pr p] : Sp := spF K (fun a : Po p × Po p => [.int (p : Int), dP a.1, dP a.2]) (fun a => len a.1 ≤ 20000 ∧ len a.2 ≤ 20000) (fun a => dP (a.1 * a.2))
theorem ok_times (T : Bt mg) (D : DefAt K mg "times" s_times ["p", "one", "other"]) (O_trimmed : Ok P w K mg base "trimmed" ["some"] 1 (spTrimmed K p)) : Ok P w K mg base "times" ["p", "one", "other"] 2 (spTimes K p) := by
  refine D.ok sc_times (spF_len fun _ => rfl) fun f0 cdv A outer s H vs Q E hr h => ?_
  obtain ⟨⟨f, g⟩, hl, r, q⟩ := h
  obtain ⟨_, v, u, rfl, r1, r2, r3⟩ := dpA3 r
  obtain rfl := dp_int r1
  replace r2 : Dp K H v (dP f) := r2
  replace r3 : Dp K H u (dP g) := r3
  have hl1 : len f ≤ 20000 := hl.1
  have hl2 : len g ≤ 20000 := hl.2
  refine ⟨_, (pss_cons (ps_if (PW.pt (pw_or (pt_cmpR (kEqD (K := K) rfl hr.units) (pv 1) (pe_tup pa_nil) (nomark _)) (pw_or1 (pt_cmpR (kEqD (K := K) rfl hr.units) (pv 2) (pe_tup pa_nil) (nomark _))))) (pss_one (ps_ret (pe_tup pa_nil))) pss_nil)
      (pss_cons (ps_set (i := 3) sc_times.nd rfl (Or.inl rfl) (pe_op op_rep (pe_lst (pa_cons pe_int pa_nil)) (pe_op op_sub (pe_op op_add (pe_callB (kLen (K := K) rfl) (by rfl) T.len (by decide +kernel) (pa_cons (pv 1) pa_nil)) (pe_callB (kLen (K := K) rfl) (by rfl) T.len (by decide +kernel) (pa_cons (pv 2) pa_nil))) pe_int)))
      (pss_cons (ps_for PassesOwn.never rfl (kpi_enumT (K := K) rfl (by rfl) T.enumerate (pa_cons (pv 1) pa_nil)) (kpg_two (K := K) (i := 4) (j := 5) rfl rfl sc_times.nd rfl rfl rfl rfl) (pss_one (ps_for PassesOwn.never rfl (kpi_enumT (K := K) rfl (by rfl) T.enumerate (pa_cons (pv 2) pa_nil)) (kpg_two (K := K) (i := 6) (j := 7) rfl rfl sc_times.nd rfl rfl rfl rfl) (pss_one (ps_asg (pe_op op_mod (pe_op op_add (pe_ix (kIx (K := K) rfl) (pv 3) (pe_op op_add (pv 4) (pv 6)) (fun _ _ => rfl)) (pe_op op_mul (pv 5) (pv 7))) (pv 0)) (pg_sub (pv 3) (pe_op op_add (pv 4) (pv 6)) set_list))))))
      (pss_one (ps_ret (pe_ok O_trimmed (hr.mono (by decide)) (by rfl) (pa_cons (pv 3) pa_nil))))))), ?_⟩
  refine q_when' (b := decide (f = 0) || decide (g = 0)) (et_or (et_is (KR.et_test (ed_eqD (ed_var rfl r2) (ed_tup eds_nil (by decide)) (shp_dP _).ok rfl)) dP_nil) fun _ => et_is (KR.et_test (ed_eqD (ed_var rfl r3) (ed_tup eds_nil (by decide)) (shp_dP _).ok rfl)) dP_nil) (fun hb H1 e1 => ?_) (fun hb H1 e1 => ?_)
  · refine sd_ret (K := K) (ed_is (ed_tup eds_nil (by decide)) (?_ : _ = dP (f * g))) fun v' H2 e2 r' => q v' H2 (e1.trans e2) r'
    have : f * g = 0 := by
      rcases (by simpa using hb : f = 0 ∨ g = 0) with h | h <;> subst h <;> grind
    rw [this]
    unfold dP
    rw [zero_eq]; rfl
  · have hf : f ≠ 0 := fun z => by simp [z] at hb
    have hg : g ≠ 0 := fun z => by simp [z] at hb
    have nf := len_ne hf
    have ng := len_ne hg
    refine qn_asg (K := K) (ds := (cellsF (len f + len g - 1) fun _ => (0 : Fin p)).map dC) (en_is (en_rep1 (en_lst (eds_cons ed_int eds_nil) (by decide)) (ed_op0 (ed_op0 (ed_lenT (ed_var rfl (dp_ex e1 _ _ r2))) (ed_lenT (ed_var rfl (dp_ex e1 _ _ r3)))) ed_int) ?_) ?_) fun F0 xs H2 nF e2 hF rF => ?_
    · rw [List.length_map, List.length_map]; unfold len at hl1 hl2; omega
    · rw [List.length_map, List.length_map, ← rep_dC]
      congr 1
      unfold len; omega
    · have exs := dpA_cells rF
      subst exs
      have nF0 : H F0 = none := fresh_back e1 nF
      have e12 : Ex H H2 := e1.trans e2
      refine q_forG (G := Ex H) (eg_enumT rfl (dp_ex e12 _ _ r2) fun H3 g3 => dp_ex g3 _ _ r2)
        (fun i σ' H' => Ex H H' ∧ H' F0 = some (.lst (cells (len f + len g - 1) (pc (co f) (co g) i))) ∧ ∃ x4 x5 x6 x7, σ' = [some (.int (p : Int)), some v, some u, some (.ref F0), x4, x5, x6, x7])
        (fun H3 e3 => ⟨e12.trans e3, e3 _ _ hF, none, none, none, none, rfl⟩) (fun i σ' H' _ h => h.1) (fun i d x σ' H' H'' hd ⟨e3, hc, x4, x5, x6, x7, hσ⟩ e4 rx => ?_) fun σ' H' ⟨e3, hc, x4, x5, x6, x7, hσ⟩ => ?_
      · obtain ⟨x1, hx1, rfl⟩ := idx_at hd
        obtain ⟨hi, rfl⟩ := co_at hx1
        subst hσ
        refine two_of rx fun y1 y2 ry1 ry2 => ?_
        obtain rfl := dp_int ry1
        obtain rfl := dp_int ry2
        rw [Nat.zero_add]
        refine s_forG (G := Ex H) (eg_enumT rfl (dp_ex (e3.trans e4) _ _ r3) fun H3 g3 => dp_ex g3 _ _ r3)
          (fun j σ2 H2 => Ex H H2 ∧ H2 F0 = some (.lst (cells (len f + len g - 1) (pcs (co f) (co g) i j))) ∧ ∃ x6 x7, σ2 = [some (.int (p : Int)), some v, some u, some (.ref F0), some (.int (i : Int)), some (.int ((co f i).val : Int)), x6, x7])
          (fun H3 e5 => ⟨(e3.trans e4).trans e5, ?_, x6, x7, rfl⟩) (fun j σ2 H2 _ h => h.1) (fun j d2 z σ2 H2 H3 hd2 ⟨e5, hc2, y6, y7, hσ2⟩ e6 rz => ?_) fun σ2 H2 ⟨e5, hc2, y6, y7, hσ2⟩ => ?_
        · rw [(e4.trans e5) _ _ hc]
          rw [show pcs (co f) (co g) i 0 = pc (co f) (co g) i from funext fun k => pcs_zero _ _ _ _]
        · obtain ⟨z1, hz1, rfl⟩ := idx_at hd2
          obtain ⟨hj, rfl⟩ := co_at hz1
          subst hσ2
          refine two_of rz fun w1 w2 rw1 rw2 => ?_
          obtain rfl := dp_int rw1
          obtain rfl := dp_int rw2
          rw [Nat.zero_add]
          have hc3 := e6 _ _ hc2
          have hlt : i + j < len f + len g - 1 := by omega
          have hadd : ∀ H', EvD K (tOp (rI0 fun i j => .int (i + j)) (tVar 4) (tVar 6)) [some (.int (p : Int)), some v, some u, some (.ref F0), some (.int (i : Int)), some (.int ((co f i).val : Int)), some (.int (j : Int)), some (.int ((co g j).val : Int))] H' (.int ((i + j : Nat) : Int)) := fun H' =>
            ed_is (ed_op0 (ed_var rfl (.int _)) (ed_var rfl (.int _))) (by congr 1)
          refine sd_setL (K := K) (d := dC (pcs (co f) (co g) i j (i + j) + co f i * co g j)) (j := i + j) hc3 (ed_is (ed_opC (ed_op0 (ed_ixL (k := i + j) (ed_var rfl (cells_lst hc3)) (hadd _) rfl ?_) (ed_opC (ed_var rfl (.int _)) (ed_var rfl (.int _)) (c_mul _ _))) (ed_var rfl (.int _)) p_pos) (by rw [mod_mac])) rfl (hadd _) (by rw [cells_len]; exact hlt) fun v3 H4 e7 r4 => ?_
          · rw [dC_at (by unfold cellsF; rw [List.length_map, List.length_range]; exact hlt), cellsF_get, if_pos hlt]
          · obtain rfl := dp_int r4
            refine ⟨((e5.trans e6).trans e7).mut nF0, ?_, _, _, rfl⟩
            rw [upd_same, cells_set]
            congr 3
            funext k
            rw [pcs_step]
        · rw [hσ2]
          refine ⟨e5, ?_, _, _, _, _, rfl⟩
          have hl : ((g.l.map (dC (p := p))).zipIdx.map fun p => PyData.tuple [.int (p.2 : Int), p.1]).length = len g := by simp [len]
          rw [hl] at hc2
          rw [hc2]
          congr 3
          funext k
          exact pcs_end _ _ _ _ _ fun j hj => co_high hj
      · have hl : ((f.l.map (dC (p := p))).zipIdx.map fun p => PyData.tuple [.int (p.2 : Int), p.1]).length = len f := by simp [len]
        rw [hl] at hc
        subst hσ
        refine sd_ret (ed_is (ed_call (cellsF (len f + len g - 1) (pc (co f) (co g) (len f))) (eds_cons (ed_var rfl (cells_lst hc)) eds_nil) ?_) ?_) fun v' H3 e5 r' => q v' H3 (e3.trans e5) r'
        · show (cellsF _ _).length ≤ 50000
          unfold cellsF; rw [List.length_map, List.length_range]; omega
        · show dP (trimP _) = dP _
          rw [trimP_eq (f := f * g) fun k => ?_]
          rw [cellsF_get]
          split
          · exact pc_done f g k
          · exact (co_high (Nat.le_trans (len_mul_le f g) (by omega))).symm
end
end KW
end
section
set_option Elab.async false
set_option linter.all false
set_option maxRecDepth 100000
set_option maxHeartbeats 4000000
/-! Walks: checks, unit, degrees, leads. -/
namespace KW
open PySem PySem.Spec PyProof.Rows L2 Evl KR K18 KX
section
variable {P : Program} {w : World} {K : PySem.W.Frag} {mg : Str → Option Value} {base : Heap} {p : Nat} [hp : Pr p]
def dR (r : List (Po p)) : PyData := .tuple (r.map dP)
def dRL (r : List (Po p)) : PyData := .list (r.map dP)
def dM (m : List (List (Po p))) : PyData := .tuple (m.map dR)
theorem flat_dR (r : List (Po p)) : flatD (dR r) = true := by unfold dR; simp only [flatD]; exact flat_map flat_dP _
theorem flat_dM (m : List (List (Po p))) : flatD (dM m) = true := by unfold dM; simp only [flatD]; exact flat_map flat_dR _

abbrev s_row_degree : Stmt := topS 31
theorem sc_row_degree : FnScope ["row", "one"] ["row"] (defScope s_row_degree) := ⟨rfl, rfl, rfl, by decide +kernel, rfl, by decide +kernel, by decide +kernel⟩
abbrev spRowDegree (K : PySem.W.Frag) (p : Nat) [Pr p] : Sp := spF K (fun a : Bool × List (Po p) => [if a.1 then dRL a.2 else dR a.2]) (fun a => a.2 ≠ [] ∧ a.2.length ≤ 1000) (fun a => .int ((rowlen a.2 : Int) - 1))
theorem max_row {r : List (Po p)} (h : r ≠ []) : ((rowlen r : Nat) : Int) ∈ (r.map fun f => ((len f : Nat) : Int)) ∧ ∀ y ∈ (r.map fun f => ((len f : Nat) : Int)), y ≤ ((rowlen r : Nat) : Int) := by
  obtain ⟨f, hf, e⟩ := rowlen_at h
  refine ⟨List.mem_map.mpr ⟨f, hf, by rw [e]⟩, fun y hy => ?_⟩
  obtain ⟨g, hg, rfl⟩ := List.mem_map.mp hy
  have := le_rowlen hg
  omega
theorem len_dP (f : Po p) : ((f.l.map (dC (p := p))).length : Int) = (len f : Int) := by rw [List.length_map]; rfl
theorem ed_lenP {ta : TE} {σ : L2.St} {H : Hp} {f : Po p} (h : EvD K ta σ H (dP f)) : EvD K (tCB (KR.rLenS K) (tCons ta tNil)) σ H (.int (len f : Int)) := ed_is (ed_lenT h) (by rw [len_dP])
theorem ok_row_degree (T : Bt mg) (D : DefAt K mg "row_degree" s_row_degree ["row"]) : Ok P w K mg base "row_degree" ["row"] 1 (spRowDegree K p) := by
  refine D.ok sc_row_degree (spF_len fun _ => rfl) fun f0 cdv A outer s H vs Q E hr h => ?_
  obtain ⟨⟨b, r⟩, hpre, rr, q⟩ := h
  obtain ⟨v, rfl, r1⟩ := dpA1 rr
  have h1 : r ≠ [] := hpre.1
  have h2 : r.length ≤ 1000 := hpre.2
  obtain ⟨m1, m2⟩ := max_row h1
  cases b with
  | true =>
    replace r1 : Dp K H v (dRL r) := r1
    refine ⟨_, (pss_one (ps_ret (pe_op op_sub (pe_callB (kMax (K := K) rfl rfl) (by rfl) T.max (by decide +kernel) (pa_cons (pe_lc (own := [("one", 1)]) (g := gName 1) (tt := tYes) rfl sc_row_degree.nd (kpi_list (K := K) rfl (pv 0)) (blkOk_by (N := ["row", "one"]) (sc := defScope s_row_degree) (by decide +kernel)) (fun _ _ _ _ _ => (pg_name (i := 1) sc_row_degree.nd rfl (Or.inl rfl) (hf := Or.inr rfl))) (fun _ _ _ _ _ => pts_nil) (fun _ _ _ _ _ => (pe_callB (kLen (K := K) rfl) (by rfl) T.len (by decide +kernel) (pa_cons (pv 1) pa_nil)))) pa_nil)) pe_int))), ?_⟩
    exact sd_ret (ed_op0 (ed_maxL (en_is (en_lc0 r dP (fun f => .int (len f : Int)) (ei_list (ed_var rfl r1)) (by omega) (fun _ _ => rfl) (fun _ => rfl) fun f x H' hf e rx => ed_lenP (ed_var rfl rx)) (by rw [List.map_map]; rfl)).toD m1 m2) ed_int) q
  | false =>
    replace r1 : Dp K H v (dR r) := r1
    refine ⟨_, (pss_one (ps_ret (pe_op op_sub (pe_callB (kMax (K := K) rfl rfl) (by rfl) T.max (by decide +kernel) (pa_cons (pe_lc (own := [("one", 1)]) (g := gName 1) (tt := tYes) rfl sc_row_degree.nd (kpi_tup (K := K) rfl (pv 0)) (blkOk_by (N := ["row", "one"]) (sc := defScope s_row_degree) (by decide +kernel)) (fun _ _ _ _ _ => (pg_name (i := 1) sc_row_degree.nd rfl (Or.inl rfl) (hf := Or.inr rfl))) (fun _ _ _ _ _ => pts_nil) (fun _ _ _ _ _ => (pe_callB (kLen (K := K) rfl) (by rfl) T.len (by decide +kernel) (pa_cons (pv 1) pa_nil)))) pa_nil)) pe_int))), ?_⟩
    exact sd_ret (ed_op0 (ed_maxL (en_is (en_lc0 r dP (fun f => .int (len f : Int)) (ei_tup (ed_var rfl r1)) (by omega) (fun _ _ => rfl) (fun _ => rfl) fun f x H' hf e rx => ed_lenP (ed_var rfl rx)) (by rw [List.map_map]; rfl)).toD m1 m2) ed_int) q

abbrev s_lead_of : Stmt := topS 32
theorem sc_lead_of : FnScope ["row", "size", "one"] ["row"] (defScope s_lead_of) := ⟨rfl, rfl, rfl, by decide +kernel, rfl, by decide +kernel, by decide +kernel⟩
-- slots 0 row, 1 size', 2 one
abbrev spLeadOf (K : PySem.W.Frag) (p : Nat) [Pr p] : Sp := spF K (fun r : List (Po p) => [dRL r]) (fun r => r ≠ [] ∧ r.length ≤ 1000 ∧ rowlen r ≠ 0) (fun r => .tuple ((leadv r).map dC))
theorem last_dC {f : Po p} (h : len f ≠ 0) : (f.l.map dC).getLast? = some (dC (co f (len f - 1))) := by
  have h1 : f.l.length - 1 < f.l.length := Nat.sub_lt (Nat.pos_of_ne_zero h) (by decide)
  rw [List.getLast?_eq_getElem?, List.length_map, dC_at h1]
  rfl
theorem ok_lead_of (T : Bt mg) (D : DefAt K mg "lead_of" s_lead_of ["row"]) (O_row_degree : Ok P w K mg base "row_degree" ["row"] 1 (spRowDegree K p)) : Ok P w K mg base "lead_of" ["row"] 2 (spLeadOf K p) := by
  refine D.ok sc_lead_of (spF_len fun _ => rfl) fun f0 cdv A outer s H vs Q E hr h => ?_
  obtain ⟨r, ⟨h1, h2, h3⟩, rr, q⟩ := h
  obtain ⟨v, rfl, r1⟩ := dpA1 rr
  refine ⟨_, (pss_cons (ps_set (i := 1) sc_lead_of.nd rfl (Or.inr rfl) (pe_op op_add (pe_ok O_row_degree (hr.mono (by decide)) (by rfl) (pa_cons (pv 0) pa_nil)) pe_int))
      (pss_one (ps_ret (pe_callTy (kTuple (K := K) rfl) (by rfl) T.tuple (by decide +kernel) (pa_cons (pe_lc (own := [("one", 2)]) (g := gName 2) (tt := tYes) rfl sc_lead_of.nd (kpi_list (K := K) rfl (pv 0)) (blkOk_by (N := ["row", "size", "one"]) (sc := defScope s_lead_of) (by decide +kernel)) (fun _ _ _ _ _ => (pg_name (i := 2) sc_lead_of.nd rfl (Or.inl rfl) (hf := Or.inr rfl))) (fun _ _ _ _ _ => pts_nil) (fun _ _ _ _ _ => (pe_ifExp (pt_cmpR op_eq (pe_callB (kLen (K := K) rfl) (by rfl) T.len (by decide +kernel) (pa_cons (pv 2) pa_nil)) (pv 1) (nomark _)) (pe_ix (kIx (K := K) rfl) (pv 2) (pe_un un_neg pe_int) (fun _ _ => rfl)) pe_int))) pa_nil))))), ?_⟩
  refine qd_asg (K := K) (d := .int (rowlen r : Int)) (ed_is (ed_op0 (ed_call (true, r) (eds_cons (ed_var rfl r1) eds_nil) ⟨h1, h2⟩) ed_int) (by show PyData.int _ = _; congr 1; show (rowlen r : Int) - 1 + 1 = _; omega)) fun v1 H1 e1 q1 => ?_
  obtain rfl := dp_int q1
  refine sd_ret (K := K) (ed_tupleL (en_is (en_lc0 r dP (fun f => dC (co f (rowlen r - 1))) (ei_list (ed_var rfl (dp_ex e1 _ _ r1))) (by omega) (fun _ _ => rfl) (fun _ => rfl) fun f x H' hf e rx => ?_) (by unfold leadv; rw [List.map_map]; rfl)).toD) fun v' H2 e2 r' => q v' H2 (e1.trans e2) r'
  refine ed_if (b := decide (len f = rowlen r)) (et_is (KR.et_test (ed_eqI (ed_is (ed_lenT (ed_var rfl rx)) (by rw [len_dP])) (ed_var rfl (.int _)))) (by
      by_cases z : len f = rowlen r
      · rw [z, decide_eq_true rfl, decide_eq_true rfl]
      · rw [decide_eq_false z, decide_eq_false (by omega)])) (fun hb => ?_) (fun hb => ?_)
  · have hb' : len f = rowlen r := of_decide_eq_true hb
    rw [← hb']
    exact ed_ixT1 (ed_var rfl rx) (ed_neg ed_int) (last_dC (by omega))
  · have hb' : ¬ len f = rowlen r := of_decide_eq_false hb
    have := le_rowlen hf
    rw [co_high (by omega), ← zero_dC]
    exact ed_int

abbrev s_p_unit : Stmt := topS 28
theorem sc_p_unit : FnScope ["many", "at", "place"] ["many"] (defScope s_p_unit) := ⟨rfl, rfl, rfl, by decide +kernel, rfl, by decide +kernel, by decide +kernel⟩
abbrev spPUnit (K : PySem.W.Frag) (p : Nat) [Pr p] : Sp := spF K (fun n : Nat => [.int (n : Int)]) (fun n => n ≤ 100) (fun n => dM (punit (p := p) n))
theorem one_l : (1 : Po p).l = [1] := by
  show (cP (1 : Fin p)).l = [1]
  show trimL [1] = [1]
  simp only [trimL]
  rw [if_neg f_one_ne]
theorem zero_l : (0 : Po p).l = [] := by rw [zero_eq]; rfl
theorem ok_p_unit (T : Bt mg) (D : DefAt K mg "p_unit" s_p_unit ["many"]) : Ok P w K mg base "p_unit" ["many"] 1 (spPUnit K p) := by
  refine D.ok sc_p_unit (spF_len fun _ => rfl) fun f0 cdv A outer s H vs Q E hr h => ?_
  obtain ⟨n, hn, rr, q⟩ := h
  obtain ⟨v, rfl, r1⟩ := dpA1 rr
  obtain rfl := dp_int r1
  have hn' : n ≤ 100 := hn
  refine ⟨_, (pss_one (ps_ret (pe_callTy (kTuple (K := K) rfl) (by rfl) T.tuple (by decide +kernel) (pa_cons (pe_lc (own := [("at", 1)]) (g := gName 1) (tt := tYes) rfl sc_p_unit.nd (pi_range1 (by rfl) T.range (pa_cons (pv 0) pa_nil)) (blkOk_by (N := ["many", "at", "place"]) (sc := defScope s_p_unit) (by decide +kernel)) (fun _ _ _ _ _ => (pg_name (i := 1) sc_p_unit.nd rfl (Or.inr rfl) (hf := Or.inl rfl))) (fun _ _ _ _ _ => pts_nil) (fun _ _ _ _ _ => (pe_callTy (kTuple (K := K) rfl) (by rfl) T.tuple (by decide +kernel) (pa_cons (pe_lc (own := [("place", 2)]) (g := gName 2) (tt := tYes) rfl sc_p_unit.nd (pi_range1 (by rfl) T.range (pa_cons (pv 0) pa_nil)) (blkOk_by (N := ["many", "at", "place"]) (sc := L2.relS _ (defScope s_p_unit)) (by decide +kernel)) (fun _ _ _ _ _ => (pg_name (i := 2) sc_p_unit.nd rfl (Or.inl rfl) (hf := Or.inr rfl))) (fun _ _ _ _ _ => pts_nil) (fun _ _ _ _ _ => (pe_ifExp (pt_cmpR op_eq (pv 1) (pv 2) (nomark _)) (pe_tup (pa_cons pe_int pa_nil)) (pe_tup pa_nil)))) pa_nil)))) pa_nil)))), ?_⟩
  have ir : ∀ (σ : L2.St) (H' : Hp), σ[0]? = some (some (.int (n : Int))) → EvI K (iRng1 (tCons (tVar 0) tNil)) σ H' ((List.range n).map fun (k : Nat) => .int (k : Int)) := fun σ H' hσ => ei_is (ei_rng1 (eds_cons (ed_var hσ (.int _)) eds_nil) (by omega)) (by rw [Int.toNat_natCast])
  refine sd_ret (K := K) (d := dM (punit (p := p) n)) (ed_tupleL (en_is (en_lc0 (List.range n) (fun (k : Nat) => .int (k : Int)) (fun i => dR (p := p) ((List.range n).map fun j => if i = j then 1 else 0)) (ir _ _ rfl) (by rw [List.length_range]; omega) (fun _ _ => flat_dR _) (fun _ => rfl) fun i x H' hi e rx => ?_) (by unfold punit; rw [List.map_map]; rfl)).toD) q
  obtain rfl := dp_int rx
  refine ed_tupleL (en_is (en_lc0 (List.range n) (fun (k : Nat) => .int (k : Int)) (fun j => dP (if i = j then (1 : Po p) else 0)) (ir _ _ rfl) (by rw [List.length_range]; omega) (fun _ _ => flat_dP _) (fun _ => rfl) fun j y H2 hj e2 ry => ?_) (by rw [List.map_map]; rfl)).toD
  obtain rfl := dp_int ry
  refine ed_if (b := decide (i = j)) (et_is (KR.et_test (K := K) (ed_eqI (ed_var rfl (.int _)) (ed_var rfl (.int _)))) (by
      by_cases z : i = j
      · rw [z, decide_eq_true rfl, decide_eq_true rfl]
      · rw [decide_eq_false z, decide_eq_false (by omega)])) (fun hb => ?_) (fun hb => ?_)
  · rw [if_pos (of_decide_eq_true hb)]
    exact ed_is (ed_tup (eds_cons ed_int eds_nil) (by decide)) (by unfold dP; rw [one_l, one_dC (p := p)]; rfl)
  · rw [if_neg (of_decide_eq_false hb)]
    exact ed_is (ed_tup eds_nil (by decide)) (by unfold dP; rw [zero_l]; rfl)

abbrev s_is_free : Stmt := topS 17
theorem sc_is_free : FnScope ["p", "value", "one"] ["p", "value"] (defScope s_is_free) := ⟨rfl, rfl, rfl, by decide +kernel, rfl, by decide +kernel, by decide +kernel⟩
abbrev spIsFree (K : PySem.W.Frag) (p : Nat) [Pr p] : Sp := spF K (fun f : Po p => [.int (p : Int), dP f]) (fun f => len f ≤ 1000) (fun _ => .bool true)
theorem ok_is_free (T : Bt mg) (D : DefAt K mg "is_free" s_is_free ["p", "value"]) (O_is_in : Ok P w K mg base "is_in" ["value", "least", "most"] 2 (spIsIn K)) : Ok P w K mg base "is_free" ["p", "value"] 3 (spIsFree K p) := by
  refine D.ok sc_is_free (spF_len fun _ => rfl) fun f0 cdv A outer s H vs Q E hr h => ?_
  obtain ⟨f, hf, rr, q⟩ := h
  obtain ⟨_, v, rfl, r1, r2⟩ := dpA2 rr
  obtain rfl := dp_int r1
  have hf' : f.l.length ≤ 1000 := hf
  refine ⟨_, (pss_cons (ps_if (PW.pt (pw_or (pt_not (pt_val (pe_callB (kIsi (K := K) rfl) (by rfl) T.isinstance (by decide +kernel) (pa_cons (pv 1) (pa_cons (pe_bltn (v := .ty "tuple") (by rfl) T.tuple (by decide +kernel) rfl) pa_nil))))) (pw_or1 (pt_not (pt_val (pe_callB (kAll (K := K) rfl rfl) (by rfl) T.all (by decide +kernel) (pa_cons (pe_lc (own := [("one", 2)]) (g := gName 2) (tt := tYes) rfl sc_is_free.nd (kpi_tup (K := K) rfl (pv 1)) (blkOk_by (N := ["p", "value", "one"]) (sc := defScope s_is_free) (by decide +kernel)) (fun _ _ _ _ _ => (pg_name (i := 2) sc_is_free.nd rfl (Or.inl rfl) (hf := Or.inr rfl))) (fun _ _ _ _ _ => pts_nil) (fun _ _ _ _ _ => (pe_ok O_is_in (hr.mono (by decide)) (by rfl) (pa_cons (pv 2) (pa_cons pe_int (pa_cons (pe_op op_sub (pv 0) pe_int) pa_nil)))))) pa_nil))))))) (pss_one (ps_ret pe_bl)) pss_nil)
      (pss_one (ps_ret (pe_or (pe_cmpR (kEqD (K := K) rfl hr.units) (pv 1) (pe_tup pa_nil) (nomark _)) (pe_one (pe_cmpR op_ne (pe_ix (kIx (K := K) rfl) (pv 1) (pe_un un_neg pe_int) (fun _ _ => rfl)) pe_int (nomark _))))))), ?_⟩
  refine q_when' (b := false) (et_is (et_or (a := false) (b := false) (et_not (a := true) (KR.et_B (K := K) (ed_isi (Ty := "tuple") (ed_var rfl r2) (by decide +kernel)))) fun _ => et_not (a := true) (KR.et_B (K := K) ?_)) rfl) (fun z => nomatch z) fun _ H1 e1 => ?_
  · refine ed_is (ed_allL (bs := f.l.map fun _ => true) (en_is (en_lc0 f.l dC (fun _ => .bool true) (ei_tup (ed_var rfl r2)) (by omega) (fun _ _ => rfl) (fun _ => rfl) fun x y H' hx e rx => ?_) (by rw [List.map_map]; rfl)).toD) (by congr 1; simp)
    obtain rfl := dp_int rx
    have := x.isLt
    refine ed_is (ed_call ((x.val : Int), (0 : Int), (p : Int) - 1) (eds_cons (ed_var rfl (.int _)) (eds_cons ed_int (eds_cons (ed_op0 (ed_var rfl (.int _)) ed_int) eds_nil))) True.intro) ?_
    show PyData.bool (decide ((0 : Int) ≤ x.val) && decide ((x.val : Int) ≤ (p : Int) - 1)) = _
    rw [decide_eq_true (by omega), decide_eq_true (by omega)]; rfl
  · refine sd_ret (ed_is (ed_orV (a := decide (f = 0)) (b := true) (ed_is (ed_eqD (ed_var rfl (dp_ex e1 _ _ r2)) (ed_tup eds_nil (by decide)) (shp_dP f).ok rfl) (by rw [dP_nil])) fun hb => ?_) (by congr 1; cases decide (f = 0) <;> rfl)) fun v' H2 e2 r' => q v' H2 (e1.trans e2) r'
    have hne := len_ne (of_decide_eq_false hb)
    refine ed_is (ed_neI (ed_ixT1 (ed_var rfl (dp_ex e1 _ _ r2)) (ed_neg ed_int) (last_dC hne)) ed_int) ?_
    rw [dC_zero, decide_eq_false (co_top hne)]; rfl

abbrev s_is_poly : Stmt := topS 18
theorem sc_is_poly : FnScope ["p", "value"] ["p", "value"] (defScope s_is_poly) := ⟨rfl, rfl, rfl, by decide +kernel, rfl, by decide +kernel, by decide +kernel⟩
abbrev spIsPoly (K : PySem.W.Frag) (p : Nat) [Pr p] : Sp := spF K (fun f : Po p => [.int (p : Int), dP f]) (fun f => len f ≤ 41) (fun _ => .bool true)
theorem ok_is_poly (T : Bt mg) (C : Cn K mg) (D : DefAt K mg "is_poly" s_is_poly ["p", "value"]) (O_is_free : Ok P w K mg base "is_free" ["p", "value"] 3 (spIsFree K p)) : Ok P w K mg base "is_poly" ["p", "value"] 4 (spIsPoly K p) := by
  refine D.ok sc_is_poly (spF_len fun _ => rfl) fun f0 cdv A outer s H vs Q E hr h => ?_
  obtain ⟨f, hf, rr, q⟩ := h
  obtain ⟨_, v, rfl, r1, r2⟩ := dpA2 rr
  obtain rfl := dp_int r1
  have hf' : len f ≤ 41 := hf
  refine ⟨_, (pss_one (ps_ret (pe_and (pe_ok O_is_free (hr.mono (by decide)) (by rfl) (pa_cons (pv 0) (pa_cons (pv 1) pa_nil))) (pe_one (pe_cmpR op_le (pe_callB (kLen (K := K) rfl) (by rfl) T.len (by decide +kernel) (pa_cons (pv 1) pa_nil)) (pe_op op_add (pe_glob (v := .int 40) rfl C.MOST_DEGREE ⟨_, rfl⟩) pe_int) (nomark _)))))), ?_⟩
  refine sd_ret (ed_is (ed_andV (a := true) (b := true) (ed_call f (eds_cons (ed_var rfl (.int _)) (eds_cons (ed_var rfl r2) eds_nil)) (by show len f ≤ 1000; omega)) fun _ => ed_is (ed_opB (ed_is (ed_lenT (ed_var rfl r2)) (by rw [len_dP])) (ed_op0 ed_int ed_int)) ?_) rfl) q
  rw [decide_eq_true (by omega)]

abbrev s_need_p_matrix : Stmt := topS 27
theorem sc_need_p_matrix : FnScope ["p", "value", "index", "row", "one"] ["p", "value"] (defScope s_need_p_matrix) := ⟨rfl, rfl, rfl, by decide +kernel, rfl, by decide +kernel, by decide +kernel⟩
-- slots 0 p', 1 value, 2 index, 3 row, 4 one
def GoodM (m : List (List (Po p))) (w b : Nat) : Prop := m ≠ [] ∧ m.length ≤ 6 ∧ w ≠ 0 ∧ w ≤ 6 ∧ ∀ r ∈ m, r.length = w ∧ ∀ f ∈ r, len f ≤ b
abbrev spNeedPMatrix (K : PySem.W.Frag) (p : Nat) [Pr p] : Sp := spF K (fun m : List (List (Po p)) => [.int (p : Int), dM m]) (fun m => ∃ w, GoodM m w 13) (fun _ => .none)
theorem ok_need_p_matrix (T : Bt mg) (C : Cn K mg) (D : DefAt K mg "need_p_matrix" s_need_p_matrix ["p", "value"]) (O_is_poly : Ok P w K mg base "is_poly" ["p", "value"] 4 (spIsPoly K p)) : Ok P w K mg base "need_p_matrix" ["p", "value"] 5 (spNeedPMatrix K p) := by
  refine D.ok sc_need_p_matrix (spF_len fun _ => rfl) fun f0 cdv A outer s H vs Q E hr h => ?_
  obtain ⟨m, ⟨wd, g1, g2, g3, g4, g5⟩, rr, q⟩ := h
  obtain ⟨_, v, rfl, r1, r2⟩ := dpA2 rr
  obtain rfl := dp_int r1
  have hml : m.length ≠ 0 := fun z => g1 (List.length_eq_zero_iff.mp z)
  refine ⟨_, (pss_cons (ps_if (PW.pt (pw_or (pt_not (pt_val (pe_callB (kIsi (K := K) rfl) (by rfl) T.isinstance (by decide +kernel) (pa_cons (pv 1) (pa_cons (pe_bltn (v := .ty "tuple") (by rfl) T.tuple (by decide +kernel) rfl) pa_nil))))) (pw_or1 (pt_not (pt_chain op_le op_le pe_int (pe_callB (kLen (K := K) rfl) (by rfl) T.len (by decide +kernel) (pa_cons (pv 1) pa_nil)) (pe_glob (v := .int 6) rfl C.MOST_SIDE ⟨_, rfl⟩)))))) (pss_one ps_never) pss_nil)
      (pss_one (ps_for PassesOwn.never rfl (kpi_enumT (K := K) rfl (by rfl) T.enumerate (pa_cons (pv 1) pa_nil)) (kpg_two (K := K) (i := 2) (j := 3) rfl rfl sc_need_p_matrix.nd rfl rfl rfl rfl) (pss_cons (ps_if (PW.pt (pw_or (pt_not (pt_val (pe_callB (kIsi (K := K) rfl) (by rfl) T.isinstance (by decide +kernel) (pa_cons (pv 3) (pa_cons (pe_bltn (v := .ty "tuple") (by rfl) T.tuple (by decide +kernel) rfl) pa_nil))))) (pw_or (pt_not (pt_chain op_le op_le pe_int (pe_callB (kLen (K := K) rfl) (by rfl) T.len (by decide +kernel) (pa_cons (pv 3) pa_nil)) (pe_glob (v := .int 6) rfl C.MOST_SIDE ⟨_, rfl⟩))) (pw_or1 (pt_cmpR op_ne (pe_callB (kLen (K := K) rfl) (by rfl) T.len (by decide +kernel) (pa_cons (pv 3) pa_nil)) (pe_callB (kLen (K := K) rfl) (by rfl) T.len (by decide +kernel) (pa_cons (pe_ix (kIx (K := K) rfl) (pv 1) pe_int (fun _ _ => rfl)) pa_nil)) (nomark _)))))) (pss_one ps_never) pss_nil)
      (pss_one (ps_if (pt_not (pt_val (pe_callB (kAll (K := K) rfl rfl) (by rfl) T.all (by decide +kernel) (pa_cons (pe_lc (own := [("one", 4)]) (g := gName 4) (tt := tYes) rfl sc_need_p_matrix.nd (kpi_tup (K := K) rfl (pv 3)) (blkOk_by (N := ["p", "value", "index", "row", "one"]) (sc := defScope s_need_p_matrix) (by decide +kernel)) (fun _ _ _ _ _ => (pg_name (i := 4) sc_need_p_matrix.nd rfl (Or.inl rfl) (hf := Or.inr rfl))) (fun _ _ _ _ _ => pts_nil) (fun _ _ _ _ _ => (pe_and (pe_ok O_is_poly (hr.mono (by decide)) (by rfl) (pa_cons (pv 0) (pa_cons (pv 4) pa_nil))) (pe_one (pe_cmpR op_le (pe_callB (kLen (K := K) rfl) (by rfl) T.len (by decide +kernel) (pa_cons (pv 4) pa_nil)) (pe_op op_add (pe_glob (v := .int 12) rfl C.MOST_ENTRY ⟨_, rfl⟩) pe_int) (nomark _)))))) pa_nil)))) (pss_one ps_never) pss_nil)))))), ?_⟩
  refine q_when' (b := false) (et_is (et_or (a := false) (b := false) (et_not (a := true) (KR.et_B (K := K) (ed_isi (Ty := "tuple") (ed_var rfl r2) (by decide +kernel)))) fun _ => et_not (a := true) (KR.et_test (K := K) ?_)) rfl) (fun z => nomatch z) fun _ H1 e1 => ?_
  · refine ed_is (ed_chain ed_int (ed_lenT (ed_var rfl r2)) ed_int) ?_
    rw [List.length_map, decide_eq_true (by omega), decide_eq_true (by omega)]; rfl
  · refine s_forG (G := Ex H) (eg_enumT rfl (dp_ex e1 _ _ r2) fun H3 g3 => dp_ex g3 _ _ r2)
      (fun i σ' H' => Ex H H' ∧ ∃ x2 x3 x4, σ' = [some (.int (p : Int)), some v, x2, x3, x4])
      (fun H3 e3 => ⟨e1.trans e3, none, none, none, rfl⟩) (fun i σ' H' _ h => h.1) (fun i d x σ' H' H'' hd ⟨e3, x2, x3, x4, hσ⟩ e4 rx => ?_) fun σ' H' ⟨e3, _⟩ => q _ H' e3 .non
    obtain ⟨x1, hx1, rfl⟩ := idx_at hd
    obtain ⟨r, hr1, rfl, hrm⟩ := mapAt hx1
    obtain ⟨gr1, gr2⟩ := g5 r hrm
    subst hσ
    refine two_of rx fun y1 y2 ry1 ry2 => ?_
    obtain rfl := dp_int ry1
    have hr0 : m[0]? = some (m[0]'(by omega)) := List.getElem?_eq_getElem (by omega)
    have w0 : (m[0]'(by omega)).length = wd := (g5 _ (List.getElem_mem _)).1
    have hd0 : (m.map dR)[0]? = some (dR (m[0]'(by omega))) := by rw [List.getElem?_map, hr0]; rfl
    refine q_when' (b := false) (et_is (et_or (a := false) (b := false) (et_not (a := true) (KR.et_B (K := K) (ed_isi (Ty := "tuple") (ed_var rfl ry2) (by decide +kernel)))) fun _ => et_or (a := false) (b := false) (et_not (a := true) (KR.et_test (K := K) ?_)) fun _ => KR.et_test (K := K) ?_) rfl) (fun z => nomatch z) fun _ H2 e5 => ?_
    · refine ed_is (ed_chain ed_int (ed_lenT (ed_var rfl ry2)) ed_int) ?_
      rw [List.length_map, decide_eq_true (by omega), decide_eq_true (by omega)]; rfl
    · refine ed_is (ed_neI (ed_lenT (ed_var rfl ry2)) (ed_lenT (ed_ixT (k := 0) (ed_var rfl (dp_ex (e3.trans e4) _ _ r2)) ed_int rfl hd0))) ?_
      rw [List.length_map, List.length_map, gr1, w0, decide_eq_true rfl]; rfl
    · refine s_when (b := false) (et_is (et_not (a := true) (KR.et_B (K := K) ?_)) rfl) (fun z => nomatch z) fun _ H6 e6 => ⟨((e3.trans e4).trans e5).trans e6, _, _, _, rfl⟩
      refine ed_is (ed_allL (bs := r.map fun _ => true) (en_is (en_lc0 r dP (fun _ => .bool true) (ei_tup (ed_var rfl (dp_ex e5 _ _ ry2))) (by omega) (fun _ _ => rfl) (fun _ => rfl) fun f z H7 hf e7 rz => ?_) (by rw [List.map_map]; rfl)).toD) (by congr 1; simp)
      have hlf := gr2 f hf
      refine ed_is (ed_andV (a := true) (b := true) (ed_call f (eds_cons (ed_var rfl (.int _)) (eds_cons (ed_var rfl rz) eds_nil)) (by show len f ≤ 41; omega)) fun _ => ed_is (ed_opB (ed_is (ed_lenT (ed_var rfl rz)) (by rw [len_dP])) (ed_op0 ed_int ed_int)) ?_) rfl
      rw [decide_eq_true (by omega)]
end
end KW
end
section
set_option Elab.async false
set_option linter.all false
set_option maxRecDepth 100000
set_option maxHeartbeats 4000000
/-! Walks: echelon. -/
namespace KW
open PySem PySem.Spec PyProof.Rows L2 Evl KR K18 KX
section math
variable {p : Nat} [hp : Pr p]
def tabD (w m : Nat) (M : Tb p) : List (List PyData) := (List.range w).map fun i => (cellsF m (M i)).map dC
theorem tab_len (w m : Nat) (M : Tb p) : (tabD w m M).length = w := by unfold tabD; rw [List.length_map, List.length_range]
theorem tab_at {w m i : Nat} {M : Tb p} (h : i < w) : (tabD w m M)[i]? = some ((cellsF m (M i)).map dC) := by
  unfold tabD; rw [List.getElem?_map, List.getElem?_range h]; rfl
theorem cellsF_len (m : Nat) (c : Nat → Fin p) : (cellsF m c).length = m := by unfold cellsF; rw [List.length_map, List.length_range]
theorem cell_at {m j : Nat} {c : Nat → Fin p} (h : j < m) : ((cellsF m c).map dC)[j]? = some (dC (c j)) := by
  rw [dC_at (by rw [cellsF_len]; exact h), cellsF_get, if_pos h]
theorem tab_flat (w m : Nat) (M : Tb p) : FlatRows (tabD w m M) := fun r hr => by
  obtain ⟨i, _, rfl⟩ := List.mem_map.mp hr
  exact flat_map (fun a => rfl) _
theorem tab_set {w m i : Nat} {M : Tb p} {r : Nat → Fin p} : (tabD w m M).set i ((cellsF m r).map dC) = tabD w m (setR M i r) := by
  refine List.ext_getElem? fun k => ?_
  by_cases hk : k < w
  · by_cases e : i = k
    · subst e
      rw [List.getElem?_set_self (by rw [tab_len]; exact hk), tab_at hk]; unfold setR; rw [if_pos rfl]
    · rw [List.getElem?_set_ne e, tab_at hk, tab_at hk]; unfold setR; rw [if_neg fun z => e z.symm]
  · rw [List.getElem?_eq_none (by rw [List.length_set, tab_len]; omega), List.getElem?_eq_none (by rw [tab_len]; omega)]
theorem tab_swap {w m a b : Nat} {M : Tb p} : ((tabD w m M).set a ((cellsF m (M b)).map dC)).set b ((cellsF m (M a)).map dC) = tabD w m (swp M a b) := by
  rw [tab_set, tab_set]
  congr 1
  funext i
  unfold setR swp
  by_cases h1 : i = b
  · rw [if_pos h1]
    by_cases h2 : i = a
    · rw [if_pos h2, ← h1, ← h2]
    · rw [if_neg h2, if_pos h1]
  · rw [if_neg h1]
    by_cases h2 : i = a
    · rw [if_pos h2, if_pos h2]
    · rw [if_neg h2, if_neg h2, if_neg h1]
/-- the first k rows less their multiples of the row here -/
def elimK (M : Tb p) (here c k : Nat) : Tb p := fun i j => if i < k ∧ i ≠ here then M i j - M i c * M here j else M i j
theorem elimK_zero (M : Tb p) (here c : Nat) : elimK M here c 0 = M := by
  funext i j; unfold elimK; rw [if_neg (by omega)]
theorem elimK_step (M : Tb p) (here c k : Nat) : elimK M here c (k + 1) = if k = here then elimK M here c k else setR (elimK M here c k) k fun j => M k j - M k c * M here j := by
  by_cases h : k = here
  · rw [if_pos h]
    funext i j
    unfold elimK
    by_cases z : i < k ∧ i ≠ here
    · rw [if_pos z, if_pos (by omega)]
    · rw [if_neg z, if_neg (by omega)]
  · rw [if_neg h]
    funext i j
    unfold setR elimK
    by_cases z : i = k
    · rw [if_pos z, if_pos (by omega), z]
    · rw [if_neg z]
      by_cases z2 : i < k ∧ i ≠ here
      · rw [if_pos z2, if_pos (by omega)]
      · rw [if_neg z2, if_neg (by omega)]
theorem elimK_all {w m : Nat} {M : Tb p} {here c : Nat} : tabD w m (elimK M here c w) = tabD w m (elim M here c) := by
  unfold tabD
  refine List.map_congr_left fun i hi => ?_
  have hi' := List.mem_range.mp hi
  congr 2
  funext j
  unfold elimK elim
  by_cases z : i = here
  · rw [if_neg (by omega), if_pos z]
  · rw [if_pos ⟨hi', z⟩, if_neg z]
def plD (pl : List Nat) : List PyData := pl.map fun (c : Nat) => .int (c : Int)
def plV (pl : List Nat) : List V := pl.map fun (c : Nat) => .int (c : Int)
end math
section
variable {P : Program} {w : World} {K : PySem.W.Frag} {mg : Str → Option Value} {base : Heap} {p : Nat} [hp : Pr p]
theorem plDp {H : Hp} (pl : List Nat) : DpAll K H (plV pl) (plD pl) := by
  unfold plV plD
  induction pl with
  | nil => exact .nil
  | cons a l ih => exact .cons (.int _) ih
theorem dpA_pl {H : Hp} {xs : List V} {pl : List Nat} (r : DpAll K H xs (plD pl)) : xs = plV pl := by
  have h : plD pl = (pl.map fun (c : Nat) => (c : Int)).map PyData.int := by unfold plD; rw [List.map_map]; rfl
  rw [h] at r
  rw [dpA_intsV r]
  unfold plV; rw [List.map_map]; rfl
theorem pl_dp {H : Hp} {l : Addr} {pl : List Nat} (h : H l = some (.lst (plV pl))) : Dp K H (.ref l) (.list (plD pl)) := .lst (sq_of h) (plDp pl)
theorem ed_cell {σ : L2.St} {H : Hp} {ta tb : TE} {w' m k i j : Nat} {v : V} {N : Tb p} (hr : Dp K H v (.list ((tabD w' m N).map .list))) (hk : σ[k]? = some (some v)) (ha : EvD K ta σ H (.int (i : Int))) (hb : EvD K tb σ H (.int (j : Int))) (hi : i < w') (hj : j < m) :
    EvD K (tOp (rIx K) (tOp (rIx K) (tVar k) ta) tb) σ H (dC (N i j)) :=
  ed_ixL (k := j) (ed_ixL (k := i) (ds := (tabD w' m N).map .list) (ed_var hk hr) ha rfl (by rw [List.getElem?_map, tab_at hi]; rfl)) hb rfl (cell_at hj)
theorem ed_row {σ : L2.St} {H : Hp} {ta : TE} {w' m k i : Nat} {v : V} {N : Tb p} (hr : Dp K H v (.list ((tabD w' m N).map .list))) (hk : σ[k]? = some (some v)) (ha : EvD K ta σ H (.int (i : Int))) (hi : i < w') :
    EvD K (tOp (rIx K) (tVar k) ta) σ H (.list ((cellsF m (N i)).map dC)) :=
  ed_ixL (k := i) (ds := (tabD w' m N).map .list) (ed_var hk hr) ha rfl (by rw [List.getElem?_map, tab_at hi]; rfl)
theorem eqv_nil_list {ds : List PyData} : PyData.eqv (.list ds) (.list []) = decide (ds = []) := by
  cases ds with
  | nil => simp [PyData.eqv, PyData.eqvAll]
  | cons a l => simp [PyData.eqv, PyData.eqvAll]
theorem shp_tab (w' m : Nat) (N : Tb p) : Shp 2 (.list ((tabD w' m N).map .list)) := shp_lst (shp_map fun r hr => by
  obtain ⟨i, _, rfl⟩ := List.mem_map.mp hr
  exact shp_lst (shp_map fun a _ => shp_int))
theorem shp_pl (pl : List Nat) : Shp 1 (.list (plD pl)) := shp_lst (shp_map fun a _ => shp_int)
/-- xs.append(e) -/
theorem sd_app {te : TE} {D : Ends} {σ : L2.St} {H : Hp} {d : PyData} {l : Addr} {xs : List V} {k : Nat} (hl : H l = some (.lst xs)) (hk : σ[k]? = some (some (.ref l))) (h : EvD K te σ H d) (hz : xs.length < 100000) (q : ∀ v H1, Ex H H1 → Dp K H1 v d → D.nx σ (upd H1 l (.lst (xs ++ [v])))) :
    tDrop (tBM K "list" rAppend (tVar k) (tCons te tNil)) D σ H := ⟨.ref l, hk, Or.inl ⟨rfl, xs, sq_of hl⟩, h H (Ex.refl H) _ fun v H2 e2 r => ⟨l, xs, v, rfl, rfl, e2 l _ hl, sz_lt hz, q v H2 e2 r⟩⟩
theorem mod_mas (s a b : Fin p) : ((s.val : Int) - (a.val : Int) * (b.val : Int)) % (p : Int) = ((s - a * b : Fin p).val : Int) := by
  have h1 : s - a * b = s + (-1 : Fin p) * (a * b) := by grind
  have h2 : (((-1 : Fin p)).val : Int) = (p : Int) - 1 := by
    have := neg_one (p := p)
    unfold dC at this
    exact (PyData.int.inj this).symm
  rw [h1, ← mod_mac, ← mod_mul, h2]
  have h3 : ((p : Int) - 1) * (((a.val : Int) * (b.val : Int)) % (p : Int)) % (p : Int) = (-((a.val : Int) * (b.val : Int))) % (p : Int) := by
    rw [Int.mul_emod, Int.emod_emod, ← Int.mul_emod, Int.sub_mul, Int.one_mul, Int.sub_eq_add_neg, Int.add_comm, Int.add_mul_emod_self_left]
  rw [Int.sub_eq_add_neg, Int.add_emod, ← h3, ← Int.add_emod]
theorem zip_self' : ∀ l : List Nat, l.zip l = l.map fun a => (a, a)
  | [] => rfl
  | a :: l => by simp [zip_self' l]
theorem take_range {n m : Nat} (h : n ≤ m) : (List.range m).take n = List.range n := by
  refine List.ext_getElem? fun i => ?_
  rw [List.getElem?_take]
  by_cases hi : i < n
  · rw [if_pos hi, List.getElem?_range hi, List.getElem?_range (by omega)]
  · rw [if_neg hi, List.getElem?_eq_none (by rw [List.length_range]; omega)]
abbrev s_echelon : Stmt := topS 13
theorem sc_echelon : FnScope ["p", "rows", "wide", "at", "places", "best", "here", "back", "place", "row", "factor", "a", "b"] ["p", "rows"] (defScope s_echelon) := ⟨rfl, rfl, rfl, by decide +kernel, rfl, by decide +kernel, by decide +kernel⟩
-- slots 0 p', 1 rows', 2 wide, 3 at', 4 places, 5 best, 6 here, 7 back', 8 place, 9 row, 10 factor', 11 a, 12 b
def tblD (w m : Nat) (M : Tb p) : PyData := .tuple ((tabD w m M).map .tuple)
abbrev spEchelon (K : PySem.W.Frag) (p : Nat) [Pr p] : Sp := spF K (fun a : Nat × Nat × Tb p => [.int (p : Int), tblD a.1 a.2.1 a.2.2]) (fun a => 1 ≤ a.1 ∧ a.1 ≤ 6 ∧ 1 ≤ a.2.1 ∧ a.2.1 ≤ 6)
  (fun a => .tuple [tblD (ech a.1 a.2.2 a.2.1).2.length a.2.1 (ech a.1 a.2.2 a.2.1).1, .tuple (plD (ech a.1 a.2.2 a.2.1).2)])
theorem ok_echelon (T : Bt mg) (D : DefAt K mg "echelon" s_echelon ["p", "rows"]) (O_inverse : Ok P w K mg base "inverse" ["p", "number"] 1 (spInverse K p)) : Ok P w K mg base "echelon" ["p", "rows"] 2 (spEchelon K p) := by
  refine D.ok sc_echelon (spF_len fun _ => rfl) fun f0 cdv A outer s H vs Q E hr h => ?_
  obtain ⟨⟨h', m, M⟩, ⟨hw1, hw2, hm1, hm2⟩, rr, q⟩ := h
  simp only at hw1 hw2 hm1 hm2
  obtain ⟨_, v, rfl, r1, r2⟩ := dpA2 rr
  obtain rfl := dp_int r1
  replace r2 : Dp K H v (tblD h' m M) := r2
  refine ⟨_, (pss_cons (ps_asg (pe_tup (pa_cons (pe_lc (own := [("row", 9)]) (g := gName 9) (tt := tYes) rfl sc_echelon.nd (kpi_tup (K := K) rfl (pv 1)) (blkOk_by (N := ["p", "rows", "wide", "at", "places", "best", "here", "back", "place", "row", "factor", "a", "b"]) (sc := defScope s_echelon) (by decide +kernel)) (fun _ _ _ _ _ => (pg_name (i := 9) sc_echelon.nd rfl (Or.inl rfl) (hf := Or.inr rfl))) (fun _ _ _ _ _ => pts_nil) (fun _ _ _ _ _ => (pe_callTy (kList (K := K) rfl) (by rfl) T.list (by decide +kernel) (pa_cons (pv 9) pa_nil)))) (pa_cons (pe_lst pa_nil) pa_nil))) (pg_tup rfl (pgs_cons (pg_name (i := 1) sc_echelon.nd rfl (Or.inr rfl)) (pgs_cons (pg_name (i := 4) sc_echelon.nd rfl (Or.inl rfl)) pgs_nil))))
      (pss_cons (ps_set (i := 2) sc_echelon.nd rfl (Or.inl rfl) (pe_ifExp (pt_cmpR (kNeD (K := K) rfl hr.units) (pv 1) (pe_lst pa_nil) (nomark _)) (pe_callB (kLen (K := K) rfl) (by rfl) T.len (by decide +kernel) (pa_cons (pe_ix (kIx (K := K) rfl) (pv 1) pe_int (fun _ _ => rfl)) pa_nil)) pe_int))
      (pss_cons (ps_for PassesOwn.never rfl (pi_range1 (by rfl) T.range (pa_cons (pv 2) pa_nil)) (pg_name (i := 3) sc_echelon.nd rfl (Or.inr rfl)) (pss_cons (ps_setLc (i := 5) (own := [("place", 8)]) (g := gName 8) rfl sc_echelon.nd rfl rfl (sw_true rfl rfl rfl (by decide +kernel)) (pi_range2 (by rfl) T.range (pa_cons (pe_callB (kLen (K := K) rfl) (by rfl) T.len (by decide +kernel) (pa_cons (pv 4) pa_nil)) (pa_cons (pe_callB (kLen (K := K) rfl) (by rfl) T.len (by decide +kernel) (pa_cons (pv 1) pa_nil)) pa_nil))) (blkOk_by (N := ["p", "rows", "wide", "at", "places", "best", "here", "back", "place", "row", "factor", "a", "b"]) (sc := defScope s_echelon) (by decide +kernel)) (fun _ _ _ _ _ => (pg_name (i := 8) sc_echelon.nd rfl (Or.inl rfl) (hf := Or.inr rfl))) (fun _ _ _ _ _ => (pts_one (pt_cmpR op_ne (pe_ix (kIx (K := K) rfl) (pe_ix (kIx (K := K) rfl) (pv 1) (pv 8) (fun _ _ => rfl)) (pv 3) (fun _ _ => rfl)) pe_int (nomark _)))) (fun _ _ _ _ _ => (pv 8)))
      (pss_one (ps_if (pt_cmpR (kNeD (K := K) rfl hr.units) (pv 5) (pe_lst pa_nil) (nomark _)) (pss_cons (ps_set (i := 6) sc_echelon.nd rfl (Or.inl rfl) (pe_callB (kLen (K := K) rfl) (by rfl) T.len (by decide +kernel) (pa_cons (pv 4) pa_nil)))
      (pss_cons (ps_asg (pe_tup (pa_cons (pe_ix (kIx (K := K) rfl) (pv 1) (pe_ix (kIx (K := K) rfl) (pv 5) pe_int (fun _ _ => rfl)) (fun _ _ => rfl)) (pa_cons (pe_ix (kIx (K := K) rfl) (pv 1) (pv 6) (fun _ _ => rfl)) pa_nil))) (pg_tup rfl (pgs_cons (pg_sub (pv 1) (pv 6) set_list) (pgs_cons (pg_sub (pv 1) (pe_ix (kIx (K := K) rfl) (pv 5) pe_int (fun _ _ => rfl)) set_list) pgs_nil))))
      (pss_cons (ps_set (i := 7) sc_echelon.nd rfl (Or.inr rfl) (pe_ok O_inverse (hr.mono (by decide)) (by rfl) (pa_cons (pv 0) (pa_cons (pe_ix (kIx (K := K) rfl) (pe_ix (kIx (K := K) rfl) (pv 1) (pv 6) (fun _ _ => rfl)) (pv 3) (fun _ _ => rfl)) pa_nil))))
      (pss_cons (ps_asg (pe_lc (own := [("a", 11)]) (g := gName 11) (tt := tYes) rfl sc_echelon.nd (kpi_list (K := K) rfl (pe_ix (kIx (K := K) rfl) (pv 1) (pv 6) (fun _ _ => rfl))) (blkOk_by (N := ["p", "rows", "wide", "at", "places", "best", "here", "back", "place", "row", "factor", "a", "b"]) (sc := defScope s_echelon) (by decide +kernel)) (fun _ _ _ _ _ => (pg_name (i := 11) sc_echelon.nd rfl (Or.inl rfl) (hf := Or.inr rfl))) (fun _ _ _ _ _ => pts_nil) (fun _ _ _ _ _ => (pe_op op_mod (pe_op op_mul (pv 11) (pv 7)) (pv 0)))) (pg_sub (pv 1) (pv 6) set_list))
      (pss_cons (ps_for PassesOwn.never rfl (pi_range1 (by rfl) T.range (pa_cons (pe_callB (kLen (K := K) rfl) (by rfl) T.len (by decide +kernel) (pa_cons (pv 1) pa_nil)) pa_nil)) (pg_name (i := 8) sc_echelon.nd rfl (Or.inl rfl)) (pss_cons (ps_set (i := 10) sc_echelon.nd rfl (Or.inr rfl) (pe_ix (kIx (K := K) rfl) (pe_ix (kIx (K := K) rfl) (pv 1) (pv 8) (fun _ _ => rfl)) (pv 3) (fun _ _ => rfl)))
      (pss_one (ps_if (PW.pt (pw_and (pt_cmpR op_ne (pv 8) (pv 6) (nomark _)) (pw_and1 (pt_cmpR op_ne (pv 10) pe_int (nomark _))))) (pss_one (ps_asg (pe_lc (own := [("a", 11), ("b", 12)]) (g := gTwo K 11 12) (tt := tYes) rfl sc_echelon.nd (kpi_zipA (K := K) rfl (by rfl) T.zip (pa_cons (pe_ix (kIx (K := K) rfl) (pv 1) (pv 8) (fun _ _ => rfl)) (pa_cons (pe_ix (kIx (K := K) rfl) (pv 1) (pv 6) (fun _ _ => rfl)) pa_nil))) (blkOk_by (N := ["p", "rows", "wide", "at", "places", "best", "here", "back", "place", "row", "factor", "a", "b"]) (sc := defScope s_echelon) (by decide +kernel)) (fun _ _ _ _ _ => (kpg_two (K := K) (i := 11) (j := 12) rfl rfl sc_echelon.nd rfl rfl rfl rfl)) (fun _ _ _ _ _ => pts_nil) (fun _ _ _ _ _ => (pe_op op_mod (pe_op op_sub (pv 11) (pe_op op_mul (pv 10) (pv 12))) (pv 0)))) (pg_sub (pv 1) (pv 8) set_list))) pss_nil))))
      (pss_one (ps_expr (pe_bm PySem.F.plainAttrs_list PySem.F.slot_list_append PySem.F.type_list_append mt_append (pv 4) (pa_cons (pv 3) pa_nil))))))))) pss_nil))))
      (pss_one (ps_ret (pe_tup (pa_cons (pe_callTy (kTuple (K := K) rfl) (by rfl) T.tuple (by decide +kernel) (pa_cons (pe_lc (own := [("row", 9)]) (g := gName 9) (tt := tYes) rfl sc_echelon.nd (kpi_list (K := K) rfl (pe_slice (kSlL (K := K) rfl) (pv 1) po_none (po_some (pe_callB (kLen (K := K) rfl) (by rfl) T.len (by decide +kernel) (pa_cons (pv 4) pa_nil))))) (blkOk_by (N := ["p", "rows", "wide", "at", "places", "best", "here", "back", "place", "row", "factor", "a", "b"]) (sc := defScope s_echelon) (by decide +kernel)) (fun _ _ _ _ _ => (pg_name (i := 9) sc_echelon.nd rfl (Or.inl rfl) (hf := Or.inr rfl))) (fun _ _ _ _ _ => pts_nil) (fun _ _ _ _ _ => (pe_callTy (kTuple (K := K) rfl) (by rfl) T.tuple (by decide +kernel) (pa_cons (pv 9) pa_nil)))) pa_nil)) (pa_cons (pe_callTy (kTuple (K := K) rfl) (by rfl) T.tuple (by decide +kernel) (pa_cons (pv 4) pa_nil)) pa_nil)))))))), ?_⟩
  -- rows, places = [list(row) for row in rows], []
  refine q_pairLL (K := K) (rows := tabD h' m M) (ell_lc (α := Nat) (List.range h') (fun i => .tuple ((cellsF m (M i)).map dC)) (fun i => (cellsF m (M i)).map dC) (ei_is (ei_tup (ed_var rfl r2)) (by unfold tabD; rw [List.map_map]; rfl)) (by rw [List.length_range]; omega) (fun _ _ => flat_map (fun a => rfl) _) (fun _ => rfl) (fun i x H' hi e rx => en_listT (ed_var rfl rx)))
    fun D0 vs0 L0 H2 nDH nLH hDL e02 hD2 hB2 hL2 => ?_
  replace hL2 : H2 L0 = some (.lst (plV [])) := hL2
  -- wide
  refine qd_asg (K := K) (d := .int (m : Int)) ?_ fun v3 H3 e3 r3 => ?_
  · refine ed_if (b := true) (et_is (KR.et_test (K := K) (ed_is (ed_neD (ed_var rfl (.lst (sq_of hD2) hB2.dp)) (ed_lst eds_nil (by decide)) (shp_tab h' m M).ok rfl) (by rw [eqv_nil_list]))) ?_) (fun _ => ?_) (fun z => nomatch z)
    · rw [decide_eq_false (fun z => by
        have := congrArg List.length z
        rw [List.length_map, tab_len] at this
        simp at this
        omega)]; rfl
    · exact ed_is (ed_lenL (ed_row (i := 0) (.lst (sq_of hD2) hB2.dp) rfl ed_int (by omega))) (by rw [List.length_map, cellsF_len])
  obtain rfl := dp_int r3
  have e03 : Ex H H3 := e02.trans e3
  have hD3 := e3 _ _ hD2
  have hL3 := e3 _ _ hL2
  have hB3 := hB2.ex e3
  clear hD2 hL2 hB2 e02
  have dD : ∀ {H' : Hp} {vs : List V} {N : Tb p}, H' D0 = some (.lst vs) → LB K H' [L0, D0] vs (tabD h' m N) → Dp K H' (.ref D0) (.list ((tabD h' m N).map .list)) := fun h1 h2 => .lst (sq_of h1) h2.dp
  refine q_forG (K := K) (G := fun _ => True) (eg_rng1 (eds_cons (ed_var rfl (.int (m : Int))) eds_nil) (by omega))
    (fun c σ' H' => Ex H H' ∧ (∃ vs, H' D0 = some (.lst vs) ∧ LB K H' [L0, D0] vs (tabD h' m (ech h' M c).1)) ∧ H' L0 = some (.lst (plV (ech h' M c).2)) ∧
      ∃ x3 x5 x6 x7 x8 x9 x10 x11 x12, σ' = [some (.int (p : Int)), some (.ref D0), some (.int (m : Int)), x3, some (.ref L0), x5, x6, x7, x8, x9, x10, x11, x12])
    (fun H4 e4 => ⟨e03.trans e4, ⟨vs0, e4 _ _ hD3, hB3.ex e4⟩, e4 _ _ hL3, none, none, none, none, none, none, none, none, none, rfl⟩) (fun _ _ _ _ _ => True.intro)
    (fun c d x σ' Ha Hb hd ⟨ea, ⟨vs, hDa, hBa⟩, hLa, x3, x5, x6, x7, x8, x9, x10, x11, x12, hσ⟩ eb rx => ?_) fun σ' Ha ⟨ea, ⟨vs, hDa, hBa⟩, hLa, x3, x5, x6, x7, x8, x9, x10, x11, x12, hσ⟩ => ?_
  · -- one column
    have hcm : c < m := by
      have := (List.getElem?_eq_some_iff.mp hd).1
      rw [List.length_map, List.length_range] at this
      omega
    rw [rangeAt (f := fun (k : Nat) => PyData.int (k : Int)) (by omega : c < ((m : Int)).toNat)] at hd
    obtain rfl := (Option.some.inj hd)
    obtain rfl := dp_int rx
    subst hσ
    have E := ech_ok (w := h') (m := m) (M := M) c (by omega)
    have hstep : ech h' M (c + 1) = echStep h' (ech h' M c) c := rfl
    rw [hstep]
    generalize ech h' M c = st at E hBa hLa ⊢
    obtain ⟨N, pl⟩ := st
    simp only at E hBa hLa ⊢
    have hpl := E.len
    replace ea := ea.trans eb
    replace hDa := eb _ _ hDa
    replace hLa := eb _ _ hLa
    replace hBa := hBa.ex eb
    clear eb
    show tSeq _ _ _ [some (.int (p : Int)), some (.ref D0), some (.int (m : Int)), some (.int (c : Int)), some (.ref L0), x5, x6, x7, x8, x9, x10, x11, x12] Hb
    -- best
    refine qn_asg (K := K) (ds := plD (best h' N pl.length c)) (en_is (en_lc (α := Nat) ((List.range (h' - pl.length)).map fun k => pl.length + k) (fun (i : Nat) => .int (i : Int)) (fun i => decide (N i c ≠ 0)) (fun (i : Nat) => .int (i : Int))
      (ei_is (ei_rng2 (i := (pl.length : Int)) (j := (h' : Int)) (eds_cons (ed_is (ed_lenL (ed_var rfl (pl_dp hLa))) (by unfold plD; rw [List.length_map])) (eds_cons (ed_is (ed_lenL (ed_var rfl (dD hDa hBa))) (by rw [List.length_map, tab_len])) eds_nil)) (by omega) (by omega)) ?_) ?_ (fun _ _ => rfl) (fun _ => rfl) (fun i x' H5 hi e5 rx' => ?_) fun i x' H5 hi hki e5 rx' => ed_var rfl rx') rfl) fun Lb xs H4 nb e4 hb rb => ?_
    · rw [List.map_map]
      have : ((h' : Int) - (pl.length : Int)).toNat = h' - pl.length := by omega
      rw [this]
      exact List.map_congr_left fun k _ => by show PyData.int _ = PyData.int _; congr 1
    · rw [List.length_map, List.length_range]; omega
    · obtain rfl := dp_int rx'
      obtain ⟨k, hk, rfl⟩ := List.mem_map.mp hi
      have hk' := List.mem_range.mp hk
      refine et_is (KR.et_test (K := K) (ed_neI (ed_cell (dp_ex e5 _ _ (dD hDa hBa)) rfl (ed_var rfl (.int _)) (ed_var rfl (.int _)) (by omega) hcm) ed_int)) ?_
      rw [dC_zero]
      by_cases z : N (pl.length + k) c = 0
      · rw [decide_eq_true z, decide_eq_false (fun q => q z)]; rfl
      · rw [decide_eq_false z, decide_eq_true z]; rfl
    obtain rfl := dpA_pl rb
    have hLbD : Lb ≠ D0 := fun z => by rw [z, hDa] at nb; cases nb
    have hLbL : Lb ≠ L0 := fun z => by rw [z, hLa] at nb; cases nb
    replace ea := ea.trans e4
    replace hDa := e4 _ _ hDa
    replace hLa := e4 _ _ hLa
    replace hBa := hBa.ex e4
    clear e4
    unfold echStep
    simp only
    cases hbest : best h' N pl.length c with
    | nil =>
      rw [hbest] at hb
      refine s_when (b := false) (et_is (KR.et_test (K := K) (ed_neD (ed_var rfl (pl_dp hb)) (ed_lst eds_nil (by decide)) (shp_pl _).ok rfl)) (by rw [eqv_nil_list]; rfl)) (fun z => nomatch z) fun _ H5 e5 => ?_
      exact ⟨ea.trans e5, ⟨vs, e5 _ _ hDa, hBa.ex e5⟩, e5 _ _ hLa, _, _, _, _, _, _, _, _, _, rfl⟩
    | cons b br =>
      obtain ⟨b1, b2, b3⟩ := best_cons hbest
      rw [hbest] at hb
      have hh : pl.length < h' := by omega
      refine s_when (b := true) (et_is (KR.et_test (K := K) (ed_neD (ed_var rfl (pl_dp hb)) (ed_lst eds_nil (by decide)) (shp_pl _).ok rfl)) (by rw [eqv_nil_list]; rfl)) (fun _ H5 e5 => ?_) (fun z => nomatch z)
      replace ea := ea.trans e5
      replace hDa := e5 _ _ hDa
      replace hLa := e5 _ _ hLa
      replace hBa := hBa.ex e5
      replace hb := e5 _ _ hb
      clear e5
      -- here
      refine qd_asg (K := K) (d := .int (pl.length : Int)) (ed_is (ed_lenL (ed_var rfl (pl_dp hLa))) (by unfold plD; rw [List.length_map])) fun v5 H6 e6 r6 => ?_
      obtain rfl := dp_int r6
      replace ea := ea.trans e6
      replace hDa := e6 _ _ hDa
      replace hLa := e6 _ _ hLa
      replace hBa := hBa.ex e6
      replace hb := e6 _ _ hb
      clear e6 r6
      -- swap
      obtain ⟨va, hva⟩ : ∃ va, vs[pl.length]? = some va := ⟨_, List.getElem?_eq_getElem (by rw [hBa.1, tab_len]; exact hh)⟩
      obtain ⟨vb, hvb⟩ : ∃ vb, vs[b]? = some vb := ⟨_, List.getElem?_eq_getElem (by rw [hBa.1, tab_len]; exact b2)⟩
      have hb0 : ∀ H', H' Lb = some (.lst (plV (b :: br))) → Dp K H' (.ref Lb) (.list (plD (b :: br))) := fun H' h => pl_dp h
      show tAsg _ _ _ _ _
      refine s_swap (K := K) (a := pl.length) (b := b) (i1 := (b : Int)) (i2 := (pl.length : Int)) (i3 := (pl.length : Int)) (i4 := (b : Int)) hDa rfl (ed_ixL (k := 0) (ed_var rfl (hb0 _ hb)) ed_int rfl rfl) (ed_var rfl (.int _)) (ed_var rfl (.int _)) (ed_ixL (k := 0) (ed_var rfl (hb0 _ (by rw [hide_ne hLbD]; exact hb))) ed_int rfl rfl) hva hvb fun H7 w7 hD7 => ?_
      have e7 := w7.back ea nDH
      have hL7 := w7.keep _ _ hLa (fun z => hDL z.symm)
      have hB7 : LB K H7 [L0, D0] ((vs.set pl.length vb).set b va) (tabD h' m (swp N pl.length b)) := by
        have := (hBa.swap (tab_at hh) (tab_at b2) hva hvb).flat (H' := H7) (fun r hr => by
          rw [tab_swap] at hr; exact tab_flat _ _ _ r hr) (w7.exT hDa) fun q o hq hn => w7.keep q o hq fun z => hn (by rw [z]; simp)
        rw [tab_swap] at this
        exact this
      generalize (vs.set pl.length vb).set b va = vs7 at hD7 hB7
      clear w7 hva hvb hDa hBa hLa ea hb
      generalize hN7 : swp N pl.length b = N7 at hB7
      have vb7 : N7 pl.length c ≠ 0 := by rw [← hN7]; unfold swp; rw [if_pos rfl]; exact b3
      -- back
      show tSeq _ _ _ _ _
      refine qd_asg (K := K) (te := tCall (spInverse K p) [] E0 _) (d := dC (finv (N7 pl.length c))) (ed_is (ed_call (N7 pl.length c) (eds_cons (ed_var rfl (.int _)) (eds_cons (ed_cell (dD hD7 hB7) rfl (ed_var rfl (.int _)) (ed_var rfl (.int _)) hh hcm) eds_nil)) ?_) ?_) fun v8 H8 e8 r8 => ?_
      · exact True.intro
      · rfl
      obtain rfl := dp_int r8
      replace e7 := e7.trans e8
      replace hD7 := e8 _ _ hD7
      replace hL7 := e8 _ _ hL7
      replace hB7 := hB7.ex e8
      clear e8 r8
      -- rows[here] = ..
      have bt : ∀ {H' : Hp} {vs' : List V} {pl' : List Nat}, H' D0 = some (.lst vs') → H' L0 = some (.lst (plV pl')) → ∀ a ∈ [L0, D0], H' a ≠ none := fun h1 h2 a ha => by
        rcases List.mem_cons.mp ha with z | z
        · rw [z, h2]; exact fun z => nomatch z
        · rw [List.mem_singleton.mp z, h1]; exact fun z => nomatch z
      show tAsg _ _ _ _ _
      refine s_setRow (K := K) (B := [L0, D0]) (j := pl.length) (r := (cellsF m fun j => N7 pl.length j * finv (N7 pl.length c)).map dC) (by simp) (bt hD7 hL7) hD7 hB7 (tab_flat _ _ _) (flat_map (fun a => rfl) _) rfl
        (en_is (en_lc0 (α := Nat) (List.range m) (fun j => dC (N7 pl.length j)) (fun j => dC (N7 pl.length j * finv (N7 pl.length c))) (ei_is (ei_list (ed_row (dD hD7 hB7) rfl (ed_var rfl (.int _)) hh)) (by unfold cellsF; rw [List.map_map]; rfl)) (by rw [List.length_range]; omega) (fun _ _ => rfl) (fun _ => rfl) fun j x' H9 hj e9 rx' => ed_is (ed_opC (ed_opC (ed_var rfl rx') (ed_var rfl (.int _)) (c_mul _ _)) (ed_var rfl (.int _)) p_pos) (by rw [mod_mul])) (by unfold cellsF; rw [List.map_map]; rfl))
        (ed_var rfl (.int _)) (by rw [tab_len]; exact hh) fun vs9 H9 w9 hD9 hB9 => ?_
      have e9 := w9.back e7 nDH
      have hL9 := w9.keep _ _ hL7 (fun z => hDL z.symm)
      rw [tab_set] at hB9
      clear w9 hD7 hB7 hL7 e7
      generalize hN9 : setR N7 pl.length (fun j => N7 pl.length j * finv (N7 pl.length c)) = N9 at hB9
      -- the other rows
      show tSeq _ _ _ _ _
      refine q_forG (K := K) (G := fun _ => True) (eg_rng1 (i := (h' : Int)) (eds_cons (ed_is (ed_lenL (ed_var rfl (dD hD9 hB9))) (by rw [List.length_map, tab_len])) eds_nil) (by omega))
        (fun k σ' H' => Ex H H' ∧ (∃ vs, H' D0 = some (.lst vs) ∧ LB K H' [L0, D0] vs (tabD h' m (elimK N9 pl.length c k))) ∧ H' L0 = some (.lst (plV pl)) ∧
          ∃ x8 x9 x10 x11 x12, σ' = [some (.int (p : Int)), some (.ref D0), some (.int (m : Int)), some (.int (c : Int)), some (.ref L0), some (.ref Lb), some (.int (pl.length : Int)), some (.int ((finv (N7 pl.length c)).val : Int)), x8, x9, x10, x11, x12])
        (fun H10 e10 => ⟨e9.trans e10, ⟨vs9, e10 _ _ hD9, by rw [elimK_zero]; exact hB9.ex e10⟩, e10 _ _ hL9, _, _, _, _, _, rfl⟩) (fun _ _ _ _ _ => True.intro)
        (fun k d x σ' Hc Hd hd ⟨ec, ⟨vsc, hDc, hBc⟩, hLc, y8, y9, y10, y11, y12, hσ⟩ ed rx => ?_) fun σ' Hc ⟨ec, ⟨vsc, hDc, hBc⟩, hLc, y8, y9, y10, y11, y12, hσ⟩ => ?_
      · have hkw : k < h' := by
          have := (List.getElem?_eq_some_iff.mp hd).1
          rw [List.length_map, List.length_range] at this
          omega
        rw [rangeAt (f := fun (k : Nat) => PyData.int (k : Int)) (by omega : k < ((h' : Int)).toNat)] at hd
        obtain rfl := (Option.some.inj hd)
        obtain rfl := dp_int rx
        subst hσ
        replace ec := ec.trans ed
        replace hDc := ed _ _ hDc
        replace hLc := ed _ _ hLc
        replace hBc := hBc.ex ed
        clear ed
        have ekk : elimK N9 pl.length c k k = N9 k := by funext j; unfold elimK; rw [if_neg (by omega)]
        have ekh : elimK N9 pl.length c k pl.length = N9 pl.length := by funext j; unfold elimK; rw [if_neg (by omega)]
        refine qd_asg (K := K) (d := dC (N9 k c)) (ed_is (ed_cell (dD hDc hBc) rfl (ed_var rfl (.int _)) (ed_var rfl (.int _)) hkw hcm) (by rw [ekk])) fun v11 H11 e11 r11 => ?_
        obtain rfl := dp_int r11
        replace ec := ec.trans e11
        replace hDc := e11 _ _ hDc
        replace hLc := e11 _ _ hLc
        replace hBc := hBc.ex e11
        clear e11 r11
        refine s_when (b := decide (k ≠ pl.length) && decide (N9 k c ≠ 0)) (et_and (et_is (KR.et_test (K := K) (ed_neI (ed_var rfl (.int _)) (ed_var rfl (.int _)))) (by
            by_cases z : k = pl.length
            · rw [decide_eq_true (by omega), decide_eq_false (fun q => q z)]; rfl
            · rw [decide_eq_false (by omega), decide_eq_true z]; rfl)) fun _ => et_is (KR.et_test (K := K) (ed_neI (ed_var rfl (.int _)) ed_int)) (by
            rw [dC_zero]
            by_cases z : N9 k c = 0
            · rw [decide_eq_true z, decide_eq_false (fun q => q z)]; rfl
            · rw [decide_eq_false z, decide_eq_true z]; rfl)) (fun hb H12 e12 => ?_) (fun hb H12 e12 => ?_)
        · have hb' : k ≠ pl.length ∧ N9 k c ≠ 0 := by simpa using hb
          replace ec := ec.trans e12
          replace hDc := e12 _ _ hDc
          replace hLc := e12 _ _ hLc
          replace hBc := hBc.ex e12
          clear e12
          refine s_setRow (K := K) (B := [L0, D0]) (j := k) (r := (cellsF m fun j => N9 k j - N9 k c * N9 pl.length j).map dC) (by simp) (bt hDc hLc) hDc hBc (tab_flat _ _ _) (flat_map (fun a => rfl) _) rfl
            (en_is (en_lcP0 (α := Nat) (β := Nat) ((List.range m).zip (List.range m)) (fun j => dC (N9 k j)) (fun j => dC (N9 pl.length j)) (fun q => dC (N9 k q.1 - N9 k c * N9 pl.length q.2))
              (ei_is (ei_zipL (eds_cons (ed_is (ed_row (dD hDc hBc) rfl (ed_var rfl (.int _)) hkw) (d1 := .list ((List.range m).map fun j => dC (N9 k j))) (by rw [ekk]; unfold cellsF; rw [List.map_map]; rfl)) (eds_cons (ed_is (ed_row (dD hDc hBc) rfl (ed_var rfl (.int _)) hh) (d1 := .list ((List.range m).map fun j => dC (N9 pl.length j))) (by rw [ekh]; unfold cellsF; rw [List.map_map]; rfl)) eds_nil))) (zip_data _ _))
              (by rw [List.length_zip, List.length_range]; omega) (fun _ _ => rfl) (fun _ _ => rfl) fun a v' w' H13 ha e13 ra rb => ed_is (ed_opC (ed_op0 (ed_var rfl ra) (ed_opC (ed_var rfl (.int _)) (ed_var rfl rb) (c_mul _ _))) (ed_var rfl (.int _)) p_pos) (by rw [mod_mas])) (by
                rw [zip_self', List.map_map]; unfold cellsF; rw [List.map_map]; rfl))
            (ed_var rfl (.int _)) (by rw [tab_len]; exact hkw) fun vs13 H13 w13 hD13 hB13 => ⟨w13.back ec nDH, ⟨vs13, hD13, ?_⟩, w13.keep _ _ hLc (fun z => hDL z.symm), _, _, _, _, _, rfl⟩
          rw [elimK_step, if_neg hb'.1, ← tab_set]
          exact hB13
        · refine ⟨ec.trans e12, ⟨vsc, e12 _ _ hDc, ?_⟩, e12 _ _ hLc, _, _, _, _, _, rfl⟩
          rw [elimK_step]
          by_cases z : k = pl.length
          · rw [if_pos z]; exact hBc.ex e12
          · rw [if_neg z]
            have z2 : N9 k c = 0 := by
              by_cases z2 : N9 k c = 0
              · exact z2
              · rw [decide_eq_true z, decide_eq_true z2] at hb; cases hb
            have : setR (elimK N9 pl.length c k) k (fun j => N9 k j - N9 k c * N9 pl.length j) = elimK N9 pl.length c k := by
              funext i j
              unfold setR
              by_cases z3 : i = k
              · rw [if_pos z3, z3, ekk, z2]; grind
              · rw [if_neg z3]
            rw [this]
            exact hBc.ex e12
      · subst hσ
        have e14 : ((List.range ((h' : Int)).toNat).map fun (k : Nat) => PyData.int (k : Int)).length = h' := by rw [List.length_map, List.length_range]; omega
        rw [e14, elimK_all] at hBc
        refine sd_app (K := K) (d := .int (c : Int)) hLc rfl (ed_var rfl (.int _)) (by unfold plV; rw [List.length_map]; omega) fun v15 H15 e15 r15 => ?_
        obtain rfl := dp_int r15
        refine ⟨(ec.trans e15).mut nLH, ⟨vsc, by rw [upd_ne hDL]; exact e15 _ _ hDc, ?_⟩, by rw [upd_same]; unfold plV; rw [List.map_append]; rfl, _, _, _, _, _, _, _, _, _, rfl⟩
        have : echOp N pl.length b c = elim N9 pl.length c := by unfold echOp; rw [hN7, hN9]
        show LB K _ _ _ (tabD h' m (echOp N pl.length b c))
        rw [this]
        exact (hBc.ex e15).outer (by simp) (e15 _ _ hLc) (tab_flat _ _ _)
  · -- the end
    subst hσ
    have e14 : ((List.range ((m : Int)).toNat).map fun (k : Nat) => PyData.int (k : Int)).length = m := by rw [List.length_map, List.length_range]; omega
    rw [e14] at hBa hLa
    have E := ech_ok (w := h') (m := m) (M := M) m (Nat.le_refl _)
    have hpl := E.len
    refine sd_ret (K := K) (ed_tup (eds_cons ?_ (eds_cons ?_ eds_nil)) (by show 2 ≤ 100000; decide)) fun v' H4 e4 r' => q v' H4 (ea.trans e4) r'
    · refine ed_is (ed_tupleL (en_lc0 (α := Nat) (List.range (ech h' M m).2.length) (fun i => .list ((cellsF m ((ech h' M m).1 i)).map dC)) (fun i => .tuple ((cellsF m ((ech h' M m).1 i)).map dC)) (ei_is (ei_list (en_to (n := (ech h' M m).2.length) (ed_var rfl (dD hDa hBa)) (ed_is (ed_lenL (ed_var rfl (pl_dp hLa))) (by unfold plD; rw [List.length_map])) rfl).toD) ?_) (by rw [List.length_range]; omega) (fun _ _ => by simp only [flatD]; exact flat_map (fun a => rfl) _) (fun _ => rfl) fun i x H' hi e rx => ed_tupleL (ed_var rfl rx)).toD) ?_
      · unfold tabD
        rw [← List.map_take, ← List.map_take, take_range hpl, List.map_map]; rfl
      · show PyData.tuple _ = tblD _ _ _
        unfold tblD tabD; rw [List.map_map]; rfl
    · exact ed_tupleL (ed_var rfl (pl_dp hLa))
end
end KW
end
section
set_option Elab.async false
set_option linter.all false
set_option maxRecDepth 100000
set_option maxHeartbeats 4000000
/-! Walks: kernel_of. -/
namespace KW
open PySem PySem.Spec PyProof.Rows L2 Evl KR K18 KX
section
variable {P : Program} {w : World} {K : PySem.W.Frag} {mg : Str → Option Value} {base : Heap} {p : Nat} [hp : Pr p]
theorem qd_two {te : TE} {tz : TS} {D : Ends} {σ : L2.St} {H : Hp} {i j : Nat} {d e : PyData} (h : EvD K te σ H (.tuple [d, e])) (k : ∀ v w H1, Ex H H1 → Dp K H1 v d → Dp K H1 w e → tz D ((σ.set i (some v)).set j (some w)) H1) : tSeq (tAsg te (gTwo K i j)) tz D σ H :=
  h H (Ex.refl H) _ fun v H1 e1 r => two_of r fun x y r1 r2 => k x y H1 e1 r1 r2
theorem inV_pl (c : Nat) (pl : List Nat) : inV (.int (c : Int)) (plV pl) = decide (c ∈ pl) := by
  unfold inV plV
  rw [List.any_map]
  induction pl with
  | nil => rfl
  | cons a l ih =>
    rw [List.any_cons, ih]
    show (((a : Int) == (c : Int)) || decide (c ∈ l)) = _
    by_cases h : a = c
    · subst h; simp
    · have : ((a : Int) == (c : Int)) = false := by simp; omega
      rw [this]
      by_cases h2 : c ∈ l
      · simp [h2]
      · simp [h2]; omega
theorem flat_pl (pl : List Nat) : (plV pl).all flatV = true := by
  unfold plV; rw [List.all_map]; simp [flatV]
theorem ed_notInT {ta tb : TE} {σ : L2.St} {H : Hp} {c : Nat} {pl : List Nat} (ha : EvD K ta σ H (.int (c : Int))) (hb : EvD K tb σ H (.tuple (plD pl))) : EvD K (tOp (rIn K true) ta tb) σ H (.bool (decide (c ∉ pl))) := fun H1 e Q q =>
  ha H1 e _ fun v H2 e2 r => hb H2 (e.trans e2) _ fun u H3 e3 s => by
    obtain ⟨a, xs, rfl, hs, hd⟩ := dp_tup s
    obtain rfl := dpA_pl hd
    obtain rfl := dp_int r
    refine ⟨a, plV pl, rfl, .inr hs, rfl, flat_pl pl, q _ H3 (e2.trans e3) ?_⟩
    simp only [if_true]
    rw [inV_pl]
    have : decide (c ∉ pl) = !decide (c ∈ pl) := by by_cases z : c ∈ pl <;> simp [z]
    rw [this]; exact .bl _
theorem mod_neg (a : Fin p) : (-(a.val : Int)) % (p : Int) = ((-a : Fin p).val : Int) := by
  have h := mod_mas (0 : Fin p) a 1
  have h1 : ((1 : Fin p).val : Int) = 1 := by
    have := one_dC (p := p)
    unfold dC at this
    exact (PyData.int.inj this).symm
  have h0 : ((0 : Fin p).val : Int) = 0 := by
    have := zero_dC (p := p)
    unfold dC at this
    exact (PyData.int.inj this).symm
  rw [h1, h0] at h
  have e : (0 : Fin p) - a * 1 = -a := by grind
  rw [e] at h
  rw [← h]
  congr 1
  omega
theorem freeC_step (c : Nat) (pl : List Nat) : freeC (c + 1) pl = if c ∉ pl then freeC c pl ++ [c] else freeC c pl := by
  unfold freeC
  rw [List.range_succ, List.filter_append]
  by_cases h : c ∈ pl
  · rw [if_neg (fun z => z h)]; simp [h]
  · rw [if_pos h]; simp [h]
def kerD (m : Nat) (N : Tb p) (pl : List Nat) (c : Nat) : List PyData := (freeC c pl).map fun c' => .tuple ((cellsF m (tk N pl c' pl.length)).map dC)
theorem kerD_flat (m : Nat) (N : Tb p) (pl : List Nat) (c : Nat) : flatDs (kerD m N pl c) = true := by
  unfold kerD
  exact flat_map (fun a => by simp only [flatD]; exact flat_map (fun a => rfl) _) _
abbrev s_kernel_of : Stmt := topS 14
theorem sc_kernel_of : FnScope ["p", "rows", "wide", "found", "at", "form", "places", "told", "row", "place"] ["p", "rows", "wide"] (defScope s_kernel_of) := ⟨rfl, rfl, rfl, by decide +kernel, rfl, by decide +kernel, by decide +kernel⟩
-- slots 0 p, 1 rows, 2 wide, 3 found, 4 at, 5 form, 6 places, 7 told, 8 row, 9 place
abbrev spKernelOf (K : PySem.W.Frag) (p : Nat) [Pr p] : Sp := spF K (fun a : Nat × Nat × Tb p => [.int (p : Int), tblD a.1 a.2.1 a.2.2, .int (a.2.1 : Int)]) (fun a => 1 ≤ a.1 ∧ a.1 ≤ 6 ∧ 1 ≤ a.2.1 ∧ a.2.1 ≤ 6)
  (fun a => .list ((kerf a.1 a.2.1 a.2.2).map fun t => .tuple ((cellsF a.2.1 t).map dC)))
theorem ok_kernel_of (T : Bt mg) (D : DefAt K mg "kernel_of" s_kernel_of ["p", "rows", "wide"]) (O_echelon : Ok P w K mg base "echelon" ["p", "rows"] 2 (spEchelon K p)) : Ok P w K mg base "kernel_of" ["p", "rows", "wide"] 3 (spKernelOf K p) := by
  refine D.ok sc_kernel_of (spF_len fun _ => rfl) fun f0 cdv A outer s H vs Q E hr h => ?_
  obtain ⟨⟨h', m, M⟩, ⟨hw1, hw2, hm1, hm2⟩, rr, q⟩ := h
  simp only at hw1 hw2 hm1 hm2
  obtain ⟨_, v, _, rfl, r1, r2, r3⟩ := dpA3 rr
  obtain rfl := dp_int r1
  obtain rfl := dp_int r3
  replace r2 : Dp K H v (tblD h' m M) := r2
  refine ⟨_, (pss_cons (ps_asg (pe_ifExp (pt_cmpR op_gt (pe_callB (kLen (K := K) rfl) (by rfl) T.len (by decide +kernel) (pa_cons (pv 1) pa_nil)) pe_int (nomark _)) (pe_ok O_echelon (hr.mono (by decide)) (by rfl) (pa_cons (pv 0) (pa_cons (pv 1) pa_nil))) (pe_tup (pa_cons (pe_tup pa_nil) (pa_cons (pe_tup pa_nil) pa_nil)))) (kpg_two (K := K) (i := 5) (j := 6) rfl rfl sc_kernel_of.nd rfl rfl rfl rfl))
      (pss_cons (ps_set (i := 3) sc_kernel_of.nd rfl (Or.inl rfl) (pe_lst pa_nil))
      (pss_cons (ps_for PassesOwn.never rfl (pi_range1 (by rfl) T.range (pa_cons (pv 2) pa_nil)) (pg_name (i := 4) sc_kernel_of.nd rfl (Or.inl rfl)) (pss_one (ps_if (pt_cmpR (kNotIn (K := K) rfl) (pv 4) (pv 6) rfl) (pss_cons (ps_set (i := 7) sc_kernel_of.nd rfl (Or.inl rfl) (pe_op op_rep (pe_lst (pa_cons pe_int pa_nil)) (pv 2)))
      (pss_cons (ps_asg pe_int (pg_sub (pv 7) (pv 4) set_list))
      (pss_cons (ps_for PassesOwn.never rfl (kpi_zipA (K := K) rfl (by rfl) T.zip (pa_cons (pv 5) (pa_cons (pv 6) pa_nil))) (kpg_two (K := K) (i := 8) (j := 9) rfl rfl sc_kernel_of.nd rfl rfl rfl rfl) (pss_one (ps_asg (pe_op op_mod (pe_un un_neg (pe_ix (kIx (K := K) rfl) (pv 8) (pv 4) (fun _ _ => rfl))) (pv 0)) (pg_sub (pv 7) (pv 9) set_list))))
      (pss_one (ps_expr (pe_bm PySem.F.plainAttrs_list PySem.F.slot_list_append PySem.F.type_list_append mt_append (pv 3) (pa_cons (pe_callTy (kTuple (K := K) rfl) (by rfl) T.tuple (by decide +kernel) (pa_cons (pv 7) pa_nil)) pa_nil))))))) pss_nil)))
      (pss_one (ps_ret (pv 3)))))), ?_⟩
  have E := ech_ok (w := h') (m := m) (M := M) m (Nat.le_refl _)
  have hker : (kerf h' m M).map (fun t => PyData.tuple ((cellsF m t).map dC)) = kerD m (ech h' M m).1 (ech h' M m).2 m := by
    unfold kerf kerD; rw [List.map_map]; rfl
  replace q : ∀ v' H', Ex H H' → Dp K H' v' (.list (kerD m (ech h' M m).1 (ech h' M m).2 m)) → Q v' H' := fun v' H' e r => q v' H' e (by show Dp K H' v' (.list ((kerf h' m M).map _)); rw [hker]; exact r)
  refine qd_two (K := K) (d := tblD (ech h' M m).2.length m (ech h' M m).1) (e := .tuple (plD (ech h' M m).2)) (ed_if (b := true) (et_is (KR.et_test (K := K) (ed_opB (ed_lenT (ed_var rfl r2)) ed_int)) ?_) (fun _ => ?_) (fun z => nomatch z)) fun x y H1 e1 rx ry => ?_
  · rw [List.length_map, tab_len]; exact decide_eq_true (by omega)
  · exact ed_is (ed_call (h', m, M) (eds_cons (ed_var rfl (.int _)) (eds_cons (ed_var rfl r2) eds_nil)) ⟨hw1, hw2, hm1, hm2⟩) rfl
  clear hker
  generalize ech h' M m = st at E q rx ry
  obtain ⟨N, pl⟩ := st
  simp only at E q rx ry
  have hpl := E.len
  refine qn_asg (K := K) (ds := []) (en_lst eds_nil (by decide)) fun F0 xs H2 nF e2 hF rF => ?_
  cases rF
  have nFH : H F0 = none := fresh_back e1 nF
  have rx2 := dp_ex e2 _ _ rx
  have ry2 := dp_ex e2 _ _ ry
  have e02 := e1.trans e2
  refine q_forG (K := K) (G := fun _ => True) (eg_rng1 (eds_cons (ed_var rfl (.int (m : Int))) eds_nil) (by omega))
    (fun c σ' H' => Ex H1 H' ∧ (∃ vs, H' F0 = some (.lst vs) ∧ DpAll K H' vs (kerD m N pl c)) ∧ ∃ x4 x7 x8 x9, σ' = [some (.int (p : Int)), some v, some (.int (m : Int)), some (.ref F0), x4, some x, some y, x7, x8, x9])
    (fun H3 e3 => ⟨e2.trans e3, ⟨[], e3 _ _ hF, .nil⟩, none, none, none, none, rfl⟩) (fun _ _ _ _ _ => True.intro)
    (fun c d z σ' Ha Hb hd ⟨ea, ⟨vs, hFa, hva⟩, x4, x7, x8, x9, hσ⟩ eb rz => ?_) fun σ' Ha ⟨ea, ⟨vs, hFa, hva⟩, x4, x7, x8, x9, hσ⟩ => ?_
  · have hcm : c < m := by
      have := (List.getElem?_eq_some_iff.mp hd).1
      rw [List.length_map, List.length_range] at this
      omega
    rw [rangeAt (f := fun (k : Nat) => PyData.int (k : Int)) (by omega : c < ((m : Int)).toNat)] at hd
    obtain rfl := (Option.some.inj hd)
    obtain rfl := dp_int rz
    subst hσ
    replace ea := ea.trans eb
    replace hFa := eb _ _ hFa
    replace hva := dpA_ex eb _ _ hva
    clear eb
    refine s_when (b := decide (c ∉ pl)) (KR.et_test (K := K) (ed_notInT (ed_var rfl (.int _)) (ed_var rfl (dp_ex ea _ _ ry)))) (fun hb H3 e3 => ?_) (fun hb H3 e3 => ?_)
    · have hcp : c ∉ pl := of_decide_eq_true hb
      replace ea := ea.trans e3
      replace hFa := e3 _ _ hFa
      replace hva := dpA_ex e3 _ _ hva
      clear e3
      refine qn_asg (K := K) (ds := (cellsF m fun _ => (0 : Fin p)).map dC) (en_is (en_rep1 (en_lst (eds_cons ed_int eds_nil) (by decide)) (ed_var rfl (.int (m : Int))) (by omega)) (by rw [← rep_dC, Int.toNat_natCast])) fun T0 xs H4 nT e4 hT rT => ?_
      obtain rfl := dpA_cells rT
      have nT1 : H1 T0 = none := fresh_back ea nT
      have hTF : F0 ≠ T0 := ne_of_none hFa nT
      replace ea := ea.trans e4
      replace hFa := e4 _ _ hFa
      replace hva := dpA_ex e4 _ _ hva
      clear e4 nT
      show tAsg _ _ _ _ _
      refine sd_setL (K := K) (d := dC (1 : Fin p)) (j := c) hT (ed_is ed_int one_dC) rfl (ed_var rfl (.int _)) (by rw [cells_len]; exact hcm) fun v5 H5 e5 r5 => ?_
      obtain rfl := dp_int r5
      rw [cells_set]
      have hfl := kerD_flat m N pl c
      have ea5 : Ex H1 (upd H5 T0 (.lst (cells m fun k => if k = c then (1 : Fin p) else 0))) := (ea.trans e5).mut nT1
      have hF5 : (upd H5 T0 (.lst (cells m fun k => if k = c then (1 : Fin p) else 0))) F0 = some (.lst vs) := by rw [upd_ne hTF]; exact e5 _ _ hFa
      have hv5 : DpAll K (upd H5 T0 (.lst (cells m fun k => if k = c then (1 : Fin p) else 0))) vs (kerD m N pl c) := dpA_exT (exT_lst (e5 _ _ hT)) _ _ hfl (dpA_ex e5 _ _ hva)
      have hT5 : (upd H5 T0 (.lst (cells m fun k => if k = c then (1 : Fin p) else 0))) T0 = some (.lst (cells m (tk N pl c 0))) := by rw [upd_same]; rfl
      generalize upd H5 T0 (.lst (cells m fun k => if k = c then (1 : Fin p) else 0)) = H6 at ea5 hF5 hv5 hT5
      clear ea hFa hva hT e5
      have hz : List.zipWith (fun a b => PyData.tuple [a, b]) ((tabD pl.length m N).map .tuple) (plD pl) = (List.range pl.length).map fun n => .tuple [.tuple ((cellsF m (N n)).map dC), .int ((pl.getD n 0 : Nat) : Int)] := by
        refine List.ext_getElem? fun n => ?_
        rw [List.getElem?_zipWith, List.getElem?_map]
        by_cases hn : n < pl.length
        · have hpn : pl[n]? = some (pl.getD n 0) := by rw [List.getD_eq_getElem?_getD, List.getElem?_eq_getElem hn]; rfl
          rw [tab_at hn, List.getElem?_map, List.getElem?_range hn]
          unfold plD
          rw [List.getElem?_map, hpn]; rfl
        · have h2 : (List.range pl.length)[n]? = none := List.getElem?_eq_none (by rw [List.length_range]; omega)
          have h3 : (tabD pl.length m N)[n]? = none := List.getElem?_eq_none (by rw [tab_len]; omega)
          rw [h3, List.getElem?_map, h2]; rfl
      show tSeq _ _ _ _ _
      refine q_forG (K := K) (G := Ex H1) (ds := (List.range pl.length).map fun n => .tuple [.tuple ((cellsF m (N n)).map dC), .int ((pl.getD n 0 : Nat) : Int)]) (hz ▸ eg_zipT (k := 5) (l := 6) rfl rfl (dp_ex ea5 _ _ rx) (dp_ex ea5 _ _ ry) fun H3 g3 => ⟨dp_ex g3 _ _ rx, dp_ex g3 _ _ ry⟩)
        (fun n σ' H' => Ex H1 H' ∧ (H' F0 = some (.lst vs) ∧ DpAll K H' vs (kerD m N pl c)) ∧ H' T0 = some (.lst (cells m (tk N pl c n))) ∧ ∃ x8 x9, σ' = [some (.int (p : Int)), some v, some (.int (m : Int)), some (.ref F0), some (.int (c : Int)), some x, some y, some (.ref T0), x8, x9])
        (fun H7 e7 => ⟨ea5.trans e7, ⟨e7 _ _ hF5, dpA_ex e7 _ _ hv5⟩, e7 _ _ hT5, _, _, rfl⟩) (fun _ _ _ _ h => h.1)
        (fun n d z σ' Hc Hd hd2 ⟨ec, ⟨hFc, hvc⟩, hTc, y8, y9, hσ⟩ ed rz2 => ?_) fun σ' Hc ⟨ec, ⟨hFc, hvc⟩, hTc, y8, y9, hσ⟩ => ?_
      · have hn : n < pl.length := by
          have := (List.getElem?_eq_some_iff.mp hd2).1
          rw [List.length_map, List.length_range] at this
          exact this
        rw [rangeAt hn] at hd2
        obtain rfl := (Option.some.inj hd2)
        subst hσ
        have hpn : pl[n]? = some (pl.getD n 0) := by rw [List.getD_eq_getElem?_getD, List.getElem?_eq_getElem hn]; rfl
        have hlt := E.lt n _ hpn
        refine two_of rz2 fun y1 y2 ry1 ry2' => ?_
        obtain rfl := dp_int ry2'
        refine sd_setL (K := K) (d := dC (- N n c)) (j := pl.getD n 0) (ed _ _ hTc) (ed_is (ed_opC (ed_neg (ed_ixT (k := c) (ed_var rfl ry1) (ed_var rfl (.int (c : Int))) rfl (cell_at hcm))) (ed_var rfl (.int _)) p_pos) (by rw [mod_neg])) rfl (ed_var rfl (.int _)) (by rw [cells_len]; exact hlt) fun v8 H8 e8 r8 => ?_
        obtain rfl := dp_int r8
        rw [cells_set]
        refine ⟨((ec.trans ed).trans e8).mut nT1, ⟨by rw [upd_ne hTF]; exact e8 _ _ (ed _ _ hFc), dpA_exT (exT_lst (e8 _ _ (ed _ _ hTc))) _ _ hfl (dpA_ex (ed.trans e8) _ _ hvc)⟩, ?_, _, _, rfl⟩
        rw [upd_same]
        congr 3
        funext j
        show (if j = pl.getD n 0 then - N n c else tk N pl c n j) = if some j = pl[n]? then - N n c else tk N pl c n j
        rw [hpn]
        by_cases z : j = pl.getD n 0
        · rw [if_pos z, if_pos (by rw [z])]
        · rw [if_neg z, if_neg (fun q => z (Option.some.inj q))]
      · subst hσ
        have e14 : ((List.range pl.length).map fun n => PyData.tuple [.tuple ((cellsF m (N n)).map dC), .int ((pl.getD n 0 : Nat) : Int)]).length = pl.length := by rw [List.length_map, List.length_range]
        rw [e14] at hTc
        have lk : vs.length ≤ 6 := by
          rw [dpA_len hvc]
          unfold kerD freeC
          rw [List.length_map]
          exact Nat.le_trans (List.length_filter_le _ _) (by rw [List.length_range]; omega)
        refine sd_app (K := K) (d := .tuple ((cellsF m (tk N pl c pl.length)).map dC)) hFc rfl (ed_tupleL (ed_var rfl (cells_lst hTc))) (by omega) fun v9 H9 e9 r9 => ?_
        refine ⟨(ec.trans e9).mut nF, ⟨_, upd_same, ?_⟩, _, _, _, _, rfl⟩
        unfold kerD
        rw [freeC_step, if_pos hcp, List.map_append]
        exact dpA_app (dpA_exT (exT_lst (e9 _ _ hFc)) _ _ hfl (dpA_ex e9 _ _ hvc)) (.cons (dp_exT (exT_lst (e9 _ _ hFc)) _ _ (by simp only [flatD]; exact flat_map (fun a => rfl) _) r9) .nil)
    · have hcp : ¬ c ∉ pl := of_decide_eq_false hb
      refine ⟨ea.trans e3, ⟨vs, e3 _ _ hFa, ?_⟩, _, _, _, _, rfl⟩
      unfold kerD
      rw [freeC_step, if_neg hcp]
      exact dpA_ex e3 _ _ hva
  · subst hσ
    have e14 : ((List.range ((m : Int)).toNat).map fun (k : Nat) => PyData.int (k : Int)).length = m := by rw [List.length_map, List.length_range]; omega
    rw [e14] at hva
    exact sd_ret (K := K) (ed_var rfl (.lst (sq_of hFa) hva)) fun v' H4 e4 r' => q v' H4 ((e1.trans ea).trans e4) r'
end
end KW
end
section
set_option Elab.async false
set_option linter.all false
set_option maxRecDepth 100000
set_option maxHeartbeats 4000000
/-! Walks: exchanged. -/
namespace KW
open PySem PySem.Spec PyProof.Rows L2 Evl KR K18 KX
section
variable {P : Program} {w : World} {K : PySem.W.Frag} {mg : Str → Option Value} {base : Heap} {p : Nat} [hp : Pr p]
theorem dpA_mk {H : Hp} : ∀ {vs : List V} {ds : List PyData}, vs.length = ds.length → (∀ (i : Nat) v d, vs[i]? = some v → ds[i]? = some d → Dp K H v d) → DpAll K H vs ds
  | [], [], _, _ => .nil
  | v :: vs, d :: ds, hl, h => .cons (h 0 v d rfl rfl) (dpA_mk (by simpa using hl) fun i u e h1 h2 => h (i + 1) u e (by simpa using h1) (by simpa using h2))
  | [], _ :: _, hl, _ => by simp at hl
  | _ :: _, [], hl, _ => by simp at hl
theorem rows_of {H : Hp} {n : Nat} {M : Tb p} : ∀ {xs : List V} {l : List Nat}, DpAll K H xs (l.map fun i => PyData.tuple ((cellsF n (M i)).map dC)) →
    ∃ rs : List (Addr × List V), xs = rs.map (fun r => V.ref r.1) ∧ rs.map (fun r => r.2) = l.map (fun i => cells n (M i)) ∧ ∀ r ∈ rs, SqT K H r.1 r.2
  | _, [], .nil => ⟨[], rfl, rfl, fun r hr => by simp at hr⟩
  | _, i :: l, .cons h t => by
    obtain ⟨rs, e1, e2, e3⟩ := rows_of t
    obtain ⟨a, ys, rfl, h1, h2⟩ := dp_tup h
    obtain rfl := dpA_cells h2
    exact ⟨(a, cells n (M i)) :: rs, by rw [e1]; rfl, by rw [List.map_cons, e2]; rfl, fun r hr => by
      rcases List.mem_cons.mp hr with e | hr
      · subst e; exact h1
      · exact e3 r hr⟩
theorem cells_getD {n j : Nat} {c : Nat → Fin p} (h : j < n) : (cells n c).getD j .non = .int ((c j).val : Int) := by
  unfold cells
  rw [List.getD_eq_getElem?_getD, List.getElem?_map, List.getElem?_range h]; rfl
theorem ed_zipS {te : TE} {σ : L2.St} {H : Hp} {h n : Nat} {M : Tb p} (h1 : 1 ≤ h) (h3 : h ≤ 3) (n1 : 1 ≤ n) (n2 : n ≤ 1000) (ha : EvD K te σ H (.list ((tabD h n M).map .tuple))) :
    EvD K (KV.tZipS K te) σ H (tblD n h fun j i => M i j) := fun H1 e Q q => ha H1 e _ fun v H2 e2 r => by
  obtain ⟨a, xs, rfl, hs, hd⟩ := dp_lst r
  have hd' : DpAll K H2 xs ((List.range h).map fun i => PyData.tuple ((cellsF n (M i)).map dC)) := by
    have : (tabD h n M).map PyData.tuple = (List.range h).map fun i => PyData.tuple ((cellsF n (M i)).map dC) := by unfold tabD; rw [List.map_map]; rfl
    rw [← this]; exact hd
  obtain ⟨rs, e3, e4, e5⟩ := rows_of hd'
  have hlen : rs.length = h := by
    have := congrArg List.length e4
    simpa using this
  refine ⟨a, rs, n, rfl, .inr (by rw [← e3]; exact hs), fun r hr => ⟨e5 r hr, ?_⟩, by omega, by omega, n1, n2, fun H3 pp as ex hpp hal hat => ?_⟩
  · have : r.2 ∈ rs.map (fun r => r.2) := List.mem_map_of_mem hr
    rw [e4] at this
    obtain ⟨i, _, hi⟩ := List.mem_map.mp this
    rw [← hi, cells_len]
  · refine q _ H3 (e2.trans ex) (.tup (SqT.of hpp) (dpA_mk ?_ fun j v d hv hd => ?_))
    · rw [List.length_map, hal, List.length_map, tab_len]
    · have hj : j < n := by
        have := (List.getElem?_eq_some_iff.mp hv).1
        rw [List.length_map, hal] at this; exact this
      obtain ⟨b, hb1, hb2⟩ := hat j hj
      rw [List.getElem?_map, hb1] at hv
      obtain rfl : v = V.ref b := (Option.some.inj hv).symm
      rw [List.getElem?_map, tab_at hj] at hd
      obtain rfl := Option.some.inj hd
      have : (rs.map fun r => r.2.getD j .non) = cells h fun i => M i j := by
        have e6 : (rs.map fun r => r.2.getD j .non) = (rs.map fun r => r.2).map fun l => l.getD j .non := by rw [List.map_map]; rfl
        rw [e6, e4, List.map_map]
        unfold cells
        exact List.map_congr_left fun i _ => cells_getD hj
      rw [this] at hb2
      exact .tup (SqT.of hb2) (cells_dp _ _)
abbrev s_exchanged : Stmt := topS 12
theorem sc_exchanged : FnScope ["rows"] ["rows"] (defScope s_exchanged) := ⟨rfl, rfl, rfl, by decide +kernel, rfl, by decide +kernel, by decide +kernel⟩
-- slots 0 rows
abbrev spExchanged (K : PySem.W.Frag) (p : Nat) [Pr p] : Sp := spF K (fun a : Nat × Nat × Tb p => [.list ((tabD a.1 a.2.1 a.2.2).map .tuple)]) (fun a => 1 ≤ a.1 ∧ a.1 ≤ 3 ∧ 1 ≤ a.2.1 ∧ a.2.1 ≤ 1000)
  (fun a => tblD a.2.1 a.1 fun j i => a.2.2 i j)
theorem ok_exchanged (T : Bt mg) (D : DefAt K mg "exchanged" s_exchanged ["rows"]) : Ok P w K mg base "exchanged" ["rows"] 1 (spExchanged K p) := by
  refine D.ok sc_exchanged (spF_len fun _ => rfl) fun f0 cdv A outer s H vs Q E hr h => ?_
  obtain ⟨⟨h', m, M⟩, ⟨a1, a2, a3, a4⟩, rr, q⟩ := h
  simp only at a1 a2 a3 a4
  obtain ⟨v, rfl, r1⟩ := dpA1 rr
  replace r1 : Dp K H v (.list ((tabD h' m M).map .tuple)) := r1
  refine ⟨_, (pss_one (ps_ret (KV.kpe_zipstar (K := K) rfl rfl (by rfl) T.tuple (by rfl) T.zip (pv 0)))), ?_⟩
  exact sd_ret (K := K) (ed_zipS a1 a2 a3 a4 (ed_var rfl r1)) fun v1 H1 e1 rv => q v1 H1 e1 rv
end
end KW
end
section
set_option Elab.async false
set_option linter.all false
set_option maxRecDepth 100000
set_option maxHeartbeats 4000000
/-! Walks: the class Worker. -/
namespace KW
open PySem PySem.Spec PyProof.Rows L2 Evl KR K18 KX
section math
variable {p : Nat} [hp : Pr p]
/-- a table of polynomials as data: n rows of w -/
def rowP (w : Nat) (r : Nat → Po p) : List PyData := (List.range w).map fun j => dP (r j)
def tabP (n w : Nat) (R : PT p) : List (List PyData) := (List.range n).map fun i => rowP w (R i)
theorem rowP_len (w : Nat) (r : Nat → Po p) : (rowP w r).length = w := by unfold rowP; rw [List.length_map, List.length_range]
theorem tabP_len (n w : Nat) (R : PT p) : (tabP n w R).length = n := by unfold tabP; rw [List.length_map, List.length_range]
theorem rowP_at {w j : Nat} {r : Nat → Po p} (h : j < w) : (rowP w r)[j]? = some (dP (r j)) := by
  unfold rowP; rw [List.getElem?_map, List.getElem?_range h]; rfl
theorem tabP_at {n w i : Nat} {R : PT p} (h : i < n) : (tabP n w R)[i]? = some (rowP w (R i)) := by
  unfold tabP; rw [List.getElem?_map, List.getElem?_range h]; rfl
theorem rowP_flat (w : Nat) (r : Nat → Po p) : flatDs (rowP w r) = true := flat_map (fun j => flat_dP _) _
theorem tabP_flat (n w : Nat) (R : PT p) : FlatRows (tabP n w R) := fun r hr => by
  obtain ⟨i, _, rfl⟩ := List.mem_map.mp hr
  exact rowP_flat w _
theorem tabP_set {n w a : Nat} {R R' : PT p} {r : Nat → Po p} (h : ∀ i j, i < n → j < w → R' i j = if i = a then r j else R i j) : (tabP n w R).set a (rowP w r) = tabP n w R' := by
  refine List.ext_getElem? fun k => ?_
  by_cases hk : k < n
  · rw [tabP_at hk]
    by_cases e : a = k
    · subst e
      rw [List.getElem?_set_self (by rw [tabP_len]; exact hk)]
      exact congrArg some (List.map_congr_left fun j hj => by rw [h a j hk (List.mem_range.mp hj), if_pos rfl])
    · rw [List.getElem?_set_ne e, tabP_at hk]
      exact congrArg some (List.map_congr_left fun j hj => by rw [h k j hk (List.mem_range.mp hj), if_neg fun z => e z.symm])
  · rw [List.getElem?_eq_none (by rw [List.length_set, tabP_len]; omega), List.getElem?_eq_none (by rw [tabP_len]; omega)]
theorem dM_unit (n : Nat) : dM (punit (p := p) n) = .tuple ((tabP n n (unitT : PT p)).map .tuple) := by
  unfold dM punit tabP
  rw [List.map_map, List.map_map]
  refine congrArg PyData.tuple (List.map_congr_left fun i _ => ?_)
  show dR _ = PyData.tuple _
  unfold dR rowP
  rw [List.map_map]
  rfl
end math
section
variable {P : Program} {w : World} {K : PySem.W.Frag} {mg : Str → Option Value} {base : Heap} {p : Nat} [hp : Pr p]
/-- what the top has made of the class -/
structure ClsT (K : PySem.W.Frag) (C : Addr) : Prop where
  cl : Cls K C
  nP : NoAttr K C "p"
  nR : NoAttr K C "rows"
  nL : NoAttr K C "left"
def wflds (p : Nat) (a b : Addr) : List (Str × V) := [("p", .int (p : Int)), ("rows", .ref a), ("left", .ref b)]
theorem tabP_tup (n w : Nat) (R : PT p) : (tabP n w R).map PyData.tuple = (List.range n).map fun i => .tuple (rowP w (R i)) := by unfold tabP; rw [List.map_map]; rfl
theorem tabP_lst (n w : Nat) (R : PT p) : (tabP n w R).map PyData.list = (List.range n).map fun i => .list (rowP w (R i)) := by unfold tabP; rw [List.map_map]; rfl
/-- a worker at x: its tables at a, b -/
structure WS (K : PySem.W.Frag) (p : Nat) (C : Addr) (H : Hp) (x dx a b : Addr) (R L : List (List PyData)) : Prop where
  ins : H x = some (.ins C dx (wflds p a b))
  rows : ∃ va, H a = some (.lst va) ∧ LB K H [x, a, b] va R
  left : ∃ vb, H b = some (.lst vb) ∧ LB K H [x, a, b] vb L
  ne : a ≠ b
theorem WS.ex {C : Addr} {H H' : Hp} {x dx a b : Addr} {R L : List (List PyData)} (e : Ex H H') (W : WS K p C H x dx a b R L) : WS K p C H' x dx a b R L := by
  obtain ⟨va, h1, h2⟩ := W.rows
  obtain ⟨vb, h3, h4⟩ := W.left
  exact ⟨e _ _ W.ins, ⟨va, e _ _ h1, h2.ex e⟩, ⟨vb, e _ _ h3, h4.ex e⟩, W.ne⟩
section
variable {C : Addr} {H : Hp} {σ : L2.St} {x dx a b : Addr} {R L : List (List PyData)} {k : Nat} {te tb tv : TE} {D : Ends} {tz : TS}
theorem WS.xa (W : WS K p C H x dx a b R L) : x ≠ a := fun e => by
  obtain ⟨va, h1, _⟩ := W.rows
  have := W.ins
  rw [e, h1] at this; cases this
theorem WS.xb (W : WS K p C H x dx a b R L) : x ≠ b := fun e => by
  obtain ⟨va, h1, _⟩ := W.left
  have := W.ins
  rw [e, h1] at this; cases this
theorem WS.dpR (W : WS K p C H x dx a b R L) : Dp K H (.ref a) (.list (R.map .list)) := by
  obtain ⟨va, h1, h2⟩ := W.rows
  exact .lst (sq_of h1) h2.dp
theorem WS.dpL (W : WS K p C H x dx a b R L) : Dp K H (.ref b) (.list (L.map .list)) := by
  obtain ⟨va, h1, h2⟩ := W.left
  exact .lst (sq_of h1) h2.dp
theorem ev_fldP (T : ClsT K C) (W : WS K p C H x dx a b R L) (hk : σ[k]? = some (some (.ref x))) : EvD K (tFld K (tVar k) "p") σ H (.int (p : Int)) := fun H1 e Q q =>
  ⟨.ref x, hk, x, C, dx, _, .int (p : Int), rfl, e _ _ W.ins, T.cl, T.nP, rfl, q _ H1 (Ex.refl _) (.int _)⟩
theorem ev_fldR (T : ClsT K C) (W : WS K p C H x dx a b R L) (hk : σ[k]? = some (some (.ref x))) : Ev (tFld K (tVar k) "rows") σ H (.ref a) := fun H1 e Q q =>
  ⟨.ref x, hk, x, C, dx, _, .ref a, rfl, e _ _ W.ins, T.cl, T.nR, rfl, q H1 (Ex.refl _)⟩
theorem ev_fldL (T : ClsT K C) (W : WS K p C H x dx a b R L) (hk : σ[k]? = some (some (.ref x))) : Ev (tFld K (tVar k) "left") σ H (.ref b) := fun H1 e Q q =>
  ⟨.ref x, hk, x, C, dx, _, .ref b, rfl, e _ _ W.ins, T.cl, T.nL, rfl, q H1 (Ex.refl _)⟩
theorem ed_ev {v : V} {d : PyData} (h : Ev te σ H v) (r : Dp K H v d) : EvD K te σ H d := fun H1 e Q q => h H1 e Q fun H2 e2 => q v H2 e2 (dp_ex (e.trans e2) _ _ r)
theorem ed_fldR (T : ClsT K C) (W : WS K p C H x dx a b R L) (hk : σ[k]? = some (some (.ref x))) : EvD K (tFld K (tVar k) "rows") σ H (.list (R.map .list)) := ed_ev (ev_fldR T W hk) W.dpR
theorem ed_fldL (T : ClsT K C) (W : WS K p C H x dx a b R L) (hk : σ[k]? = some (some (.ref x))) : EvD K (tFld K (tVar k) "left") σ H (.list (L.map .list)) := ed_ev (ev_fldL T W hk) W.dpL
/-- a new list of new lists, none of them at B -/
def EvLB (K : PySem.W.Frag) (te : TE) (σ : L2.St) (H : Hp) (B : List Addr) (rows : List (List PyData)) : Prop := ∀ Q : VK, (∀ Dl vs H2, H Dl = none → Ex H H2 → H2 Dl = some (.lst vs) → LB K H2 (Dl :: B) vs rows → Q (.ref Dl) H2) → te σ H Q
theorem _root_.KX.LB.snoc {H : Hp} {B : List Addr} {vs : List V} {rows : List (List PyData)} {q : Addr} {xs : List V} {r : List PyData} (h : LB K H B vs rows) (hq : q ∉ B) (hx : H q = some (.lst xs)) (hr : DpAll K H xs r) : LB K H B (vs ++ [.ref q]) (rows ++ [r]) := by
  refine ⟨by rw [List.length_append, List.length_append, h.1] <;> rfl, fun k s hk => ?_⟩
  by_cases hki : k < rows.length
  · rw [List.getElem?_append_left hki] at hk
    obtain ⟨p', xs', h1, h2, h3, h4⟩ := h.2 k s hk
    exact ⟨p', xs', by rw [List.getElem?_append_left (by rw [h.1]; exact hki)]; exact h1, h2, h3, h4⟩
  · rw [List.getElem?_append_right (by omega)] at hk
    have hk0 : k - rows.length = 0 := by
      by_cases z : k - rows.length = 0
      · exact z
      · rw [List.getElem?_eq_none (by simp; omega)] at hk; cases hk
    rw [hk0] at hk
    obtain rfl : r = s := Option.some.inj hk
    exact ⟨q, xs, by rw [List.getElem?_append_right (by rw [h.1]; omega), h.1, hk0]; rfl, hq, hx, hr⟩
theorem elb_lc {σ : L2.St} {H : Hp} {wi : TI} {te : TE} {α : Type} {j : Nat} {vs : List Nat} {B : List Addr} (hB : ∀ a ∈ B, H a ≠ none) (xs : List α) (em : α → PyData) (out : α → List PyData) (hI : EvI K wi σ H (xs.map em)) (hn : xs.length ≤ 50000) (hf : ∀ a ∈ xs, flatDs (out a) = true)
    (hw : ∀ x, wipe ((wipe σ vs).set j (some x)) vs = wipe σ vs)
    (he : ∀ a v H', a ∈ xs → Ex H H' → Dp K H' v (em a) → EvN K te ((wipe σ vs).set j (some v)) H' (out a)) :
    EvLB K (tLc wi (gName j) tYes te vs) σ H B (xs.map out) := fun Q q => hI H (Ex.refl H) _ fun J H1 e1 it Dl hD => by
  refine ⟨fun i m H' => m = xs.length - i ∧ i ≤ xs.length ∧ Ex H1 H' ∧ ∃ acc, H' Dl = some (.lst acc) ∧ LB K H' (Dl :: B) acc ((xs.take i).map out), ⟨xs.length, by omega, Nat.zero_le _, Ex.new hD, [], upd_same, rfl, fun i r h => by simp at h⟩, ?_⟩
  rintro i m H' ⟨rfl, hi, e2, acc, hacc, hr⟩
  by_cases hlt : i < xs.length
  · have hlt' : i < (xs.map em).length := by rw [List.length_map]; exact hlt
    refine .inr ⟨it.go i H' e2 hlt', fun H'' => i + 1 ≤ xs.length ∧ Ex H1 H'' ∧ ∃ acc, H'' Dl = some (.lst acc) ∧ LB K H'' (Dl :: B) acc ((xs.take (i + 1)).map out), fun H'' ⟨h1, h2, h3⟩ => ⟨_, by omega, rfl, h1, h2, h3⟩, fun x H3 hy => ?_⟩
    obtain ⟨e3, d, hd, rd⟩ := it.yld i H' x H3 e2 hlt' hy
    obtain ⟨a, ha, rfl, hm⟩ := mapAt hd
    have len1 : acc.length = i := by
      rw [hr.1, List.length_map, List.length_take]; omega
    have e03 : Ex H H3 := (e1.trans e2).trans e3
    refine ⟨hw x, he a x H3 hm e03 rd H3 (Ex.refl _) _ fun p ys H6 hp e6 h6 r6 => ?_⟩
    have s1 : Ex H' H6 := e3.trans e6
    have hD3 : H3 Dl = some (.lst acc) := e3 _ _ hacc
    have hne : p ∉ Dl :: B := fun z => by
      rcases List.mem_cons.mp z with z | z
      · rw [z, hD3] at hp; cases hp
      · cases e : H p with
        | none => exact hB p z e
        | some o => rw [e03 _ _ e] at hp; cases hp
    refine ⟨acc, s1 _ _ hacc, sz_lt (by omega), by omega, Ex.mut (e2.trans s1) hD, acc ++ [.ref p], upd_same, ?_⟩
    have fr : FlatRows ((xs.take i).map out ++ [out a]) := fun r hr => by
      rcases List.mem_append.mp hr with hr | hr
      · obtain ⟨b, hb, rfl⟩ := List.mem_map.mp hr
        exact hf b (List.mem_of_mem_take hb)
      · obtain rfl := List.mem_singleton.mp hr
        exact hf a hm
    rw [take_at ha, List.map_append]
    exact ((hr.ex s1).snoc hne h6 r6).outer (List.mem_cons_self ..) (s1 _ _ hacc) fr
  · refine .inl ⟨?_, ?_⟩
    · exact it.stop H' e2 |> fun z => by
        have : xs.length = i := by omega
        rw [List.length_map, this] at z; exact z
    · have : xs.length = i := by omega
      rw [← this, List.take_length] at hr
      exact q Dl acc H' (by cases e : H Dl with | none => rfl | some o => rw [e1 _ _ e] at hD; cases hD) (e1.trans (Ex.trans (fun _ _ h => h) e2)) hacc hr
/-- x.f = a new list of new lists -/
theorem s_fldLL {f : Str} {fs : List (Str × V)} {rows : List (List PyData)} {B : List Addr} (hx : H x = some (.ins C dx fs)) (hxB : x ∈ B) (hk : σ[k]? = some (some (.ref x))) (c : Cls K C) (n : NoAttr K C f) (hl : fs.length < 1000) (fr : FlatRows rows) (h : EvLB K tv σ H B rows)
    (q : ∀ Da vs H', H Da = none → (∀ c o, H c = some o → c ≠ x → H' c = some o) → H' x = some (.ins C dx (putF f (.ref Da) fs)) → H' Da = some (.lst vs) → LB K H' (Da :: B) vs rows → D.nx σ H') : sFld K (tVar k) tv f D σ H :=
  h _ fun Da vs H1 nD e1 hD hL => by
    have hx1 := e1 _ _ hx
    have hxD : Da ≠ x := fun z => by rw [z, hx] at nD; cases nD
    refine ⟨.ref x, hk, x, C, dx, fs, rfl, hx1, c, n, hl, q Da vs _ nD (fun c o hc hne => by rw [upd_ne hne]; exact e1 _ _ hc) upd_same (by rw [upd_ne hxD]; exact hD) ?_⟩
    refine hL.flat fr (fun q o hq _ n2 _ => ?_) fun q o hq hb => ?_
    · have hne : q ≠ x := fun z => by rw [z, hx1] at hq; exact n2 _ _ _ (Option.some.inj hq).symm
      rw [upd_ne hne]; exact hq
    · have hne : q ≠ x := fun z => hb (by rw [z]; exact List.mem_cons_of_mem _ hxB)
      rw [upd_ne hne]; exact hq
theorem q_fldLL {f : Str} {fs : List (Str × V)} {rows : List (List PyData)} {B : List Addr} (hx : H x = some (.ins C dx fs)) (hxB : x ∈ B) (hk : σ[k]? = some (some (.ref x))) (c : Cls K C) (n : NoAttr K C f) (hl : fs.length < 1000) (fr : FlatRows rows) (h : EvLB K tv σ H B rows)
    (q : ∀ Da vs H', H Da = none → (∀ c o, H c = some o → c ≠ x → H' c = some o) → H' x = some (.ins C dx (putF f (.ref Da) fs)) → H' Da = some (.lst vs) → LB K H' (Da :: B) vs rows → tz D σ H') : tSeq (sFld K (tVar k) tv f) tz D σ H :=
  s_fldLL (D := { D with nx := tz D }) hx hxB hk c n hl fr h q
theorem _root_.KX.LB.keepB {B : List Addr} {H' : Hp} {vs : List V} {rows : List (List PyData)} (fr : FlatRows rows) (hk : ∀ q o, H q = some o → q ∉ B → H' q = some o) (hT : ∀ q ∈ B, (∃ xs, H q = some (.lst xs)) ∨ (∃ C dx fs, H q = some (.ins C dx fs)) ∨ H q = none) (h : LB K H B vs rows) : LB K H' B vs rows :=
  h.flat fr (fun q o hq n1 n2 n3 => hk q o hq fun hb => by
    rcases hT q hb with ⟨xs, e⟩ | ⟨C, dx, fs, e⟩ | e
    · rw [hq] at e; exact n1 xs (Option.some.inj e)
    · rw [hq] at e; exact n2 _ _ _ (Option.some.inj e)
    · rw [hq] at e; cases e) hk
end

/-! ### __init__ -/
abbrev s_Worker___init : Stmt := inClass (topS 30) 0
theorem sc_Worker___init : FnScope ["self", "p", "rows", "row"] ["self", "p", "rows"] (defScope s_Worker___init) := ⟨rfl, rfl, rfl, by decide +kernel, rfl, by decide +kernel, by decide +kernel⟩
def spInitW (K : PySem.W.Frag) (p : Nat) [Pr p] (C : Addr) : Sp := fun vs H Q _ => ∃ (x dx : Addr) (v : V) (n wd : Nat) (R : PT p), vs = [.ref x, .int (p : Int), v] ∧ H x = some (.ins C dx []) ∧ Dp K H v (.tuple ((tabP n wd R).map .tuple)) ∧ n ≤ 100 ∧ wd ≤ 100 ∧
  ∀ a b H', H a = none → H b = none → (∀ c o, H c = some o → c ≠ x → H' c = some o) → WS K p C H' x dx a b (tabP n wd R) (tabP n n (unitT : PT p)) → Q .non H'
theorem ok_Worker_init {C fI : Addr} {fd : FuncData} (T : Bt mg) (CT : ClsT K C) (F : Fun K "__init__" "Worker.__init__" s_Worker___init fI fd) (O_p_unit : Ok P w K mg base "p_unit" ["many"] 1 (spPUnit K p)) :
    FnOk P w K mg base CX0 2 fI fd ["self", "p", "rows"] (spInitW K p C) := by
  refine F.ok sc_Worker___init (fun vs H Q E h => ?_) (fun cdv A outer s H vs Q E hr h => ?_)
  · obtain ⟨x, dx, v, n, wd, R, rfl, _⟩ := h
    rfl
  · obtain ⟨x, dx, v, n, wd, R, rfl, hx, rv, hn, hw, q⟩ := h
    refine ⟨_, (pss_cons (ps_fld (pv 0) (pv 1) rfl)
      (pss_cons (ps_fld (pv 0) (pe_lc (own := [("row", 3)]) (g := gName 3) (tt := tYes) rfl sc_Worker___init.nd (kpi_tup (K := K) rfl (pv 2)) (blkOk_by (N := ["self", "p", "rows", "row"]) (sc := defScope s_Worker___init) (by decide +kernel)) (fun _ _ _ _ _ => (pg_name (i := 3) sc_Worker___init.nd rfl (Or.inl rfl) (hf := Or.inr rfl))) (fun _ _ _ _ _ => pts_nil) (fun _ _ _ _ _ => (pe_callTy (kList (K := K) rfl) (by rfl) T.list (by decide +kernel) (pa_cons (pv 3) pa_nil)))) rfl)
      (pss_one (ps_fld (pv 0) (pe_lc (own := [("row", 3)]) (g := gName 3) (tt := tYes) rfl sc_Worker___init.nd (kpi_tup (K := K) rfl (pe_ok O_p_unit (hr.mono (by decide)) (by rfl) (pa_cons (pe_callB (kLen (K := K) rfl) (by rfl) T.len (by decide +kernel) (pa_cons (pv 2) pa_nil)) pa_nil))) (blkOk_by (N := ["self", "p", "rows", "row"]) (sc := defScope s_Worker___init) (by decide +kernel)) (fun _ _ _ _ _ => (pg_name (i := 3) sc_Worker___init.nd rfl (Or.inl rfl) (hf := Or.inr rfl))) (fun _ _ _ _ _ => pts_nil) (fun _ _ _ _ _ => (pe_callTy (kList (K := K) rfl) (by rfl) T.list (by decide +kernel) (pa_cons (pv 3) pa_nil)))) rfl)))), ?_⟩
    have flat_list : ∀ r ∈ tabP n wd R, flatDs r = true := tabP_flat n wd R
    -- self.p = p
    refine ⟨_, rfl, _, rfl, x, C, dx, [], rfl, hx, CT.cl, CT.nP, (by show 0 < 1000; decide), ?_⟩
    have hx1 : upd H x (.ins C dx (putF "p" (V.int (p : Int)) [])) x = some (.ins C dx [("p", V.int (p : Int))]) := upd_same
    have keep1 : ∀ c o, H c = some o → c ≠ x → upd H x (.ins C dx (putF "p" (V.int (p : Int)) [])) c = some o := fun c o hc hne => by rw [upd_ne hne]; exact hc
    generalize hH1 : upd H x (.ins C dx (putF "p" (V.int (p : Int)) [])) = H1 at hx1 keep1
    have nH1 : ∀ c, H1 c = none → H c = none := fun c hc => by
      cases e : H c with
      | none => rfl
      | some o =>
        have hne : c ≠ x := fun z => by rw [z, hx1] at hc; cases hc
        rw [keep1 c o e hne] at hc; cases hc
    have rv0 : Dp K H v (.tuple ((List.range n).map fun i => .tuple (rowP wd (R i)))) := by rw [← tabP_tup]; exact rv
    have rv1 : Dp K H1 v (.tuple ((List.range n).map fun i => .tuple (rowP wd (R i)))) := dp_exT (fun q o hq _ n2 _ => keep1 q o hq fun z => by rw [z, hx] at hq; exact n2 _ _ _ (Option.some.inj hq).symm) _ _ (by simp only [flatD]; exact flat_map (fun i => by simp only [flatD]; exact rowP_flat _ _) _) rv0
    -- self.rows = ..
    refine q_fldLL (K := K) (B := [x]) (rows := tabP n wd R) hx1 (by simp) rfl CT.cl CT.nR (by show 1 < 1000; decide) (tabP_flat n wd R)
      (elb_lc (fun c hc => by obtain rfl := List.mem_singleton.mp hc; rw [hx1]; exact fun z => nomatch z) (List.range n) (fun i => .tuple (rowP wd (R i))) (fun i => rowP wd (R i)) (ei_tup (ed_var rfl rv1)) (by rw [List.length_range]; omega) (fun i _ => rowP_flat _ _) (fun x => rfl) fun i v' H' _ e r => en_listT (ed_var rfl r))
      fun a va H2 na k2 hx2 ha2 hL2 => ?_
    have nH2 : ∀ c, H2 c = none → H1 c = none := fun c hc => by
      cases e : H1 c with
      | none => rfl
      | some o =>
        have hne : c ≠ x := fun z => by rw [z, hx2] at hc; cases hc
        rw [k2 c o e hne] at hc; cases hc
    have rv2 : Dp K H2 v (.tuple ((List.range n).map fun i => .tuple (rowP wd (R i)))) := dp_exT (fun q o hq _ n2 _ => k2 q o hq fun z => by rw [z, hx1] at hq; exact n2 _ _ _ (Option.some.inj hq).symm) _ _ (by simp only [flatD]; exact flat_map (fun i => by simp only [flatD]; exact rowP_flat _ _) _) rv1
    -- self.left = ..
    have hU : EvD K (tCall (spPUnit K p) [] E0 (tCons (tCB (KR.rLenS K) (tCons (tVar 2) tNil)) tNil)) (start ["self", "p", "rows", "row"] [V.ref x, V.int (p : Int), v]) H2 (.tuple ((List.range n).map fun i => .tuple (rowP n ((unitT : PT p) i)))) := by
      refine ed_is (ed_call n (eds_cons (ed_is (ed_lenT (ed_var rfl rv2)) (by simp)) eds_nil) hn) ?_
      rw [← tabP_tup]; exact dM_unit n
    refine s_fldLL (K := K) (B := [x, a]) (rows := tabP n n (unitT : PT p)) hx2 (by simp) rfl CT.cl CT.nL (by show 2 < 1000; decide) (tabP_flat n n unitT)
      (elb_lc (fun c hc => by simp at hc; rcases hc with e | e <;> subst e <;> simp [hx2, ha2]) (List.range n) (fun i => .tuple (rowP n ((unitT : PT p) i))) (fun i => rowP n ((unitT : PT p) i)) (ei_tup hU) (by rw [List.length_range]; omega) (fun i _ => rowP_flat _ _) (fun x => rfl) fun i v' H' _ e r => en_listT (ed_var rfl r))
      fun b vb H3 nb k3 hx3 hb3 hL3 => ?_
    have hab : a ≠ b := fun z => by rw [← z, ha2] at nb; cases nb
    have hax : a ≠ x := fun z => by rw [z, hx1] at na; cases na
    have hbx : b ≠ x := fun z => by rw [z, hx2] at nb; cases nb
    refine q a b H3 (nH1 a na) (nH1 b (nH2 b nb)) (fun c o hc hne => k3 c o (k2 c o (keep1 c o hc hne) hne) hne) ⟨hx3, ⟨va, k3 _ _ ha2 hax, ?_⟩, ⟨vb, hb3, ?_⟩, hab⟩
    · have g : LB K H2 [x, a, b] va (tabP n wd R) := (hL2.grow (a := b) nb).less (B' := [x, a, b]) fun q hq => by simp at hq ⊢; rcases hq with h | h | h <;> simp [h]
      exact g.keepB (tabP_flat n wd R) (fun q o hq hB => k3 q o hq fun z => hB (by simp [z])) fun q hq => by
        simp at hq
        rcases hq with h | h | h
        · rw [h]; exact .inr (.inl ⟨_, _, _, hx2⟩)
        · rw [h]; exact .inl ⟨_, ha2⟩
        · rw [h]; exact .inr (.inr nb)
    · exact hL3.less fun q hq => by simp at hq ⊢; rcases hq with h | h | h <;> simp [h]
end
end KW
end
section
set_option Elab.async false
set_option linter.all false
set_option maxRecDepth 100000
set_option maxHeartbeats 4000000
/-! Walks: the methods of Worker. -/
namespace KW
open PySem PySem.Spec PyProof.Rows L2 Evl KR K18 KX
section
variable {P : Program} {w : World} {K : PySem.W.Frag} {mg : Str → Option Value} {base : Heap} {p : Nat} [hp : Pr p]
section
variable {C : Addr} {H : Hp} {σ : L2.St} {x dx a b : Addr} {R L : List (List PyData)} {k j : Nat} {te te1 te2 tb tv : TE} {D : Ends} {tu tz : TS}
/-- for y in (u, v): two values, whatever its turns do -/
theorem s_for2 {u v : V} (h1 : Ev te1 σ H u) (h2 : Ev te2 σ H v)
    (hT : ∀ T H', H T = none → Ex H H' → H' T = some (.tup [u, v]) → ∃ Pv : Nat → L2.St → Hp → Prop, Pv 0 σ H' ∧ (∀ i σ' H'', i ≤ 2 → Pv i σ' H'' → H'' T = some (.tup [u, v])) ∧
      (∀ σ' H'', Pv 0 σ' H'' → tu { D with nx := Pv 1, ct := Pv 1, bk := D.nx } (σ'.set j (some u)) H'') ∧ (∀ σ' H'', Pv 1 σ' H'' → tu { D with nx := Pv 2, ct := Pv 2, bk := D.nx } (σ'.set j (some v)) H'') ∧ ∀ σ' H'', Pv 2 σ' H'' → D.nx σ' H'') :
    tFor (iTup K (tTup (tCons te1 (tCons te2 tNil)))) (gName j) tu D σ H :=
  h1 H (Ex.refl H) _ fun H1 e1 => h2 H1 e1 _ fun H2 e2 => ⟨(by decide : 2 ≤ sizeLine), fun T nT => by
    have e3 : Ex H (upd H2 T (.tup [u, v])) := (e1.trans e2).trans (Ex.new nT)
    obtain ⟨Pv, p0, pT, s0, s1, pe⟩ := hT T _ (fresh_back (e1.trans e2) nT) e3 upd_same
    refine ⟨T, rfl, ⟨_, st_of upd_same⟩, for_tup (K := K) (a := T) (xs := [u, v]) Pv p0 (fun i σ' H'' hi hp => st_of (pT i σ' H'' hi hp)) (fun i y σ' H'' hi hp => ?_) pe⟩
    match i, hi with
    | 0, hi => obtain rfl := Option.some.inj hi; exact s0 σ' H'' hp
    | 1, hi => obtain rfl := Option.some.inj hi; exact s1 σ' H'' hp
    | i + 2, hi => simp at hi⟩
/-- all but the tables at a, b -/
def Kp (a b : Addr) (H H' : Hp) : Prop := ∀ q o, H q = some o → q ≠ a → q ≠ b → H' q = some o
theorem Kp.trans {H1 H2 : Hp} (h1 : Kp a b H H1) (h2 : Kp a b H1 H2) : Kp a b H H2 := fun q o e n1 n2 => h2 q o (h1 q o e n1 n2) n1 n2
theorem Kp.of {H1 : Hp} (e : Ex H H1) : Kp a b H H1 := fun q o h _ _ => e q o h
theorem WS.wrR {H' : Hp} {vs' : List V} {R' : List (List PyData)} (W : WS K p C H x dx a b R L) (frL : FlatRows L) (h : Wr a H H') (ha : H' a = some (.lst vs')) (hL : LB K H' [x, a, b] vs' R') : WS K p C H' x dx a b R' L := by
  obtain ⟨va, h1, h2⟩ := W.rows
  obtain ⟨vb, h3, h4⟩ := W.left
  exact ⟨h.keep _ _ W.ins W.xa, ⟨vs', ha, hL⟩, ⟨vb, h.keep _ _ h3 W.ne.symm, h4.flat frL (h.exT h1) fun q o hq hB => h.keep q o hq fun z => hB (by simp [z])⟩, W.ne⟩
theorem WS.wrL {H' : Hp} {vs' : List V} {L' : List (List PyData)} (W : WS K p C H x dx a b R L) (frR : FlatRows R) (h : Wr b H H') (hb : H' b = some (.lst vs')) (hL : LB K H' [x, a, b] vs' L') : WS K p C H' x dx a b R L' := by
  obtain ⟨va, h1, h2⟩ := W.rows
  obtain ⟨vb, h3, h4⟩ := W.left
  exact ⟨h.keep _ _ W.ins W.xb, ⟨va, h.keep _ _ h1 W.ne, h2.flat frR (h.exT h3) fun q o hq hB => h.keep q o hq fun z => hB (by simp [z])⟩, ⟨vs', hb, hL⟩, W.ne⟩
theorem WS.alive (W : WS K p C H x dx a b R L) : ∀ q ∈ [x, a, b], H q ≠ none := fun q hq => by
  obtain ⟨va, h1, _⟩ := W.rows
  obtain ⟨vb, h3, _⟩ := W.left
  simp at hq
  rcases hq with h | h | h
  · rw [h, W.ins]; exact fun z => nomatch z
  · rw [h, h1]; exact fun z => nomatch z
  · rw [h, h3]; exact fun z => nomatch z
end

/-! ### told -/
abbrev s_Worker_told : Stmt := inClass (topS 30) 5
theorem sc_Worker_told : FnScope ["self", "row"] ["self"] (defScope s_Worker_told) := ⟨rfl, rfl, rfl, by decide +kernel, rfl, by decide +kernel, by decide +kernel⟩
def spTold (K : PySem.W.Frag) (p : Nat) [Pr p] (C : Addr) : Sp := fun vs H Q _ => ∃ (x dx a b : Addr) (n wd : Nat) (R L : PT p), vs = [.ref x] ∧ WS K p C H x dx a b (tabP n wd R) (tabP n n L) ∧ n ≤ 100 ∧ wd ≤ 100 ∧
  ∀ v H', Ex H H' → Dp K H' v (.tuple [.tuple ((tabP n wd R).map .tuple), .tuple ((tabP n n L).map .tuple)]) → Q v H'
theorem ok_Worker_told {C f : Addr} {fd : FuncData} (T : Bt mg) (CT : ClsT K C) (F : Fun K "told" "Worker.told" s_Worker_told f fd) :
    FnOk P w K mg base CX0 1 f fd ["self"] (spTold K p C) := by
  refine F.ok sc_Worker_told (fun vs H Q E h => ?_) (fun cdv A outer s H vs Q E hr h => ?_)
  · obtain ⟨x, dx, a, b, n, wd, R, L, rfl, _⟩ := h
    rfl
  · obtain ⟨x, dx, a, b, n, wd, R, L, rfl, W, hn, hw, q⟩ := h
    refine ⟨_, (pss_one (ps_ret (pe_tup (pa_cons (pe_callTy (kTuple (K := K) rfl) (by rfl) T.tuple (by decide +kernel) (pa_cons (pe_lc (own := [("row", 1)]) (g := gName 1) (tt := tYes) rfl sc_Worker_told.nd (kpi_list (K := K) rfl (kpe_fld (K := K) rfl (pv 0) rfl)) (blkOk_by (N := ["self", "row"]) (sc := defScope s_Worker_told) (by decide +kernel)) (fun _ _ _ _ _ => (pg_name (i := 1) sc_Worker_told.nd rfl (Or.inl rfl) (hf := Or.inr rfl))) (fun _ _ _ _ _ => pts_nil) (fun _ _ _ _ _ => (pe_callTy (kTuple (K := K) rfl) (by rfl) T.tuple (by decide +kernel) (pa_cons (pv 1) pa_nil)))) pa_nil)) (pa_cons (pe_callTy (kTuple (K := K) rfl) (by rfl) T.tuple (by decide +kernel) (pa_cons (pe_lc (own := [("row", 1)]) (g := gName 1) (tt := tYes) rfl sc_Worker_told.nd (kpi_list (K := K) rfl (kpe_fld (K := K) rfl (pv 0) rfl)) (blkOk_by (N := ["self", "row"]) (sc := defScope s_Worker_told) (by decide +kernel)) (fun _ _ _ _ _ => (pg_name (i := 1) sc_Worker_told.nd rfl (Or.inl rfl) (hf := Or.inr rfl))) (fun _ _ _ _ _ => pts_nil) (fun _ _ _ _ _ => (pe_callTy (kTuple (K := K) rfl) (by rfl) T.tuple (by decide +kernel) (pa_cons (pv 1) pa_nil)))) pa_nil)) pa_nil))))), ?_⟩
    have key : ∀ (m : Nat) (M : PT p) (te : TE), EvD K te (start ["self", "row"] [V.ref x]) H (.list ((tabP n m M).map .list)) →
        EvD K (tCB (KR.rTupS K) (tCons (tLc (iList K te) (gName 1) tYes (tCB (KR.rTupS K) (tCons (tVar 1) tNil)) [1]) tNil)) (start ["self", "row"] [V.ref x]) H (.tuple ((tabP n m M).map .tuple)) := fun m M te h => by
      refine ed_tupleL (EvN.toD (en_is (en_lc0 (List.range n) (fun i => .list (rowP m (M i))) (fun i => .tuple (rowP m (M i))) (ei_list (ed_is h (by rw [tabP_lst]))) (by rw [List.length_range]; omega) (fun i _ => by simp only [flatD]; exact rowP_flat _ _) (fun x => rfl)
        fun i v' H' _ e r => ed_tupleL (ed_var rfl r)) ?_))
      rw [tabP_tup]
    exact sd_ret (K := K) (ed_tup (eds_cons (key wd R _ (ed_fldR CT W rfl)) (eds_cons (key n L _ (ed_fldL CT W rfl)) eds_nil)) (by simp)) fun v H1 e r => q v H1 e r

/-! ### stretch -/
abbrev s_Worker_stretch : Stmt := inClass (topS 30) 2
theorem sc_Worker_stretch : FnScope ["self", "one", "number", "table", "told"] ["self", "one", "number"] (defScope s_Worker_stretch) := ⟨rfl, rfl, rfl, by decide +kernel, rfl, by decide +kernel, by decide +kernel⟩
def spStretch (K : PySem.W.Frag) (p : Nat) [Pr p] (C : Addr) : Sp := fun vs H Q _ => ∃ (x dx a b : Addr) (n wd : Nat) (R L : PT p) (one : Nat) (c : Fin p), vs = [.ref x, .int (one : Int), .int (c.val : Int)] ∧ WS K p C H x dx a b (tabP n wd R) (tabP n n L) ∧ n ≤ 100 ∧ wd ≤ 100 ∧ one < n ∧
  (∀ i j, i < n → j < wd → len (R i j) ≤ 20000) ∧ (∀ i j, i < n → j < n → len (L i j) ≤ 20000) ∧
  ∀ H', Kp a b H H' → WS K p C H' x dx a b (tabP n wd (stretchT R one c)) (tabP n n (stretchT L one c)) → Q .non H'
theorem ok_Worker_stretch {C f : Addr} {fd : FuncData} (T : Bt mg) (CT : ClsT K C) (F : Fun K "stretch" "Worker.stretch" s_Worker_stretch f fd) (O_scaled : Ok P w K mg base "scaled" ["p", "one", "number"] 2 (spScaled K p)) :
    FnOk P w K mg base CX0 3 f fd ["self", "one", "number"] (spStretch K p C) := by
  refine F.ok sc_Worker_stretch (fun vs H Q E h => ?_) (fun cdv A outer s H vs Q E hr h => ?_)
  · obtain ⟨x, dx, a, b, n, wd, R, L, one, c, rfl, _⟩ := h
    rfl
  · obtain ⟨x, dx, a, b, n, wd, R, L, one, c, rfl, W, hn, hw, ho, lR, lL, q⟩ := h
    refine ⟨_, (pss_one (ps_for PassesOwn.never rfl (kpi_tup (K := K) rfl (pe_tup (pa_cons (kpe_fld (K := K) rfl (pv 0) rfl) (pa_cons (kpe_fld (K := K) rfl (pv 0) rfl) pa_nil)))) (pg_name (i := 3) sc_Worker_stretch.nd rfl (Or.inl rfl)) (pss_one (ps_asg (pe_lc (own := [("told", 4)]) (g := gName 4) (tt := tYes) rfl sc_Worker_stretch.nd (kpi_list (K := K) rfl (pe_ix (kIx (K := K) rfl) (pv 3) (pv 1) (fun _ _ => rfl))) (blkOk_by (N := ["self", "one", "number", "table", "told"]) (sc := defScope s_Worker_stretch) (by decide +kernel)) (fun _ _ _ _ _ => (pg_name (i := 4) sc_Worker_stretch.nd rfl (Or.inl rfl) (hf := Or.inr rfl))) (fun _ _ _ _ _ => pts_nil) (fun _ _ _ _ _ => (pe_ok O_scaled (hr.mono (by decide)) (by rfl) (pa_cons (kpe_fld (K := K) rfl (pv 0) rfl) (pa_cons (pv 4) (pa_cons (pv 2) pa_nil)))))) (pg_sub (pv 3) (pv 1) set_list))))), ?_⟩
    have row : ∀ (H' : Hp) (σ' : L2.St) (A : Addr) (m : Nat) (M : PT p) (vs : List V), σ' = [some (.ref x), some (.int (one : Int)), some (.int (c.val : Int)), some (.ref A), none] → (∃ Rd Ld, WS K p C H' x dx a b Rd Ld) → m ≤ 100 → (∀ j, j < m → len (M one j) ≤ 20000) → Dp K H' (.ref A) (.list ((tabP n m M).map .list)) →
        EvN K (tLc (iList K (tOp (rIx K) (tVar 3) (tVar 1))) (gName 4) tYes (tCall (spScaled K p) [] E0 (tCons (tFld K (tVar 0) "p") (tCons (tVar 4) (tCons (tVar 2) tNil)))) [4]) σ' H' (rowP m (fun j => cP c * M one j)) := fun H' σ' A m M vs hσ ⟨Rd, Ld, W'⟩ hm hl hd => by
      subst hσ
      refine en_is (en_lc0 (List.range m) (fun j => dP (M one j)) (fun j => dP (cP c * M one j)) (ei_list (ed_is (ed_ixL (k := one) (ed_var rfl hd) (ed_var rfl (.int _)) rfl (by rw [List.getElem?_map, tabP_at ho]; rfl)) rfl)) (by rw [List.length_range]; omega) (fun j _ => flat_dP _) (fun x => rfl)
        fun j v' H2 hj e r => ?_) rfl
      exact ed_call (M one j, c) (eds_cons (ev_fldP CT (W'.ex e) rfl) (eds_cons (ed_var rfl r) (eds_cons (ed_var rfl (.int _)) eds_nil))) (Nat.le_trans (hl j (List.mem_range.mp hj)) (by decide))
    refine s_for2 (K := K) (ev_fldR CT W rfl) (ev_fldL CT W rfl) fun Tt H1 nT e1 hT => ?_
    have nTa : Tt ≠ a := fun z => by obtain ⟨va, h1, _⟩ := W.rows; rw [z, h1] at nT; cases nT
    have nTb : Tt ≠ b := fun z => by obtain ⟨va, h1, _⟩ := W.left; rw [z, h1] at nT; cases nT
    refine ⟨fun i σ' H' => H' Tt = some (.tup [.ref a, .ref b]) ∧ Kp a b H H' ∧ (match i with
      | 0 => WS K p C H' x dx a b (tabP n wd R) (tabP n n L)
      | 1 => WS K p C H' x dx a b (tabP n wd (stretchT R one c)) (tabP n n L)
      | _ => WS K p C H' x dx a b (tabP n wd (stretchT R one c)) (tabP n n (stretchT L one c))) ∧ ∃ x3, σ' = [some (.ref x), some (.int (one : Int)), some (.int (c.val : Int)), x3, none],
      ⟨hT, Kp.of e1, W.ex e1, none, rfl⟩, fun i σ' H' _ h => h.1, fun σ' H' h => ?_, fun σ' H' h => ?_, fun σ' H' h => ?_⟩
    · obtain ⟨hT', kp, W', x3, rfl⟩ := h
      replace W' : WS K p C H' x dx a b (tabP n wd R) (tabP n n L) := W'
      obtain ⟨va, h1, h2⟩ := W'.rows
      refine s_setRow (K := K) (B := [x, a, b]) (Da := a) (r := rowP wd fun j => cP c * R one j) (by simp) W'.alive h1 h2 (tabP_flat _ _ _) (rowP_flat _ _) rfl
        (row H' _ a wd R va rfl ⟨_, _, W'⟩ hw (fun j hj => lR one j ho hj) W'.dpR) (ed_var rfl (.int _)) (by rw [tabP_len]; exact ho) fun vs' H2 hw2 ha2 hL2 => ?_
      rw [tabP_set (R' := stretchT R one c) fun i j _ _ => by unfold stretchT; split <;> simp_all] at hL2
      exact ⟨hw2.keep _ _ hT' nTa, kp.trans fun q o e n1 n2 => hw2.keep q o e n1, W'.wrR (tabP_flat _ _ _) hw2 ha2 hL2, _, rfl⟩
    · obtain ⟨hT', kp, W', x3, rfl⟩ := h
      replace W' : WS K p C H' x dx a b (tabP n wd (stretchT R one c)) (tabP n n L) := W'
      obtain ⟨vb, h1, h2⟩ := W'.left
      refine s_setRow (K := K) (B := [x, a, b]) (Da := b) (r := rowP n fun j => cP c * L one j) (by simp) W'.alive h1 h2 (tabP_flat _ _ _) (rowP_flat _ _) rfl
        (row H' _ b n L vb rfl ⟨_, _, W'⟩ hn (fun j hj => lL one j ho hj) W'.dpL) (ed_var rfl (.int _)) (by rw [tabP_len]; exact ho) fun vs' H2 hw2 ha2 hL2 => ?_
      rw [tabP_set (R' := stretchT L one c) fun i j _ _ => by unfold stretchT; split <;> simp_all] at hL2
      exact ⟨hw2.keep _ _ hT' nTb, kp.trans fun q o e n1 n2 => hw2.keep q o e n2, W'.wrL (tabP_flat _ _ _) hw2 ha2 hL2, _, rfl⟩
    · obtain ⟨hT', kp, W', x3, rfl⟩ := h
      exact q H' kp W'

/-! ### take -/
theorem zipWith_same {α β γ δ : Type} (g : β → γ → δ) (f1 : α → β) (f2 : α → γ) : ∀ l : List α, List.zipWith g (l.map f1) (l.map f2) = l.map fun a => g (f1 a) (f2 a)
  | [] => rfl
  | a :: l => by simp only [List.map_cons, List.zipWith_cons_cons, zipWith_same g f1 f2 l]
abbrev s_Worker_take : Stmt := inClass (topS 30) 3
theorem sc_Worker_take : FnScope ["self", "one", "other", "factor", "table", "a", "b"] ["self", "one", "other", "factor"] (defScope s_Worker_take) := ⟨rfl, rfl, rfl, by decide +kernel, rfl, by decide +kernel, by decide +kernel⟩
def spTake (K : PySem.W.Frag) (p : Nat) [Pr p] (C : Addr) : Sp := fun vs H Q _ => ∃ (x dx a b : Addr) (n wd : Nat) (R L : PT p) (one other : Nat) (vf : V) (f : Po p), vs = [.ref x, .int (one : Int), .int (other : Int), vf] ∧ Dp K H vf (dP f) ∧ f ≠ 0 ∧ WS K p C H x dx a b (tabP n wd R) (tabP n n L) ∧ n ≤ 100 ∧ wd ≤ 100 ∧ one < n ∧ other < n ∧
  len f ≤ 5000 ∧ (∀ i j, i < n → j < wd → len (R i j) ≤ 5000) ∧ (∀ i j, i < n → j < n → len (L i j) ≤ 5000) ∧
  ∀ H', Kp a b H H' → WS K p C H' x dx a b (tabP n wd (takeT R one other f)) (tabP n n (takeT L one other f)) → Q .non H'
theorem ok_Worker_take {C fa : Addr} {fd : FuncData} (T : Bt mg) (CT : ClsT K C) (F : Fun K "take" "Worker.take" s_Worker_take fa fd) (O_times : Ok P w K mg base "times" ["p", "one", "other"] 2 (spTimes K p)) (O_minus : Ok P w K mg base "minus" ["p", "one", "other"] 3 (spMinus K p)) :
    FnOk P w K mg base CX0 4 fa fd ["self", "one", "other", "factor"] (spTake K p C) := by
  refine F.ok sc_Worker_take (fun vs H Q E h => ?_) (fun cdv A outer s H vs Q E hr h => ?_)
  · obtain ⟨x, dx, a, b, n, wd, R, L, one, other, vf, f, rfl, _⟩ := h
    rfl
  · obtain ⟨x, dx, a, b, n, wd, R, L, one, other, vf, f, rfl, rf, hf0, W, hn, hw, ho, hot, lf, lR, lL, q⟩ := h
    refine ⟨_, (pss_one (ps_if (pt_cmpR (kNeD (K := K) rfl hr.units) (pv 3) (pe_tup pa_nil) (nomark _)) (pss_one (ps_for PassesOwn.never rfl (kpi_tup (K := K) rfl (pe_tup (pa_cons (kpe_fld (K := K) rfl (pv 0) rfl) (pa_cons (kpe_fld (K := K) rfl (pv 0) rfl) pa_nil)))) (pg_name (i := 4) sc_Worker_take.nd rfl (Or.inl rfl)) (pss_one (ps_asg (pe_lc (own := [("a", 5), ("b", 6)]) (g := gTwo K 5 6) (tt := tYes) rfl sc_Worker_take.nd (kpi_zipA (K := K) rfl (by rfl) T.zip (pa_cons (pe_ix (kIx (K := K) rfl) (pv 4) (pv 1) (fun _ _ => rfl)) (pa_cons (pe_ix (kIx (K := K) rfl) (pv 4) (pv 2) (fun _ _ => rfl)) pa_nil))) (blkOk_by (N := ["self", "one", "other", "factor", "table", "a", "b"]) (sc := defScope s_Worker_take) (by decide +kernel)) (fun _ _ _ _ _ => (kpg_two (K := K) (i := 5) (j := 6) rfl rfl sc_Worker_take.nd rfl rfl rfl rfl)) (fun _ _ _ _ _ => pts_nil) (fun _ _ _ _ _ => (pe_ok O_minus (hr.mono (by decide)) (by rfl) (pa_cons (kpe_fld (K := K) rfl (pv 0) rfl) (pa_cons (pv 5) (pa_cons (pe_ok O_times (hr.mono (by decide)) (by rfl) (pa_cons (kpe_fld (K := K) rfl (pv 0) rfl) (pa_cons (pv 3) (pa_cons (pv 6) pa_nil)))) pa_nil)))))) (pg_sub (pv 4) (pv 1) set_list))))) pss_nil)), ?_⟩
    have row : ∀ (H' : Hp) (σ' : L2.St) (A : Addr) (m : Nat) (M : PT p), σ' = [some (.ref x), some (.int (one : Int)), some (.int (other : Int)), some vf, some (.ref A), none, none] → (∃ Rd Ld, WS K p C H' x dx a b Rd Ld) → Dp K H' vf (dP f) → m ≤ 100 → (∀ i j, i < n → j < m → len (M i j) ≤ 5000) → Dp K H' (.ref A) (.list ((tabP n m M).map .list)) →
        EvN K (tLc (RZ.iZipA K (tCons (tOp (rIx K) (tVar 4) (tVar 1)) (tCons (tOp (rIx K) (tVar 4) (tVar 2)) tNil))) (gTwo K 5 6) tYes (tCall (spMinus K p) [] E0 (tCons (tFld K (tVar 0) "p") (tCons (tVar 5) (tCons (tCall (spTimes K p) [] E0 (tCons (tFld K (tVar 0) "p") (tCons (tVar 3) (tCons (tVar 6) tNil)))) tNil)))) [5, 6]) σ' H' (rowP m (fun j => M one j - f * M other j)) := fun H' σ' A m M hσ ⟨Rd, Ld, W'⟩ rf' hm hl hd => by
      subst hσ
      refine en_is (en_lcP0 ((List.range m).map fun j => (j, j)) (fun j => dP (M one j)) (fun j => dP (M other j)) (fun q => dP (M one q.1 - f * M other q.1)) ?_ (by simp; omega) (fun q _ => flat_dP _) (fun x y => rfl)
        fun q v1 v2 H2 hq e r1 r2 => ?_) (by unfold rowP; rw [List.map_map]; rfl)
      · have hz := ei_zipL (eds_cons (ed_ixL (k := one) (tb := tVar 1) (σ := [some (.ref x), some (.int (one : Int)), some (.int (other : Int)), some vf, some (.ref A), none, none]) (ta := tVar 4) (ed_var rfl hd) (ed_var rfl (.int _)) rfl (by rw [List.getElem?_map, tabP_at ho]; rfl)) (eds_cons (ed_ixL (k := other) (tb := tVar 2) (ta := tVar 4) (ed_var rfl hd) (ed_var rfl (.int _)) rfl (by rw [List.getElem?_map, tabP_at hot]; rfl)) eds_nil))
        unfold rowP at hz
        rw [zipWith_same] at hz
        rw [List.map_map]
        exact hz
      · obtain ⟨j, hj, rfl⟩ := List.mem_map.mp hq
        have hj := List.mem_range.mp hj
        have l1 := hl one j ho hj
        have l2 := hl other j hot hj
        have l3 := len_mul_le f (M other j)
        exact ed_call (M one j, f * M other j) (eds_cons (ev_fldP CT (W'.ex e) rfl) (eds_cons (ed_var rfl r1) (eds_cons (ed_call (f, M other j) (eds_cons (ev_fldP CT (W'.ex e) rfl) (eds_cons (ed_var rfl (dp_ex e _ _ rf')) (eds_cons (ed_var rfl r2) eds_nil))) ⟨by show len f ≤ 20000; omega, by show len (M other j) ≤ 20000; omega⟩) eds_nil)))
          ⟨by show len (M one j) ≤ 30000; omega, by show len (f * M other j) ≤ 30000; omega⟩
    refine s_if (b := true) (KR.et_test (K := K) (ed_is (KR.ed_neD (ed_var rfl rf) (ed_tup eds_nil (by simp)) (shp_dP f).ok rfl) (by rw [dP_nil]; simp [hf0]))) (fun _ H0 e0 => ?_) (fun z => nomatch z)
    have W0 := W.ex e0
    refine s_for2 (K := K) (ev_fldR CT W0 rfl) (ev_fldL CT W0 rfl) fun Tt H1 nT e1 hT => ?_
    have nTa : Tt ≠ a := fun z => by obtain ⟨va, h1, _⟩ := W0.rows; rw [z, h1] at nT; cases nT
    have nTb : Tt ≠ b := fun z => by obtain ⟨va, h1, _⟩ := W0.left; rw [z, h1] at nT; cases nT
    have e01 : Ex H H1 := e0.trans e1
    have hab : ∀ (H' : Hp), Kp a b H H' → Dp K H' vf (dP f) := fun H' kp => dp_exT (fun q o hq n1 _ _ => kp q o hq (fun z => by obtain ⟨va, h1, _⟩ := W.rows; rw [z, h1] at hq; exact n1 _ (Option.some.inj hq).symm) (fun z => by obtain ⟨va, h1, _⟩ := W.left; rw [z, h1] at hq; exact n1 _ (Option.some.inj hq).symm)) _ _ (flat_dP f) rf
    refine ⟨fun i σ' H' => H' Tt = some (.tup [.ref a, .ref b]) ∧ Kp a b H H' ∧ (match i with
      | 0 => WS K p C H' x dx a b (tabP n wd R) (tabP n n L)
      | 1 => WS K p C H' x dx a b (tabP n wd (takeT R one other f)) (tabP n n L)
      | _ => WS K p C H' x dx a b (tabP n wd (takeT R one other f)) (tabP n n (takeT L one other f))) ∧ ∃ x3, σ' = [some (.ref x), some (.int (one : Int)), some (.int (other : Int)), some vf, x3, none, none],
      ⟨hT, Kp.of e01, W0.ex e1, none, rfl⟩, fun i σ' H' _ h => h.1, fun σ' H' h => ?_, fun σ' H' h => ?_, fun σ' H' h => ?_⟩
    · obtain ⟨hT', kp, W', x3, rfl⟩ := h
      replace W' : WS K p C H' x dx a b (tabP n wd R) (tabP n n L) := W'
      obtain ⟨va, h1, h2⟩ := W'.rows
      refine s_setRow (K := K) (B := [x, a, b]) (Da := a) (r := rowP wd fun j => R one j - f * R other j) (by simp) W'.alive h1 h2 (tabP_flat _ _ _) (rowP_flat _ _) rfl
        (row H' _ a wd R rfl ⟨_, _, W'⟩ (hab H' kp) hw lR W'.dpR) (ed_var rfl (.int _)) (by rw [tabP_len]; exact ho) fun vs' H2 hw2 ha2 hL2 => ?_
      rw [tabP_set (R' := takeT R one other f) fun i j _ _ => by unfold takeT; rfl] at hL2
      exact ⟨hw2.keep _ _ hT' nTa, kp.trans fun q o e n1 n2 => hw2.keep q o e n1, W'.wrR (tabP_flat _ _ _) hw2 ha2 hL2, _, rfl⟩
    · obtain ⟨hT', kp, W', x3, rfl⟩ := h
      replace W' : WS K p C H' x dx a b (tabP n wd (takeT R one other f)) (tabP n n L) := W'
      obtain ⟨vb, h1, h2⟩ := W'.left
      refine s_setRow (K := K) (B := [x, a, b]) (Da := b) (r := rowP n fun j => L one j - f * L other j) (by simp) W'.alive h1 h2 (tabP_flat _ _ _) (rowP_flat _ _) rfl
        (row H' _ b n L rfl ⟨_, _, W'⟩ (hab H' kp) hn lL W'.dpL) (ed_var rfl (.int _)) (by rw [tabP_len]; exact ho) fun vs' H2 hw2 ha2 hL2 => ?_
      rw [tabP_set (R' := takeT L one other f) fun i j _ _ => by unfold takeT; rfl] at hL2
      exact ⟨hw2.keep _ _ hT' nTb, kp.trans fun q o e n1 n2 => hw2.keep q o e n2, W'.wrL (tabP_flat _ _ _) hw2 ha2 hL2, _, rfl⟩
    · obtain ⟨hT', kp, W', x3, rfl⟩ := h
      exact q H' kp W'
end
end KW
end
section
set_option Elab.async false
set_option linter.all false
set_option maxRecDepth 100000
set_option maxHeartbeats 4000000
/-! Helpers for the walk of reduced_rows. -/
namespace KW
open PySem PySem.Spec PyProof.Rows L2 Evl KR K18 KX LamX
section math
variable {p : Nat} [hp : Pr p]
theorem rowP_eq (w : Nat) (r : Nat → Po p) : rowP w r = ((List.range w).map r).map dP := by unfold rowP; rw [List.map_map]; rfl
theorem perm_of {n : Nat} {key : Int → Int} : ∃ s : Nat → Nat, (((List.range n).map fun (i : Nat) => (i : Int)).mergeSort fun x y => decide (key x ≤ key y)) = (List.range n).map (fun i => ((s i : Nat) : Int)) ∧ (∀ i, i < n → s i < n) ∧ (∀ i j, i < n → j < n → s i = s j → i = j) ∧
    (∀ i, i < n → ∃ k, k < n ∧ s k = i) ∧ ∀ i j, i ≤ j → j < n → key (s i) ≤ key (s j) := by
  generalize hl : ((List.range n).map fun (i : Nat) => (i : Int)) = l
  have hperm := List.mergeSort_perm l fun x y => decide (key x ≤ key y)
  have hpw : (l.mergeSort fun x y => decide (key x ≤ key y)).Pairwise fun x y => decide (key x ≤ key y) = true :=
    List.pairwise_mergeSort (le := fun x y => decide (key x ≤ key y)) (fun a b c h1 h2 => decide_eq_true (Int.le_trans (of_decide_eq_true h1) (of_decide_eq_true h2))) (fun a b => by
      rcases Int.le_total (key a) (key b) with h | h
      · rw [decide_eq_true h]; rfl
      · rw [decide_eq_true (p := key b ≤ key a) h]; simp) l
  generalize (l.mergeSort fun x y => decide (key x ≤ key y)) = z at hperm hpw
  have zl : z.length = n := by rw [hperm.length_eq, ← hl]; simp
  have zm : ∀ x, x ∈ z ↔ ∃ i, i < n ∧ (i : Int) = x := fun x => by
    rw [hperm.mem_iff, ← hl]
    constructor
    · intro h
      obtain ⟨i, hi, e⟩ := List.mem_map.mp h
      exact ⟨i, List.mem_range.mp hi, e⟩
    · rintro ⟨i, hi, e⟩
      exact List.mem_map.mpr ⟨i, List.mem_range.mpr hi, e⟩
  have nd : z.Nodup := by
    refine hperm.nodup_iff.mpr ?_
    rw [← hl]
    exact List.Pairwise.map _ (fun a b h e => h (Int.ofNat.inj e)) List.nodup_range
  have at' : ∀ i (hi : i < n), z[i]'(by omega) = (((z.getD i 0).toNat : Nat) : Int) ∧ (z.getD i 0).toNat < n := fun i hi => by
    have hi' : i < z.length := by omega
    have e : z.getD i 0 = z[i] := by rw [List.getD_eq_getElem?_getD, List.getElem?_eq_getElem hi']; rfl
    obtain ⟨k, hk, ek⟩ := (zm z[i]).mp (List.getElem_mem hi')
    rw [e, ← ek]
    exact ⟨by simp, by simpa using hk⟩
  refine ⟨fun i => (z.getD i 0).toNat, List.ext_getElem (by rw [zl]; simp) fun i h1 h2 => ?_, fun i hi => (at' i hi).2, fun i j hi hj e => ?_, fun i hi => ?_, fun i j hij hj => ?_⟩
  · rw [List.getElem_map, List.getElem_range]
    exact (at' i (by omega)).1
  · have e1 := (at' i hi).1
    have e2 := (at' j hj).1
    simp only at e
    rw [e] at e1
    have e3 : z[i]'(by omega) = z[j]'(by omega) := e1.trans e2.symm
    exact (List.getElem_inj nd).mp e3
  · obtain ⟨k, hk, ek⟩ := List.mem_iff_getElem.mp ((zm i).mpr ⟨i, hi, rfl⟩)
    refine ⟨k, by omega, ?_⟩
    have := (at' k (by omega)).1
    rw [ek] at this
    exact (Int.ofNat.inj this).symm
  · by_cases e : i = j
    · rw [e]; exact Int.le_refl _
    · have h := List.pairwise_iff_getElem.mp hpw i j (by omega) (by omega) (by omega)
      have h := of_decide_eq_true h
      rw [(at' i (by omega)).1, (at' j hj).1] at h
      exact h
end math
section
variable {P : Program} {w : World} {K : PySem.W.Frag} {mg : Str → Option Value} {base : Heap} {p : Nat} [hp : Pr p]
/-- a def whose code object is known -/
structure DefC (K : PySem.W.Frag) (mg : Str → Option Value) (x : Str) (st : Stmt) (ps : List Str) (c : Addr) : Prop where
  ex : ∃ (f : Addr) (fd : FuncData) (oc : Value) (od : Option Addr) (kV doc pm : Value) (an : Option Addr) (ct : Value) (osl : Array (Option Value)),
    fd = PySem.W.fnOf x x (defArgs st) (defBody st) (defScope st) .none kV doc pm an (.ref c) ct ∧ K.lookup f = some ⟨oc, od, .func fd, osl⟩ ∧ PySem.W.codeIn K (.ref c) x = true ∧ Binds K fd ps [] ∧ mg x = some (.ref f) ∧ PySem.W.keepIn K (.ref f) = true
theorem DefC.ok {x : Str} {st : Stmt} {N ps : List Str} {k : Nat} {sp : Sp} {c : Addr} (D : DefC K mg x st ps c) (S : FnScope N ps (defScope st)) (len : ∀ vs H Q E, sp vs H Q E → vs.length = ps.length)
    (hbody : ∀ (f : Addr) (A : Around) (outer : List Env) (s : Shared) (H : Hp) (vs : List V) (Q : VK) (E : XK), Room k (A.deeper (envOfC x (defScope st) s.heap.objs.size f (.ref c))) → sp vs H Q E →
      ∃ t, PSs (cxOf CX0 P w K mg base N x (defScope st) f (.ref c) A outer s H E).nox (defBody st) t ∧ t { nx := fun _ H' => Q .non H', rt := Q } (start N vs) H) : Ok P w K mg base x ps (k + 1) sp := by
  obtain ⟨f, fd, oc, od, kV, doc, pm, an, ct, osl, rfl, lk, hcd, hb, hm, hk⟩ := D.ex
  refine ⟨f, _, fn_of lk hcd S len fun A outer s H vs Q E hr hsp => ?_, hb, hm, hk, oc, od, osl, lk⟩
  obtain ⟨t, h, q⟩ := hbody f A outer s H vs Q E hr hsp
  exact ⟨t, h.nox, q⟩
section
variable {H : Hp} {σ : L2.St} {wi : TI} {tt : TT} {te ta tb : TE} {ds : List PyData} {j : Nat} {vs : List Nat}
/-- a list comprehension, by what its list is -/
def EvP (te : TE) (σ : L2.St) (H : Hp) (P : List V → Prop) : Prop := ∀ H1, Ex H H1 → ∀ Q : VK, (∀ Dl acc H2, H1 Dl = none → Ex H1 H2 → H2 Dl = some (.lst acc) → P acc → Q (.ref Dl) H2) → te σ H1 Q
theorem evp_lc (P : Nat → List V → Prop) (hI : EvI K wi σ H ds) (hn : ds.length ≤ 50000) (hw : ∀ x, wipe ((wipe σ vs).set j (some x)) vs = wipe σ vs) (p0 : P 0 [])
    (hs : ∀ i d x H' acc, ds[i]? = some d → Ex H H' → Dp K H' x d → P i acc → ∃ b, EvT tt ((wipe σ vs).set j (some x)) H' b ∧ (b = true → ∃ y, Ev te ((wipe σ vs).set j (some x)) H' y ∧ P (i + 1) (acc ++ [y])) ∧ (b = false → P (i + 1) acc)) :
    EvP (tLc wi (gName j) tt te vs) σ H (P ds.length) := fun H0 e0 Q q => hI H0 e0 _ fun J H1 e1 it Dl hD => by
  refine ⟨fun i m H' => m = ds.length - i ∧ i ≤ ds.length ∧ Ex H1 H' ∧ ∃ acc, H' Dl = some (.lst acc) ∧ acc.length ≤ i ∧ P i acc, ⟨ds.length, by omega, Nat.zero_le _, Ex.new hD, [], upd_same, Nat.le_refl _, p0⟩, ?_⟩
  rintro i m H' ⟨rfl, hi, e2, acc, hacc, hal, hP⟩
  by_cases hlt : i < ds.length
  · refine .inr ⟨it.go i H' e2 hlt, fun H'' => i + 1 ≤ ds.length ∧ Ex H1 H'' ∧ ∃ acc, H'' Dl = some (.lst acc) ∧ acc.length ≤ i + 1 ∧ P (i + 1) acc, fun H'' ⟨h1, h2, h3⟩ => ⟨_, by omega, rfl, h1, h2, h3⟩, fun x H3 hy => ?_⟩
    obtain ⟨e3, d, hd, rd⟩ := it.yld i H' x H3 e2 hlt hy
    obtain ⟨b, ht, h1, h2⟩ := hs i d x H3 acc hd (((e0.trans e1).trans e2).trans e3) rd hP
    refine ⟨hw x, ht H3 (Ex.refl _) _ fun H5 e5 => ?_⟩
    have s1 : Ex H' H5 := e3.trans e5
    cases b with
    | true =>
      obtain ⟨y, hy, hp'⟩ := h1 rfl
      show te _ H5 fun y H6 => ∃ acc, H6 Dl = some (.lst acc) ∧ acc.length < sizeLine ∧ _
      exact hy H5 e5 _ fun H6 e6 => ⟨acc, e6 _ _ (s1 _ _ hacc), sz_lt (by omega), by omega, Ex.mut ((e2.trans s1).trans e6) hD, acc ++ [y], upd_same, by rw [List.length_append]; simp; omega, hp'⟩
    | false => exact ⟨by omega, e2.trans s1, acc, s1 _ _ hacc, by omega, h2 rfl⟩
  · have ei : i = ds.length := by omega
    subst ei
    exact .inl ⟨it.stop H' e2, q Dl acc H' (fresh_back e1 hD) (e1.trans e2) hacc hP⟩
theorem ed_lenEv {Pp : List V → Prop} {m : Nat} (h : EvP te σ H Pp) (hm : ∀ acc, Pp acc → acc.length = m) : EvD K (tCB (KR.rLenS K) (tCons te tNil)) σ H (.int (m : Int)) := fun H1 e Q q =>
  h H1 e _ fun Dl acc H2 nD e2 hD hP => ⟨Dl, acc, rfl, .inl (sq_of hD), q _ H2 e2 (by rw [hm acc hP]; exact .int _)⟩
theorem ev_var {i : Nat} {v : V} (h : σ[i]? = some (some v)) : Ev (tVar i) σ H v := fun H1 _ Q q => ⟨v, h, q H1 (Ex.refl _)⟩
/-- an item of a list, as it is -/
theorem ev_ixF {k : Nat} {a : Addr} {vs : List V} {v : V} {i : Int} (h : Ev ta σ H (.ref a)) (hs : SqL K H a vs) (hb : EvD K tb σ H (.int i)) (hi : i = (k : Int)) (hv : vs[k]? = some v) : Ev (tOp (rIx K) ta tb) σ H v := fun H1 e Q q =>
  h H1 e _ fun H2 e2 => hb H2 (e.trans e2) _ fun w H3 e3 s => .inl ⟨a, vs, i, v, rfl, dp_int s, ex_l ((e.trans e2).trans e3) hs, atI_of hv hi, q H3 (e2.trans e3)⟩
end
end
end KW
end
section
set_option Elab.async false
set_option linter.all false
set_option maxRecDepth 100000
set_option maxHeartbeats 4000000
/-! The parts of the walk of reduced_rows. -/
namespace KW
open PySem PySem.Spec PyProof.Rows L2 Evl KR K18 KX LamX
section
variable {P : Program} {w : World} {K : PySem.W.Frag} {mg : Str → Option Value} {base : Heap} {p : Nat} [hp : Pr p]
theorem ExtN.toT {H H' : Hp} (e : ExtN H H') : ExT H H' := fun q o h _ _ n3 => e q o h n3
theorem extN_of {H H' : Hp} (e : Ex H H') : ExtN H H' := fun q o h _ => e q o h
theorem _root_.KX.LB.extN {H H' : Hp} {B : List Addr} {vs : List V} {rows : List (List PyData)} (fr : FlatRows rows) (e : ExtN H H') (h : LB K H B vs rows) : LB K H' B vs rows :=
  ⟨h.1, fun i r hr => let ⟨p, xs, h1, h2, h3, h4⟩ := h.2 i r hr; ⟨p, xs, h1, h2, e _ _ h3 (fun ps z => nomatch z), dpA_exT (ExtN.toT e) _ _ (fr r (List.mem_of_getElem? hr)) h4⟩⟩
section
variable {C : Addr} {H : Hp} {σ : L2.St} {x dx a b : Addr} {Rd Ld : List (List PyData)} {R L : PT p} {k j n wd : Nat} {te te1 te2 ta tb tv : TE} {D : Ends} {tu tz : TS}
theorem WS.extN {H' : Hp} (frR : FlatRows Rd) (frL : FlatRows Ld) (e : ExtN H H') (W : WS K p C H x dx a b Rd Ld) : WS K p C H' x dx a b Rd Ld := by
  obtain ⟨va, h1, h2⟩ := W.rows
  obtain ⟨vb, h3, h4⟩ := W.left
  exact ⟨e _ _ W.ins (fun ps z => nomatch z), ⟨va, e _ _ h1 (fun ps z => nomatch z), h2.extN frR e⟩, ⟨vb, e _ _ h3 (fun ps z => nomatch z), h4.extN frL e⟩, W.ne⟩
theorem rowP_dRL (w : Nat) (r : Nat → Po p) : PyData.list (rowP w r) = dRL ((List.range w).map r) := by rw [rowP_eq]; rfl
/-- row_degree of a row of the worker -/
theorem ed_rdeg {i : Nat} (CT : ClsT K C) (W : WS K p C H x dx a b (tabP n wd R) Ld) (hk : σ[2]? = some (some (.ref x))) (hi : EvD K tb σ H (.int (i : Int))) (hin : i < n) (w1 : 1 ≤ wd) (w2 : wd ≤ 1000) :
    EvD K (tCall (spRowDegree K p) [] E0 (tCons (tOp (rIx K) (tFld K (tVar 2) "rows") tb) tNil)) σ H (.int ((rl wd (R i) : Int) - 1)) := by
  refine ed_call (true, (List.range wd).map (R i)) (eds_cons (ed_is (ed_ixL (k := i) (ed_fldR CT W hk) hi rfl (d := .list (rowP wd (R i))) (by rw [List.getElem?_map, tabP_at hin]; rfl)) (rowP_dRL _ _)) eds_nil) ⟨?_, ?_⟩
  · intro z
    have := congrArg List.length z
    simp at this; omega
  · show ((List.range wd).map (R i)).length ≤ 1000
    simp; omega
/-- order = sorted(..) -/
theorem rr_sort {T : List (Addr × Str)} {v : V} (CT : ClsT K C) (W : WS K p C H x dx a b (tabP n wd R) (tabP n n L)) (h1 : σ[1]? = some (some v)) (rv : Dp K H v (.tuple Ld')) (hlen : Ld'.length = n) (hk : σ[2]? = some (some (.ref x))) (h8 : 8 < σ.length) (hn : n ≤ 1000) (w1 : 1 ≤ wd) (w2 : wd ≤ 1000) (hT : Tabs T H)
    (q : ∀ H5 qq (s : Nat → Nat), ExtN H H5 → Tabs T H5 → H5 qq = some (.lst ((List.range n).map fun i => V.int ((s i : Nat) : Int))) → (∀ i, i < n → s i < n) → (∀ i j, i < n → j < n → s i = s j → i = j) → (∀ i, i < n → ∃ k, k < n ∧ s k = i) →
      (∀ i j, i ≤ j → j < n → rl wd (R (s j)) ≤ rl wd (R (s i))) → tz D (σ.set 3 (some (.ref qq))) H5) :
    tSeq (tAsg (KU.tSK T (tCB (KR.rLenS K) (tCons (tVar 1) tNil)) (tUn (rU fun i => V.int (-i)) (tCall (spRowDegree K p) [] E0 (tCons (tOp (rIx K) (tFld K (tVar 2) "rows") (tVar 8)) tNil))) 8) (gName 3)) tz D σ H := by
  refine ed_lenT (ed_var h1 rv) H (Ex.refl H) _ fun v' H2 e2 r => ⟨n, ?_, hn, hT.ext e2, fun H3 eN T3 => ⟨fun z => -((rl wd (R z.toNat) : Int) - 1), fun z z0 zn H4 e4 => ?_, fun H5 qq e5 h5 => ?_⟩⟩
  · rw [dp_int r, hlen]
  · obtain ⟨i, rfl⟩ : ∃ i : Nat, z = (i : Int) := ⟨z.toNat, by omega⟩
    have W4 := ((W.ex e2).extN (tabP_flat _ _ _) (tabP_flat _ _ _) eN).ex e4
    have h2' : (σ.set 8 (some (V.int (i : Int))))[2]? = some (some (.ref x)) := by rw [List.getElem?_set_ne (by decide)]; exact hk
    have h8' : (σ.set 8 (some (V.int (i : Int))))[8]? = some (some (V.int (i : Int))) := List.getElem?_set_self h8
    have he : EvD K (tUn (rU fun i => V.int (-i)) (tCall (spRowDegree K p) [] E0 (tCons (tOp (rIx K) (tFld K (tVar 2) "rows") (tVar 8)) tNil))) (σ.set 8 (some (V.int (i : Int)))) H4 (.int (-((rl wd (R i) : Int) - 1))) :=
      KR.ed_neg (ed_rdeg CT W4 h2' (ed_var h8' (.int _)) (by omega) w1 w2)
    exact he H4 (Ex.refl _) _ fun u H6 e6 r6 => ⟨e6, by rw [dp_int r6]; simp only [Int.toNat_natCast]⟩
  · obtain ⟨s, es, s1, s2, s3, s4⟩ := perm_of (n := n) (key := fun z => -((rl wd (R z.toNat) : Int) - 1))
    rw [es, List.map_map] at h5
    refine q H5 qq s (((extN_of e2).trans eN).trans (extN_of e5)) (T3.ext e5) h5 s1 s2 s3 fun i j hij hj => ?_
    have := s4 i j hij hj
    simp only [Int.toNat_natCast] at this
    omega
/-- x.rows = [x.rows[at] for at in order] -/
theorem lb_perm {B : List Addr} {va : List V} {s : Nat → Nat} (h : LB K H B va (tabP n wd R)) (hs : ∀ i, i < n → s i < n) : LB K H B ((List.range n).map fun k => va.getD (s k) .non) (tabP n wd fun i => R (s i)) := by
  refine ⟨by rw [tabP_len]; simp, fun i r hr => ?_⟩
  have hi : i < n := by
    have := (List.getElem?_eq_some_iff.mp hr).1
    rw [tabP_len] at this; exact this
  rw [tabP_at hi] at hr
  obtain rfl := Option.some.inj hr
  obtain ⟨q, xs, h1, h2, h3, h4⟩ := h.2 (s i) _ (tabP_at (hs i hi))
  exact ⟨q, xs, by rw [List.getElem?_map, List.getElem?_range hi]; show some (va.getD (s i) V.non) = _; rw [List.getD_eq_getElem?_getD, h1]; rfl, h2, h3, h4⟩
theorem evp_perm {A qq : Addr} {B : List Addr} {va : List V} {s : Nat → Nat} (hev : ∀ σ', (∀ i, i = 2 ∨ i = 3 → σ'[i]? = σ[i]?) → Ev te σ' H (.ref A)) (hA : H A = some (.lst va)) (hL : LB K H B va (tabP n wd R)) (hs : ∀ i, i < n → s i < n) (hn : n ≤ 1000)
    (hq3 : σ[3]? = some (some (.ref qq))) (hq : H qq = some (.lst ((List.range n).map fun i => V.int ((s i : Nat) : Int)))) (h8 : 8 < σ.length) (hw : ∀ x, wipe ((wipe σ [8]).set 8 (some x)) [8] = wipe σ [8]) (hwi : ∀ i, i = 2 ∨ i = 3 → (wipe σ [8])[i]? = σ[i]?) (hwl : (wipe σ [8]).length = σ.length) :
    EvP (tLc (iList K (tVar 3)) (gName 8) tYes (tOp (rIx K) te (tVar 8)) [8]) σ H (fun acc => acc = (List.range n).map fun k => va.getD (s k) .non) := by
  have hdq : Dp K H (.ref qq) (.list ((List.range n).map fun i => PyData.int ((s i : Nat) : Int))) := by
    refine .lst (sq_of hq) ?_
    have e1 : ((List.range n).map fun i => V.int ((s i : Nat) : Int)) = ((List.range n).map fun i => ((s i : Nat) : Int)).map V.int := by rw [List.map_map]; rfl
    have e2 : ((List.range n).map fun i => PyData.int ((s i : Nat) : Int)) = ((List.range n).map fun i => ((s i : Nat) : Int)).map PyData.int := by rw [List.map_map]; rfl
    rw [e1, e2]
    exact dpA_ints _
  have key := evp_lc (K := K) (te := tOp (rIx K) te (tVar 8)) (tt := tYes) (vs := [8]) (j := 8) (σ := σ) (H := H) (fun i acc => acc = (List.range i).map fun k => va.getD (s k) .non) (ei_list (ed_var hq3 hdq)) (by simp; omega) hw rfl fun i d y H' acc hd e r hP => ⟨true, et_yes, fun _ => ?_, fun z => nomatch z⟩
  · intro H1 e Q q
    refine key H1 e Q fun Dl acc H2 n1 e2 h2 hP => q Dl acc H2 n1 e2 h2 ?_
    rw [hP]; simp
  · have hin : i < n := by
      have := (List.getElem?_eq_some_iff.mp hd).1
      rw [List.length_map, List.length_range] at this; exact this
    rw [List.getElem?_map, List.getElem?_range hin] at hd
    obtain rfl := Option.some.inj hd
    obtain ⟨q1, xs, g1, g2, g3, g4⟩ := hL.2 (s i) _ (tabP_at (hs i hin))
    refine ⟨va.getD (s i) .non, ?_, by rw [hP, List.range_succ, List.map_append]; rfl⟩
    obtain rfl := dp_int r
    refine (ev_ixF (k := s i) (v := va.getD (s i) .non) (hev _ fun i hi => ?_) (sq_of hA) (ed_var (i := 8) (List.getElem?_set_self (by rw [hwl]; exact h8)) (.int _)) rfl (by rw [List.getD_eq_getElem?_getD, g1]; rfl)).mono e
    rw [List.getElem?_set_ne (by rcases hi with h | h <;> omega)]; exact hwi i hi
theorem q_fldP {Pp : List V → Prop} {f : Str} {fs : List (Str × V)} (h : EvP tv σ H Pp) (hx : H x = some (.ins C dx fs)) (hk : σ[k]? = some (some (.ref x))) (c : Cls K C) (n : NoAttr K C f) (hl : fs.length < 1000)
    (q : ∀ Dl acc H2, H Dl = none → Ex H H2 → H2 Dl = some (.lst acc) → Pp acc → tz D σ (upd H2 x (.ins C dx (putF f (.ref Dl) fs)))) : tSeq (sFld K (tVar k) tv f) tz D σ H :=
  h H (Ex.refl H) _ fun Dl acc H2 n1 e2 hD hP => ⟨.ref x, hk, x, C, dx, _, rfl, e2 _ _ hx, c, n, hl, q Dl acc H2 n1 e2 hD hP⟩
theorem rr_permR {qq : Addr} {s : Nat → Nat} (CT : ClsT K C) (W : WS K p C H x dx a b (tabP n wd R) Ld) (frL : FlatRows Ld) (hk : σ[2]? = some (some (.ref x))) (hs : ∀ i, i < n → s i < n) (hn : n ≤ 1000) (hq3 : σ[3]? = some (some (.ref qq))) (hq : H qq = some (.lst ((List.range n).map fun i => V.int ((s i : Nat) : Int))))
    (h8 : 8 < σ.length) (hw : ∀ x, wipe ((wipe σ [8]).set 8 (some x)) [8] = wipe σ [8]) (hwi : ∀ i, i = 2 ∨ i = 3 → (wipe σ [8])[i]? = σ[i]?) (hwl : (wipe σ [8]).length = σ.length)
    (q : ∀ a' H', H a' = none → (∀ c o, H c = some o → c ≠ x → H' c = some o) → WS K p C H' x dx a' b (tabP n wd fun i => R (s i)) Ld → tz D σ H') :
    tSeq (sFld K (tVar 2) (tLc (iList K (tVar 3)) (gName 8) tYes (tOp (rIx K) (tFld K (tVar 2) "rows") (tVar 8)) [8]) "rows") tz D σ H := by
  obtain ⟨va, ha, hL⟩ := W.rows
  obtain ⟨vb, hb, hLb⟩ := W.left
  refine q_fldP (K := K) (evp_perm (hev := fun σ' h' => ev_fldR CT W (by rw [h' 2 (.inl rfl)]; exact hk)) ha hL hs hn hq3 hq h8 hw hwi hwl) W.ins hk CT.cl CT.nR (by show 3 < 1000; decide) fun Dl acc H2 n1 e2 hD hP => ?_
  have hx2 := e2 _ _ W.ins
  have nDx : Dl ≠ x := fun z => by rw [z, W.ins] at n1; cases n1
  have nDb : Dl ≠ b := fun z => by rw [z, hb] at n1; cases n1
  refine q Dl _ n1 (fun c o hc hne => by rw [upd_ne hne]; exact e2 _ _ hc) ⟨upd_same, ⟨acc, by rw [upd_ne nDx]; exact hD, ?_⟩, ⟨vb, by rw [upd_ne W.xb.symm]; exact e2 _ _ hb, ?_⟩, nDb⟩
  · have g := ((lb_perm (s := s) hL hs).grow n1).ex e2
    rw [← hP] at g
    refine (g.less (B' := [x, Dl, b]) fun q hq => by simp at hq ⊢; rcases hq with h | h | h <;> simp [h]).flat (tabP_flat _ _ _) (fun q o hq _ n2 _ => ?_) fun q o hq hB => ?_
    · have hne : q ≠ x := fun z => by rw [z, hx2] at hq; exact n2 _ _ _ (Option.some.inj hq).symm
      rw [upd_ne hne]; exact hq
    · rw [upd_ne (fun z => hB (by simp [z]))]; exact hq
  · have g := (hLb.grow n1).ex e2
    refine (g.less (B' := [x, Dl, b]) fun q hq => by simp at hq ⊢; rcases hq with h | h | h <;> simp [h]).flat frL (fun q o hq _ n2 _ => ?_) fun q o hq hB => ?_
    · have hne : q ≠ x := fun z => by rw [z, hx2] at hq; exact n2 _ _ _ (Option.some.inj hq).symm
      rw [upd_ne hne]; exact hq
    · rw [upd_ne (fun z => hB (by simp [z]))]; exact hq
theorem rr_permL {qq : Addr} {s : Nat → Nat} (CT : ClsT K C) (W : WS K p C H x dx a b Rd (tabP n wd R)) (frR : FlatRows Rd) (hk : σ[2]? = some (some (.ref x))) (hs : ∀ i, i < n → s i < n) (hn : n ≤ 1000) (hq3 : σ[3]? = some (some (.ref qq))) (hq : H qq = some (.lst ((List.range n).map fun i => V.int ((s i : Nat) : Int))))
    (h8 : 8 < σ.length) (hw : ∀ x, wipe ((wipe σ [8]).set 8 (some x)) [8] = wipe σ [8]) (hwi : ∀ i, i = 2 ∨ i = 3 → (wipe σ [8])[i]? = σ[i]?) (hwl : (wipe σ [8]).length = σ.length)
    (q : ∀ b' H', H b' = none → (∀ c o, H c = some o → c ≠ x → H' c = some o) → WS K p C H' x dx a b' Rd (tabP n wd fun i => R (s i)) → tz D σ H') :
    tSeq (sFld K (tVar 2) (tLc (iList K (tVar 3)) (gName 8) tYes (tOp (rIx K) (tFld K (tVar 2) "left") (tVar 8)) [8]) "left") tz D σ H := by
  obtain ⟨va, ha, hLa⟩ := W.rows
  obtain ⟨vb, hb, hL⟩ := W.left
  refine q_fldP (K := K) (evp_perm (hev := fun σ' h' => ev_fldL CT W (by rw [h' 2 (.inl rfl)]; exact hk)) hb hL hs hn hq3 hq h8 hw hwi hwl) W.ins hk CT.cl CT.nL (by show 3 < 1000; decide) fun Dl acc H2 n1 e2 hD hP => ?_
  have hx2 := e2 _ _ W.ins
  have nDx : Dl ≠ x := fun z => by rw [z, W.ins] at n1; cases n1
  have nDa : Dl ≠ a := fun z => by rw [z, ha] at n1; cases n1
  refine q Dl _ n1 (fun c o hc hne => by rw [upd_ne hne]; exact e2 _ _ hc) ⟨upd_same, ⟨va, by rw [upd_ne W.xa.symm]; exact e2 _ _ ha, ?_⟩, ⟨acc, by rw [upd_ne nDx]; exact hD, ?_⟩, nDa.symm⟩
  · have g := (hLa.grow n1).ex e2
    refine (g.less (B' := [x, a, Dl]) fun q hq => by simp at hq ⊢; rcases hq with h | h | h <;> simp [h]).flat frR (fun q o hq _ n2 _ => ?_) fun q o hq hB => ?_
    · have hne : q ≠ x := fun z => by rw [z, hx2] at hq; exact n2 _ _ _ (Option.some.inj hq).symm
      rw [upd_ne hne]; exact hq
    · rw [upd_ne (fun z => hB (by simp [z]))]; exact hq
  · have g := ((lb_perm (s := s) hL hs).grow n1).ex e2
    rw [← hP] at g
    refine (g.less (B' := [x, a, Dl]) fun q hq => by simp at hq ⊢; rcases hq with h | h | h <;> simp [h]).flat (tabP_flat _ _ _) (fun q o hq _ n2 _ => ?_) fun q o hq hB => ?_
    · have hne : q ≠ x := fun z => by rw [z, hx2] at hq; exact n2 _ _ _ (Option.some.inj hq).symm
      rw [upd_ne hne]; exact hq
    · rw [upd_ne (fun z => hB (by simp [z]))]; exact hq
/-- many -/
theorem nzc_succ (i wd : Nat) (R : PT p) : nzc (i + 1) wd R = nzc i wd R + if 0 < rl wd (R i) then 1 else 0 := by
  unfold nzc
  rw [List.range_succ, List.filter_append, List.length_append]
  by_cases h : 0 < rl wd (R i)
  · rw [if_pos h]; simp [h]
  · rw [if_neg h]; simp [h]
theorem ed_many (CT : ClsT K C) (W : WS K p C H x dx a b (tabP n wd R) Ld) (hk : σ[2]? = some (some (.ref x))) (hn : n ≤ 1000) (w1 : 1 ≤ wd) (w2 : wd ≤ 1000) (h10 : 10 < (wipe σ [10]).length) (hw : ∀ x, wipe ((wipe σ [10]).set 10 (some x)) [10] = wipe σ [10]) :
    EvD K (tCB (KR.rLenS K) (tCons (tLc (iList K (tFld K (tVar 2) "rows")) (gName 10) (tTest (tOp (rI0 fun i j => V.bl (decide (j ≤ i))) (tCall (spRowDegree K p) [] E0 (tCons (tVar 10) tNil)) (tC (V.int 0)))) (tVar 10) [10]) tNil)) σ H (.int (nzc n wd R : Int)) := by
  have key := evp_lc (K := K) (te := tVar 10) (tt := tTest (tOp (rI0 fun i j => V.bl (decide (j ≤ i))) (tCall (spRowDegree K p) [] E0 (tCons (tVar 10) tNil)) (tC (V.int 0)))) (vs := [10]) (j := 10) (σ := σ) (H := H) (fun i acc => acc.length = nzc i wd R) (ei_list (ed_fldR CT W hk)) (by rw [List.length_map, tabP_len]; omega) hw rfl fun i d y H' acc hd e r hP => ?_
  · refine ed_lenEv key fun acc h => ?_
    rw [h, List.length_map, tabP_len]
  · have hin : i < n := by
      have := (List.getElem?_eq_some_iff.mp hd).1
      rw [List.length_map, tabP_len] at this; exact this
    rw [List.getElem?_map, tabP_at hin] at hd
    obtain rfl := Option.some.inj hd
    have hv : ((wipe σ [10]).set 10 (some y))[10]? = some (some y) := List.getElem?_set_self h10
    have r' : Dp K H' y (dRL ((List.range wd).map (R i))) := by rw [← rowP_dRL]; exact r
    refine ⟨decide (0 < rl wd (R i)), et_is (KR.et_test (K := K) (ed_opB (ed_call (true, (List.range wd).map (R i)) (eds_cons (ed_var hv r') eds_nil) ⟨?_, ?_⟩) ed_int)) ?_, fun hb => ⟨y, ev_var hv, ?_⟩, fun hb => ?_⟩
    · intro z
      have := congrArg List.length z
      simp at this; omega
    · show ((List.range wd).map (R i)).length ≤ 1000
      simp; omega
    · show decide ((0 : Int) ≤ (rl wd (R i) : Int) - 1) = _
      by_cases h : 0 < rl wd (R i)
      · rw [decide_eq_true h, decide_eq_true (by omega)]
      · rw [decide_eq_false h, decide_eq_false (by omega)]
    · rw [List.length_append, hP, nzc_succ, if_pos (of_decide_eq_true hb)]; rfl
    · rw [hP, nzc_succ, if_neg (of_decide_eq_false hb), Nat.add_zero]
/-- leads -/
theorem en_leads {m : Nat} (CT : ClsT K C) (W : WS K p C H x dx a b (tabP n wd R) Ld) (hk : σ[2]? = some (some (.ref x))) (hm : EvD K tb σ H (.int (m : Int))) (hmn : m ≤ n) (hn : n ≤ 1000) (w1 : 1 ≤ wd) (w2 : wd ≤ 1000) (hpos : ∀ i, i < m → 0 < rl wd (R i)) (h10 : 10 < (wipe σ [10]).length) (hw : ∀ x, wipe ((wipe σ [10]).set 10 (some x)) [10] = wipe σ [10]) :
    EvN K (tLc (iList K (tSl (rSlL K) (tFld K (tVar 2) "rows") tNoPart (tPart tb))) (gName 10) tYes (tCall (spLeadOf K p) [] E0 (tCons (tVar 10) tNil)) [10]) σ H ((tabD m wd fun i => lead wd (R i)).map .tuple) := by
  refine en_is (en_lc0 (List.range m) (fun i => .list (rowP wd (R i))) (fun i => .tuple ((cellsF wd (lead wd (R i))).map dC)) (ei_list (EvN.toD (en_is (en_to (ed_fldR CT W hk) hm rfl) ?_))) (by simp; omega) (fun i _ => by simp only [flatD]; exact flat_map (fun a => rfl) _) hw
    fun i v' H' hi e r => ?_) (by unfold tabD; rw [List.map_map]; rfl)
  · rw [tabP_lst, ← List.map_take, take_range hmn]
  · have hi := List.mem_range.mp hi
    have hv : ((wipe σ [10]).set 10 (some v'))[10]? = some (some v') := List.getElem?_set_self h10
    have r' : Dp K H' v' (dRL ((List.range wd).map (R i))) := by rw [← rowP_dRL]; exact r
    refine ed_is (ed_call ((List.range wd).map (R i)) (eds_cons (ed_var hv r') eds_nil) ⟨?_, by simp; omega, ?_⟩) ?_
    · intro z
      have := congrArg List.length z
      simp at this; omega
    · have := hpos i hi
      show rl wd (R i) ≠ 0
      omega
    · unfold leadv cellsF lead
      rw [List.map_map, List.map_map, List.map_map]
      rfl
theorem tabs_keep {T : List (Addr × Str)} {H' : Hp} (h : ∀ q o, H q = some o → (∀ xs, o ≠ .lst xs) → (∀ C dx fs, o ≠ .ins C dx fs) → H' q = some o) (t : Tabs T H) : Tabs T H' := fun q hq => by
  obtain ⟨ps, h1, h2, h3⟩ := t q hq
  refine ⟨ps, h _ _ h1 (fun xs z => nomatch z) (fun _ _ _ z => nomatch z), h2, fun pos cv hc => ?_⟩
  obtain ⟨c0, g1, g2⟩ := h3 pos cv hc
  exact ⟨c0, g1, h _ _ g2 (fun xs z => by unfold CodeO at z; cases z) (fun _ _ _ z => by unfold CodeO at z; cases z)⟩
theorem tabs_kp {T : List (Addr × Str)} {H' : Hp} (W : WS K p C H x dx a b Rd Ld) (k : Kp a b H H') (t : Tabs T H) : Tabs T H' := tabs_keep (fun q o hq n1 _ => k q o hq (fun z => by
  obtain ⟨va, h1, _⟩ := W.rows
  rw [z, h1] at hq; exact n1 _ (Option.some.inj hq).symm) fun z => by
  obtain ⟨va, h1, _⟩ := W.left
  rw [z, h1] at hq; exact n1 _ (Option.some.inj hq).symm) t
theorem tabs_x {T : List (Addr × Str)} {H' : Hp} (W : WS K p C H x dx a b Rd Ld) (k : ∀ c o, H c = some o → c ≠ x → H' c = some o) (t : Tabs T H) : Tabs T H' := tabs_keep (fun q o hq _ n2 => k q o hq fun z => by
  rw [z, W.ins] at hq; exact n2 _ _ _ (Option.some.inj hq).symm) t
/-- nothing but a table stands at a -/
def NoT (H : Hp) (a : Addr) : Prop := ∀ o, H a = some o → ∃ ps, o = .tbl ps
theorem NoT.of {H' : Hp} (e : ExtN H H') (h : H' a = none) : NoT H a := fun o ho => by
  by_cases ht : ∃ ps, o = .tbl ps
  · exact ht
  · rw [e a o ho fun ps z => ht ⟨ps, z⟩] at h; cases h
theorem NoT.kp {H1 H2 : Hp} (ha : NoT H a) (hb : NoT H b) (e : ExtN H H1) (k : Kp a b H1 H2) : ExtN H H2 := fun q o hq hn => k q o (e q o hq hn) (fun z => by
  obtain ⟨ps, e⟩ := ha o (by rw [← z]; exact hq)
  exact hn ps e) fun z => by
  obtain ⟨ps, e⟩ := hb o (by rw [← z]; exact hq)
  exact hn ps e
end
end
end KW
end
section
set_option Elab.async false
set_option linter.all false
set_option maxRecDepth 100000
set_option maxHeartbeats 4000000
/-! Walk: reduced_rows. -/
namespace KW
open PySem PySem.Spec PyProof.Rows L2 Evl KR K18 KX LamX
section math
variable {p : Nat} [hp : Pr p]
theorem first_of {P : Nat → Bool} : ∀ {c : Nat}, (∃ j, j < c ∧ P j = true) → ∃ a, ((List.range c).filter P)[0]? = some a ∧ a < c ∧ P a = true ∧ ∀ i, i < a → P i = false
  | 0, ⟨j, hj, _⟩ => by omega
  | c + 1, ⟨j, hj, hP⟩ => by
    rw [List.range_succ, List.filter_append]
    by_cases h : ∃ j, j < c ∧ P j = true
    · obtain ⟨a, h1, h2, h3, h4⟩ := first_of h
      refine ⟨a, ?_, by omega, h3, h4⟩
      rw [List.getElem?_append_left (List.getElem?_eq_some_iff.mp h1).1]; exact h1
    · have hall : ∀ i, i < c → P i = false := fun i hi => by
        cases e : P i with
        | false => rfl
        | true => exact absurd ⟨i, hi, e⟩ h
      have hjc : j = c := by
        by_cases q : j < c
        · exact absurd ⟨j, q, hP⟩ h
        · omega
      subst hjc
      have e1 : (List.range j).filter P = [] := List.filter_eq_nil_iff.mpr fun i hi => by rw [hall i (List.mem_range.mp hi)]; simp
      rw [e1]
      exact ⟨j, by simp [hP], by omega, hP, hall⟩
theorem sP_l (m : Nat) : (sP m : Po p).l = List.replicate m 0 ++ [1] := by
  have hx : ∀ x, (List.replicate m (0 : Fin p) ++ [1]).getLast? = some x → x ≠ 0 := fun x h => by
    simp at h; rw [← h]; exact f_one_ne
  have : (sP m : Po p) = ⟨List.replicate m 0 ++ [1], hx⟩ := co_ext fun k => by
    rw [co_sP]
    show _ = (List.replicate m (0 : Fin p) ++ [1]).getD k 0
    rw [List.getD_eq_getElem?_getD]
    by_cases h : k < m
    · rw [List.getElem?_append_left (by simpa using h), List.getElem?_replicate, if_pos h, if_neg (by omega)]; rfl
    · rw [List.getElem?_append_right (by simpa using Nat.le_of_not_lt h), List.length_replicate]
      by_cases e : k = m
      · rw [e, if_pos rfl, Nat.sub_self]; rfl
      · rw [if_neg e, List.getElem?_eq_none (by simp; omega)]; rfl
  rw [this]
theorem neg_val {x : Fin p} (h : x ≠ 0) : (p : Int) - (x.val : Int) = ((-x : Fin p).val : Int) := by
  have h1 := x.isLt
  have h2 : x.val ≠ 0 := fun e => h (Fin.ext (by rw [e]; rfl))
  have : (-x : Fin p).val = p - x.val := by
    rw [Fin.neg_def]
    show (p - x.val) % p = _
    exact Nat.mod_eq_of_lt (by omega)
  rw [this]; omega
theorem deg_le {n w b : Nat} {R : PT p} (h : ∀ i, i < n → rl w (R i) ≤ b) : deg n w R ≤ n * b := by
  unfold deg
  induction n with
  | zero => exact Nat.zero_le _
  | succ n ih =>
    show SN n _ + rl w (R n) ≤ _
    have h1 := ih fun i hi => h i (by omega)
    have h2 := h n (by omega)
    rw [Nat.succ_mul]; omega
end math
section
variable {P : Program} {w : World} {K : PySem.W.Frag} {mg : Str → Option Value} {base : Heap} {p : Nat} [hp : Pr p]
abbrev s_reduced_rows : Stmt := topS 33
theorem sc_reduced_rows : FnScope ["p", "rows", "worker", "order", "many", "leads", "found", "told", "at", "place", "row", "shift"] ["p", "rows"] (defScope s_reduced_rows) := ⟨rfl, rfl, rfl, by decide +kernel, rfl, by decide +kernel, by decide +kernel⟩
-- slots 0 p, 1 rows, 2 worker', 3 order, 4 many, 5 leads, 6 found, 7 told', 8 at, 9 place, 10 row, 11 shift
/-- the table of code objects of reduced_rows -/
def rrT (Pt : Addr) : List (Addr × Str) := [(Pt, ("reduced_rows.<locals>." : Str) ++ "<lambda>")]
def spRR (K : PySem.W.Frag) (p : Nat) [Pr p] (Pt : Addr) : Sp := fun vs H Q _ => ∃ (v : V) (n wd : Nat) (R : PT p), vs = [.int (p : Int), v] ∧ Dp K H v (.tuple ((tabP n wd R).map .tuple)) ∧ 1 ≤ n ∧ n ≤ 3 ∧ 1 ≤ wd ∧ wd ≤ 3 ∧ (∀ i, i < n → rl wd (R i) ≤ 13) ∧ Tabs (rrT Pt) H ∧
  ∀ v' H' (F L : PT p) (c : Nat), ExtN H H' → Tabs (rrT Pt) H' → Dp K H' v' (.tuple [.tuple ((tabP n wd F).map .tuple), .tuple ((tabP n n L).map .tuple)]) → Red n wd c F → Wk n wd R 13 1000 F L → Q v' H'
theorem ok_reduced_rows (T : Bt mg) {c Pt C fI fS fT fO : Addr} {fdI fdS fdT fdO : FuncData} (D : DefC K mg "reduced_rows" s_reduced_rows ["p", "rows"] c) (TB : TabB base mg c Pt) (CT : ClsT K C) (g_Worker : mg "Worker" = some (.ref C))
    (M_Worker : Mk K C fI) (O_Worker : FnOk P w K mg base CX0 2 fI fdI ["self", "p", "rows"] (spInitW K p C)) (b_Worker : Binds K fdI ["self", "p", "rows"] [])
    (m_stretch : Meth K C "stretch" fS) (O_stretch : FnOk P w K mg base CX0 3 fS fdS ["self", "one", "number"] (spStretch K p C)) (b_stretch : Binds K fdS ["self", "one", "number"] [])
    (m_take : Meth K C "take" fT) (O_take : FnOk P w K mg base CX0 4 fT fdT ["self", "one", "other", "factor"] (spTake K p C)) (b_take : Binds K fdT ["self", "one", "other", "factor"] [])
    (m_told : Meth K C "told" fO) (O_told : FnOk P w K mg base CX0 1 fO fdO ["self"] (spTold K p C)) (b_told : Binds K fdO ["self"] [])
    (O_row_degree : Ok P w K mg base "row_degree" ["row"] 1 (spRowDegree K p)) (O_lead_of : Ok P w K mg base "lead_of" ["row"] 2 (spLeadOf K p)) (O_exchanged : Ok P w K mg base "exchanged" ["rows"] 1 (spExchanged K p))
    (O_kernel_of : Ok P w K mg base "kernel_of" ["p", "rows", "wide"] 3 (spKernelOf K p)) (O_scaled : Ok P w K mg base "scaled" ["p", "one", "number"] 2 (spScaled K p)) :
    Ok P w K mg base "reduced_rows" ["p", "rows"] 6 (spRR K p Pt) := by
  have c_Worker := CT.cl
  refine D.ok sc_reduced_rows (fun vs H Q E h => ?_) (fun f A outer s H vs Q E hr h => ?_)
  · obtain ⟨v, n, wd, R, rfl, _⟩ := h
    rfl
  · obtain ⟨v, n, wd, R, rfl, rv, n1, n3, w1, w3, hb, hT, q⟩ := h
    have hmT : (Pt, ("reduced_rows.<locals>." : Str) ++ "<lambda>") ∈ rrT Pt := List.mem_singleton_self _
    have hu : ∀ q ∈ rrT Pt, q.1 = Pt → q.2 = ("reduced_rows.<locals>." : Str) ++ "<lambda>" := fun q hq _ => by rw [List.mem_singleton.mp hq]
    refine ⟨_, (pss_cons (ps_set (i := 2) sc_reduced_rows.nd rfl (Or.inr rfl) (pe_make M_Worker O_Worker (hr.mono (by decide)) (by rfl) g_Worker b_Worker .nil pass0 (pa_cons (pv 0) (pa_cons (pv 1) pa_nil))))
      (pss_one (ps_while PassesOwn.never (pt_val pe_bl) (pss_cons (ps_set (i := 3) sc_reduced_rows.nd rfl (Or.inl rfl) (KU.pe_sortedLam (x := "at") (i := 8) (k := 1) rfl (by rfl) T.sorted (by rfl) T.range (pe_callB (kLen (K := K) rfl) (by rfl) T.len (by decide +kernel) (pa_cons (pv 1) pa_nil)) TB rfl hmT hu rfl (KU.lamS1_by (sc := defScope s_reduced_rows) (by decide +kernel)) (fun _ _ _ _ _ => rfl) (hr.mono (by decide)) rfl sc_reduced_rows.nd (fun _ _ _ _ _ _ hr' => (pe_un un_neg (pe_ok O_row_degree (hr'.mono (by decide)) (by rfl) (pa_cons (pe_ix (kIx (K := K) rfl) (kpe_fld (K := K) rfl (pv 2) rfl) (pv 8) (fun _ _ => rfl)) pa_nil))))))
      (pss_cons (ps_fld (pv 2) (pe_lc (own := [("at", 8)]) (g := gName 8) (tt := tYes) rfl sc_reduced_rows.nd (kpi_list (K := K) rfl (pv 3)) (blkOk_by (N := ["p", "rows", "worker", "order", "many", "leads", "found", "told", "at", "place", "row", "shift"]) (sc := defScope s_reduced_rows) (by decide +kernel)) (fun _ _ _ _ _ => (pg_name (i := 8) sc_reduced_rows.nd rfl (Or.inl rfl) (hf := Or.inr rfl))) (fun _ _ _ _ _ => pts_nil) (fun _ _ _ _ _ => (pe_ix (kIx (K := K) rfl) (kpe_fld (K := K) rfl (pv 2) rfl) (pv 8) (fun _ _ => rfl)))) rfl)
      (pss_cons (ps_fld (pv 2) (pe_lc (own := [("at", 8)]) (g := gName 8) (tt := tYes) rfl sc_reduced_rows.nd (kpi_list (K := K) rfl (pv 3)) (blkOk_by (N := ["p", "rows", "worker", "order", "many", "leads", "found", "told", "at", "place", "row", "shift"]) (sc := defScope s_reduced_rows) (by decide +kernel)) (fun _ _ _ _ _ => (pg_name (i := 8) sc_reduced_rows.nd rfl (Or.inl rfl) (hf := Or.inr rfl))) (fun _ _ _ _ _ => pts_nil) (fun _ _ _ _ _ => (pe_ix (kIx (K := K) rfl) (kpe_fld (K := K) rfl (pv 2) rfl) (pv 8) (fun _ _ => rfl)))) rfl)
      (pss_cons (ps_set (i := 4) sc_reduced_rows.nd rfl (Or.inl rfl) (pe_callB (kLen (K := K) rfl) (by rfl) T.len (by decide +kernel) (pa_cons (pe_lc (own := [("row", 10)]) (g := gName 10) rfl sc_reduced_rows.nd (kpi_list (K := K) rfl (kpe_fld (K := K) rfl (pv 2) rfl)) (blkOk_by (N := ["p", "rows", "worker", "order", "many", "leads", "found", "told", "at", "place", "row", "shift"]) (sc := defScope s_reduced_rows) (by decide +kernel)) (fun _ _ _ _ _ => (pg_name (i := 10) sc_reduced_rows.nd rfl (Or.inl rfl) (hf := Or.inr rfl))) (fun _ _ _ _ _ => (pts_one (pt_cmpR op_ge (pe_ok O_row_degree (hr.mono (by decide)) (by rfl) (pa_cons (pv 10) pa_nil)) pe_int (nomark _)))) (fun _ _ _ _ _ => (pv 10))) pa_nil)))
      (pss_cons (ps_setLc (i := 5) (own := [("row", 10)]) (g := gName 10) (tt := tYes) rfl sc_reduced_rows.nd rfl rfl (sw_true rfl rfl rfl (by decide +kernel)) (kpi_list (K := K) rfl (pe_slice (kSlL (K := K) rfl) (kpe_fld (K := K) rfl (pv 2) rfl) po_none (po_some (pv 4)))) (blkOk_by (N := ["p", "rows", "worker", "order", "many", "leads", "found", "told", "at", "place", "row", "shift"]) (sc := defScope s_reduced_rows) (by decide +kernel)) (fun _ _ _ _ _ => (pg_name (i := 10) sc_reduced_rows.nd rfl (Or.inl rfl) (hf := Or.inr rfl))) (fun _ _ _ _ _ => pts_nil) (fun _ _ _ _ _ => (pe_ok O_lead_of (hr.mono (by decide)) (by rfl) (pa_cons (pv 10) pa_nil))))
      (pss_cons (ps_set (i := 6) sc_reduced_rows.nd rfl (Or.inl rfl) (pe_ifExp (pt_cmpR op_gt (pv 4) pe_int (nomark _)) (pe_ok O_kernel_of (hr.mono (by decide)) (by rfl) (pa_cons (pv 0) (pa_cons (pe_ok O_exchanged (hr.mono (by decide)) (by rfl) (pa_cons (pv 5) pa_nil)) (pa_cons (pv 4) pa_nil)))) (pe_lst pa_nil)))
      (pss_cons (ps_if (pt_cmpR (kEqD (K := K) rfl hr.units) (pv 6) (pe_lst pa_nil) (nomark _)) (pss_one (ps_ret (pe_meth0 (pv 2) c_Worker m_told O_told (hr.mono (by decide)) b_told .nil pass0))) pss_nil)
      (pss_cons (ps_set (i := 7) sc_reduced_rows.nd rfl (Or.inr rfl) (pe_ix (kIx (K := K) rfl) (pv 6) pe_int (fun _ _ => rfl)))
      (pss_cons (ps_set (i := 8) sc_reduced_rows.nd rfl (Or.inl rfl) (pe_ix (kIx (K := K) rfl) (pe_lc (own := [("place", 9)]) (g := gName 9) rfl sc_reduced_rows.nd (pi_range1 (by rfl) T.range (pa_cons (pv 4) pa_nil)) (blkOk_by (N := ["p", "rows", "worker", "order", "many", "leads", "found", "told", "at", "place", "row", "shift"]) (sc := defScope s_reduced_rows) (by decide +kernel)) (fun _ _ _ _ _ => (pg_name (i := 9) sc_reduced_rows.nd rfl (Or.inl rfl) (hf := Or.inr rfl))) (fun _ _ _ _ _ => (pts_one (pt_cmpR op_ne (pe_ix (kIx (K := K) rfl) (pv 7) (pv 9) (fun _ _ => rfl)) pe_int (nomark _)))) (fun _ _ _ _ _ => (pv 9))) pe_int (fun _ _ => rfl)))
      (pss_cons (ps_expr (pe_meth (pv 2) c_Worker m_stretch O_stretch (hr.mono (by decide)) b_stretch .nil pass0 (pa_cons (pv 8) (pa_cons (pe_ix (kIx (K := K) rfl) (pv 7) (pv 8) (fun _ _ => rfl)) pa_nil))))
      (pss_one (ps_for PassesOwn.never rfl (pi_range2 (by rfl) T.range (pa_cons (pe_op op_add (pv 8) pe_int) (pa_cons (pv 4) pa_nil))) (pg_name (i := 9) sc_reduced_rows.nd rfl (Or.inl rfl)) (pss_one (ps_if (pt_cmpR op_ne (pe_ix (kIx (K := K) rfl) (pv 7) (pv 9) (fun _ _ => rfl)) pe_int (nomark _)) (pss_cons (ps_set (i := 11) sc_reduced_rows.nd rfl (Or.inl rfl) (pe_op op_sub (pe_ok O_row_degree (hr.mono (by decide)) (by rfl) (pa_cons (pe_ix (kIx (K := K) rfl) (kpe_fld (K := K) rfl (pv 2) rfl) (pv 8) (fun _ _ => rfl)) pa_nil)) (pe_ok O_row_degree (hr.mono (by decide)) (by rfl) (pa_cons (pe_ix (kIx (K := K) rfl) (kpe_fld (K := K) rfl (pv 2) rfl) (pv 9) (fun _ _ => rfl)) pa_nil))))
      (pss_one (ps_expr (pe_meth (pv 2) c_Worker m_take O_take (hr.mono (by decide)) b_take .nil pass0 (pa_cons (pv 8) (pa_cons (pv 9) (pa_cons (pe_ok O_scaled (hr.mono (by decide)) (by rfl) (pa_cons (pv 0) (pa_cons (pe_op (kCatT (K := K) rfl) (pe_op (KT.kRepT0 (K := K) rfl) (pe_tup (pa_cons pe_int pa_nil)) (pv 11)) (pe_tup (pa_cons pe_int pa_nil))) (pa_cons (pe_op op_sub (pv 0) (pe_ix (kIx (K := K) rfl) (pv 7) (pv 9) (fun _ _ => rfl))) pa_nil)))) pa_nil))))))) pss_nil))))))))))))))))), ?_⟩
    have rv0 : Dp K H v (.tuple ((tabP n wd R).map .tuple)) := rv
    have flatR : ∀ (m k : Nat) (M : PT p), flatD (.tuple ((tabP m k M).map PyData.tuple)) = true := fun m k M => by
      rw [tabP_tup]; simp only [flatD]; exact flat_map (fun i => by simp only [flatD]; exact rowP_flat _ _) _
    -- worker = Worker(p, rows)
    refine ⟨_, rfl, _, rfl, fun x dx nx ndx nex => ?_⟩
    have nx' : upd H dx (.own x) x = none := by rw [upd_ne nex.symm]; exact nx
    have eU : Ex H (upd (upd H dx (.own x)) x (.ins C dx [])) := (Ex.new ndx).trans (Ex.new nx')
    refine ⟨x, dx, v, n, wd, R, rfl, upd_same, dp_ex eU _ _ rv, by omega, by omega, fun a b H1 na nb kp W1 => ⟨rfl, ?_⟩⟩
    have eH1 : Ex H H1 := fun c o hc => kp c o (eU _ _ hc) (ne_of_none hc nx)
    -- while True
    refine ⟨fun m σ' H' => ∃ (R' L' : PT p) (a b : Addr) (e : Nat) (o3 o4 o5 o6 o7 o8 o9 o10 o11 : Option V), m = deg n wd R' ∧ e + 24 * m ≤ 940 ∧ WS K p C H' x dx a b (tabP n wd R') (tabP n n L') ∧ Wk n wd R 13 e R' L' ∧ ExtN H H' ∧ NoT H a ∧ NoT H b ∧ Tabs (rrT Pt) H' ∧
      σ' = [some (.int (p : Int)), some v, some (.ref x), o3, o4, o5, o6, o7, o8, o9, o10, o11], ⟨deg n wd R, R, unitT, a, b, 1, none, none, none, none, none, none, none, none, none, rfl, ?_, W1, Wk.init n1 n3 hb, extN_of eH1, NoT.of (extN_of eU) na, NoT.of (extN_of eU) nb, hT.ext eH1, rfl⟩, fun m σ' Hl hW => ?_⟩
    · have := deg_le hb
      have : n * 13 ≤ 3 * 13 := Nat.mul_le_mul_right _ n3
      omega
    obtain ⟨R', L', a, b, e, o3, o4, o5, o6, o7, o8, o9, o10, o11, hm, hbd, Wl, K0, eN0, na, nb, Tl, rfl⟩ := hW
    refine KR.et_B (K := K) ed_bl Hl (Ex.refl _) _ fun H2 e2 => ?_
    show if true = true then _ else _
    rw [if_pos rfl]
    refine ⟨_, fun σ'' H'' h => h, ?_⟩
    have W2 := Wl.ex e2
    have eN2 : ExtN H H2 := eN0.trans (extN_of e2)
    have rv2 : Dp K H2 v (.tuple ((tabP n wd R).map .tuple)) := dp_exT (ExtN.toT eN2) _ _ (flatR _ _ _) rv
    -- order = sorted(..)
    refine rr_sort (K := K) (R := R') (L := L') (n := n) (wd := wd) CT W2 rfl rv2 (by rw [List.length_map, tabP_len]) rfl (by simp) (by omega) w1 (by omega) (Tl.ext e2) fun H5 qq s eN5 T5 hq s1 s2 s3 s4 => ?_
    have W5 := W2.extN (tabP_flat _ _ _) (tabP_flat _ _ _) eN5
    -- worker.rows = .., worker.left = ..
    refine rr_permR (K := K) (qq := qq) (s := s) CT W5 (tabP_flat _ _ _) rfl s1 (by omega) rfl hq (by simp) (fun x => rfl) (fun i hi => by rcases hi with h | h <;> subst h <;> rfl) rfl fun a' H6 na' k6 W6 => ?_
    have hxq : qq ≠ x := fun z => by rw [z, W5.ins] at hq; cases hq
    refine rr_permL (K := K) (qq := qq) (s := s) CT W6 (tabP_flat _ _ _) rfl s1 (by omega) rfl (k6 _ _ hq hxq) (by simp) (fun x => rfl) (fun i hi => by rcases hi with h | h <;> subst h <;> rfl) rfl fun b' H7 nb' k7 W7 => ?_
    have eN7 : ExtN H H7 := fun c o hc hn => by
      have hcx := ne_of_none hc nx
      exact k7 _ _ (k6 _ _ ((eN2.trans eN5) c o hc hn) hcx) hcx
    have T6 : Tabs (rrT Pt) H6 := tabs_x W5 k6 T5
    have T7 : Tabs (rrT Pt) H7 := tabs_x W6 k7 T6
    have na7 : NoT H a' := NoT.of (eN2.trans eN5) na'
    have nb7 : NoT H b' := NoT.of (fun c o hc hn => k6 _ _ ((eN2.trans eN5) c o hc hn) (ne_of_none hc nx)) nb'
    have K7 := K0.perm n1 n3 s1 s2 s3
    have hdeg : deg n wd (fun i => R' (s i)) = deg n wd R' := SN_perm (f := fun i => rl wd (R' i)) n1 n3 s1 s2
    have desc : ∀ i j, i ≤ j → j < n → rl wd ((fun i => R' (s i)) j) ≤ rl wd ((fun i => R' (s i)) i) := s4
    generalize (fun i => R' (s i)) = R2 at W7 K7 hdeg desc
    generalize (fun i => L' (s i)) = Lq at W7 K7
    obtain ⟨cN, pos, zer⟩ := nzc_ok desc
    have hred := red_of (n := n) (w := wd) (R := R2) desc
    generalize hc : nzc n wd R2 = c0 at cN pos zer hred
    -- many
    refine qd_asg (K := K) (d := .int (c0 : Int)) (ed_is (ed_many CT W7 rfl (by omega) w1 (by omega) (by simp [wipe]) (fun x => rfl)) (by rw [hc])) fun v4 H8 e8 r8 => ?_
    obtain rfl := dp_int r8
    have W8 := W7.ex e8
    -- leads
    refine qd_asg (K := K) (d := .list ((tabD c0 wd fun i => lead wd (R2 i)).map .tuple)) (EvN.toD (en_leads CT W8 rfl (ed_var rfl (.int _)) cN (by omega) w1 (by omega) pos (by simp [wipe]) (fun x => rfl))) fun v5 H9 e9 r9 => ?_
    have W9 := W8.ex e9
    -- found
    obtain ⟨fl, hfl⟩ : ∃ fl : List (Nat → Fin p), fl = if 0 < c0 then kerf wd c0 (fun j i => lead wd (R2 i) j) else [] := ⟨_, rfl⟩
    refine qd_asg (K := K) (d := .list (fl.map fun t => .tuple ((cellsF c0 t).map dC))) (ed_if (b := decide (0 < c0)) (et_is (KR.et_test (K := K) (ed_opB (ed_var rfl (.int (c0 : Int))) ed_int)) (by
        by_cases h : 0 < c0
        · rw [decide_eq_true h, decide_eq_true (by omega)]
        · rw [decide_eq_false h, decide_eq_false (by omega)])) (fun hb' => ?_) (fun hb' => ?_)) fun v6 H10 e10 r10 => ?_
    · have hb' := of_decide_eq_true hb'
      rw [if_pos hb'] at hfl
      refine ed_is (ed_call (wd, c0, fun j i => lead wd (R2 i) j) (eds_cons (ed_var rfl (.int _)) (eds_cons (ed_call (c0, wd, fun i => lead wd (R2 i)) (eds_cons (ed_var rfl r9) eds_nil) ⟨hb', by show c0 ≤ 3; omega, w1, by show wd ≤ 1000; omega⟩) (eds_cons (ed_var rfl (.int _)) eds_nil))) ⟨w1, by show wd ≤ 6; omega, hb', by show c0 ≤ 6; omega⟩) ?_
      rw [hfl]
    · have hb' := of_decide_eq_false hb'
      rw [if_neg hb'] at hfl
      rw [hfl]
      exact ed_lst eds_nil (by simp)
    have W10 := W9.ex e10
    have eN10 : ExtN H H10 := eN7.trans (extN_of ((e8.trans e9).trans e10))
    have T10 : Tabs (rrT Pt) H10 := ((T7.ext e8).ext e9).ext e10
    -- if found == []
    have hshp : Shp 2 (.list (fl.map fun t => PyData.tuple ((cellsF c0 t).map dC))) := shp_lst (shp_map fun t _ => shp_tup (shp_map fun a _ => shp_int))
    refine q_when' (b := decide (fl = [])) (et_is (KR.et_test (K := K) (ed_eqD (ed_var rfl r10) (ed_lst eds_nil (by decide)) hshp.ok rfl)) (by
        rw [eqv_nil_list]
        exact decide_eq_decide.mpr List.map_eq_nil_iff)) (fun hb' H11 e11 => ?_) (fun hb' H11 e11 => ?_)
    · have hb' := of_decide_eq_true hb'
      have hR : Red n wd c0 R2 := hred (by
        by_cases h : 0 < c0
        · rw [if_pos h] at hfl; exact .inr (hfl.symm.trans hb')
        · exact .inl (by omega))
      have W11 := W10.ex e11
      refine ⟨_, rfl, x, dx, _, rfl, W11.ins, rfl, ?_⟩
      refine ⟨x, dx, a', b', n, wd, R2, Lq, rfl, W11, by omega, by omega, fun v' H12 e12 r12 => ?_⟩
      exact q v' H12 R2 Lq c0 (eN10.trans (extN_of (e11.trans e12))) ((T10.ext e11).ext e12) r12 hR (K7.mono (by omega))
    · have hb' := of_decide_eq_false hb'
      have hc1 : 0 < c0 := by
        by_cases h : 0 < c0
        · exact h
        · rw [if_neg h] at hfl; exact absurd hfl hb'
      rw [if_pos hc1] at hfl
      cases fl with
      | nil => exact absurd rfl hb'
      | cons t fl =>
      obtain ⟨hsol, htn⟩ := ker_mem (w := wd) (m := c0) (M := fun j i => lead wd (R2 i) j) (t := t) (by rw [← hfl]; exact List.mem_cons_self ..)
      -- told = found[0]
      refine qd_asg (K := K) (d := .tuple ((cellsF c0 t).map dC)) (ed_ixL (k := 0) (ed_var rfl (dp_ex e11 _ _ r10)) ed_int rfl rfl) fun v7 H12 e12 r12 => ?_
      have W12 := (W10.ex e11).ex e12
      obtain ⟨at', ha1, ha2, ha3, ha4⟩ := first_of (P := fun i => decide (t i ≠ 0)) (c := c0) (by
        obtain ⟨j, hj, hne⟩ := htn
        exact ⟨j, hj, decide_eq_true hne⟩)
      have ha3 : t at' ≠ 0 := of_decide_eq_true ha3
      have ha4 : ∀ i, i < at' → t i = 0 := fun i hi => by
        have := of_decide_eq_false (ha4 i hi)
        exact Classical.not_not.mp this
      have etold : ∀ {σ' : L2.St} {H' : Hp} {te : TE} {i : Nat}, σ'[7]? = some (some v7) → Dp K H' v7 (.tuple ((cellsF c0 t).map dC)) → EvD K te σ' H' (.int (i : Int)) → i < c0 → EvD K (tOp (rIx K) (tVar 7) te) σ' H' (dC (t i)) := fun h7 hd hi hin =>
        ed_ixT (ed_var h7 hd) hi rfl (cell_at hin)
      have etest : ∀ {σ' : L2.St} {H' : Hp} {te : TE} {i : Nat}, σ'[7]? = some (some v7) → Dp K H' v7 (.tuple ((cellsF c0 t).map dC)) → EvD K te σ' H' (.int (i : Int)) → i < c0 → EvT (tTest (tOp rNe (tOp (rIx K) (tVar 7) te) (tC (V.int 0)))) σ' H' (decide (t i ≠ 0)) := fun {σ' H' te i} h7 hd hi hin =>
        et_is (KR.et_test (K := K) (ed_neI (etold h7 hd hi hin) ed_int)) (by rw [dC_zero]; simp)
      -- at = ..
      refine qd_asg (K := K) (d := .int (at' : Int)) (ed_ixL (k := 0) (EvN.toD (en_lc (List.range c0) (fun (i : Nat) => PyData.int (i : Int)) (fun i => decide (t i ≠ 0)) (fun (i : Nat) => PyData.int (i : Int)) (ei_rng1 (i := (c0 : Int)) (eds_cons (ed_var rfl (.int _)) eds_nil) (by omega)) (by simp; omega) (fun _ _ => rfl) (fun x => rfl)
        (fun i v' H' hi e r => etest rfl (dp_ex e _ _ r12) (ed_var rfl r) (List.mem_range.mp hi)) (fun i v' H' hi hk e r => ed_var rfl r))) ed_int rfl (by rw [List.getElem?_map, ha1]; rfl)) fun v8 H13 e13 r13 => ?_
      obtain rfl := dp_int r13
      have W13 := W12.ex e13
      have r13' := dp_ex e13 _ _ r12
      -- worker.stretch(at, told[at])
      refine ⟨_, rfl, x, dx, _, rfl, W13.ins, rfl, _, rfl, ?_⟩
      refine etold rfl r13' (ed_var rfl (.int _)) ha2 H13 (Ex.refl _) _ fun u H14 e14 r14 => ?_
      obtain rfl := dp_int r14
      have W14 := W13.ex e14
      have lR : ∀ i j, i < n → j < wd → len (R2 i j) ≤ 13 := fun i j hi hj => Nat.le_trans (le_rl hj) (K7.rb i hi)
      refine ⟨x, dx, a', b', n, wd, R2, Lq, at', t at', rfl, W14, by omega, by omega, by omega, fun i j hi hj => Nat.le_trans (lR i j hi hj) (by decide), fun i j hi hj => Nat.le_trans (K7.lb i j hi hj) (by omega), fun H15 k15 W15 => ?_⟩
      have eN14 : ExtN H H14 := eN10.trans (extN_of (((e11.trans e12).trans e13).trans e14))
      have eN15 : ExtN H H15 := na7.kp nb7 eN14 k15
      have T15 : Tabs (rrT Pt) H15 := tabs_kp W14 k15 ((((T10.ext e11).ext e12).ext e13).ext e14)
      have r15 : Dp K H15 v7 (.tuple ((cellsF c0 t).map dC)) := by
        refine dp_exT (fun q o hq n1' n2' n3' => k15 q o hq (fun z => ?_) fun z => ?_) _ _ (by simp only [flatD]; exact flat_map (fun a => rfl) _) (dp_ex e14 _ _ r13')
        · obtain ⟨va, h1, _⟩ := W14.rows
          rw [z, h1] at hq; exact n1' _ (Option.some.inj hq).symm
        · obtain ⟨va, h1, _⟩ := W14.left
          rw [z, h1] at hq; exact n1' _ (Option.some.inj hq).symm
      have MA := fun k hk => mid_all n1 n3 w1 (Nat.le_refl 13) K7 cN pos desc hsol ha2 ha3 ha4 k hk
      have hst : ∀ k, (runT wd t at' (stretchT R2 at' (t at'), stretchT Lq at' (t at')) (k + 1)) = stepT wd t at' (runT wd t at' (stretchT R2 at' (t at'), stretchT Lq at' (t at')) k) (at' + 1 + k) := fun k => rfl
      dsimp only
      refine s_forG (K := K) (G := fun _ => True) (eg_rng2 (i := (at' : Int) + 1) (j := (c0 : Int)) (eds_cons (ed_op0 (ed_var rfl (.int _)) ed_int) (eds_cons (ed_var rfl (.int _)) eds_nil)) (by omega) (by omega))
        (fun k σ' H' => ∃ p9 p11, σ' = [some (.int (p : Int)), some v, some (.ref x), some (.ref qq), some (.int (c0 : Int)), some v5, some v6, some v7, some (.int (at' : Int)), p9, o10, p11] ∧ ExtN H H' ∧ Tabs (rrT Pt) H' ∧ Dp K H' v7 (.tuple ((cellsF c0 t).map dC)) ∧
          WS K p C H' x dx a' b' (tabP n wd (runT wd t at' (stretchT R2 at' (t at'), stretchT Lq at' (t at')) k).1) (tabP n n (runT wd t at' (stretchT R2 at' (t at'), stretchT Lq at' (t at')) k).2))
        (fun H16 e16 => ⟨_, _, rfl, eN15.trans (extN_of e16), T15.ext e16, dp_ex e16 _ _ r15, W15.ex e16⟩) (fun _ _ _ _ _ => True.intro) (fun k d z σ' Ha Hb hd hP eb rz => ?_) (fun σ' Ha hP => ?_)
      · obtain ⟨p9, p11, rfl, eNa, Ta, ra, Wa⟩ := hP
        have hk : at' + 1 + k < c0 := by
          have := (List.getElem?_eq_some_iff.mp hd).1
          rw [List.length_map, List.length_range] at this
          omega
        have hd' : d = .int ((at' : Int) + 1 + (k : Int)) := by
          rw [List.getElem?_map, List.getElem?_range (by omega)] at hd
          exact (Option.some.inj hd).symm
        subst hd'
        obtain rfl := dp_int rz
        have ez : ((at' : Int) + 1 + (k : Int)) = ((at' + 1 + k : Nat) : Int) := by omega
        rw [ez]
        have Wb := Wa.ex eb
        have rb := dp_ex eb _ _ ra
        have M1 := MA k (by omega)
        rw [hst k]
        generalize runT wd t at' (stretchT R2 at' (t at'), stretchT Lq at' (t at')) k = st at Wa Wb M1
        obtain ⟨R3, L3⟩ := st
        simp only at Wa Wb M1
        generalize hpl : at' + 1 + k = pl at hk
        refine s_if (b := decide (t pl ≠ 0)) (etest rfl rb (ed_var rfl (.int _)) hk) (fun hb' Hc ec => ?_) (fun hb' Hc ec => ?_)
        · have hb' := of_decide_eq_true hb'
          have Wc := Wb.ex ec
          have M3 := M1.wk
          refine qd_asg (K := K) (d := .int (((rl wd (R3 at') : Int) - 1) - ((rl wd (R3 pl) : Int) - 1))) (ed_op0 (ed_rdeg CT Wc rfl (ed_var rfl (.int _)) (by omega) w1 (by omega)) (ed_rdeg CT Wc rfl (ed_var rfl (.int _)) (by omega) w1 (by omega))) fun v11 Hd ed' r11 => ?_
          obtain rfl := dp_int r11
          have Wd := Wc.ex ed'
          have rd := dp_ex ed' _ _ (dp_ex ec _ _ rb)
          have b1 := M3.rb at' (by omega)
          have b2 := M3.rb pl (by omega)
          refine ⟨_, rfl, x, dx, _, rfl, Wd.ins, rfl, _, rfl, _, rfl, ?_⟩
          have hfac : EvD K (tCall (spScaled K p) [] E0 (tCons (tVar 0) (tCons (tOp (rCatA K) (tOp (KT.rRepT0 K) (tTup (tCons (tC (V.int 0)) tNil)) (tVar 11)) (tTup (tCons (tC (V.int 1)) tNil))) (tCons (tOp (rI0 fun i j => V.int (i - j)) (tVar 0) (tOp (rIx K) (tVar 7) (tVar 9))) tNil))))
              [some (.int (p : Int)), some v, some (.ref x), some (.ref qq), some (.int (c0 : Int)), some v5, some v6, some v7, some (.int (at' : Int)), some (.int (pl : Int)), o10, some (.int (((rl wd (R3 at') : Int) - 1) - ((rl wd (R3 pl) : Int) - 1)))] Hd (dP (facT wd t at' pl R3)) := by
            refine ed_call (sP (rl wd (R3 at') - rl wd (R3 pl)), - t pl) (eds_cons (ed_var rfl (.int _)) (eds_cons (ed_is (KR.ed_catT (KT.ed_repT0 (ed_tup (eds_cons ed_int eds_nil) (by simp)) (ed_var rfl (.int _)) (by omega)) (ed_tup (eds_cons ed_int eds_nil) (by simp)) (by simp; omega)) ?_) (eds_cons (ed_is (ed_op0 (ed_var rfl (.int _)) (etold rfl rd (ed_var rfl (.int _)) hk)) ?_) eds_nil))) ?_
            · show _ = PyData.tuple ((sP (rl wd (R3 at') - rl wd (R3 pl)) : Po p).l.map dC)
              rw [sP_l, List.map_append, List.map_replicate]
              have e1 : (((rl wd (R3 at') : Int) - 1) - ((rl wd (R3 pl) : Int) - 1)).toNat = rl wd (R3 at') - rl wd (R3 pl) := by omega
              rw [e1, zero_dC (p := p), one_dC (p := p)]
              rfl
            · show PyData.int _ = dC _
              rw [neg_val hb']
            · show len _ ≤ 40000
              rw [len_sP]; omega
          refine hfac Hd (Ex.refl _) _ fun vf He ee re => ?_
          have We := Wd.ex ee
          have flen : len (facT wd t at' pl R3) ≤ 14 := by
            unfold facT
            rw [len_cmul (neg_ne hb'), len_sP]; omega
          refine ⟨x, dx, a', b', n, wd, R3, L3, at', pl, vf, facT wd t at' pl R3, rfl, re, fun z => ?_, We, by omega, by omega, by omega, by omega, by omega, fun i j hi hj => Nat.le_trans (Nat.le_trans (le_rl hj) (M3.rb i hi)) (by decide), fun i j hi hj => Nat.le_trans (M3.lb i j hi hj) (by omega), fun Hf kf Wf => ?_⟩
          · have : len (facT wd t at' pl R3) = rl wd (R3 at') - rl wd (R3 pl) + 1 := by
              unfold facT
              rw [len_cmul (neg_ne hb'), len_sP]
            rw [z, len_zero] at this; omega
          · have eNe : ExtN H He := eNa.trans (extN_of (((eb.trans ec).trans ed').trans ee))
            have hs : stepT wd t at' (R3, L3) pl = (takeT R3 at' pl (facT wd t at' pl R3), takeT L3 at' pl (facT wd t at' pl R3)) := by
              unfold stepT; rw [if_neg hb']
            refine ⟨_, _, rfl, na7.kp nb7 eNe kf, tabs_kp We kf ((((Ta.ext eb).ext ec).ext ed').ext ee), ?_, by rw [hs]; exact Wf⟩
            refine dp_exT (fun q o hq n1' n2' n3' => kf q o hq (fun z => ?_) fun z => ?_) _ _ (by simp only [flatD]; exact flat_map (fun a => rfl) _) (dp_ex ee _ _ rd)
            · obtain ⟨va, h1, _⟩ := We.rows
              rw [z, h1] at hq; exact n1' _ (Option.some.inj hq).symm
            · obtain ⟨va, h1, _⟩ := We.left
              rw [z, h1] at hq; exact n1' _ (Option.some.inj hq).symm
        · have hb' := Classical.not_not.mp (of_decide_eq_false hb')
          have hs : stepT wd t at' (R3, L3) pl = (R3, L3) := by unfold stepT; rw [if_pos hb']
          exact ⟨_, _, rfl, eNa.trans (extN_of (eb.trans ec)), (Ta.ext eb).ext ec, dp_ex ec _ _ rb, by rw [hs]; exact Wb.ex ec⟩
      · obtain ⟨p9, p11, rfl, eNa, Ta, ra, Wa⟩ := hP
        have hlen : ((List.range ((c0 : Int) - ((at' : Int) + 1)).toNat).map fun (k : Nat) => PyData.int ((at' : Int) + 1 + (k : Int))).length = c0 - (at' + 1) := by
          rw [List.length_map, List.length_range]; omega
        rw [hlen] at Wa
        have M1 := MA (c0 - (at' + 1)) (by omega)
        rw [show at' + 1 + (c0 - (at' + 1)) = c0 by omega] at M1
        have hfall := round_falls (L := R) w1 cN pos hsol ha2 M1
        rw [hdeg] at hfall
        have hk2 : c0 - (at' + 1) ≤ 2 := by omega
        refine ⟨deg n wd (runT wd t at' (stretchT R2 at' (t at'), stretchT Lq at' (t at')) (c0 - (at' + 1))).1, by rw [hm]; exact hfall, _, _, a', b', e + 12 * (c0 - (at' + 1)), _, _, _, _, _, _, _, _, _, rfl, by omega, Wa, M1.wk, eNa, na7, nb7, Ta, rfl⟩
end
end KW
end
section
set_option Elab.async false
set_option linter.all false
set_option maxRecDepth 100000
set_option maxHeartbeats 4000000
/-! Walks: row_reduced, degrees_of, row_degrees. -/
namespace KW
open PySem PySem.Spec PyProof.Rows L2 Evl KR K18 KX LamX
section
variable {P : Program} {w : World} {K : PySem.W.Frag} {mg : Str → Option Value} {base : Heap} {p : Nat} [hp : Pr p]
theorem tabP_dM (n wd : Nat) (R : PT p) : PyData.tuple ((tabP n wd R).map PyData.tuple) = dM ((List.range n).map fun i => (List.range wd).map (R i)) := by
  unfold dM
  rw [tabP_tup, List.map_map]
  refine congrArg PyData.tuple (List.map_congr_left fun i _ => ?_)
  show PyData.tuple (rowP wd (R i)) = dR ((List.range wd).map (R i))
  rw [rowP_eq]; rfl
theorem good_tab {n wd : Nat} {R : PT p} (n1 : 1 ≤ n) (n3 : n ≤ 3) (w1 : 1 ≤ wd) (w3 : wd ≤ 3) (hb : ∀ i, i < n → rl wd (R i) ≤ 13) : GoodM ((List.range n).map fun i => (List.range wd).map (R i)) wd 13 := by
  refine ⟨fun z => ?_, by simp; omega, by omega, by omega, fun r hr => ?_⟩
  · have := congrArg List.length z
    simp at this; omega
  · obtain ⟨i, hi, rfl⟩ := List.mem_map.mp hr
    refine ⟨by simp, fun f hf => ?_⟩
    obtain ⟨j, hj, rfl⟩ := List.mem_map.mp hf
    exact Nat.le_trans (le_rl (List.mem_range.mp hj)) (hb i (List.mem_range.mp hi))
theorem flat_tab (m k : Nat) (M : PT p) : flatD (.tuple ((tabP m k M).map PyData.tuple)) = true := by
  rw [tabP_tup]; simp only [flatD]; exact flat_map (fun i => by simp only [flatD]; exact rowP_flat _ _) _
theorem q_drop {te : TE} {tz : TS} {D : Ends} {σ : L2.St} {H : Hp} {d : PyData} (h : EvD K te σ H d) (q : ∀ H1, Ex H H1 → tz D σ H1) : tSeq (tDrop te) tz D σ H := h H (Ex.refl H) _ fun v H1 e r => q H1 e
def tK (v : V) : TE := fun _ H Q => Q v H
theorem ed_K {v : V} {σ : L2.St} {H : Hp} {d : PyData} (r : Dp K H v d) : EvD K (tK v) σ H d := fun H1 e Q q => q v H1 (Ex.refl _) (dp_ex e _ _ r)

abbrev s_row_reduced : Stmt := topS 34
theorem sc_row_reduced : FnScope ["p", "rows"] ["p", "rows"] (defScope s_row_reduced) := ⟨rfl, rfl, rfl, by decide +kernel, rfl, by decide +kernel, by decide +kernel⟩
theorem ok_row_reduced (T : Bt mg) {Pt : Addr} (D : DefAt K mg "row_reduced" s_row_reduced ["p", "rows"]) (O_need_prime : Ok P w K mg base "need_prime" ["value"] 3 (spNeedPrime K p)) (O_need_p_matrix : Ok P w K mg base "need_p_matrix" ["p", "value"] 5 (spNeedPMatrix K p)) (O_reduced_rows : Ok P w K mg base "reduced_rows" ["p", "rows"] 6 (spRR K p Pt)) :
    Ok P w K mg base "row_reduced" ["p", "rows"] 7 (spRR K p Pt) := by
  refine D.ok sc_row_reduced (fun vs H Q E h => ?_) fun f0 cdv A outer s H vs Q E hr h => ?_
  · obtain ⟨v, n, wd, R, rfl, _⟩ := h
    rfl
  · obtain ⟨v, n, wd, R, rfl, rv, n1, n3, w1, w3, hb, hT, q⟩ := h
    refine ⟨_, (pss_cons (ps_expr (pe_ok O_need_prime (hr.mono (by decide)) (by rfl) (pa_cons (pv 0) pa_nil)))
      (pss_cons (ps_expr (pe_ok O_need_p_matrix (hr.mono (by decide)) (by rfl) (pa_cons (pv 0) (pa_cons (pv 1) pa_nil))))
      (pss_one (ps_ret (pe_ok O_reduced_rows (hr.mono (by decide)) (by rfl) (pa_cons (pv 0) (pa_cons (pv 1) pa_nil))))))), ?_⟩
    refine q_drop (K := K) (ed_call () (eds_cons (ed_var rfl (.int _)) eds_nil) True.intro) fun H1 e1 => ?_
    refine q_drop (K := K) (ed_call ((List.range n).map fun i => (List.range wd).map (R i)) (eds_cons (ed_var rfl (.int _)) (eds_cons (ed_is (ed_var rfl (dp_ex e1 _ _ rv)) (tabP_dM _ _ _)) eds_nil)) ⟨wd, good_tab n1 n3 w1 w3 hb⟩) fun H2 e2 => ?_
    have e12 := e1.trans e2
    refine ⟨_, rfl, _, rfl, ?_⟩
    exact ⟨v, n, wd, R, rfl, dp_ex e12 _ _ rv, n1, n3, w1, w3, hb, hT.ext e12, fun v' H' F L c eN T' r' hR hW => q v' H' F L c ((extN_of e12).trans eN) T' r' hR hW⟩
def spDeg (K : PySem.W.Frag) (p : Nat) [Pr p] (Pt : Addr) : Sp := fun vs H Q _ => ∃ (v : V) (n wd : Nat) (R : PT p), vs = [.int (p : Int), v] ∧ Dp K H v (.tuple ((tabP n wd R).map .tuple)) ∧ 1 ≤ n ∧ n ≤ 3 ∧ 1 ≤ wd ∧ wd ≤ 3 ∧ (∀ i, i < n → rl wd (R i) ≤ 13) ∧ Tabs (rrT Pt) H ∧
  ∀ v' H' (F L : PT p) (c : Nat), ExtN H H' → Tabs (rrT Pt) H' → Dp K H' v' (.tuple ((List.range c).map fun i => .int ((rl wd (F i) : Int) - 1))) → Red n wd c F → Wk n wd R 13 1000 F L → Q v' H'
abbrev s_degrees_of : Stmt := topS 35
theorem sc_degrees_of : FnScope ["p", "rows", "row"] ["p", "rows"] (defScope s_degrees_of) := ⟨rfl, rfl, rfl, by decide +kernel, rfl, by decide +kernel, by decide +kernel⟩
theorem ok_degrees_of (T : Bt mg) {Pt : Addr} (D : DefAt K mg "degrees_of" s_degrees_of ["p", "rows"]) (O_row_degree : Ok P w K mg base "row_degree" ["row"] 1 (spRowDegree K p)) (O_reduced_rows : Ok P w K mg base "reduced_rows" ["p", "rows"] 6 (spRR K p Pt)) :
    Ok P w K mg base "degrees_of" ["p", "rows"] 7 (spDeg K p Pt) := by
  refine D.ok sc_degrees_of (fun vs H Q E h => ?_) fun f0 cdv A outer s H vs Q E hr h => ?_
  · obtain ⟨v, n, wd, R, rfl, _⟩ := h
    rfl
  · obtain ⟨v, n, wd, R, rfl, rv, n1, n3, w1, w3, hb, hT, q⟩ := h
    refine ⟨_, (pss_one (ps_ret (pe_callTy (kTuple (K := K) rfl) (by rfl) T.tuple (by decide +kernel) (pa_cons (pe_lc (own := [("row", 2)]) (g := gName 2) rfl sc_degrees_of.nd (kpi_tup (K := K) rfl (pe_ix (kIx (K := K) rfl) (pe_ok O_reduced_rows (hr.mono (by decide)) (by rfl) (pa_cons (pv 0) (pa_cons (pv 1) pa_nil))) pe_int (fun _ _ => rfl))) (blkOk_by (N := ["p", "rows", "row"]) (sc := defScope s_degrees_of) (by decide +kernel)) (fun _ _ _ _ _ => (pg_name (i := 2) sc_degrees_of.nd rfl (Or.inl rfl) (hf := Or.inr rfl))) (fun _ _ _ _ _ => (pts_one (pt_cmpR op_ge (pe_ok O_row_degree (hr.mono (by decide)) (by rfl) (pa_cons (pv 2) pa_nil)) pe_int (nomark _)))) (fun _ _ _ _ _ => (pe_ok O_row_degree (hr.mono (by decide)) (by rfl) (pa_cons (pv 2) pa_nil)))) pa_nil)))), ?_⟩
    refine ⟨_, rfl, _, rfl, ?_⟩
    refine ⟨v, n, wd, R, rfl, rv, n1, n3, w1, w3, hb, hT, fun v' H' F L c eN T' r' hR hW => ?_⟩
    show tRet (tCB (KR.rTupS K) (tCons (tLc (iTup K (tOp (rIx K) (tK v') (tC (.int 0)))) (gName 2) (tTest (tOp (rI0 fun i j => V.bl (decide (j ≤ i))) (tCall (spRowDegree K p) [] E0 (tCons (tVar 2) tNil)) (tC (V.int 0)))) (tCall (spRowDegree K p) [] E0 (tCons (tVar 2) tNil)) [2]) tNil)) { nx := fun _ H' => Q .non H', rt := Q } [some (.int (p : Int)), some v, none] H'
    have hrow : ∀ {σ' : L2.St} {H2 : Hp} {u : V} {i : Nat}, σ'[2]? = some (some u) → Dp K H2 u (.tuple (rowP wd (F i))) → EvD K (tCall (spRowDegree K p) [] E0 (tCons (tVar 2) tNil)) σ' H2 (.int ((rl wd (F i) : Int) - 1)) := fun {σ' H2 u i} h2 hd => by
      refine ed_call (false, (List.range wd).map (F i)) (eds_cons (ed_is (ed_var h2 hd) (by rw [rowP_eq]; rfl)) eds_nil) ⟨?_, ?_⟩
      · intro z
        have := congrArg List.length z
        simp at this; omega
      · show ((List.range wd).map (F i)).length ≤ 1000
        simp; omega
    refine sd_ret (K := K) (d := .tuple ((List.range c).map fun i => .int ((rl wd (F i) : Int) - 1))) (ed_tupleL (EvN.toD (en_is (en_lc (List.range n) (fun i => .tuple (rowP wd (F i))) (fun i => decide (0 < rl wd (F i))) (fun i => .int ((rl wd (F i) : Int) - 1)) (ei_tup (ed_ixT (k := 0) (ed_K r') ed_int rfl (by rw [tabP_tup]; rfl))) (by simp; omega) (fun _ _ => rfl) (fun x => rfl)
      (fun i u H2 hi e r => et_is (KR.et_test (K := K) (ed_opB (hrow rfl r) ed_int)) ?_) (fun i u H2 hi hk e r => hrow rfl r)) ?_))) fun v1 H1 e1 r1 => q v1 H1 F L c (eN.trans (extN_of e1)) (T'.ext e1) r1 hR hW
    · by_cases h : 0 < rl wd (F i)
      · rw [decide_eq_true h, decide_eq_true (by omega)]
      · rw [decide_eq_false h, decide_eq_false (by omega)]
    · have : (List.range n).filter (fun i => decide (0 < rl wd (F i))) = List.range c := by
        have hsp : ∀ m, m ≤ n → (List.range m).filter (fun i => decide (0 < rl wd (F i))) = List.range (min m c) := fun m => by
          induction m with
          | zero => intro _; simp
          | succ m ih =>
            intro hm
            rw [List.range_succ, List.filter_append, ih (by omega)]
            by_cases h : m < c
            · have := hR.pos m h
              rw [show min (m + 1) c = min m c + 1 by omega, List.range_succ, show min m c = m by omega]
              simp [this]
            · have := hR.zero m (by omega) (by omega)
              rw [show min (m + 1) c = min m c by omega]
              simp [this]
        rw [hsp n (Nat.le_refl _), Nat.min_eq_right hR.cn]
      rw [this]
abbrev s_row_degrees : Stmt := topS 36
theorem sc_row_degrees : FnScope ["p", "rows"] ["p", "rows"] (defScope s_row_degrees) := ⟨rfl, rfl, rfl, by decide +kernel, rfl, by decide +kernel, by decide +kernel⟩
theorem ok_row_degrees (T : Bt mg) {Pt : Addr} (D : DefAt K mg "row_degrees" s_row_degrees ["p", "rows"]) (O_need_prime : Ok P w K mg base "need_prime" ["value"] 3 (spNeedPrime K p)) (O_need_p_matrix : Ok P w K mg base "need_p_matrix" ["p", "value"] 5 (spNeedPMatrix K p)) (O_degrees_of : Ok P w K mg base "degrees_of" ["p", "rows"] 7 (spDeg K p Pt)) :
    Ok P w K mg base "row_degrees" ["p", "rows"] 8 (spDeg K p Pt) := by
  refine D.ok sc_row_degrees (fun vs H Q E h => ?_) fun f0 cdv A outer s H vs Q E hr h => ?_
  · obtain ⟨v, n, wd, R, rfl, _⟩ := h
    rfl
  · obtain ⟨v, n, wd, R, rfl, rv, n1, n3, w1, w3, hb, hT, q⟩ := h
    refine ⟨_, (pss_cons (ps_expr (pe_ok O_need_prime (hr.mono (by decide)) (by rfl) (pa_cons (pv 0) pa_nil)))
      (pss_cons (ps_expr (pe_ok O_need_p_matrix (hr.mono (by decide)) (by rfl) (pa_cons (pv 0) (pa_cons (pv 1) pa_nil))))
      (pss_one (ps_ret (pe_ok O_degrees_of (hr.mono (by decide)) (by rfl) (pa_cons (pv 0) (pa_cons (pv 1) pa_nil))))))), ?_⟩
    refine q_drop (K := K) (ed_call () (eds_cons (ed_var rfl (.int _)) eds_nil) True.intro) fun H1 e1 => ?_
    refine q_drop (K := K) (ed_call ((List.range n).map fun i => (List.range wd).map (R i)) (eds_cons (ed_var rfl (.int _)) (eds_cons (ed_is (ed_var rfl (dp_ex e1 _ _ rv)) (tabP_dM _ _ _)) eds_nil)) ⟨wd, good_tab n1 n3 w1 w3 hb⟩) fun H2 e2 => ?_
    have e12 := e1.trans e2
    refine ⟨_, rfl, _, rfl, ?_⟩
    exact ⟨v, n, wd, R, rfl, dp_ex e12 _ _ rv, n1, n3, w1, w3, hb, hT.ext e12, fun v' H' F L c eN T' r' hR hW => q v' H' F L c ((extN_of e12).trans eN) T' r' hR hW⟩
end
end KW
end
section
set_option Elab.async false
set_option linter.all false
set_option maxRecDepth 100000
set_option maxHeartbeats 4000000
/-! The law's own defs: polynomials. -/
namespace KW
open PySem PySem.Spec PyProof.Rows L2 Evl KR K18 KX
section
variable {P : Program} {w : World} {K : PySem.W.Frag} {mg : Str → Option Value} {base : Heap} {p : Nat} [hp : Pr p]
theorem q_pairD {i j : Nat} {ta tb : TE} {tz : TS} {D : Ends} {σ : L2.St} {H : Hp} {d e : PyData} (h1 : EvD K ta σ H d) (h2 : EvD K tb σ H e) (k : ∀ v u H1, Ex H H1 → Dp K H1 v d → Dp K H1 u e → tz D ((σ.set i (some v)).set j (some u)) H1) :
    tSeq (tAsg (tTup (tCons ta (tCons tb tNil))) (gTup K 2 (gCons (gName i) (gCons (gName j) gNil)))) tz D σ H :=
  h1 H (Ex.refl H) _ fun v H1 e1 r1 => h2 H1 e1 _ fun u H2 e2 r2 => ⟨(by decide : 2 ≤ sizeLine), fun T0 nT => ⟨T0, _, rfl, st_of upd_same, rfl, _, _, rfl, _, _, rfl, rfl,
    k v u _ ((e1.trans e2).trans (Ex.new nT)) (dp_ex (e2.trans (Ex.new nT)) _ _ r1) (dp_ex (Ex.new nT) _ _ r2)⟩⟩
abbrev s_l_trim : Stmt := topS 41
theorem sc_l_trim : FnScope ["_law_some", "_law_many", "_law_turn"] ["_law_some"] (defScope s_l_trim) := ⟨rfl, rfl, rfl, by decide +kernel, rfl, by decide +kernel, by decide +kernel⟩
abbrev spLTrim (K : PySem.W.Frag) (p : Nat) [Pr p] : Sp := spF K (fun l : List (Fin p) => [.list (l.map dC)]) (fun l => l.length ≤ 50000) (fun l => dP (trimP l))
theorem ok_l_trim (T : Bt mg) (D : DefAt K mg "_law_trim" s_l_trim ["_law_some"]) : Ok P w K mg base "_law_trim" ["_law_some"] 1 (spLTrim K p) := by
  refine D.ok sc_l_trim (spF_len fun _ => rfl) fun f cdv A outer s H vs Q E hr h => ?_
  obtain ⟨l, hl, r, q⟩ := h
  have hl : l.length ≤ 50000 := hl
  obtain ⟨v, rfl, r1⟩ := dpA1 r
  refine ⟨_, (pss_cons (ps_set (i := 1) sc_l_trim.nd rfl (Or.inl rfl) (pe_callB (kLen (K := K) rfl) (by rfl) T.len (by decide +kernel) (pa_cons (pv 0) pa_nil)))
      (pss_cons (ps_for PassesOwn.never rfl (pi_range1 (by rfl) T.range (pa_cons (pe_callB (kLen (K := K) rfl) (by rfl) T.len (by decide +kernel) (pa_cons (pv 0) pa_nil)) pa_nil)) (pg_name (i := 2) sc_l_trim.nd rfl (Or.inl rfl)) (pss_one (ps_if (PW.pt (pw_and (pt_cmpR op_gt (pv 1) pe_int (nomark _)) (pw_and1 (pt_cmpR op_eq (pe_ix (kIx (K := K) rfl) (pv 0) (pe_op op_sub (pv 1) pe_int) (fun _ _ => rfl)) pe_int (nomark _))))) (pss_one (ps_set (i := 1) sc_l_trim.nd rfl (Or.inl rfl) (pe_op op_sub (pv 1) pe_int))) pss_nil)))
      (pss_one (ps_ret (pe_callTy (kTuple (K := K) rfl) (by rfl) T.tuple (by decide +kernel) (pa_cons (pe_slice (kSlL (K := K) rfl) (pv 0) po_none (po_some (pv 1))) pa_nil)))))), ?_⟩
  have hll : (l.map (dC (p := p))).length = l.length := List.length_map ..
  refine qd_asg (ed_lenL (ed_var rfl r1)) fun v1 H1 e1 r2 => ?_
  obtain rfl := dp_int r2
  refine q_forG (K := K) (G := fun _ => True) (eg_rng1 (eds_cons (ed_lenL (ed_var rfl (dp_ex e1 _ _ r1))) eds_nil) (by omega))
    (fun i σ' H' => Ex H H' ∧ ∃ (k : Nat) (x2 : Option V), k ≤ l.length ∧ (∀ j, k ≤ j → l.getD j 0 = 0) ∧ ((k ≠ 0 → l.getD (k - 1) 0 ≠ 0) ∨ k + i ≤ l.length) ∧ σ' = [some v, some (.int (k : Int)), x2])
    (fun H2 e2 => ⟨e1.trans e2, l.length, none, Nat.le_refl _, fun j hj => by rw [List.getD_eq_getElem?_getD, List.getElem?_eq_none hj]; rfl, .inr (Nat.le_refl _), by rw [hll]; rfl⟩) (fun _ _ _ _ _ => True.intro)
    (fun i d z σ' Ha Hb hd ⟨ea, k, x2, hk, hz, hor, hσ⟩ eb rz => ?_) (fun σ' Ha ⟨ea, k, x2, hk, hz, hor, hσ⟩ => ?_)
  · subst hσ
    have eab := ea.trans eb
    have hr1 := dp_ex eab _ _ r1
    by_cases h0 : k = 0
    · subst h0
      refine s_if (b := false) (et_is (et_and (a := false) (b := false) (et_is (KR.et_test (K := K) (ed_opB (ed_var rfl (.int _)) ed_int)) rfl) (fun z => nomatch z)) rfl) (fun z => nomatch z) fun _ H2 e2 => ?_
      exact ⟨eab.trans e2, 0, _, Nat.zero_le _, hz, .inl fun z => absurd rfl z, rfl⟩
    · have hlt : k - 1 < l.length := by omega
      refine s_if (b := decide (l.getD (k - 1) 0 = 0)) (et_is (et_and (a := true) (b := decide (l.getD (k - 1) 0 = 0)) (et_is (KR.et_test (K := K) (ed_opB (ed_var rfl (.int _)) ed_int)) (decide_eq_true (by omega))) fun _ => et_is (KR.et_test (K := K) (ed_eqI (ed_ixL (k := k - 1) (ed_var rfl hr1) (ed_op0 (ed_var rfl (.int _)) ed_int) (by omega) (dC_at hlt)) ed_int)) (by rw [dC_zero])) (by simp)) (fun hb H2 e2 => ?_) (fun hb H2 e2 => ?_)
      · have hx := of_decide_eq_true hb
        refine sd_asg (K := K) (d := .int ((k - 1 : Nat) : Int)) (ed_is (ed_op0 (ed_var rfl (.int _)) ed_int) (by congr 1; omega)) fun u H3 e3 r3 => ?_
        obtain rfl := dp_int r3
        refine ⟨(eab.trans e2).trans e3, k - 1, _, by omega, fun j hj => ?_, ?_, rfl⟩
        · by_cases hj2 : k ≤ j
          · exact hz j hj2
          · have : j = k - 1 := by omega
            rw [this]; exact hx
        · rcases hor with h | h
          · exact absurd hx (h h0)
          · exact .inr (by omega)
      · have hx := of_decide_eq_false hb
        exact ⟨eab.trans e2, k, _, hk, hz, .inl fun _ => hx, rfl⟩
  · subst hσ
    have hend : ((List.range ((((l.map (dC (p := p))).length : Nat) : Int)).toNat).map fun (k : Nat) => PyData.int (k : Int)).length = l.length := by simp
    rw [hend] at hor
    have hne : k ≠ 0 → l.getD (k - 1) 0 ≠ 0 := by
      rcases hor with h | h
      · exact h
      · intro z; omega
    exact sd_ret (K := K) (d := dP (trimP l)) (ed_is (ed_tupleL (en_to (n := k) (ed_var rfl (dp_ex ea _ _ r1)) (ed_var rfl (.int _)) rfl).toD) (by
      show PyData.tuple ((l.map dC).take k) = .tuple ((trimL l).map dC)
      rw [trimL_take l k hz hne, List.map_take])) fun v' H3 e4 r3 => q v' H3 (ea.trans e4) r3

abbrev s_l_sum : Stmt := topS 43
theorem sc_l_sum : FnScope ["_law_p", "_law_one", "_law_other", "_law_many", "_law_first", "_law_second", "_law_at"] ["_law_p", "_law_one", "_law_other"] (defScope s_l_sum) := ⟨rfl, rfl, rfl, by decide +kernel, rfl, by decide +kernel, by decide +kernel⟩
abbrev spLSum (K : PySem.W.Frag) (p : Nat) [Pr p] : Sp := spF K (fun a : Po p × Po p => [.int (p : Int), dP a.1, dP a.2]) (fun a => len a.1 ≤ 10000 ∧ len a.2 ≤ 10000) (fun a => dP (a.1 + a.2))
theorem ok_l_sum (T : Bt mg) (D : DefAt K mg "_law_sum" s_l_sum ["_law_p", "_law_one", "_law_other"]) (O_l_trim : Ok P w K mg base "_law_trim" ["_law_some"] 1 (spLTrim K p)) : Ok P w K mg base "_law_sum" ["_law_p", "_law_one", "_law_other"] 2 (spLSum K p) := by
  refine D.ok sc_l_sum (spF_len fun _ => rfl) fun f0 cdv A outer s H vs Q E hr h => ?_
  obtain ⟨⟨f, g⟩, hl, r, q⟩ := h
  obtain ⟨_, v, u, rfl, r1, r2, r3⟩ := dpA3 r
  obtain rfl := dp_int r1
  replace r2 : Dp K H v (dP f) := r2
  replace r3 : Dp K H u (dP g) := r3
  refine ⟨_, (pss_cons (ps_set (i := 3) sc_l_sum.nd rfl (Or.inl rfl) (pe_callB (call_max2 rfl) (by rfl) T.max (by decide +kernel) (pa_cons (pe_callB (kLen (K := K) rfl) (by rfl) T.len (by decide +kernel) (pa_cons (pv 1) pa_nil)) (pa_cons (pe_callB (kLen (K := K) rfl) (by rfl) T.len (by decide +kernel) (pa_cons (pv 2) pa_nil)) pa_nil))))
      (pss_cons (ps_asg (pe_tup (pa_cons (pe_op op_cat (pe_callTy (kList (K := K) rfl) (by rfl) T.list (by decide +kernel) (pa_cons (pv 1) pa_nil)) (pe_op op_rep (pe_lst (pa_cons pe_int pa_nil)) (pe_op op_sub (pv 3) (pe_callB (kLen (K := K) rfl) (by rfl) T.len (by decide +kernel) (pa_cons (pv 1) pa_nil))))) (pa_cons (pe_op op_cat (pe_callTy (kList (K := K) rfl) (by rfl) T.list (by decide +kernel) (pa_cons (pv 2) pa_nil)) (pe_op op_rep (pe_lst (pa_cons pe_int pa_nil)) (pe_op op_sub (pv 3) (pe_callB (kLen (K := K) rfl) (by rfl) T.len (by decide +kernel) (pa_cons (pv 2) pa_nil))))) pa_nil))) (pg_tup rfl (pgs_cons (pg_name (i := 4) sc_l_sum.nd rfl (Or.inr rfl)) (pgs_cons (pg_name (i := 5) sc_l_sum.nd rfl (Or.inr rfl)) pgs_nil))))
      (pss_one (ps_ret (pe_ok O_l_trim (hr.mono (by decide)) (by rfl) (pa_cons (pe_lc (own := [("_law_at", 6)]) (g := gName 6) (tt := tYes) rfl sc_l_sum.nd (pi_range1 (by rfl) T.range (pa_cons (pv 3) pa_nil)) (blkOk_by (N := ["_law_p", "_law_one", "_law_other", "_law_many", "_law_first", "_law_second", "_law_at"]) (sc := defScope s_l_sum) (by decide +kernel)) (fun _ _ _ _ _ => (pg_name (i := 6) sc_l_sum.nd rfl (Or.inl rfl) (hf := Or.inr rfl))) (fun _ _ _ _ _ => pts_nil) (fun _ _ _ _ _ => (pe_op op_mod (pe_callTy call_int1 (by rfl) T.int (by decide +kernel) (pa_cons (pe_op op_add (pe_ix (kIx (K := K) rfl) (pv 4) (pv 6) (fun _ _ => rfl)) (pe_ix (kIx (K := K) rfl) (pv 5) (pv 6) (fun _ _ => rfl))) pa_nil)) (pv 0)))) pa_nil)))))), ?_⟩
  have hL1 : f.l.length ≤ 10000 := hl.1
  have hL2 : g.l.length ≤ 10000 := hl.2
  have hm1 : len f ≤ max f.l.length g.l.length := Nat.le_max_left _ _
  have hm2 : len g ≤ max f.l.length g.l.length := Nat.le_max_right _ _
  refine qd_asg (ed_is (ed_max2 (ed_lenT (ed_var rfl r2)) (ed_lenT (ed_var rfl r3))) (d1 := .int ((max f.l.length g.l.length : Nat) : Int)) (by rw [List.length_map, List.length_map]; congr 1; omega)) fun v1 H1 e1 q1 => ?_
  obtain rfl := dp_int q1
  have mle : max f.l.length g.l.length ≤ 20000 := by omega
  generalize max f.l.length g.l.length = m at hm1 hm2 mle
  have pad : ∀ (h : Po p) (i : Int), i = (m : Int) - (h.l.length : Int) → len h ≤ m → (h.l.map dC) ++ List.replicate i.toNat (PyData.int 0) = (padL h m).map dC := fun h i e1 e2 => by
    have := pad_data h i m e1 e2
    rwa [List.append_nil] at this
  refine q_pairD (K := K) (d := .list ((padL f m).map dC)) (e := .list ((padL g m).map dC)) ?_ ?_ fun x y H2 e2 rx ry => ?_
  · refine ed_is (en_cat (en_listT (ed_var rfl (dp_ex e1 _ _ r2))) (en_rep1 (en_lst (eds_cons ed_int eds_nil) (by decide)) (ed_op0 (ed_var rfl (.int _)) (ed_lenT (ed_var rfl (dp_ex e1 _ _ r2)))) ?_) ?_).toD ?_
    · rw [List.length_map]; omega
    · simp only [List.length_map, List.length_replicate]; omega
    · rw [pad f _ (by rw [List.length_map]) hm1]
  · refine ed_is (en_cat (en_listT (ed_var rfl (dp_ex e1 _ _ r3))) (en_rep1 (en_lst (eds_cons ed_int eds_nil) (by decide)) (ed_op0 (ed_var rfl (.int _)) (ed_lenT (ed_var rfl (dp_ex e1 _ _ r3)))) ?_) ?_).toD ?_
    · rw [List.length_map]; omega
    · simp only [List.length_map, List.length_replicate]; omega
    · rw [pad g _ (by rw [List.length_map]) hm2]
  · refine sd_ret (K := K) (ed_is (ed_call (cellsF m fun k => co f k + co g k) (eds_cons (en_is (en_lc0 (List.range m) (fun (k : Nat) => .int (k : Int)) (fun k => dC (co f k + co g k)) (ei_is (ei_rng1 (i := (m : Int)) (eds_cons (ed_var rfl (.int _)) eds_nil) (by omega)) (by rw [Int.toNat_natCast])) (by simp; omega) (fun _ _ => rfl) (fun _ => rfl) fun k v' H' hk e rk => ?_) (by unfold cellsF; rw [List.map_map]; rfl)).toD eds_nil) ?_) ?_) fun v' H3 e3 r' => q v' H3 ((e1.trans e2).trans e3) r'
    · have hk := List.mem_range.mp hk
      have ix : ∀ (h : Po p), len h ≤ m → ((padL h m).map dC)[k]? = some (dC (co h k)) := fun h hh => by
        rw [dC_at (by rw [padL_len hh]; exact hk), padL_get]
      exact ed_is (ed_opC (ed_int1 (ed_op0 (ed_ixL (k := k) (ed_var rfl (dp_ex e _ _ rx)) (ed_var rfl rk) rfl (ix f hm1)) (ed_ixL (k := k) (ed_var rfl (dp_ex e _ _ ry)) (ed_var rfl rk) rfl (ix g hm2)))) (ed_var rfl (.int _)) p_pos) (by rw [mod_add])
    · show (cellsF _ _).length ≤ 50000
      unfold cellsF; rw [List.length_map, List.length_range]; omega
    · show dP (trimP _) = dP _
      rw [trimP_eq (f := f + g) fun k => ?_]
      rw [cellsF_get, co_add]
      split
      · rfl
      · rw [co_high (f := f) (by omega), co_high (f := g) (by omega)]; grind

abbrev s_l_times : Stmt := topS 44
theorem sc_l_times : FnScope ["_law_p", "_law_one", "_law_other", "_law_found", "_law_at", "_law_place"] ["_law_p", "_law_one", "_law_other"] (defScope s_l_times) := ⟨rfl, rfl, rfl, by decide +kernel, rfl, by decide +kernel, by decide +kernel⟩
abbrev spLTimes (K : PySem.W.Frag) (p : Nat) [Pr p] : Sp := spF K (fun a : Po p × Po p => [.int (p : Int), dP a.1, dP a.2]) (fun a => len a.1 ≤ 5000 ∧ len a.2 ≤ 5000) (fun a => dP (a.1 * a.2))
theorem ok_l_times (T : Bt mg) (D : DefAt K mg "_law_times" s_l_times ["_law_p", "_law_one", "_law_other"]) (O_l_trim : Ok P w K mg base "_law_trim" ["_law_some"] 1 (spLTrim K p)) : Ok P w K mg base "_law_times" ["_law_p", "_law_one", "_law_other"] 2 (spLTimes K p) := by
  refine D.ok sc_l_times (spF_len fun _ => rfl) fun f0 cdv A outer s H vs Q E hr h => ?_
  obtain ⟨⟨f, g⟩, hl, r, q⟩ := h
  obtain ⟨_, v, u, rfl, r1, r2, r3⟩ := dpA3 r
  obtain rfl := dp_int r1
  replace r2 : Dp K H v (dP f) := r2
  replace r3 : Dp K H u (dP g) := r3
  have hl1 : len f ≤ 5000 := hl.1
  have hl2 : len g ≤ 5000 := hl.2
  refine ⟨_, (pss_cons (ps_if (PW.pt (pw_or (pt_cmpR (kEqD (K := K) rfl hr.units) (pv 1) (pe_tup pa_nil) (nomark _)) (pw_or1 (pt_cmpR (kEqD (K := K) rfl hr.units) (pv 2) (pe_tup pa_nil) (nomark _))))) (pss_one (ps_ret (pe_tup pa_nil))) pss_nil)
      (pss_cons (ps_set (i := 3) sc_l_times.nd rfl (Or.inl rfl) (pe_op op_rep (pe_lst (pa_cons pe_int pa_nil)) (pe_op op_sub (pe_op op_add (pe_callB (kLen (K := K) rfl) (by rfl) T.len (by decide +kernel) (pa_cons (pv 1) pa_nil)) (pe_callB (kLen (K := K) rfl) (by rfl) T.len (by decide +kernel) (pa_cons (pv 2) pa_nil))) pe_int)))
      (pss_cons (ps_for PassesOwn.never rfl (pi_range1 (by rfl) T.range (pa_cons (pe_callB (kLen (K := K) rfl) (by rfl) T.len (by decide +kernel) (pa_cons (pv 1) pa_nil)) pa_nil)) (pg_name (i := 4) sc_l_times.nd rfl (Or.inl rfl)) (pss_one (ps_for PassesOwn.never rfl (pi_range1 (by rfl) T.range (pa_cons (pe_callB (kLen (K := K) rfl) (by rfl) T.len (by decide +kernel) (pa_cons (pv 2) pa_nil)) pa_nil)) (pg_name (i := 5) sc_l_times.nd rfl (Or.inl rfl)) (pss_one (ps_asg (pe_op op_mod (pe_callTy call_int1 (by rfl) T.int (by decide +kernel) (pa_cons (pe_op op_add (pe_ix (kIx (K := K) rfl) (pv 3) (pe_op op_add (pv 4) (pv 5)) (fun _ _ => rfl)) (pe_op op_mul (pe_ix (kIx (K := K) rfl) (pv 1) (pv 4) (fun _ _ => rfl)) (pe_ix (kIx (K := K) rfl) (pv 2) (pv 5) (fun _ _ => rfl)))) pa_nil)) (pv 0)) (pg_sub (pv 3) (pe_op op_add (pv 4) (pv 5)) set_list))))))
      (pss_one (ps_ret (pe_ok O_l_trim (hr.mono (by decide)) (by rfl) (pa_cons (pv 3) pa_nil))))))), ?_⟩
  refine q_when' (b := decide (f = 0) || decide (g = 0)) (et_or (et_is (KR.et_test (ed_eqD (ed_var rfl r2) (ed_tup eds_nil (by decide)) (shp_dP _).ok rfl)) dP_nil) fun _ => et_is (KR.et_test (ed_eqD (ed_var rfl r3) (ed_tup eds_nil (by decide)) (shp_dP _).ok rfl)) dP_nil) (fun hb H1 e1 => ?_) (fun hb H1 e1 => ?_)
  · refine sd_ret (K := K) (ed_is (ed_tup eds_nil (by decide)) (?_ : _ = dP (f * g))) fun v' H2 e2 r' => q v' H2 (e1.trans e2) r'
    have : f * g = 0 := by
      rcases (by simpa using hb : f = 0 ∨ g = 0) with h | h <;> subst h <;> grind
    rw [this]
    unfold dP
    rw [zero_eq]; rfl
  · have hf : f ≠ 0 := fun z => by simp [z] at hb
    have hg : g ≠ 0 := fun z => by simp [z] at hb
    have nf := len_ne hf
    have ng := len_ne hg
    have lf : ((f.l.map (dC (p := p))).length : Int) = (len f : Int) := by rw [List.length_map]; rfl
    have lg : ((g.l.map (dC (p := p))).length : Int) = (len g : Int) := by rw [List.length_map]; rfl
    refine qn_asg (K := K) (ds := (cellsF (len f + len g - 1) fun _ => (0 : Fin p)).map dC) (en_is (en_rep1 (en_lst (eds_cons ed_int eds_nil) (by decide)) (ed_op0 (ed_op0 (ed_lenT (ed_var rfl (dp_ex e1 _ _ r2))) (ed_lenT (ed_var rfl (dp_ex e1 _ _ r3)))) ed_int) ?_) ?_) fun F0 xs H2 nF e2 hF rF => ?_
    · rw [List.length_map, List.length_map]; unfold len at hl1 hl2; omega
    · rw [List.length_map, List.length_map, ← rep_dC]
      congr 1
      unfold len; omega
    · have exs := dpA_cells rF
      subst exs
      have nF0 : H F0 = none := fresh_back e1 nF
      have e12 : Ex H H2 := e1.trans e2
      refine q_forG (K := K) (G := fun _ => True) (eg_rng1 (i := (len f : Int)) (eds_cons (ed_is (ed_lenT (ed_var rfl (dp_ex e12 _ _ r2))) (by rw [lf])) eds_nil) (by omega))
        (fun i σ' H' => Ex H H' ∧ H' F0 = some (.lst (cells (len f + len g - 1) (pc (co f) (co g) i))) ∧ ∃ x4 x5, σ' = [some (.int (p : Int)), some v, some u, some (.ref F0), x4, x5])
        (fun H3 e3 => ⟨e12.trans e3, e3 _ _ hF, none, none, rfl⟩) (fun _ _ _ _ _ => True.intro) (fun i d x σ' H' H'' hd ⟨e3, hc, x4, x5, hσ⟩ e4 rx => ?_) fun σ' H' ⟨e3, hc, x4, x5, hσ⟩ => ?_
      · have hi : i < len f := by
          have := (List.getElem?_eq_some_iff.mp hd).1
          rw [List.length_map, List.length_range] at this; omega
        rw [rangeAt (f := fun (k : Nat) => PyData.int (k : Int)) (by omega : i < ((len f : Int)).toNat)] at hd
        obtain rfl := (Option.some.inj hd)
        obtain rfl := dp_int rx
        subst hσ
        refine s_forG (K := K) (G := fun _ => True) (eg_rng1 (i := (len g : Int)) (eds_cons (ed_is (ed_lenT (ed_var rfl (dp_ex (e3.trans e4) _ _ r3))) (by rw [lg])) eds_nil) (by omega))
          (fun j σ2 H2 => Ex H H2 ∧ H2 F0 = some (.lst (cells (len f + len g - 1) (pcs (co f) (co g) i j))) ∧ ∃ x5, σ2 = [some (.int (p : Int)), some v, some u, some (.ref F0), some (.int (i : Int)), x5])
          (fun H3 e5 => ⟨(e3.trans e4).trans e5, ?_, x5, rfl⟩) (fun _ _ _ _ _ => True.intro) (fun j d2 z σ2 H2 H3 hd2 ⟨e5, hc2, y5, hσ2⟩ e6 rz => ?_) fun σ2 H2 ⟨e5, hc2, y5, hσ2⟩ => ?_
        · rw [(e4.trans e5) _ _ hc]
          rw [show pcs (co f) (co g) i 0 = pc (co f) (co g) i from funext fun k => pcs_zero _ _ _ _]
        · have hj : j < len g := by
            have := (List.getElem?_eq_some_iff.mp hd2).1
            rw [List.length_map, List.length_range] at this; omega
          rw [rangeAt (f := fun (k : Nat) => PyData.int (k : Int)) (by omega : j < ((len g : Int)).toNat)] at hd2
          obtain rfl := (Option.some.inj hd2)
          obtain rfl := dp_int rz
          subst hσ2
          have hc3 := e6 _ _ hc2
          have hlt : i + j < len f + len g - 1 := by omega
          have cof : (f.l.map dC)[i]? = some (dC (co f i)) := dC_at (by exact hi)
          have cog : (g.l.map dC)[j]? = some (dC (co g j)) := dC_at (by exact hj)
          have hadd : ∀ H', EvD K (tOp (rI0 fun i j => .int (i + j)) (tVar 4) (tVar 5)) [some (.int (p : Int)), some v, some u, some (.ref F0), some (.int (i : Int)), some (.int (j : Int))] H' (.int ((i + j : Nat) : Int)) := fun H' =>
            ed_is (ed_op0 (ed_var rfl (.int _)) (ed_var rfl (.int _))) (by congr 1)
          refine sd_setL (K := K) (d := dC (pcs (co f) (co g) i j (i + j) + co f i * co g j)) (j := i + j) hc3 (ed_is (ed_opC (ed_int1 (ed_op0 (ed_ixL (k := i + j) (ed_var rfl (cells_lst hc3)) (hadd _) rfl ?_) (ed_opC (ed_ixT (k := i) (ed_var rfl (dp_ex (e5.trans e6) _ _ r2)) (ed_var rfl (.int _)) rfl cof) (ed_ixT (k := j) (ed_var rfl (dp_ex (e5.trans e6) _ _ r3)) (ed_var rfl (.int _)) rfl cog) (c_mul _ _)))) (ed_var rfl (.int _)) p_pos) (by rw [mod_mac])) rfl (hadd _) (by rw [cells_len]; exact hlt) fun v3 H4 e7 r4 => ?_
          · rw [dC_at (by unfold cellsF; rw [List.length_map, List.length_range]; exact hlt), cellsF_get, if_pos hlt]
          · obtain rfl := dp_int r4
            refine ⟨((e5.trans e6).trans e7).mut nF0, ?_, _, rfl⟩
            rw [upd_same, cells_set]
            congr 3
            funext k
            rw [pcs_step]
        · rw [hσ2]
          refine ⟨e5, ?_, _, _, rfl⟩
          have hl : ((List.range ((len g : Int)).toNat).map fun (k : Nat) => PyData.int (k : Int)).length = len g := by simp
          rw [hl] at hc2
          rw [hc2]
          congr 3
          funext k
          exact pcs_end _ _ _ _ _ fun j hj => co_high hj
      · have hl : ((List.range ((len f : Int)).toNat).map fun (k : Nat) => PyData.int (k : Int)).length = len f := by simp
        rw [hl] at hc
        subst hσ
        refine sd_ret (ed_is (ed_call (cellsF (len f + len g - 1) (pc (co f) (co g) (len f))) (eds_cons (ed_var rfl (cells_lst hc)) eds_nil) ?_) ?_) fun v' H3 e5 r' => q v' H3 (e3.trans e5) r'
        · show (cellsF _ _).length ≤ 50000
          unfold cellsF; rw [List.length_map, List.length_range]; omega
        · show dP (trimP _) = dP _
          rw [trimP_eq (f := f * g) fun k => ?_]
          rw [cellsF_get]
          split
          · exact pc_done f g k
          · exact (co_high (Nat.le_trans (len_mul_le f g) (by omega))).symm

abbrev s_l_less : Stmt := topS 46
theorem sc_l_less : FnScope ["_law_p", "_law_one", "_law_other", "_law_number"] ["_law_p", "_law_one", "_law_other"] (defScope s_l_less) := ⟨rfl, rfl, rfl, by decide +kernel, rfl, by decide +kernel, by decide +kernel⟩
theorem neg_l (g : Po p) : (-g : Po p).l = g.l.map fun x => -x := by
  have hx : ∀ x, (g.l.map fun x => -x).getLast? = some x → x ≠ 0 := fun x h => by
    rw [List.getLast?_map] at h
    cases e : g.l.getLast? with
    | none => rw [e] at h; cases h
    | some y =>
      rw [e] at h
      obtain rfl := Option.some.inj h
      exact neg_ne (g.ok y e)
  have : (-g : Po p) = ⟨g.l.map fun x => -x, hx⟩ := co_ext fun k => by
    rw [co_neg]
    show - (g.l.getD k 0) = (g.l.map fun x => -x).getD k 0
    rw [List.getD_eq_getElem?_getD, List.getD_eq_getElem?_getD, List.getElem?_map]
    cases g.l[k]? with
    | none => show - (0 : Fin p) = 0; grind
    | some x => rfl
  rw [this]
abbrev spLLess (K : PySem.W.Frag) (p : Nat) [Pr p] : Sp := spF K (fun a : Po p × Po p => [.int (p : Int), dP a.1, dP a.2]) (fun a => len a.1 ≤ 10000 ∧ len a.2 ≤ 10000) (fun a => dP (a.1 - a.2))
theorem ok_l_less (T : Bt mg) (D : DefAt K mg "_law_less" s_l_less ["_law_p", "_law_one", "_law_other"]) (O_l_sum : Ok P w K mg base "_law_sum" ["_law_p", "_law_one", "_law_other"] 2 (spLSum K p)) : Ok P w K mg base "_law_less" ["_law_p", "_law_one", "_law_other"] 3 (spLLess K p) := by
  refine D.ok sc_l_less (spF_len fun _ => rfl) fun f0 cdv A outer s H vs Q E hr h => ?_
  obtain ⟨⟨f, g⟩, hl, r, q⟩ := h
  obtain ⟨_, v, u, rfl, r1, r2, r3⟩ := dpA3 r
  obtain rfl := dp_int r1
  replace r2 : Dp K H v (dP f) := r2
  replace r3 : Dp K H u (dP g) := r3
  have hL2 : g.l.length ≤ 10000 := hl.2
  refine ⟨_, (pss_one (ps_ret (pe_ok O_l_sum (hr.mono (by decide)) (by rfl) (pa_cons (pv 0) (pa_cons (pv 1) (pa_cons (pe_callTy (kTuple (K := K) rfl) (by rfl) T.tuple (by decide +kernel) (pa_cons (pe_lc (own := [("_law_number", 3)]) (g := gName 3) (tt := tYes) rfl sc_l_less.nd (kpi_tup (K := K) rfl (pv 2)) (blkOk_by (N := ["_law_p", "_law_one", "_law_other", "_law_number"]) (sc := defScope s_l_less) (by decide +kernel)) (fun _ _ _ _ _ => (pg_name (i := 3) sc_l_less.nd rfl (Or.inl rfl) (hf := Or.inr rfl))) (fun _ _ _ _ _ => pts_nil) (fun _ _ _ _ _ => (pe_op op_mod (pe_callTy call_int1 (by rfl) T.int (by decide +kernel) (pa_cons (pe_un un_neg (pv 3)) pa_nil)) (pv 0)))) pa_nil)) pa_nil)))))), ?_⟩
  refine sd_ret (K := K) (ed_is (ed_call (f, -g) (eds_cons (ed_var rfl (.int _)) (eds_cons (ed_var rfl r2) (eds_cons (ed_is (ed_tupleL (en_lc0 g.l dC (fun x => dC (-x)) (ei_tup (ed_var rfl r3)) (by omega) (fun _ _ => rfl) (fun _ => rfl) fun x v' H' hx e rx => ?_).toD) ?_) eds_nil))) ⟨hl.1, by show len (-g) ≤ 10000; rw [len_neg]; exact hl.2⟩) ?_) q
  · exact ed_is (ed_opC (ed_int1 (ed_neg (ed_var rfl rx))) (ed_var rfl (.int _)) p_pos) (by rw [mod_neg])
  · show PyData.tuple _ = PyData.tuple ((-g : Po p).l.map dC)
    rw [neg_l, List.map_map]; rfl
  · show dP (f + -g) = dP (f - g)
    rfl

abbrev s_l_back : Stmt := topS 45
theorem sc_l_back : FnScope ["_law_p", "_law_number", "_law_told"] ["_law_p", "_law_number"] (defScope s_l_back) := ⟨rfl, rfl, rfl, by decide +kernel, rfl, by decide +kernel, by decide +kernel⟩
theorem back_fact {x : Fin p} (h : x ≠ 0) : ((List.range (p - 1)).filter fun (k : Nat) => decide (((1 + (k : Int)) * (x.val : Int)) % (p : Int) = 1))[0]? = some ((finv x).val - 1) ∧ 1 ≤ (finv x).val :=
  prCases (C := fun p _ => ∀ x : Fin p, x ≠ 0 → ((List.range (p - 1)).filter fun (k : Nat) => decide (((1 + (k : Int)) * (x.val : Int)) % (p : Int) = 1))[0]? = some ((finv x).val - 1) ∧ 1 ≤ (finv x).val) (by decide) (by decide) (by decide) p hp x h
abbrev spLBack (K : PySem.W.Frag) (p : Nat) [Pr p] : Sp := spF K (fun x : Fin p => [.int (p : Int), dC x]) (fun x => x ≠ 0) (fun x => dC (finv x))
theorem ok_l_back (T : Bt mg) (D : DefAt K mg "_law_back" s_l_back ["_law_p", "_law_number"]) : Ok P w K mg base "_law_back" ["_law_p", "_law_number"] 1 (spLBack K p) := by
  refine D.ok sc_l_back (spF_len fun _ => rfl) fun f0 cdv A outer s H vs Q E hr h => ?_
  obtain ⟨x, hx, r, q⟩ := h
  obtain ⟨_, _, rfl, r1, r2⟩ := dpA2 r
  obtain rfl := dp_int r1
  obtain rfl := dp_int r2
  have hp1 := p_ge (p := p)
  have hp2 := p_le (p := p)
  obtain ⟨b1, b2⟩ := back_fact hx
  refine ⟨_, (pss_one (ps_ret (pe_ix (kIx (K := K) rfl) (pe_lc (own := [("_law_told", 2)]) (g := gName 2) rfl sc_l_back.nd (pi_range2 (by rfl) T.range (pa_cons pe_int (pa_cons (pv 0) pa_nil))) (blkOk_by (N := ["_law_p", "_law_number", "_law_told"]) (sc := defScope s_l_back) (by decide +kernel)) (fun _ _ _ _ _ => (pg_name (i := 2) sc_l_back.nd rfl (Or.inl rfl) (hf := Or.inr rfl))) (fun _ _ _ _ _ => (pts_one (pt_cmpR op_eq (pe_op op_mod (pe_callTy call_int1 (by rfl) T.int (by decide +kernel) (pa_cons (pe_op op_mul (pv 2) (pv 1)) pa_nil)) (pv 0)) pe_int (nomark _)))) (fun _ _ _ _ _ => (pv 2))) pe_int (fun _ _ => rfl)))), ?_⟩
  refine sd_ret (K := K) (d := dC (finv x)) (ed_ixL (k := 0) (EvN.toD (en_lc (List.range (p - 1)) (fun (k : Nat) => PyData.int (1 + (k : Int))) (fun (k : Nat) => decide (((1 + (k : Int)) * (x.val : Int)) % (p : Int) = 1)) (fun (k : Nat) => PyData.int (1 + (k : Int)))
    (ei_is (ei_rng2 (i := 1) (j := (p : Int)) (eds_cons ed_int (eds_cons (ed_var rfl (.int _)) eds_nil)) (by omega) (by omega)) (by rw [show ((p : Int) - 1).toNat = p - 1 by omega])) (by simp; omega) (fun _ _ => rfl) (fun _ => rfl)
    (fun k v' H' hk e rk => et_is (KR.et_test (K := K) (ed_eqI (ed_opC (ed_int1 (ed_opC (ed_var rfl rk) (ed_var rfl (.int _)) ?_)) (ed_var rfl (.int _)) p_pos) ed_int)) rfl) (fun k v' H' hk hkk e rk => ed_var rfl rk))) ed_int rfl ?_) q
  · have := List.mem_range.mp hk
    exact .inl ⟨by omega, by omega⟩
  · rw [List.getElem?_map, b1]
    show some (PyData.int (1 + (((finv x).val - 1 : Nat) : Int))) = some (dC (finv x))
    unfold dC
    congr 2; omega

abbrev s_l_row_degree : Stmt := topS 54
theorem sc_l_row_degree : FnScope ["_law_line", "_law_one"] ["_law_line"] (defScope s_l_row_degree) := ⟨rfl, rfl, rfl, by decide +kernel, rfl, by decide +kernel, by decide +kernel⟩
abbrev spLRowDeg (K : PySem.W.Frag) (p : Nat) [Pr p] : Sp := spF K (fun r : List (Po p) => [dR r]) (fun r => r ≠ [] ∧ r.length ≤ 1000) (fun r => .int ((rowlen r : Int) - 1))
theorem ok_l_row_degree (T : Bt mg) (D : DefAt K mg "_law_row_degree" s_l_row_degree ["_law_line"]) : Ok P w K mg base "_law_row_degree" ["_law_line"] 1 (spLRowDeg K p) := by
  refine D.ok sc_l_row_degree (spF_len fun _ => rfl) fun f0 cdv A outer s H vs Q E hr h => ?_
  obtain ⟨r, hpre, rr, q⟩ := h
  obtain ⟨v, rfl, r1⟩ := dpA1 rr
  have h1 : r ≠ [] := hpre.1
  have h2 : r.length ≤ 1000 := hpre.2
  obtain ⟨m1, m2⟩ := max_row h1
  replace r1 : Dp K H v (dR r) := r1
  refine ⟨_, (pss_one (ps_ret (pe_op op_sub (pe_callB (kMax (K := K) rfl rfl) (by rfl) T.max (by decide +kernel) (pa_cons (pe_lc (own := [("_law_one", 1)]) (g := gName 1) (tt := tYes) rfl sc_l_row_degree.nd (kpi_tup (K := K) rfl (pv 0)) (blkOk_by (N := ["_law_line", "_law_one"]) (sc := defScope s_l_row_degree) (by decide +kernel)) (fun _ _ _ _ _ => (pg_name (i := 1) sc_l_row_degree.nd rfl (Or.inl rfl) (hf := Or.inr rfl))) (fun _ _ _ _ _ => pts_nil) (fun _ _ _ _ _ => (pe_callB (kLen (K := K) rfl) (by rfl) T.len (by decide +kernel) (pa_cons (pv 1) pa_nil)))) pa_nil)) pe_int))), ?_⟩
  exact sd_ret (ed_op0 (ed_maxL (en_is (en_lc0 r dP (fun f => .int (len f : Int)) (ei_tup (ed_var rfl r1)) (by omega) (fun _ _ => rfl) (fun _ => rfl) fun f x H' hf e rx => ed_lenP (ed_var rfl rx)) (by rw [List.map_map]; rfl)).toD m1 m2) ed_int) q

abbrev s_l_p_unit : Stmt := topS 50
theorem sc_l_p_unit : FnScope ["_law_many", "_law_at", "_law_place"] ["_law_many"] (defScope s_l_p_unit) := ⟨rfl, rfl, rfl, by decide +kernel, rfl, by decide +kernel, by decide +kernel⟩
abbrev spLPUnit (K : PySem.W.Frag) (p : Nat) [Pr p] : Sp := spF K (fun n : Nat => [.int (n : Int)]) (fun n => n ≤ 100) (fun n => .tuple ((tabP n n (unitT : PT p)).map .tuple))
theorem ok_l_p_unit (T : Bt mg) (D : DefAt K mg "_law_p_unit" s_l_p_unit ["_law_many"]) : Ok P w K mg base "_law_p_unit" ["_law_many"] 1 (spLPUnit K p) := by
  refine D.ok sc_l_p_unit (spF_len fun _ => rfl) fun f0 cdv A outer s H vs Q E hr h => ?_
  obtain ⟨n, hn, rr, q⟩ := h
  obtain ⟨v, rfl, r1⟩ := dpA1 rr
  obtain rfl := dp_int r1
  have hn' : n ≤ 100 := hn
  refine ⟨_, (pss_one (ps_ret (pe_callTy (kTuple (K := K) rfl) (by rfl) T.tuple (by decide +kernel) (pa_cons (pe_lc (own := [("_law_at", 1)]) (g := gName 1) (tt := tYes) rfl sc_l_p_unit.nd (pi_range1 (by rfl) T.range (pa_cons (pv 0) pa_nil)) (blkOk_by (N := ["_law_many", "_law_at", "_law_place"]) (sc := defScope s_l_p_unit) (by decide +kernel)) (fun _ _ _ _ _ => (pg_name (i := 1) sc_l_p_unit.nd rfl (Or.inr rfl) (hf := Or.inl rfl))) (fun _ _ _ _ _ => pts_nil) (fun _ _ _ _ _ => (pe_callTy (kTuple (K := K) rfl) (by rfl) T.tuple (by decide +kernel) (pa_cons (pe_lc (own := [("_law_place", 2)]) (g := gName 2) (tt := tYes) rfl sc_l_p_unit.nd (pi_range1 (by rfl) T.range (pa_cons (pv 0) pa_nil)) (blkOk_by (N := ["_law_many", "_law_at", "_law_place"]) (sc := L2.relS _ (defScope s_l_p_unit)) (by decide +kernel)) (fun _ _ _ _ _ => (pg_name (i := 2) sc_l_p_unit.nd rfl (Or.inl rfl) (hf := Or.inr rfl))) (fun _ _ _ _ _ => pts_nil) (fun _ _ _ _ _ => (pe_ifExp (pt_cmpR op_eq (pv 1) (pv 2) (nomark _)) (pe_tup (pa_cons pe_int pa_nil)) (pe_tup pa_nil)))) pa_nil)))) pa_nil)))), ?_⟩
  have ir : ∀ (σ : L2.St) (H' : Hp), σ[0]? = some (some (.int (n : Int))) → EvI K (iRng1 (tCons (tVar 0) tNil)) σ H' ((List.range n).map fun (k : Nat) => .int (k : Int)) := fun σ H' hσ => ei_is (ei_rng1 (eds_cons (ed_var hσ (.int _)) eds_nil) (by omega)) (by rw [Int.toNat_natCast])
  refine sd_ret (K := K) (d := .tuple ((tabP n n (unitT : PT p)).map .tuple)) (ed_is (ed_tupleL (en_lc0 (List.range n) (fun (k : Nat) => .int (k : Int)) (fun i => .tuple (rowP n ((unitT : PT p) i))) (ir _ _ rfl) (by rw [List.length_range]; omega) (fun _ _ => by simp only [flatD]; exact rowP_flat _ _) (fun _ => rfl) fun i x H' hi e rx => ?_).toD) (by rw [tabP_tup])) q
  obtain rfl := dp_int rx
  refine ed_tupleL (en_is (en_lc0 (List.range n) (fun (k : Nat) => .int (k : Int)) (fun j => dP (if i = j then (1 : Po p) else 0)) (ir _ _ rfl) (by rw [List.length_range]; omega) (fun _ _ => flat_dP _) (fun _ => rfl) fun j y H2 hj e2 ry => ?_) (by unfold rowP unitT; rfl)).toD
  obtain rfl := dp_int ry
  refine ed_if (b := decide (i = j)) (et_is (KR.et_test (K := K) (ed_eqI (ed_var rfl (.int _)) (ed_var rfl (.int _)))) (by
      by_cases z : i = j
      · rw [z, decide_eq_true rfl, decide_eq_true rfl]
      · rw [decide_eq_false z, decide_eq_false (by omega)])) (fun hb => ?_) (fun hb => ?_)
  · rw [if_pos (of_decide_eq_true hb)]
    exact ed_is (ed_tup (eds_cons ed_int eds_nil) (by decide)) (by unfold dP; rw [one_l, one_dC (p := p)]; rfl)
  · rw [if_neg (of_decide_eq_false hb)]
    exact ed_is (ed_tup eds_nil (by decide)) (by unfold dP; rw [zero_l]; rfl)
end
end KW
end
section
set_option Elab.async false
set_option linter.all false
set_option maxRecDepth 100000
set_option maxHeartbeats 4000000
/-! The law's own defs: matrices of polynomials. -/
namespace KW
open PySem PySem.Spec PyProof.Rows L2 Evl KR K18 KX
section
variable {P : Program} {w : World} {K : PySem.W.Frag} {mg : Str → Option Value} {base : Heap} {p : Nat} [hp : Pr p]
def tupP (n m : Nat) (R : PT p) : PyData := .tuple ((tabP n m R).map .tuple)
theorem tupP_eq (n m : Nat) (R : PT p) : tupP n m R = .tuple ((List.range n).map fun i => .tuple (rowP m (R i))) := by unfold tupP; rw [tabP_tup]
theorem tupP_flat (n m : Nat) (R : PT p) : flatD (tupP n m R) = true := flat_tab n m R
theorem tup_at {n m i : Nat} {R : PT p} (h : i < n) : ((tabP n m R).map PyData.tuple)[i]? = some (.tuple (rowP m (R i))) := by rw [List.getElem?_map, tabP_at h]; rfl
theorem ed_tcell {σ : L2.St} {H : Hp} {ta t1 t2 : TE} {n m i j : Nat} {R : PT p} (h : EvD K ta σ H (tupP n m R)) (h1 : EvD K t1 σ H (.int (i : Int))) (h2 : EvD K t2 σ H (.int (j : Int))) (hi : i < n) (hj : j < m) : EvD K (tOp (rIx K) (tOp (rIx K) ta t1) t2) σ H (dP (R i j)) :=
  ed_ixT (ed_ixT h h1 rfl (tup_at hi)) h2 rfl (rowP_at hj)
theorem tupP_congr {n m : Nat} {A B : PT p} (h : ∀ i j, i < n → j < m → A i j = B i j) : tupP n m A = tupP n m B := by
  rw [tupP_eq, tupP_eq]
  refine congrArg PyData.tuple (List.map_congr_left fun i hi => ?_)
  unfold rowP
  exact congrArg PyData.tuple (List.map_congr_left fun j hj => by rw [h i j (List.mem_range.mp hi) (List.mem_range.mp hj)])
theorem zero_dP : dP (0 : Po p) = .tuple [] := by unfold dP; rw [zero_l]; rfl
theorem one_dP : dP (1 : Po p) = .tuple [.int 1] := by unfold dP; rw [one_l, one_dC (p := p)]; rfl
abbrev s_l_p_product : Stmt := topS 49
theorem sc_l_p_product : FnScope ["_law_p", "_law_one", "_law_other", "_law_found", "_law_line", "_law_told", "_law_place", "_law_total", "_law_at"] ["_law_p", "_law_one", "_law_other"] (defScope s_l_p_product) := ⟨rfl, rfl, rfl, by decide +kernel, rfl, by decide +kernel, by decide +kernel⟩
abbrev spLProd (K : PySem.W.Frag) (p : Nat) [Pr p] : Sp := spF K (fun a : Nat × Nat × Nat × PT p × PT p => [.int (p : Int), tupP a.1 a.2.1 a.2.2.2.1, tupP a.2.1 a.2.2.1 a.2.2.2.2])
  (fun a => 1 ≤ a.2.1 ∧ a.1 ≤ 100 ∧ a.2.1 ≤ 100 ∧ a.2.2.1 ≤ 100 ∧ (∀ i j, i < a.1 → j < a.2.1 → len (a.2.2.2.1 i j) ≤ 3000) ∧ (∀ i j, i < a.2.1 → j < a.2.2.1 → len (a.2.2.2.2 i j) ≤ 3000)) (fun a => tupP a.1 a.2.2.1 (mulT a.2.1 a.2.2.2.1 a.2.2.2.2))
theorem ok_l_p_product (T : Bt mg) (D : DefAt K mg "_law_p_product" s_l_p_product ["_law_p", "_law_one", "_law_other"]) (O_l_sum : Ok P w K mg base "_law_sum" ["_law_p", "_law_one", "_law_other"] 2 (spLSum K p)) (O_l_times : Ok P w K mg base "_law_times" ["_law_p", "_law_one", "_law_other"] 2 (spLTimes K p)) :
    Ok P w K mg base "_law_p_product" ["_law_p", "_law_one", "_law_other"] 3 (spLProd K p) := by
  refine D.ok sc_l_p_product (spF_len fun _ => rfl) fun f0 cdv A0 outer s H vs Q E hr h => ?_
  obtain ⟨⟨n, k, m, A, B⟩, ⟨k1, n2, k2, m2, lA, lB⟩, rr, q⟩ := h
  simp only at k1 n2 k2 m2 lA lB
  obtain ⟨_, v, u, rfl, r1, r2, r3⟩ := dpA3 rr
  obtain rfl := dp_int r1
  replace r2 : Dp K H v (tupP n k A) := r2
  replace r3 : Dp K H u (tupP k m B) := r3
  refine ⟨_, (pss_cons (ps_set (i := 3) sc_l_p_product.nd rfl (Or.inl rfl) (pe_lst pa_nil))
      (pss_cons (ps_for PassesOwn.never rfl (kpi_tup (K := K) rfl (pv 1)) (pg_name (i := 4) sc_l_p_product.nd rfl (Or.inl rfl)) (pss_cons (ps_set (i := 5) sc_l_p_product.nd rfl (Or.inl rfl) (pe_lst pa_nil))
      (pss_cons (ps_for PassesOwn.never rfl (pi_range1 (by rfl) T.range (pa_cons (pe_callB (kLen (K := K) rfl) (by rfl) T.len (by decide +kernel) (pa_cons (pe_ix (kIx (K := K) rfl) (pv 2) pe_int (fun _ _ => rfl)) pa_nil)) pa_nil)) (pg_name (i := 6) sc_l_p_product.nd rfl (Or.inl rfl)) (pss_cons (ps_set (i := 7) sc_l_p_product.nd rfl (Or.inl rfl) (pe_tup pa_nil))
      (pss_cons (ps_for PassesOwn.never rfl (pi_range1 (by rfl) T.range (pa_cons (pe_callB (kLen (K := K) rfl) (by rfl) T.len (by decide +kernel) (pa_cons (pv 2) pa_nil)) pa_nil)) (pg_name (i := 8) sc_l_p_product.nd rfl (Or.inl rfl)) (pss_one (ps_set (i := 7) sc_l_p_product.nd rfl (Or.inl rfl) (pe_ok O_l_sum (hr.mono (by decide)) (by rfl) (pa_cons (pv 0) (pa_cons (pv 7) (pa_cons (pe_ok O_l_times (hr.mono (by decide)) (by rfl) (pa_cons (pv 0) (pa_cons (pe_ix (kIx (K := K) rfl) (pv 4) (pv 8) (fun _ _ => rfl)) (pa_cons (pe_ix (kIx (K := K) rfl) (pe_ix (kIx (K := K) rfl) (pv 2) (pv 8) (fun _ _ => rfl)) (pv 6) (fun _ _ => rfl)) pa_nil)))) pa_nil)))))))
      (pss_one (ps_expr (pe_bm PySem.F.plainAttrs_list PySem.F.slot_list_append PySem.F.type_list_append mt_append (pv 5) (pa_cons (pv 7) pa_nil)))))))
      (pss_one (ps_expr (pe_bm PySem.F.plainAttrs_list PySem.F.slot_list_append PySem.F.type_list_append mt_append (pv 3) (pa_cons (pe_callTy (kTuple (K := K) rfl) (by rfl) T.tuple (by decide +kernel) (pa_cons (pv 5) pa_nil)) pa_nil)))))))
      (pss_one (ps_ret (pe_callTy (kTuple (K := K) rfl) (by rfl) T.tuple (by decide +kernel) (pa_cons (pv 3) pa_nil)))))), ?_⟩
  refine qn_asg (K := K) (ds := []) (en_lst eds_nil (by decide)) fun F0 xs H2 nF e2 hF rF => ?_
  cases rF
  refine q_forG (K := K) (G := Ex H) (eg_tup rfl (dp_ex e2 _ _ r2) fun H3 g3 => dp_ex g3 _ _ r2)
    (fun i σ' H' => Ex H H' ∧ (∃ vs, H' F0 = some (.lst vs) ∧ DpAll K H' vs ((List.range i).map fun i => PyData.tuple (rowP m (mulT k A B i)))) ∧ ∃ x4 x5 x6 x7 x8, σ' = [some (.int (p : Int)), some v, some u, some (.ref F0), x4, x5, x6, x7, x8])
    (fun H3 e3 => ⟨e2.trans e3, ⟨[], e3 _ _ hF, .nil⟩, none, none, none, none, none, rfl⟩) (fun i σ' H' _ h => h.1) (fun i d z σ' Ha Hb hd ⟨ea, ⟨vs, hFa, hva⟩, x4, x5, x6, x7, x8, hσ⟩ eb rz => ?_) (fun σ' Ha ⟨ea, ⟨vs, hFa, hva⟩, x4, x5, x6, x7, x8, hσ⟩ => ?_)
  · have hin : i < n := by
      have := (List.getElem?_eq_some_iff.mp hd).1
      rw [List.length_map, tabP_len] at this; exact this
    rw [tup_at hin] at hd
    obtain rfl := Option.some.inj hd
    subst hσ
    have eab := ea.trans eb
    -- told = []
    refine qn_asg (K := K) (ds := []) (en_lst eds_nil (by decide)) fun T0 ys Hc nT ec hT rT => ?_
    cases rT
    have hFc := (eb.trans ec) _ _ hFa
    have hvc := dpA_ex (eb.trans ec) _ _ hva
    have eac := eab.trans ec
    have rzc := dp_ex ec _ _ rz
    have rlen : EvD K (tCB (KR.rLenS K) (tCons (tOp (rIx K) (tVar 2) (tC (V.int 0))) tNil)) [some (.int (p : Int)), some v, some u, some (.ref F0), some z, some (.ref T0), x6, x7, x8] Hc (.int (m : Int)) :=
      ed_is (ed_lenT (ed_ixT (k := 0) (ed_var rfl (dp_ex eac _ _ r3)) ed_int rfl (tup_at (by omega)))) (by rw [rowP_len])
    have hFT : F0 ≠ T0 := fun z => by rw [← z, eb _ _ hFa] at nT; cases nT
    refine q_forG (K := K) (G := fun _ => True) (eg_rng1 (i := (m : Int)) (eds_cons rlen eds_nil) (by omega))
      (fun c σ2 H2 => Ex Hb H2 ∧ (∃ ws, H2 T0 = some (.lst ws) ∧ DpAll K H2 ws ((List.range c).map fun c => dP (mulT k A B i c))) ∧ ∃ x6 x7 x8, σ2 = [some (.int (p : Int)), some v, some u, some (.ref F0), some z, some (.ref T0), x6, x7, x8])
      (fun H3 e3 => ⟨ec.trans e3, ⟨[], e3 _ _ hT, .nil⟩, _, _, _, rfl⟩) (fun _ _ _ _ _ => True.intro) (fun c d2 z2 σ2 Hd He hd2 ⟨ed, ⟨ws, hTd, hwd⟩, y6, y7, y8, hσ2⟩ ee rz2 => ?_) (fun σ2 Hd ⟨ed, ⟨ws, hTd, hwd⟩, y6, y7, y8, hσ2⟩ => ?_)
    · have hcm : c < m := by
        have := (List.getElem?_eq_some_iff.mp hd2).1
        rw [List.length_map, List.length_range] at this; omega
      rw [rangeAt (f := fun (k : Nat) => PyData.int (k : Int)) (by omega : c < ((m : Int)).toNat)] at hd2
      obtain rfl := (Option.some.inj hd2)
      obtain rfl := dp_int rz2
      subst hσ2
      have eae := (eab.trans ed).trans ee
      refine qd_asg (K := K) (d := dP (0 : Po p)) (ed_is (ed_tup eds_nil (by decide)) (by rw [zero_dP])) fun v7 Hf ef r7 => ?_
      have eaf := eae.trans ef
      refine q_forG (K := K) (G := fun _ => True) (eg_rng1 (i := (k : Int)) (eds_cons (ed_is (ed_lenT (ed_var rfl (dp_ex eaf _ _ r3))) (by rw [List.length_map, tabP_len])) eds_nil) (by omega))
        (fun l σ3 H3 => Ex He H3 ∧ ∃ x7 x8, Dp K H3 x7 (dP (SP l fun l => A i l * B l c)) ∧ σ3 = [some (.int (p : Int)), some v, some u, some (.ref F0), some z, some (.ref T0), some (.int (c : Int)), some x7, x8])
        (fun H3 e3 => ⟨ef.trans e3, v7, _, dp_ex e3 _ _ r7, rfl⟩) (fun _ _ _ _ _ => True.intro) (fun l d3 z3 σ3 Hg Hh hd3 ⟨eg, x7, x8, rx7, hσ3⟩ eh rz3 => ?_) (fun σ3 Hg ⟨eg, x7, x8, rx7, hσ3⟩ => ?_)
      · have hlk : l < k := by
          have := (List.getElem?_eq_some_iff.mp hd3).1
          rw [List.length_map, List.length_range] at this; omega
        rw [rangeAt (f := fun (k : Nat) => PyData.int (k : Int)) (by omega : l < ((k : Int)).toNat)] at hd3
        obtain rfl := (Option.some.inj hd3)
        obtain rfl := dp_int rz3
        subst hσ3
        have eah := (eae.trans eg).trans eh
        have lAi := lA i l hin hlk
        have lBl := lB l c hlk hcm
        have lm := len_mul_le (A i l) (B l c)
        have lS : len (SP l fun l => A i l * B l c) ≤ 6000 := len_SP fun l' hl' => by
          have := lA i l' hin (by omega)
          have := lB l' c (by omega) hcm
          have := len_mul_le (A i l') (B l' c)
          omega
        have rzh := dp_ex (((ec.trans (Ex.refl _)).trans (Ex.refl _))) _ _ rz
        refine sd_asg (K := K) (d := dP (SP (l + 1) fun l => A i l * B l c)) (ed_call (SP l fun l => A i l * B l c, A i l * B l c) (eds_cons (ed_var rfl (.int _)) (eds_cons (ed_var rfl (dp_ex eh _ _ rx7)) (eds_cons (ed_call (A i l, B l c) (eds_cons (ed_var rfl (.int _)) (eds_cons (ed_ixT (k := l) (ed_var rfl (dp_ex (((ed.trans ee).trans eg).trans eh) _ _ rz)) (ed_var rfl (.int _)) rfl (rowP_at hlk)) (eds_cons (ed_tcell (ed_var rfl (dp_ex eah _ _ r3)) (ed_var rfl (.int _)) (ed_var rfl (.int _)) hlk hcm) eds_nil))) ⟨by show len (A i l) ≤ 5000; omega, by show len (B l c) ≤ 5000; omega⟩) eds_nil)))
          ⟨by show len (SP l _) ≤ 10000; omega, by show len (A i l * B l c) ≤ 10000; omega⟩) fun v9 Hi ei r9 => ?_
        exact ⟨(eg.trans eh).trans ei, v9, _, r9, rfl⟩
      · subst hσ3
        have hl3 : ((List.range ((k : Int)).toNat).map fun (k : Nat) => PyData.int (k : Int)).length = k := by simp
        rw [hl3] at rx7
        have hTg := (ee.trans eg) _ _ hTd
        have hwg := dpA_ex (ee.trans eg) _ _ hwd
        refine sd_app (K := K) (d := dP (mulT k A B i c)) hTg rfl (ed_var rfl rx7) ?_ fun v9 Hi ei r9 => ?_
        · have := dpA_len hwd
          rw [this, List.length_map, List.length_range]; omega
        · refine ⟨?_, ⟨_, upd_same, ?_⟩, _, _, _, rfl⟩
          · exact Ex.mut (((ed.trans ee).trans eg).trans ei) nT
          · have hx := exT_lst (ys := ws ++ [v9]) (ei _ _ hTg)
            rw [List.range_succ, List.map_append]
            exact dpA_app (dpA_exT hx _ _ (flat_map (fun c => flat_dP _) _) (dpA_ex ei _ _ hwg)) (.cons (dp_exT hx _ _ (flat_dP _) r9) .nil)
    · subst hσ2
      have hl2 : ((List.range ((m : Int)).toNat).map fun (k : Nat) => PyData.int (k : Int)).length = m := by simp
      rw [hl2] at hwd
      have hFd := (eb.trans ed) _ _ hFa
      have hvd := dpA_ex (eb.trans ed) _ _ hva
      refine sd_app (K := K) (d := .tuple (rowP m (mulT k A B i))) hFd rfl (ed_tupleL (ed_var rfl (.lst (sq_of hTd) hwd))) ?_ fun v9 Hi ei r9 => ?_
      · have := dpA_len hva
        rw [this, List.length_map, List.length_range]; omega
      · refine ⟨Ex.mut ((eab.trans ed).trans ei) nF, ⟨_, upd_same, ?_⟩, _, _, _, _, _, rfl⟩
        have hx := exT_lst (ys := vs ++ [v9]) (ei _ _ hFd)
        rw [List.range_succ, List.map_append]
        exact dpA_app (dpA_exT hx _ _ (flat_map (fun i => by simp only [flatD]; exact rowP_flat _ _) _) (dpA_ex ei _ _ hvd)) (.cons (dp_exT hx _ _ (by simp only [flatD]; exact rowP_flat _ _) r9) .nil)
  · subst hσ
    rw [List.length_map, tabP_len] at hva
    exact sd_ret (K := K) (d := tupP n m (mulT k A B)) (ed_is (ed_tupleL (ed_var rfl (.lst (sq_of hFa) hva))) (by rw [tupP_eq])) fun v' H3 e3 r' => q v' H3 (ea.trans e3) r'

/-! ### the determinant -/
theorem len_altS {d : Nat} {f : Nat → Po p} : ∀ {n : Nat}, (∀ k, k < n → len (f k) ≤ d) → len (altS f n) ≤ d
  | 0, _ => by show len (0 : Po p) ≤ d; rw [len_zero]; omega
  | n + 1, h => by
    have h1 := len_altS (n := n) fun k hk => h k (by omega)
    have h2 := h n (by omega)
    unfold altS
    split
    · have := len_add (altS f n) (f n); omega
    · have := len_sub (altS f n) (f n); omega
theorem len_dt {b : Nat} : ∀ {n : Nat} {M : PT p}, (∀ i j, i < n → j < n → len (M i j) ≤ b) → len (dt n M) ≤ b * n + 1
  | 0, M, _ => by show len (1 : Po p) ≤ _; rw [one_eq, len_c f_one_ne]; omega
  | n + 1, M, h => by
    unfold dt
    refine len_altS fun k hk => ?_
    have h1 := len_dt (n := n) (M := mn M k) fun i j hi hj => by
      unfold mn
      refine h _ _ (by omega) ?_
      split <;> omega
    have h2 := h 0 k (by omega) hk
    have h3 := len_mul_le (M 0 k) (dt n (mn M k))
    rw [Nat.mul_add]; omega
theorem eqv_nil_tup {ds : List PyData} : PyData.eqv (.tuple ds) (.tuple []) = decide (ds = []) := by
  cases ds with
  | nil => simp [PyData.eqv, PyData.eqvAll]
  | cons a l => simp [PyData.eqv, PyData.eqvAll]
theorem shp_tupP (n m : Nat) (M : PT p) : Shp 3 (tupP n m M) := by
  rw [tupP_eq]
  exact shp_tup (shp_map fun i _ => shp_tup (shp_map fun j _ => shp_dP _))
theorem row_cut {n k : Nat} {r : Nat → Po p} (hk : k ≤ n) : (rowP (n + 1) r).take k ++ (rowP (n + 1) r).drop (k + 1) = rowP n fun j => r (if j < k then j else j + 1) := by
  refine List.ext_getElem? fun j => ?_
  by_cases hj : j < n
  · rw [rowP_at hj]
    by_cases hjk : j < k
    · rw [List.getElem?_append_left (by rw [List.length_take, rowP_len]; omega), List.getElem?_take, if_pos hjk, rowP_at (by omega), if_pos hjk]
    · rw [List.getElem?_append_right (by rw [List.length_take, rowP_len]; omega), List.length_take, rowP_len, List.getElem?_drop, if_neg hjk]
      rw [show k + 1 + (j - min k (n + 1)) = j + 1 by omega, rowP_at (by omega)]
  · rw [List.getElem?_eq_none (by rw [List.length_append, List.length_take, List.length_drop, rowP_len]; omega), List.getElem?_eq_none (by rw [rowP_len]; omega)]
theorem tab_drop {n : Nat} {M : PT p} : ((tabP (n + 1) (n + 1) M).map PyData.tuple).drop 1 = (List.range n).map fun i => PyData.tuple (rowP (n + 1) (M (i + 1))) := by
  rw [tabP_tup, List.range_succ_eq_map, List.map_cons, List.drop_succ_cons, List.drop_zero, List.map_map]
  rfl
abbrev s_l_p_det : Stmt := topS 51
theorem sc_l_p_det : FnScope ["_law_p", "_law_rows", "_law_total", "_law_at", "_law_rest", "_law_told", "_law_line"] ["_law_p", "_law_rows"] (defScope s_l_p_det) := ⟨rfl, rfl, rfl, by decide +kernel, rfl, by decide +kernel, by decide +kernel⟩
abbrev spLDet (K : PySem.W.Frag) (p : Nat) [Pr p] (n : Nat) : Sp := spF K (fun M : PT p => [.int (p : Int), tupP n n M]) (fun M => ∀ i j, i < n → j < n → len (M i j) ≤ 1000) (fun M => dP (dt n M))
theorem det_no (D : DefAt K mg "_law_p_det" s_l_p_det ["_law_p", "_law_rows"]) : Ok P w K mg base "_law_p_det" ["_law_p", "_law_rows"] 5 (fun _ _ _ _ => False) :=
  D.ok sc_l_p_det (fun vs H Q E h => h.elim) fun f0 cdv A outer s H vs Q E hr h => h.elim
theorem det_zero (T : Bt mg) {lv : Nat} (hlv : 4 ≤ lv) (D : DefAt K mg "_law_p_det" s_l_p_det ["_law_p", "_law_rows"]) (O_l_p_det : Ok P w K mg base "_law_p_det" ["_law_p", "_law_rows"] lv (fun _ _ _ _ => False)) (O_l_sum : Ok P w K mg base "_law_sum" ["_law_p", "_law_one", "_law_other"] 2 (spLSum K p)) (O_l_times : Ok P w K mg base "_law_times" ["_law_p", "_law_one", "_law_other"] 2 (spLTimes K p))
    (O_l_less : Ok P w K mg base "_law_less" ["_law_p", "_law_one", "_law_other"] 3 (spLLess K p)) : Ok P w K mg base "_law_p_det" ["_law_p", "_law_rows"] (lv + 1) (spLDet K p 0) := by
  refine D.ok sc_l_p_det (spF_len fun _ => rfl) fun f0 cdv A outer s H vs Q E hr h => ?_
  obtain ⟨M, hM, rr, q⟩ := h
  obtain ⟨_, v, rfl, r1, r2⟩ := dpA2 rr
  obtain rfl := dp_int r1
  refine ⟨_, (pss_cons (ps_if (pt_cmpR (kEqD (K := K) rfl hr.units) (pv 1) (pe_tup pa_nil) (nomark _)) (pss_one (ps_ret (pe_tup (pa_cons pe_int pa_nil)))) pss_nil)
      (pss_cons (ps_set (i := 2) sc_l_p_det.nd rfl (Or.inl rfl) (pe_tup pa_nil))
      (pss_cons (ps_for PassesOwn.never rfl (pi_range1 (by rfl) T.range (pa_cons (pe_callB (kLen (K := K) rfl) (by rfl) T.len (by decide +kernel) (pa_cons (pv 1) pa_nil)) pa_nil)) (pg_name (i := 3) sc_l_p_det.nd rfl (Or.inr rfl)) (pss_cons (ps_set (i := 4) sc_l_p_det.nd rfl (Or.inl rfl) (pe_callTy (kTuple (K := K) rfl) (by rfl) T.tuple (by decide +kernel) (pa_cons (pe_lc (own := [("_law_line", 6)]) (g := gName 6) (tt := tYes) rfl sc_l_p_det.nd (kpi_tup (K := K) rfl (pe_slice (kSlT (K := K) rfl) (pv 1) (po_some pe_int) po_none)) (blkOk_by (N := ["_law_p", "_law_rows", "_law_total", "_law_at", "_law_rest", "_law_told", "_law_line"]) (sc := defScope s_l_p_det) (by decide +kernel)) (fun _ _ _ _ _ => (pg_name (i := 6) sc_l_p_det.nd rfl (Or.inl rfl) (hf := Or.inr rfl))) (fun _ _ _ _ _ => pts_nil) (fun _ _ _ _ _ => (pe_op (kCatT (K := K) rfl) (pe_slice (kSlT (K := K) rfl) (pv 6) po_none (po_some (pv 3))) (pe_slice (kSlT (K := K) rfl) (pv 6) (po_some (pe_op op_add (pv 3) pe_int)) po_none)))) pa_nil)))
      (pss_cons (ps_set (i := 5) sc_l_p_det.nd rfl (Or.inl rfl) (pe_ok O_l_times (hr.mono (by omega)) (by rfl) (pa_cons (pv 0) (pa_cons (pe_ix (kIx (K := K) rfl) (pe_ix (kIx (K := K) rfl) (pv 1) pe_int (fun _ _ => rfl)) (pv 3) (fun _ _ => rfl)) (pa_cons (pe_ok O_l_p_det (hr.mono (by omega)) (by rfl) (pa_cons (pv 0) (pa_cons (pv 4) pa_nil))) pa_nil)))))
      (pss_one (ps_set (i := 2) sc_l_p_det.nd rfl (Or.inl rfl) (pe_ifExp (pt_cmpR op_eq (pe_op op_mod (pe_callTy call_int1 (by rfl) T.int (by decide +kernel) (pa_cons (pv 3) pa_nil)) pe_int) pe_int (nomark _)) (pe_ok O_l_sum (hr.mono (by omega)) (by rfl) (pa_cons (pv 0) (pa_cons (pv 2) (pa_cons (pv 5) pa_nil)))) (pe_ok O_l_less (hr.mono (by omega)) (by rfl) (pa_cons (pv 0) (pa_cons (pv 2) (pa_cons (pv 5) pa_nil))))))))))
      (pss_one (ps_ret (pv 2)))))), ?_⟩
  refine q_when' (b := true) (et_is (KR.et_test (ed_eqD (ed_var rfl r2) (ed_tup eds_nil (by decide)) (shp_tupP 0 0 M).ok rfl)) (by unfold tupP; rw [eqv_nil_tup]; rfl)) (fun hb H1 e1 => ?_) (fun z => nomatch z)
  exact sd_ret (K := K) (d := dP (dt 0 M)) (ed_is (ed_tup (eds_cons ed_int eds_nil) (by decide)) (by show _ = dP (1 : Po p); rw [one_dP])) fun v' H2 e2 r' => q v' H2 (e1.trans e2) r'
theorem det_succ (T : Bt mg) {lv n : Nat} (hlv : 4 ≤ lv) (hn : n ≤ 2) (D : DefAt K mg "_law_p_det" s_l_p_det ["_law_p", "_law_rows"]) (O_l_p_det : Ok P w K mg base "_law_p_det" ["_law_p", "_law_rows"] lv (spLDet K p n)) (O_l_sum : Ok P w K mg base "_law_sum" ["_law_p", "_law_one", "_law_other"] 2 (spLSum K p)) (O_l_times : Ok P w K mg base "_law_times" ["_law_p", "_law_one", "_law_other"] 2 (spLTimes K p))
    (O_l_less : Ok P w K mg base "_law_less" ["_law_p", "_law_one", "_law_other"] 3 (spLLess K p)) : Ok P w K mg base "_law_p_det" ["_law_p", "_law_rows"] (lv + 1) (spLDet K p (n + 1)) := by
  refine D.ok sc_l_p_det (spF_len fun _ => rfl) fun f0 cdv A outer s H vs Q E hr h => ?_
  obtain ⟨M, hM, rr, q⟩ := h
  obtain ⟨_, v, rfl, r1, r2⟩ := dpA2 rr
  obtain rfl := dp_int r1
  replace r2 : Dp K H v (tupP (n + 1) (n + 1) M) := r2
  refine ⟨_, (pss_cons (ps_if (pt_cmpR (kEqD (K := K) rfl hr.units) (pv 1) (pe_tup pa_nil) (nomark _)) (pss_one (ps_ret (pe_tup (pa_cons pe_int pa_nil)))) pss_nil)
      (pss_cons (ps_set (i := 2) sc_l_p_det.nd rfl (Or.inl rfl) (pe_tup pa_nil))
      (pss_cons (ps_for PassesOwn.never rfl (pi_range1 (by rfl) T.range (pa_cons (pe_callB (kLen (K := K) rfl) (by rfl) T.len (by decide +kernel) (pa_cons (pv 1) pa_nil)) pa_nil)) (pg_name (i := 3) sc_l_p_det.nd rfl (Or.inr rfl)) (pss_cons (ps_set (i := 4) sc_l_p_det.nd rfl (Or.inl rfl) (pe_callTy (kTuple (K := K) rfl) (by rfl) T.tuple (by decide +kernel) (pa_cons (pe_lc (own := [("_law_line", 6)]) (g := gName 6) (tt := tYes) rfl sc_l_p_det.nd (kpi_tup (K := K) rfl (pe_slice (kSlT (K := K) rfl) (pv 1) (po_some pe_int) po_none)) (blkOk_by (N := ["_law_p", "_law_rows", "_law_total", "_law_at", "_law_rest", "_law_told", "_law_line"]) (sc := defScope s_l_p_det) (by decide +kernel)) (fun _ _ _ _ _ => (pg_name (i := 6) sc_l_p_det.nd rfl (Or.inl rfl) (hf := Or.inr rfl))) (fun _ _ _ _ _ => pts_nil) (fun _ _ _ _ _ => (pe_op (kCatT (K := K) rfl) (pe_slice (kSlT (K := K) rfl) (pv 6) po_none (po_some (pv 3))) (pe_slice (kSlT (K := K) rfl) (pv 6) (po_some (pe_op op_add (pv 3) pe_int)) po_none)))) pa_nil)))
      (pss_cons (ps_set (i := 5) sc_l_p_det.nd rfl (Or.inl rfl) (pe_ok O_l_times (hr.mono (by omega)) (by rfl) (pa_cons (pv 0) (pa_cons (pe_ix (kIx (K := K) rfl) (pe_ix (kIx (K := K) rfl) (pv 1) pe_int (fun _ _ => rfl)) (pv 3) (fun _ _ => rfl)) (pa_cons (pe_ok O_l_p_det (hr.mono (by omega)) (by rfl) (pa_cons (pv 0) (pa_cons (pv 4) pa_nil))) pa_nil)))))
      (pss_one (ps_set (i := 2) sc_l_p_det.nd rfl (Or.inl rfl) (pe_ifExp (pt_cmpR op_eq (pe_op op_mod (pe_callTy call_int1 (by rfl) T.int (by decide +kernel) (pa_cons (pv 3) pa_nil)) pe_int) pe_int (nomark _)) (pe_ok O_l_sum (hr.mono (by omega)) (by rfl) (pa_cons (pv 0) (pa_cons (pv 2) (pa_cons (pv 5) pa_nil)))) (pe_ok O_l_less (hr.mono (by omega)) (by rfl) (pa_cons (pv 0) (pa_cons (pv 2) (pa_cons (pv 5) pa_nil))))))))))
      (pss_one (ps_ret (pv 2)))))), ?_⟩
  refine q_when' (b := false) (et_is (KR.et_test (ed_eqD (ed_var rfl r2) (ed_tup eds_nil (by decide)) (shp_tupP (n + 1) (n + 1) M).ok rfl)) (by
    unfold tupP; rw [eqv_nil_tup]
    refine decide_eq_false fun z => ?_
    have := congrArg List.length z
    rw [List.length_map, tabP_len] at this
    simp at this)) (fun z => nomatch z) (fun hb H1 e1 => ?_)
  refine qd_asg (K := K) (d := dP (0 : Po p)) (ed_is (ed_tup eds_nil (by decide)) (by rw [zero_dP])) fun v2 H2 e2 rv2 => ?_
  have e12 := e1.trans e2
  refine q_forG (K := K) (G := fun _ => True) (eg_rng1 (i := ((n + 1 : Nat) : Int)) (eds_cons (ed_is (ed_lenT (ed_var rfl (dp_ex e12 _ _ r2))) (by rw [List.length_map, tabP_len])) eds_nil) (by omega))
    (fun k σ' H' => Ex H H' ∧ ∃ x2 x3 x4 x5, Dp K H' x2 (dP (altS (fun k => M 0 k * dt n (mn M k)) k)) ∧ σ' = [some (.int (p : Int)), some v, some x2, x3, x4, x5, none])
    (fun H3 e3 => ⟨e12.trans e3, v2, none, none, none, dp_ex e3 _ _ rv2, rfl⟩) (fun _ _ _ _ _ => True.intro) (fun k d z σ' Ha Hb hd ⟨ea, x2, x3, x4, x5, rx2, hσ⟩ eb rz => ?_) (fun σ' Ha ⟨ea, x2, x3, x4, x5, rx2, hσ⟩ => ?_)
  · have hk : k < n + 1 := by
      have := (List.getElem?_eq_some_iff.mp hd).1
      rw [List.length_map, List.length_range] at this; omega
    rw [rangeAt (f := fun (k : Nat) => PyData.int (k : Int)) (by omega : k < (((n + 1 : Nat) : Int)).toNat)] at hd
    obtain rfl := (Option.some.inj hd)
    obtain rfl := dp_int rz
    subst hσ
    have eab := ea.trans eb
    have hmn : ∀ i j, i < n → j < n → len (mn M k i j) ≤ 1000 := fun i j hi hj => by
      unfold mn
      refine hM _ _ (by omega) ?_
      split <;> omega
    -- rest
    refine qd_asg (K := K) (d := tupP n n (mn M k)) (ed_is (ed_tupleL (en_lc0 (List.range n) (fun i => .tuple (rowP (n + 1) (M (i + 1)))) (fun i => .tuple (rowP n (mn M k i))) (ei_tup (ed_is (ed_slFrom (n := 1) (ed_var rfl (dp_ex eab _ _ r2)) ed_int rfl) (by rw [tab_drop]))) (by rw [List.length_range]; omega) (fun i _ => by simp only [flatD]; exact rowP_flat _ _) (fun _ => rfl)
      fun i v' H' hi e r => ?_).toD) (by rw [tupP_eq])) fun v4 Hc ec r4 => ?_
    · refine ed_is (KR.ed_catT (ed_slTo (n := k) (ed_var rfl r) (ed_var rfl (.int _)) rfl) (ed_slFrom (n := k + 1) (ed_var rfl r) (ed_op0 (ed_var rfl (.int _)) ed_int) (by omega)) (by rw [List.length_take, List.length_drop, rowP_len]; omega)) ?_
      rw [row_cut (by omega)]
      rfl
    have l0 := hM 0 k (by omega) hk
    have ld := len_dt (b := 1000) hmn
    have lp := len_mul_le (M 0 k) (dt n (mn M k))
    have ldn : len (dt n (mn M k)) ≤ 2001 := by
      have : 1000 * n ≤ 1000 * 2 := Nat.mul_le_mul_left _ hn
      omega
    -- told
    refine qd_asg (K := K) (d := dP (M 0 k * dt n (mn M k))) (ed_call (M 0 k, dt n (mn M k)) (eds_cons (ed_var rfl (.int _)) (eds_cons (ed_tcell (ed_var rfl (dp_ex (eab.trans ec) _ _ r2)) ed_int (ed_var rfl (.int _)) (by omega) hk) (eds_cons (ed_call (mn M k) (eds_cons (ed_var rfl (.int _)) (eds_cons (ed_var rfl r4) eds_nil)) hmn) eds_nil)))
      ⟨by show len (M 0 k) ≤ 5000; omega, by show len (dt n (mn M k)) ≤ 5000; omega⟩) fun v5 Hd ed' r5 => ?_
    have la : len (altS (fun k => M 0 k * dt n (mn M k)) k) ≤ 4000 := len_altS fun k' hk' => by
      have h1 := hM 0 k' (by omega) (by omega)
      have h2 : len (dt n (mn M k')) ≤ 1000 * n + 1 := len_dt fun i j hi hj => by
        unfold mn
        refine hM _ _ (by omega) ?_
        split <;> omega
      have h3 := len_mul_le (M 0 k') (dt n (mn M k'))
      have : 1000 * n ≤ 1000 * 2 := Nat.mul_le_mul_left _ hn
      omega
    refine sd_asg (K := K) (d := dP (altS (fun k => M 0 k * dt n (mn M k)) (k + 1))) (ed_if (b := decide (k % 2 = 0)) (et_is (KR.et_test (K := K) (ed_eqI (ed_opC (ed_int1 (ed_var rfl (.int _))) ed_int (by show (0 : Int) < 2; decide)) ed_int)) ?_) (fun hb => ?_) (fun hb => ?_)) fun v6 He ee r6 => ?_
    · by_cases h : k % 2 = 0
      · rw [decide_eq_true h, decide_eq_true (by show (k : Int) % 2 = 0; omega)]
      · rw [decide_eq_false h, decide_eq_false (by show ¬ (k : Int) % 2 = 0; omega)]
    · refine ed_is (ed_call (altS (fun k => M 0 k * dt n (mn M k)) k, M 0 k * dt n (mn M k)) (eds_cons (ed_var rfl (.int _)) (eds_cons (ed_var rfl (dp_ex ((eb.trans ec).trans ed') _ _ rx2)) (eds_cons (ed_var rfl r5) eds_nil))) ⟨by show len (altS _ k) ≤ 10000; omega, by show len (M 0 k * _) ≤ 10000; omega⟩) ?_
      show dP _ = dP (if k % 2 = 0 then _ else _)
      rw [if_pos (of_decide_eq_true hb)]
    · refine ed_is (ed_call (altS (fun k => M 0 k * dt n (mn M k)) k, M 0 k * dt n (mn M k)) (eds_cons (ed_var rfl (.int _)) (eds_cons (ed_var rfl (dp_ex ((eb.trans ec).trans ed') _ _ rx2)) (eds_cons (ed_var rfl r5) eds_nil))) ⟨by show len (altS _ k) ≤ 10000; omega, by show len (M 0 k * _) ≤ 10000; omega⟩) ?_
      show dP _ = dP (if k % 2 = 0 then _ else _)
      rw [if_neg (of_decide_eq_false hb)]
    · exact ⟨((eab.trans ec).trans ed').trans ee, v6, _, _, _, r6, rfl⟩
  · subst hσ
    have hl2 : ((List.range (((n + 1 : Nat) : Int)).toNat).map fun (k : Nat) => PyData.int (k : Int)).length = n + 1 := by simp
    rw [hl2] at rx2
    exact sd_ret (K := K) (d := dP (dt (n + 1) M)) (ed_var rfl rx2) fun v' H3 e3 r' => q v' H3 (ea.trans e3) r'
theorem ok_l_p_det (T : Bt mg) (D : DefAt K mg "_law_p_det" s_l_p_det ["_law_p", "_law_rows"]) (O_l_sum : Ok P w K mg base "_law_sum" ["_law_p", "_law_one", "_law_other"] 2 (spLSum K p)) (O_l_times : Ok P w K mg base "_law_times" ["_law_p", "_law_one", "_law_other"] 2 (spLTimes K p))
    (O_l_less : Ok P w K mg base "_law_less" ["_law_p", "_law_one", "_law_other"] 3 (spLLess K p)) {n : Nat} (n1 : 1 ≤ n) (n3 : n ≤ 3) : Ok P w K mg base "_law_p_det" ["_law_p", "_law_rows"] 9 (spLDet K p n) := by
  have o0 := det_zero (P := P) (w := w) (base := base) (p := p) T (by decide) D (det_no D) O_l_sum O_l_times O_l_less
  have o1 := det_succ T (by decide) (by decide) D o0 O_l_sum O_l_times O_l_less
  have o2 := det_succ T (by decide) (by decide) D o1 O_l_sum O_l_times O_l_less
  have o3 := det_succ T (by decide) (by decide) D o2 O_l_sum O_l_times O_l_less
  have mono : ∀ {j : Nat} {sp : Sp}, j ≤ 9 → Ok P w K mg base "_law_p_det" ["_law_p", "_law_rows"] j sp → Ok P w K mg base "_law_p_det" ["_law_p", "_law_rows"] 9 sp := fun h ⟨f, fd, F, b, g, k⟩ => ⟨f, fd, F.mono h, b, g, k⟩
  have : n = 1 ∨ n = 2 ∨ n = 3 := by omega
  rcases this with h | h | h <;> subst h
  · exact mono (by decide) o1
  · exact mono (by decide) o2
  · exact mono (by decide) o3

abbrev s_l_is_mover : Stmt := topS 53
theorem sc_l_is_mover : FnScope ["_law_p", "_law_rows", "_law_many", "_law_line"] ["_law_p", "_law_rows", "_law_many"] (defScope s_l_is_mover) := ⟨rfl, rfl, rfl, by decide +kernel, rfl, by decide +kernel, by decide +kernel⟩
abbrev spLMover (K : PySem.W.Frag) (p : Nat) [Pr p] (n : Nat) : Sp := spF K (fun M : PT p => [.int (p : Int), tupP n n M, .int (n : Int)]) (fun M => (∀ i j, i < n → j < n → len (M i j) ≤ 1000) ∧ len (dt n M) = 1) (fun M => .bool true)
theorem ok_l_is_mover (T : Bt mg) {n : Nat} (n1 : 1 ≤ n) (n3 : n ≤ 3) (D : DefAt K mg "_law_is_mover" s_l_is_mover ["_law_p", "_law_rows", "_law_many"]) (O_l_p_det : Ok P w K mg base "_law_p_det" ["_law_p", "_law_rows"] 9 (spLDet K p n)) : Ok P w K mg base "_law_is_mover" ["_law_p", "_law_rows", "_law_many"] 10 (spLMover K p n) := by
  refine D.ok sc_l_is_mover (spF_len fun _ => rfl) fun f0 cdv A outer s H vs Q E hr h => ?_
  obtain ⟨M, ⟨hM, hd⟩, rr, q⟩ := h
  obtain ⟨_, v, _, rfl, r1, r2, r3⟩ := dpA3 rr
  obtain rfl := dp_int r1
  obtain rfl := dp_int r3
  replace r2 : Dp K H v (tupP n n M) := r2
  refine ⟨_, (pss_cons (ps_if (PW.pt (pw_or (pt_not (pt_val (pe_callB (kIsi (K := K) rfl) (by rfl) T.isinstance (by decide +kernel) (pa_cons (pv 1) (pa_cons (pe_bltn (v := .ty "tuple") (by rfl) T.tuple (by decide +kernel) rfl) pa_nil))))) (pw_or (pt_cmpR op_ne (pe_callB (kLen (K := K) rfl) (by rfl) T.len (by decide +kernel) (pa_cons (pv 1) pa_nil)) (pv 2) (nomark _)) (pw_or1 (pt_cmpR (kNeD (K := K) rfl hr.units) (pe_lc (own := [("_law_line", 3)]) (g := gName 3) rfl sc_l_is_mover.nd (kpi_tup (K := K) rfl (pv 1)) (blkOk_by (N := ["_law_p", "_law_rows", "_law_many", "_law_line"]) (sc := defScope s_l_is_mover) (by decide +kernel)) (fun _ _ _ _ _ => (pg_name (i := 3) sc_l_is_mover.nd rfl (Or.inl rfl) (hf := Or.inr rfl))) (fun _ _ _ _ _ => (pts_one (pt_cmpR op_ne (pe_callB (kLen (K := K) rfl) (by rfl) T.len (by decide +kernel) (pa_cons (pv 3) pa_nil)) (pv 2) (nomark _)))) (fun _ _ _ _ _ => (pv 3))) (pe_lst pa_nil) (nomark _)))))) (pss_one (ps_ret pe_bl)) pss_nil)
      (pss_one (ps_ret (pe_cmpR op_eq (pe_callB (kLen (K := K) rfl) (by rfl) T.len (by decide +kernel) (pa_cons (pe_ok O_l_p_det (hr.mono (by decide)) (by rfl) (pa_cons (pv 0) (pa_cons (pv 1) pa_nil))) pa_nil)) pe_int (nomark _))))), ?_⟩
  have hlist : EvD K (tLc (iTup K (tVar 1)) (gName 3) (tTest (tOp rNe (tCB (KR.rLenS K) (tCons (tVar 3) tNil)) (tVar 2))) (tVar 3) [3]) [some (.int (p : Int)), some v, some (.int (n : Int)), none] H (.list []) := by
    refine EvN.toD (en_is (en_lc (List.range n) (fun i => .tuple (rowP n (M i))) (fun _ => false) (fun i => .tuple (rowP n (M i))) (ei_tup (ed_is (ed_var rfl r2) (tupP_eq n n M))) (by rw [List.length_range]; omega) (fun i _ => by simp only [flatD]; exact rowP_flat _ _) (fun _ => rfl)
      (fun i v' H' hi e r => et_is (KR.et_test (K := K) (ed_neI (ed_lenT (ed_var rfl r)) (ed_var rfl (.int _)))) ?_) (fun i v' H' hi hk => nomatch hk)) (by simp))
    rw [rowP_len]; simp
  refine q_when' (b := false) (et_is (et_or (a := false) (b := false) (et_not (a := true) (KR.et_B (K := K) (ed_isi (Ty := "tuple") (ed_var rfl r2) (by decide +kernel)))) fun _ => et_is (et_or (a := false) (b := false) (et_is (KR.et_test (K := K) (ed_neI (ed_lenT (ed_var rfl r2)) (ed_var rfl (.int _)))) (by rw [List.length_map, tabP_len]; simp)) fun _ => et_is (KR.et_test (K := K) (ed_neD hlist (ed_lst eds_nil (by decide)) rfl rfl)) (by rw [eqv_nil_list]; rfl)) rfl) rfl) (fun z => nomatch z) fun _ H1 e1 => ?_
  refine sd_ret (K := K) (d := .bool true) (ed_is (ed_eqI (ed_lenT (ed_call M (eds_cons (ed_var rfl (.int _)) (eds_cons (ed_var rfl (dp_ex e1 _ _ r2)) eds_nil)) hM)) ed_int) ?_) fun v' H2 e2 r' => q v' H2 (e1.trans e2) r'
  rw [List.length_map]
  have : (((dt n M).l.length : Nat) : Int) = 1 := by
    have : (dt n M).l.length = 1 := hd
    omega
  rw [this]; rfl
end
end KW
end
section
set_option Elab.async false
set_option linter.all false
set_option maxRecDepth 100000
set_option maxHeartbeats 4000000
/-! The law's own defs: rank, is_reduced, alike. -/
namespace KW
open PySem PySem.Spec PyProof.Rows L2 Evl KR K18 KX
section
variable {X : Cx} {K : PySem.W.Frag}
theorem kSorted (h : X.K = K) : CallR X (.builtin "sorted") (rSorted K) := h ▸ cr_sorted
theorem kpe_revL {e : Expr} {te : TE} {k : Nat} {p1 p2 p3 pos : Pos} (h : X.K = K) (he : PE X e te) : PE X (.Subscript e (.Slice none none (some (.UnaryOp .USub (.Constant (.int 1) k p1) p2)) p3) pos) (tRevL K te) := h ▸ pe_revL he
end
section math
variable {p : Nat} [hp : Pr p]
def elimR (M : Tb p) (here c : Nat) (bk : Fin p) (k : Nat) : Tb p := fun i j => if here < i ∧ i < here + 1 + k then M i j - (M i c * bk) * M here j else M i j
theorem elimR_zero (M : Tb p) (here c : Nat) (bk : Fin p) : elimR M here c bk 0 = M := by
  funext i j; unfold elimR; rw [if_neg (by omega)]
theorem elimR_step (M : Tb p) (here c : Nat) (bk : Fin p) (k : Nat) : elimR M here c bk (k + 1) = setR (elimR M here c bk k) (here + 1 + k) fun j => M (here + 1 + k) j - (M (here + 1 + k) c * bk) * M here j := by
  funext i j
  unfold setR elimR
  by_cases e : i = here + 1 + k
  · rw [if_pos e, if_pos (by omega), e]
  · rw [if_neg e]
    by_cases q : here < i ∧ i < here + 1 + k
    · rw [if_pos (by omega), if_pos q]
    · rw [if_neg (by omega), if_neg q]
theorem elimR_all {w m : Nat} {M : Tb p} {here c : Nat} {bk : Fin p} (hh : here < w) : tabD w m (elimR M here c bk (w - (here + 1))) = tabD w m (rkElim M here c bk) := by
  unfold tabD
  refine List.map_congr_left fun i hi => ?_
  have hi := List.mem_range.mp hi
  have : elimR M here c bk (w - (here + 1)) i = rkElim M here c bk i := by
    funext j; unfold elimR rkElim
    by_cases q : here < i
    · rw [if_pos (by omega), if_pos q]
    · rw [if_neg (by omega), if_neg q]
  rw [this]
theorem rk_le {h : Nat} {M : Tb p} : ∀ n, (rk h M n).2 ≤ h
  | 0 => Nat.zero_le _
  | n + 1 => by
    have := rk_le (h := h) (M := M) n
    show (rkStep h (rk h M n) n).2 ≤ h
    unfold rkStep
    cases hb : best h (rk h M n).1 (rk h M n).2 n with
    | nil => simp only; exact this
    | cons b r =>
      obtain ⟨b1, b2, _⟩ := best_cons hb
      simp only
      omega
end math
section
variable {P : Program} {w : World} {K : PySem.W.Frag} {mg : Str → Option Value} {base : Heap} {p : Nat} [hp : Pr p]
theorem ed_sortDesc {te : TE} {σ : L2.St} {H : Hp} {ns : List Int} (h : EvD K te σ H (.list (ns.map .int))) (hd : ns.Pairwise (· ≥ ·)) (hl : ns.length < 64) : EvD K (tRevL K (tCB (rSorted K) (tCons te tNil))) σ H (.list (ns.map .int)) := fun H1 e Q q => h H1 e _ fun v H2 e2 r => by
  obtain ⟨a, xs, rfl, hs, hx⟩ := dp_lst r
  have hxs := dpA_intsV hx
  subst hxs
  refine ⟨a, ns, rfl, hs, hl, fun ns' b hperm hsort hb => ⟨b, ns'.map V.int, rfl, sq_of upd_same, fun c hc => ?_⟩⟩
  have hrev : ns'.reverse = ns := by
    have h1 : ns.reverse.Pairwise (· ≤ ·) := List.pairwise_reverse.mpr hd
    have h2 : ns' = ns.reverse := List.Perm.eq_of_pairwise (le := fun a b : Int => a ≤ b) (fun a b _ _ h1 h2 => Int.le_antisymm h1 h2) hsort h1 (hperm.trans (List.reverse_perm ns).symm)
    rw [h2, List.reverse_reverse]
  rw [← List.map_reverse, hrev]
  exact q _ _ (e2.trans ((Ex.new hb).trans (Ex.new hc))) (.lst (sq_of upd_same) (dpA_ints _))
theorem ed_isiT {ta : TE} {σ : L2.St} {H : Hp} {d : PyData} {t1 t2 : String} {b1 b2 : Bool} {Ty : String} (h : EvD K ta σ H d) (hk1 : kitB Ty t1 = some b1) (hk2 : kitB Ty t2 = some b2) (ht : tyD d = Ty := by rfl) :
    EvD K (tCB (rIsiT K) (tCons ta (tCons (tTup (tCons (tC (.ty t1)) (tCons (tC (.ty t2)) tNil))) tNil))) σ H (.bool (b1 || b2)) := fun H1 e Q q => h H1 e _ fun v H2 e2 r => ⟨(by decide : 2 ≤ sizeLine), fun T nT =>
  ⟨v, T, [.ty t1, .ty t2], .type Ty, [.type t1, .type t2], b1 || b2, rfl, upd_same, .cons (.ty t1) (.cons (.ty t2) .nil), by rw [← ht]; exact dp_ty (dp_ex (Ex.new nT) _ _ r), by
    unfold PySem.W.kitAny
    rw [kit_ty hk1]
    cases b1 with
    | true => rfl
    | false =>
      show PySem.W.kitAny K _ [.type t2] = _
      unfold PySem.W.kitAny
      rw [kit_ty hk2]
      cases b2 <;> rfl, q _ _ (e2.trans (Ex.new nT)) (.bl _)⟩⟩
theorem ed_isN {ta : TE} {σ : L2.St} {H : Hp} {i : Int} (h : EvD K ta σ H (.int i)) : EvD K (tIsN ta) σ H (.bool false) := fun H1 e Q q => h H1 e _ fun v H2 e2 r => by
  obtain rfl := dp_int r
  exact q _ H2 e2 (.bl _)
theorem eqv_ints : ∀ ns : List Int, PyData.eqvAll (ns.map PyData.int) (ns.map PyData.int) = true
  | [] => by simp [PyData.eqvAll]
  | i :: ns => by simp [PyData.eqvAll, PyData.eqv, eqv_ints ns]
abbrev s_l_alike : Stmt := topS 40
theorem sc_l_alike : FnScope ["_law_found", "_law_due", "_law_k"] ["_law_found", "_law_due"] (defScope s_l_alike) := ⟨rfl, rfl, rfl, by decide +kernel, rfl, by decide +kernel, by decide +kernel⟩
theorem alike_no (D : DefAt K mg "_law_alike" s_l_alike ["_law_found", "_law_due"]) : Ok P w K mg base "_law_alike" ["_law_found", "_law_due"] 1 (fun _ _ _ _ => False) :=
  D.ok sc_l_alike (fun vs H Q E h => h.elim) fun f0 cdv A outer s H vs Q E hr h => h.elim
theorem alike_int (T : Bt mg) (D : DefAt K mg "_law_alike" s_l_alike ["_law_found", "_law_due"]) (O_l_alike : Ok P w K mg base "_law_alike" ["_law_found", "_law_due"] 1 (fun _ _ _ _ => False)) : Ok P w K mg base "_law_alike" ["_law_found", "_law_due"] 2 (spF K (fun i : Int => [.int i, .int i]) (fun _ => True) (fun _ => .bool true)) := by
  refine D.ok sc_l_alike (spF_len fun _ => rfl) fun f0 cdv A outer s H vs Q E hr h => ?_
  obtain ⟨i, _, rr, q⟩ := h
  obtain ⟨_, _, rfl, r1, r2⟩ := dpA2 rr
  obtain rfl := dp_int r1
  obtain rfl := dp_int r2
  refine ⟨_, (pss_cons (ps_if (pt_val (pe_callB (kIsiT (K := K) rfl) (by rfl) T.isinstance (by decide +kernel) (pa_cons (pv 1) (pa_cons (pe_tup (pa_cons (pe_bltn (v := .ty "tuple") (by rfl) T.tuple (by decide +kernel) rfl) (pa_cons (pe_bltn (v := .ty "list") (by rfl) T.list (by decide +kernel) rfl) pa_nil))) pa_nil)))) (pss_cons (ps_if (PW.pt (pw_or (pt_not (pt_val (pe_callB (kIsiT (K := K) rfl) (by rfl) T.isinstance (by decide +kernel) (pa_cons (pv 0) (pa_cons (pe_tup (pa_cons (pe_bltn (v := .ty "tuple") (by rfl) T.tuple (by decide +kernel) rfl) (pa_cons (pe_bltn (v := .ty "list") (by rfl) T.list (by decide +kernel) rfl) pa_nil))) pa_nil))))) (pw_or1 (pt_cmpR op_ne (pe_callB (kIsi (K := K) rfl) (by rfl) T.isinstance (by decide +kernel) (pa_cons (pv 0) (pa_cons (pe_bltn (v := .ty "list") (by rfl) T.list (by decide +kernel) rfl) pa_nil))) (pe_callB (kIsi (K := K) rfl) (by rfl) T.isinstance (by decide +kernel) (pa_cons (pv 1) (pa_cons (pe_bltn (v := .ty "list") (by rfl) T.list (by decide +kernel) rfl) pa_nil))) (nomark _))))) (pss_one (ps_ret pe_bl)) pss_nil)
      (pss_cons (ps_if (pt_cmpR op_ne (pe_callB (kLen (K := K) rfl) (by rfl) T.len (by decide +kernel) (pa_cons (pv 0) pa_nil)) (pe_callB (kLen (K := K) rfl) (by rfl) T.len (by decide +kernel) (pa_cons (pv 1) pa_nil)) (nomark _)) (pss_one (ps_ret pe_bl)) pss_nil)
      (pss_one (ps_ret (pe_cmpR (kEqD (K := K) rfl hr.units) (pe_lc (own := [("_law_k", 2)]) (g := gName 2) rfl sc_l_alike.nd (pi_range1 (by rfl) T.range (pa_cons (pe_callB (kLen (K := K) rfl) (by rfl) T.len (by decide +kernel) (pa_cons (pv 1) pa_nil)) pa_nil)) (blkOk_by (N := ["_law_found", "_law_due", "_law_k"]) (sc := defScope s_l_alike) (by decide +kernel)) (fun _ _ _ _ _ => (pg_name (i := 2) sc_l_alike.nd rfl (Or.inl rfl) (hf := Or.inr rfl))) (fun _ _ _ _ _ => (pts_one (pt_not (pt_val (pe_ok O_l_alike (hr.mono (by decide)) (by rfl) (pa_cons (pe_ix (kIx (K := K) rfl) (pv 0) (pv 2) (fun _ _ => rfl)) (pa_cons (pe_ix (kIx (K := K) rfl) (pv 1) (pv 2) (fun _ _ => rfl)) pa_nil))))))) (fun _ _ _ _ _ => (pv 2))) (pe_lst pa_nil) (nomark _)))))) pss_nil)
      (pss_cons (ps_if (PW.pt (pw_or (pt_cmp (pc_isN (pv 1))) (pw_or1 (pt_val (pe_callB (kIsi (K := K) rfl) (by rfl) T.isinstance (by decide +kernel) (pa_cons (pv 1) (pa_cons (pe_bltn (v := .ty "str") (by rfl) T.str (by decide +kernel) rfl) pa_nil))))))) (pss_one (ps_ret (pe_and (pe_cmpR op_eq (pv 0) (pv 1) (nomark _)) (pe_one (pe_cmpR op_eq (pe_callB (kIsi (K := K) rfl) (by rfl) T.isinstance (by decide +kernel) (pa_cons (pv 0) (pa_cons (pe_bltn (v := .ty "str") (by rfl) T.str (by decide +kernel) rfl) pa_nil))) (pe_callB (kIsi (K := K) rfl) (by rfl) T.isinstance (by decide +kernel) (pa_cons (pv 1) (pa_cons (pe_bltn (v := .ty "str") (by rfl) T.str (by decide +kernel) rfl) pa_nil))) (nomark _)))))) pss_nil)
      (pss_one (ps_ret (pe_and (pe_callB (kIsi (K := K) rfl) (by rfl) T.isinstance (by decide +kernel) (pa_cons (pv 0) (pa_cons (pe_bltn (v := .ty "int") (by rfl) T.int (by decide +kernel) rfl) pa_nil))) (pe_and (pe_cmpR op_eq (pe_callB (kIsi (K := K) rfl) (by rfl) T.isinstance (by decide +kernel) (pa_cons (pv 0) (pa_cons (pe_bltn (v := .ty "bool") (by rfl) T.bool (by decide +kernel) rfl) pa_nil))) (pe_callB (kIsi (K := K) rfl) (by rfl) T.isinstance (by decide +kernel) (pa_cons (pv 1) (pa_cons (pe_bltn (v := .ty "bool") (by rfl) T.bool (by decide +kernel) rfl) pa_nil))) (nomark _)) (pe_one (pe_cmpR op_eq (pv 0) (pv 1) (nomark _))))))))), ?_⟩
  refine q_when' (b := false) (KR.et_B (K := K) (ed_isiT (Ty := "int") (b1 := false) (b2 := false) (ed_var rfl (.int i)) (by decide +kernel) (by decide +kernel))) (fun z => nomatch z) fun _ H1 e1 => ?_
  refine q_when' (b := false) (et_is (et_or (a := false) (b := false) ?_ fun _ => KR.et_B (K := K) (ed_isi (Ty := "int") (ed_var rfl (.int i)) (by decide +kernel))) rfl) (fun z => nomatch z) fun _ H2 e2 => ?_
  · exact KR.et_B (K := K) (ed_isN (ed_var rfl (.int i)))
  · refine sd_ret (K := K) (d := .bool true) (ed_is (ed_andV (ed_isi (Ty := "int") (ed_var rfl (.int i)) (b := true) (by decide +kernel)) fun _ => ed_andV (KR.ed_eqB (ed_isi (Ty := "int") (ed_var rfl (.int i)) (b := false) (by decide +kernel)) (ed_isi (Ty := "int") (ed_var rfl (.int i)) (b := false) (by decide +kernel))) fun _ => ed_eqI (ed_var rfl (.int i)) (ed_var rfl (.int i))) (by simp)) fun v' H3 e3 r' => q v' H3 ((e1.trans e2).trans e3) r'

abbrev spLAlike (K : PySem.W.Frag) : Sp := spF K (fun ns : List Int => [.tuple (ns.map .int), .tuple (ns.map .int)]) (fun ns => ns.length ≤ 100) (fun _ => .bool true)
theorem ok_l_alike (T : Bt mg) (D : DefAt K mg "_law_alike" s_l_alike ["_law_found", "_law_due"]) : Ok P w K mg base "_law_alike" ["_law_found", "_law_due"] 3 (spLAlike K) := by
  have O_l_alike := alike_int (P := P) (w := w) (base := base) T D (alike_no D)
  refine D.ok sc_l_alike (spF_len fun _ => rfl) fun f0 cdv A outer s H vs Q E hr h => ?_
  obtain ⟨ns, hn, rr, q⟩ := h
  obtain ⟨v, u, rfl, r1, r2⟩ := dpA2 rr
  have hn : ns.length ≤ 100 := hn
  refine ⟨_, (pss_cons (ps_if (pt_val (pe_callB (kIsiT (K := K) rfl) (by rfl) T.isinstance (by decide +kernel) (pa_cons (pv 1) (pa_cons (pe_tup (pa_cons (pe_bltn (v := .ty "tuple") (by rfl) T.tuple (by decide +kernel) rfl) (pa_cons (pe_bltn (v := .ty "list") (by rfl) T.list (by decide +kernel) rfl) pa_nil))) pa_nil)))) (pss_cons (ps_if (PW.pt (pw_or (pt_not (pt_val (pe_callB (kIsiT (K := K) rfl) (by rfl) T.isinstance (by decide +kernel) (pa_cons (pv 0) (pa_cons (pe_tup (pa_cons (pe_bltn (v := .ty "tuple") (by rfl) T.tuple (by decide +kernel) rfl) (pa_cons (pe_bltn (v := .ty "list") (by rfl) T.list (by decide +kernel) rfl) pa_nil))) pa_nil))))) (pw_or1 (pt_cmpR op_ne (pe_callB (kIsi (K := K) rfl) (by rfl) T.isinstance (by decide +kernel) (pa_cons (pv 0) (pa_cons (pe_bltn (v := .ty "list") (by rfl) T.list (by decide +kernel) rfl) pa_nil))) (pe_callB (kIsi (K := K) rfl) (by rfl) T.isinstance (by decide +kernel) (pa_cons (pv 1) (pa_cons (pe_bltn (v := .ty "list") (by rfl) T.list (by decide +kernel) rfl) pa_nil))) (nomark _))))) (pss_one (ps_ret pe_bl)) pss_nil)
      (pss_cons (ps_if (pt_cmpR op_ne (pe_callB (kLen (K := K) rfl) (by rfl) T.len (by decide +kernel) (pa_cons (pv 0) pa_nil)) (pe_callB (kLen (K := K) rfl) (by rfl) T.len (by decide +kernel) (pa_cons (pv 1) pa_nil)) (nomark _)) (pss_one (ps_ret pe_bl)) pss_nil)
      (pss_one (ps_ret (pe_cmpR (kEqD (K := K) rfl hr.units) (pe_lc (own := [("_law_k", 2)]) (g := gName 2) rfl sc_l_alike.nd (pi_range1 (by rfl) T.range (pa_cons (pe_callB (kLen (K := K) rfl) (by rfl) T.len (by decide +kernel) (pa_cons (pv 1) pa_nil)) pa_nil)) (blkOk_by (N := ["_law_found", "_law_due", "_law_k"]) (sc := defScope s_l_alike) (by decide +kernel)) (fun _ _ _ _ _ => (pg_name (i := 2) sc_l_alike.nd rfl (Or.inl rfl) (hf := Or.inr rfl))) (fun _ _ _ _ _ => (pts_one (pt_not (pt_val (pe_ok O_l_alike (hr.mono (by decide)) (by rfl) (pa_cons (pe_ix (kIx (K := K) rfl) (pv 0) (pv 2) (fun _ _ => rfl)) (pa_cons (pe_ix (kIx (K := K) rfl) (pv 1) (pv 2) (fun _ _ => rfl)) pa_nil))))))) (fun _ _ _ _ _ => (pv 2))) (pe_lst pa_nil) (nomark _)))))) pss_nil)
      (pss_cons (ps_if (PW.pt (pw_or (pt_cmp (pc_isN (pv 1))) (pw_or1 (pt_val (pe_callB (kIsi (K := K) rfl) (by rfl) T.isinstance (by decide +kernel) (pa_cons (pv 1) (pa_cons (pe_bltn (v := .ty "str") (by rfl) T.str (by decide +kernel) rfl) pa_nil))))))) (pss_one (ps_ret (pe_and (pe_cmpR op_eq (pv 0) (pv 1) (nomark _)) (pe_one (pe_cmpR op_eq (pe_callB (kIsi (K := K) rfl) (by rfl) T.isinstance (by decide +kernel) (pa_cons (pv 0) (pa_cons (pe_bltn (v := .ty "str") (by rfl) T.str (by decide +kernel) rfl) pa_nil))) (pe_callB (kIsi (K := K) rfl) (by rfl) T.isinstance (by decide +kernel) (pa_cons (pv 1) (pa_cons (pe_bltn (v := .ty "str") (by rfl) T.str (by decide +kernel) rfl) pa_nil))) (nomark _)))))) pss_nil)
      (pss_one (ps_ret (pe_and (pe_callB (kIsi (K := K) rfl) (by rfl) T.isinstance (by decide +kernel) (pa_cons (pv 0) (pa_cons (pe_bltn (v := .ty "int") (by rfl) T.int (by decide +kernel) rfl) pa_nil))) (pe_and (pe_cmpR op_eq (pe_callB (kIsi (K := K) rfl) (by rfl) T.isinstance (by decide +kernel) (pa_cons (pv 0) (pa_cons (pe_bltn (v := .ty "bool") (by rfl) T.bool (by decide +kernel) rfl) pa_nil))) (pe_callB (kIsi (K := K) rfl) (by rfl) T.isinstance (by decide +kernel) (pa_cons (pv 1) (pa_cons (pe_bltn (v := .ty "bool") (by rfl) T.bool (by decide +kernel) rfl) pa_nil))) (nomark _)) (pe_one (pe_cmpR op_eq (pv 0) (pv 1) (nomark _))))))))), ?_⟩
  refine q_when' (b := true) (KR.et_B (K := K) (ed_isiT (Ty := "tuple") (b1 := true) (b2 := false) (ed_var rfl r2) (by decide +kernel) (by decide +kernel))) (fun _ H1 e1 => ?_) (fun z => nomatch z)
  refine q_when' (b := false) (et_is (et_or (a := false) (b := false) (et_not (a := true) (KR.et_B (K := K) (ed_isiT (Ty := "tuple") (b1 := true) (b2 := false) (ed_var rfl (dp_ex e1 _ _ r1)) (by decide +kernel) (by decide +kernel)))) fun _ => KR.et_test (K := K) (KR.ed_neB (ed_isi (Ty := "tuple") (ed_var rfl (dp_ex e1 _ _ r1)) (b := false) (by decide +kernel)) (ed_isi (Ty := "tuple") (ed_var rfl (dp_ex e1 _ _ r2)) (b := false) (by decide +kernel)))) rfl) (fun z => nomatch z) fun _ H2 e2 => ?_
  have e12 := e1.trans e2
  refine q_when' (b := false) (et_is (KR.et_test (K := K) (ed_neI (ed_lenT (ed_var rfl (dp_ex e12 _ _ r1))) (ed_lenT (ed_var rfl (dp_ex e12 _ _ r2))))) (by simp)) (fun z => nomatch z) fun _ H3 e3 => ?_
  have e13 := e12.trans e3
  refine sd_ret (K := K) (d := .bool true) (ed_is (ed_eqD (d1 := .list []) (EvN.toD (en_is (en_lc (List.range ns.length) (fun (k : Nat) => PyData.int (k : Int)) (fun _ => false) (fun (k : Nat) => PyData.int (k : Int)) (ei_is (ei_rng1 (eds_cons (ed_lenT (ed_var rfl (dp_ex e13 _ _ r2))) eds_nil) (by rw [List.length_map]; omega)) (by rw [List.length_map, Int.toNat_natCast])) (by rw [List.length_range]; omega) (fun _ _ => rfl) (fun _ => rfl)
    (fun k v' H' hk e rk => et_is (et_not (a := true) (KR.et_B (K := K) (ed_call (ns.getD k 0) (eds_cons (ed_ixT (k := k) (ed_var rfl (dp_ex (e13.trans e) _ _ r1)) (ed_var rfl rk) rfl ?_) (eds_cons (ed_ixT (k := k) (ed_var rfl (dp_ex (e13.trans e) _ _ r2)) (ed_var rfl rk) rfl ?_) eds_nil)) True.intro))) rfl) (fun k v' H' hk hkk => nomatch hkk)) (by simp))) (ed_lst eds_nil (by decide)) rfl rfl) (by rw [eqv_nil_list]; rfl)) fun v' H4 e4 r' => q v' H4 (e13.trans e4) r'
  all_goals
    have hk := List.mem_range.mp hk
    rw [List.getElem?_map, List.getElem?_eq_getElem hk, List.getD_eq_getElem?_getD, List.getElem?_eq_getElem hk]; rfl

/-! ### rank -/
abbrev s_l_rank : Stmt := topS 47
theorem sc_l_rank : FnScope ["_law_p", "_law_rows", "_law_at", "_law_found", "_law_best", "_law_back_here", "_law_place", "_law_line", "_law_factor", "_law_a", "_law_b"] ["_law_p", "_law_rows"] (defScope s_l_rank) := ⟨rfl, rfl, rfl, by decide +kernel, rfl, by decide +kernel, by decide +kernel⟩
abbrev spLRank (K : PySem.W.Frag) (p : Nat) [Pr p] : Sp := spF K (fun a : Nat × Nat × Tb p => [.int (p : Int), .list ((tabD a.1 a.2.1 a.2.2).map .tuple)]) (fun a => 1 ≤ a.1 ∧ a.1 ≤ 6 ∧ 1 ≤ a.2.1 ∧ a.2.1 ≤ 6) (fun a => .int ((rk a.1 a.2.2 a.2.1).2 : Int))
theorem ok_l_rank (T : Bt mg) (D : DefAt K mg "_law_rank" s_l_rank ["_law_p", "_law_rows"]) (O_l_back : Ok P w K mg base "_law_back" ["_law_p", "_law_number"] 1 (spLBack K p)) : Ok P w K mg base "_law_rank" ["_law_p", "_law_rows"] 2 (spLRank K p) := by
  refine D.ok sc_l_rank (spF_len fun _ => rfl) fun f0 cdv A outer s H vs Q E hr h => ?_
  obtain ⟨⟨h', m, M⟩, ⟨hw1, hw2, hm1, hm2⟩, rr, q⟩ := h
  simp only at hw1 hw2 hm1 hm2
  obtain ⟨_, v, rfl, r1, r2⟩ := dpA2 rr
  obtain rfl := dp_int r1
  replace r2 : Dp K H v (.list ((tabD h' m M).map .tuple)) := r2
  refine ⟨_, (pss_cons (ps_asg (pe_tup (pa_cons (pe_lc (own := [("_law_line", 7)]) (g := gName 7) (tt := tYes) rfl sc_l_rank.nd (kpi_list (K := K) rfl (pv 1)) (blkOk_by (N := ["_law_p", "_law_rows", "_law_at", "_law_found", "_law_best", "_law_back_here", "_law_place", "_law_line", "_law_factor", "_law_a", "_law_b"]) (sc := defScope s_l_rank) (by decide +kernel)) (fun _ _ _ _ _ => (pg_name (i := 7) sc_l_rank.nd rfl (Or.inl rfl) (hf := Or.inr rfl))) (fun _ _ _ _ _ => pts_nil) (fun _ _ _ _ _ => (pe_callTy (kList (K := K) rfl) (by rfl) T.list (by decide +kernel) (pa_cons (pv 7) pa_nil)))) (pa_cons pe_int pa_nil))) (pg_tup rfl (pgs_cons (pg_name (i := 1) sc_l_rank.nd rfl (Or.inr rfl)) (pgs_cons (pg_name (i := 3) sc_l_rank.nd rfl (Or.inl rfl)) pgs_nil))))
      (pss_cons (ps_for PassesOwn.never rfl (pi_range1 (by rfl) T.range (pa_cons (pe_callB (kLen (K := K) rfl) (by rfl) T.len (by decide +kernel) (pa_cons (pe_ix (kIx (K := K) rfl) (pv 1) pe_int (fun _ _ => rfl)) pa_nil)) pa_nil)) (pg_name (i := 2) sc_l_rank.nd rfl (Or.inr rfl)) (pss_cons (ps_setLc (i := 4) (own := [("_law_place", 6)]) (g := gName 6) rfl sc_l_rank.nd rfl rfl (sw_true rfl rfl rfl (by decide +kernel)) (pi_range2 (by rfl) T.range (pa_cons (pv 3) (pa_cons (pe_callB (kLen (K := K) rfl) (by rfl) T.len (by decide +kernel) (pa_cons (pv 1) pa_nil)) pa_nil))) (blkOk_by (N := ["_law_p", "_law_rows", "_law_at", "_law_found", "_law_best", "_law_back_here", "_law_place", "_law_line", "_law_factor", "_law_a", "_law_b"]) (sc := defScope s_l_rank) (by decide +kernel)) (fun _ _ _ _ _ => (pg_name (i := 6) sc_l_rank.nd rfl (Or.inl rfl) (hf := Or.inr rfl))) (fun _ _ _ _ _ => (pts_one (pt_cmpR op_ne (pe_ix (kIx (K := K) rfl) (pe_ix (kIx (K := K) rfl) (pv 1) (pv 6) (fun _ _ => rfl)) (pv 2) (fun _ _ => rfl)) pe_int (nomark _)))) (fun _ _ _ _ _ => (pv 6)))
      (pss_one (ps_if (pt_cmpR (kNeD (K := K) rfl hr.units) (pv 4) (pe_lst pa_nil) (nomark _)) (pss_cons (ps_asg (pe_tup (pa_cons (pe_ix (kIx (K := K) rfl) (pv 1) (pe_ix (kIx (K := K) rfl) (pv 4) pe_int (fun _ _ => rfl)) (fun _ _ => rfl)) (pa_cons (pe_ix (kIx (K := K) rfl) (pv 1) (pv 3) (fun _ _ => rfl)) pa_nil))) (pg_tup rfl (pgs_cons (pg_sub (pv 1) (pv 3) set_list) (pgs_cons (pg_sub (pv 1) (pe_ix (kIx (K := K) rfl) (pv 4) pe_int (fun _ _ => rfl)) set_list) pgs_nil))))
      (pss_cons (ps_set (i := 5) sc_l_rank.nd rfl (Or.inl rfl) (pe_ok O_l_back (hr.mono (by decide)) (by rfl) (pa_cons (pv 0) (pa_cons (pe_ix (kIx (K := K) rfl) (pe_ix (kIx (K := K) rfl) (pv 1) (pv 3) (fun _ _ => rfl)) (pv 2) (fun _ _ => rfl)) pa_nil))))
      (pss_cons (ps_for PassesOwn.never rfl (pi_range2 (by rfl) T.range (pa_cons (pe_op op_add (pv 3) pe_int) (pa_cons (pe_callB (kLen (K := K) rfl) (by rfl) T.len (by decide +kernel) (pa_cons (pv 1) pa_nil)) pa_nil))) (pg_name (i := 6) sc_l_rank.nd rfl (Or.inl rfl)) (pss_cons (ps_set (i := 8) sc_l_rank.nd rfl (Or.inr rfl) (pe_op op_mod (pe_callTy call_int1 (by rfl) T.int (by decide +kernel) (pa_cons (pe_op op_mul (pe_ix (kIx (K := K) rfl) (pe_ix (kIx (K := K) rfl) (pv 1) (pv 6) (fun _ _ => rfl)) (pv 2) (fun _ _ => rfl)) (pv 5)) pa_nil)) (pv 0)))
      (pss_one (ps_asg (pe_lc (own := [("_law_a", 9), ("_law_b", 10)]) (g := gTwo K 9 10) (tt := tYes) rfl sc_l_rank.nd (kpi_zipA (K := K) rfl (by rfl) T.zip (pa_cons (pe_ix (kIx (K := K) rfl) (pv 1) (pv 6) (fun _ _ => rfl)) (pa_cons (pe_ix (kIx (K := K) rfl) (pv 1) (pv 3) (fun _ _ => rfl)) pa_nil))) (blkOk_by (N := ["_law_p", "_law_rows", "_law_at", "_law_found", "_law_best", "_law_back_here", "_law_place", "_law_line", "_law_factor", "_law_a", "_law_b"]) (sc := defScope s_l_rank) (by decide +kernel)) (fun _ _ _ _ _ => (kpg_two (K := K) (i := 9) (j := 10) rfl rfl sc_l_rank.nd rfl rfl rfl rfl)) (fun _ _ _ _ _ => pts_nil) (fun _ _ _ _ _ => (pe_op op_mod (pe_callTy call_int1 (by rfl) T.int (by decide +kernel) (pa_cons (pe_op op_sub (pv 9) (pe_op op_mul (pv 8) (pv 10))) pa_nil)) (pv 0)))) (pg_sub (pv 1) (pv 6) set_list)))))
      (pss_one (ps_set (i := 3) sc_l_rank.nd rfl (Or.inl rfl) (pe_op op_add (pv 3) pe_int)))))) pss_nil))))
      (pss_one (ps_ret (pv 3))))), ?_⟩
  refine q_pairLI (K := K) (z := 0) (rows := tabD h' m M) (ell_lc (α := Nat) (List.range h') (fun i => .tuple ((cellsF m (M i)).map dC)) (fun i => (cellsF m (M i)).map dC) (ei_is (ei_list (ed_var rfl r2)) (by unfold tabD; rw [List.map_map]; rfl)) (by rw [List.length_range]; omega) (fun _ _ => flat_map (fun a => rfl) _) (fun _ => rfl) (fun i x H' hi e rx => en_listT (ed_var rfl rx)))
    fun D0 vs0 H2 nDH e02 hD2 hB2 => ?_
  have dD : ∀ {H' : Hp} {vs : List V} {N : Tb p}, H' D0 = some (.lst vs) → LB K H' [D0] vs (tabD h' m N) → Dp K H' (.ref D0) (.list ((tabD h' m N).map .list)) := fun h1 h2 => .lst (sq_of h1) h2.dp
  refine q_forG (K := K) (G := fun _ => True) (eg_rng1 (i := (m : Int)) (eds_cons (ed_is (ed_lenL (ed_row (i := 0) (dD hD2 hB2) rfl ed_int (by omega))) (by rw [List.length_map, cellsF_len])) eds_nil) (by omega))
    (fun c σ' H' => Ex H H' ∧ (∃ vs, H' D0 = some (.lst vs) ∧ LB K H' [D0] vs (tabD h' m (rk h' M c).1)) ∧
      ∃ x2 x4 x5 x6 x8, σ' = [some (.int (p : Int)), some (.ref D0), x2, some (.int ((rk h' M c).2 : Int)), x4, x5, x6, none, x8, none, none])
    (fun H4 e4 => ⟨e02.trans e4, ⟨vs0, e4 _ _ hD2, hB2.ex e4⟩, none, none, none, none, none, rfl⟩) (fun _ _ _ _ _ => True.intro)
    (fun c d x σ' Ha Hb hd ⟨ea, ⟨vs, hDa, hBa⟩, x2, x4, x5, x6, x8, hσ⟩ eb rx => ?_) fun σ' Ha ⟨ea, ⟨vs, hDa, hBa⟩, x2, x4, x5, x6, x8, hσ⟩ => ?_
  · have hcm : c < m := by
      have := (List.getElem?_eq_some_iff.mp hd).1
      rw [List.length_map, List.length_range] at this
      omega
    rw [rangeAt (f := fun (k : Nat) => PyData.int (k : Int)) (by omega : c < ((m : Int)).toNat)] at hd
    obtain rfl := (Option.some.inj hd)
    obtain rfl := dp_int rx
    subst hσ
    have hfl := rk_le (h := h') (M := M) c
    have hstep : rk h' M (c + 1) = rkStep h' (rk h' M c) c := rfl
    rw [hstep]
    generalize rk h' M c = st at hBa hfl ⊢
    obtain ⟨N, f⟩ := st
    simp only at hBa hfl ⊢
    replace ea := ea.trans eb
    replace hDa := eb _ _ hDa
    replace hBa := hBa.ex eb
    clear eb
    show tSeq _ _ _ [some (.int (p : Int)), some (.ref D0), some (.int (c : Int)), some (.int (f : Int)), x4, x5, x6, none, x8, none, none] Hb
    -- best
    refine qn_asg (K := K) (ds := plD (best h' N f c)) (en_is (en_lc (α := Nat) ((List.range (h' - f)).map fun k => f + k) (fun (i : Nat) => .int (i : Int)) (fun i => decide (N i c ≠ 0)) (fun (i : Nat) => .int (i : Int))
      (ei_is (ei_rng2 (i := (f : Int)) (j := (h' : Int)) (eds_cons (ed_var rfl (.int _)) (eds_cons (ed_is (ed_lenL (ed_var rfl (dD hDa hBa))) (by rw [List.length_map, tab_len])) eds_nil)) (by omega) (by omega)) ?_) ?_ (fun _ _ => rfl) (fun _ => rfl) (fun i x' H5 hi e5 rx' => ?_) fun i x' H5 hi hki e5 rx' => ed_var rfl rx') rfl) fun Lb xs H4 nb e4 hb rb => ?_
    · rw [List.map_map]
      have : ((h' : Int) - (f : Int)).toNat = h' - f := by omega
      rw [this]
      exact List.map_congr_left fun k _ => by show PyData.int _ = PyData.int _; congr 1
    · rw [List.length_map, List.length_range]; omega
    · obtain rfl := dp_int rx'
      obtain ⟨k, hk, rfl⟩ := List.mem_map.mp hi
      have hk' := List.mem_range.mp hk
      refine et_is (KR.et_test (K := K) (ed_neI (ed_cell (dp_ex e5 _ _ (dD hDa hBa)) rfl (ed_var rfl (.int _)) (ed_var rfl (.int _)) (by omega) hcm) ed_int)) ?_
      rw [dC_zero]
      by_cases z : N (f + k) c = 0
      · rw [decide_eq_true z, decide_eq_false (fun q => q z)]; rfl
      · rw [decide_eq_false z, decide_eq_true z]; rfl
    obtain rfl := dpA_pl rb
    have hLbD : Lb ≠ D0 := fun z => by rw [z, hDa] at nb; cases nb
    replace ea := ea.trans e4
    replace hDa := e4 _ _ hDa
    replace hBa := hBa.ex e4
    clear e4
    unfold rkStep
    simp only
    cases hbest : best h' N f c with
    | nil =>
      rw [hbest] at hb
      refine s_when (b := false) (et_is (KR.et_test (K := K) (ed_neD (ed_var rfl (pl_dp hb)) (ed_lst eds_nil (by decide)) (shp_pl _).ok rfl)) (by rw [eqv_nil_list]; rfl)) (fun z => nomatch z) fun _ H5 e5 => ?_
      exact ⟨ea.trans e5, ⟨vs, e5 _ _ hDa, hBa.ex e5⟩, _, _, _, _, _, rfl⟩
    | cons b br =>
      obtain ⟨b1, b2, b3⟩ := best_cons hbest
      rw [hbest] at hb
      have hh : f < h' := by omega
      refine s_when (b := true) (et_is (KR.et_test (K := K) (ed_neD (ed_var rfl (pl_dp hb)) (ed_lst eds_nil (by decide)) (shp_pl _).ok rfl)) (by rw [eqv_nil_list]; rfl)) (fun _ H5 e5 => ?_) (fun z => nomatch z)
      replace ea := ea.trans e5
      replace hDa := e5 _ _ hDa
      replace hBa := hBa.ex e5
      replace hb := e5 _ _ hb
      clear e5
      -- swap
      obtain ⟨va, hva⟩ : ∃ va, vs[f]? = some va := ⟨_, List.getElem?_eq_getElem (by rw [hBa.1, tab_len]; exact hh)⟩
      obtain ⟨vb, hvb⟩ : ∃ vb, vs[b]? = some vb := ⟨_, List.getElem?_eq_getElem (by rw [hBa.1, tab_len]; exact b2)⟩
      have hb0 : ∀ H', H' Lb = some (.lst (plV (b :: br))) → Dp K H' (.ref Lb) (.list (plD (b :: br))) := fun H' h => pl_dp h
      show tAsg _ _ _ _ _
      refine s_swap (K := K) (a := f) (b := b) (i1 := (b : Int)) (i2 := (f : Int)) (i3 := (f : Int)) (i4 := (b : Int)) hDa rfl (ed_ixL (k := 0) (ed_var rfl (hb0 _ hb)) ed_int rfl rfl) (ed_var rfl (.int _)) (ed_var rfl (.int _)) (ed_ixL (k := 0) (ed_var rfl (hb0 _ (by rw [hide_ne hLbD]; exact hb))) ed_int rfl rfl) hva hvb fun H7 w7 hD7 => ?_
      have e7 := w7.back ea nDH
      have hB7 : LB K H7 [D0] ((vs.set f vb).set b va) (tabD h' m (swp N f b)) := by
        have := (hBa.swap (tab_at hh) (tab_at b2) hva hvb).flat (H' := H7) (fun r hr => by
          rw [tab_swap] at hr; exact tab_flat _ _ _ r hr) (w7.exT hDa) fun q o hq hn => w7.keep q o hq fun z => hn (by rw [z]; simp)
        rw [tab_swap] at this
        exact this
      generalize (vs.set f vb).set b va = vs7 at hD7 hB7
      clear w7 hva hvb hDa hBa ea hb
      generalize hN7 : swp N f b = N7 at hB7
      have vb7 : N7 f c ≠ 0 := by rw [← hN7]; unfold swp; rw [if_pos rfl]; exact b3
      -- back
      show tSeq _ _ _ _ _
      refine qd_asg (K := K) (te := tCall (spLBack K p) [] E0 _) (d := dC (finv (N7 f c))) (ed_is (ed_call (N7 f c) (eds_cons (ed_var rfl (.int _)) (eds_cons (ed_cell (dD hD7 hB7) rfl (ed_var rfl (.int _)) (ed_var rfl (.int _)) hh hcm) eds_nil)) vb7) rfl) fun v8 H8 e8 r8 => ?_
      obtain rfl := dp_int r8
      replace e7 := e7.trans e8
      replace hD7 := e8 _ _ hD7
      replace hB7 := hB7.ex e8
      clear e8 r8
      have bt : ∀ {H' : Hp} {vs' : List V}, H' D0 = some (.lst vs') → ∀ a ∈ [D0], H' a ≠ none := fun h1 a ha => by
        rw [List.mem_singleton.mp ha, h1]; exact fun z => nomatch z
      -- the rows below
      show tSeq _ _ _ _ _
      refine q_forG (K := K) (G := fun _ => True) (eg_rng2 (i := (f : Int) + 1) (j := (h' : Int)) (eds_cons (ed_op0 (ed_var rfl (.int _)) ed_int) (eds_cons (ed_is (ed_lenL (ed_var rfl (dD hD7 hB7))) (by rw [List.length_map, tab_len])) eds_nil)) (by omega) (by omega))
        (fun k σ' H' => Ex H H' ∧ (∃ vs, H' D0 = some (.lst vs) ∧ LB K H' [D0] vs (tabD h' m (elimR N7 f c (finv (N7 f c)) k))) ∧
          ∃ x6 x8, σ' = [some (.int (p : Int)), some (.ref D0), some (.int (c : Int)), some (.int (f : Int)), some (.ref Lb), some (.int ((finv (N7 f c)).val : Int)), x6, none, x8, none, none])
        (fun H10 e10 => ⟨e7.trans e10, ⟨vs7, e10 _ _ hD7, by rw [elimR_zero]; exact hB7.ex e10⟩, _, _, rfl⟩) (fun _ _ _ _ _ => True.intro)
        (fun k d x σ' Hc Hd hd ⟨ec, ⟨vsc, hDc, hBc⟩, y6, y8, hσ⟩ ed rx => ?_) fun σ' Hc ⟨ec, ⟨vsc, hDc, hBc⟩, y6, y8, hσ⟩ => ?_
      · have hkw : f + 1 + k < h' := by
          have := (List.getElem?_eq_some_iff.mp hd).1
          rw [List.length_map, List.length_range] at this
          omega
        have hd' : d = .int ((f + 1 + k : Nat) : Int) := by
          rw [List.getElem?_map, List.getElem?_range (by omega)] at hd
          rw [← Option.some.inj hd]
          congr 1
        subst hd'
        obtain rfl := dp_int rx
        subst hσ
        replace ec := ec.trans ed
        replace hDc := ed _ _ hDc
        replace hBc := hBc.ex ed
        clear ed
        generalize hpl : f + 1 + k = pl at hkw
        have ekk : elimR N7 f c (finv (N7 f c)) k pl = N7 pl := by funext j; unfold elimR; rw [if_neg (by omega)]
        have ekh : elimR N7 f c (finv (N7 f c)) k f = N7 f := by funext j; unfold elimR; rw [if_neg (by omega)]
        refine qd_asg (K := K) (d := dC (N7 pl c * finv (N7 f c))) (ed_is (ed_opC (ed_int1 (ed_opC (ed_is (ed_cell (dD hDc hBc) rfl (ed_var rfl (.int _)) (ed_var rfl (.int _)) hkw hcm) (d1 := dC (N7 pl c)) (by rw [ekk])) (ed_var rfl (.int _)) (c_mul _ _))) (ed_var rfl (.int _)) p_pos) (by rw [mod_mul])) fun v11 H11 e11 r11 => ?_
        obtain rfl := dp_int r11
        replace ec := ec.trans e11
        replace hDc := e11 _ _ hDc
        replace hBc := hBc.ex e11
        clear e11 r11
        show tAsg _ _ _ _ _
        refine s_setRow (K := K) (B := [D0]) (j := pl) (r := (cellsF m fun j => N7 pl j - (N7 pl c * finv (N7 f c)) * N7 f j).map dC) (by simp) (bt hDc) hDc hBc (tab_flat _ _ _) (flat_map (fun a => rfl) _) rfl
          (en_is (en_lcP0 (α := Nat) (β := Nat) ((List.range m).zip (List.range m)) (fun j => dC (N7 pl j)) (fun j => dC (N7 f j)) (fun q => dC (N7 pl q.1 - (N7 pl c * finv (N7 f c)) * N7 f q.2))
            (ei_is (ei_zipL (eds_cons (ed_is (ed_row (dD hDc hBc) rfl (ed_var rfl (.int _)) hkw) (d1 := .list ((List.range m).map fun j => dC (N7 pl j))) (by rw [ekk]; unfold cellsF; rw [List.map_map]; rfl)) (eds_cons (ed_is (ed_row (dD hDc hBc) rfl (ed_var rfl (.int _)) hh) (d1 := .list ((List.range m).map fun j => dC (N7 f j))) (by rw [ekh]; unfold cellsF; rw [List.map_map]; rfl)) eds_nil))) (zip_data _ _))
            (by rw [List.length_zip, List.length_range]; omega) (fun _ _ => rfl) (fun _ _ => rfl) fun a v' w' H13 ha e13 ra rb => ed_is (ed_opC (ed_int1 (ed_op0 (ed_var rfl ra) (ed_opC (ed_var rfl (.int _)) (ed_var rfl rb) (c_mul _ _)))) (ed_var rfl (.int _)) p_pos) (by rw [mod_mas])) (by
              rw [zip_self', List.map_map]; unfold cellsF; rw [List.map_map]; rfl))
          (ed_var rfl (.int _)) (by rw [tab_len]; exact hkw) fun vs13 H13 w13 hD13 hB13 => ⟨w13.back ec nDH, ⟨vs13, hD13, ?_⟩, _, _, rfl⟩
        rw [elimR_step, hpl, ← tab_set]
        exact hB13
      · subst hσ
        have e14 : ((List.range ((h' : Int) - ((f : Int) + 1)).toNat).map fun (k : Nat) => PyData.int ((f : Int) + 1 + (k : Int))).length = h' - (f + 1) := by rw [List.length_map, List.length_range]; omega
        rw [e14, elimR_all hh] at hBc
        refine sd_asg (K := K) (d := .int ((f + 1 : Nat) : Int)) (ed_is (ed_op0 (ed_var rfl (.int _)) ed_int) (by congr 1)) fun v15 H15 e15 r15 => ?_
        obtain rfl := dp_int r15
        refine ⟨ec.trans e15, ⟨vsc, e15 _ _ hDc, ?_⟩, _, _, _, _, _, rfl⟩
        show LB K _ _ _ (tabD h' m (rkElim (swp N f b) f c (finv (swp N f b f c))))
        rw [hN7]
        exact hBc.ex e15
  · subst hσ
    have e14 : ((List.range ((m : Int)).toNat).map fun (k : Nat) => PyData.int (k : Int)).length = m := by rw [List.length_map, List.length_range]; omega
    rw [e14]
    exact sd_ret (K := K) (d := .int ((rk h' M m).2 : Int)) (ed_var rfl (.int _)) fun v' H4 e4 r' => q v' H4 (ea.trans e4) r'
end
end KW
end
section
set_option Elab.async false
set_option linter.all false
set_option maxRecDepth 100000
set_option maxHeartbeats 4000000
/-! The law's own defs: is_reduced. -/
namespace KW
open PySem PySem.Spec PyProof.Rows L2 Evl KR K18 KX
section
variable {P : Program} {w : World} {K : PySem.W.Frag} {mg : Str → Option Value} {base : Heap} {p : Nat} [hp : Pr p]
theorem ed_lrdeg {σ : L2.St} {H : Hp} {ta : TE} {wd : Nat} {r : Nat → Po p} (h : EvD K ta σ H (.tuple (rowP wd r))) (w1 : 1 ≤ wd) (w2 : wd ≤ 1000) : EvD K (tCall (spLRowDeg K p) [] E0 (tCons ta tNil)) σ H (.int ((rl wd r : Int) - 1)) := by
  refine ed_call ((List.range wd).map r) (eds_cons (ed_is h (by rw [rowP_eq]; rfl)) eds_nil) ⟨?_, ?_⟩
  · intro z
    have := congrArg List.length z
    simp at this; omega
  · show ((List.range wd).map r).length ≤ 1000
    simp; omega
abbrev s_l_is_reduced : Stmt := topS 56
theorem sc_l_is_reduced : FnScope ["_law_p", "_law_rows", "_law_degrees", "_law_leads", "_law_line", "_law_size", "_law_one"] ["_law_p", "_law_rows"] (defScope s_l_is_reduced) := ⟨rfl, rfl, rfl, by decide +kernel, rfl, by decide +kernel, by decide +kernel⟩
abbrev spLRed (K : PySem.W.Frag) (p : Nat) [Pr p] : Sp := spF K (fun a : Nat × Nat × PT p => [.int (p : Int), tupP a.1 a.2.1 a.2.2]) (fun a => 1 ≤ a.1 ∧ a.1 ≤ 3 ∧ 1 ≤ a.2.1 ∧ a.2.1 ≤ 3 ∧ ∃ c, Red a.1 a.2.1 c a.2.2) (fun _ => .bool true)
theorem ok_l_is_reduced (T : Bt mg) (D : DefAt K mg "_law_is_reduced" s_l_is_reduced ["_law_p", "_law_rows"]) (O_l_row_degree : Ok P w K mg base "_law_row_degree" ["_law_line"] 1 (spLRowDeg K p)) (O_l_rank : Ok P w K mg base "_law_rank" ["_law_p", "_law_rows"] 2 (spLRank K p)) : Ok P w K mg base "_law_is_reduced" ["_law_p", "_law_rows"] 3 (spLRed K p) := by
  refine D.ok sc_l_is_reduced (spF_len fun _ => rfl) fun f0 cdv A outer s H vs Q E hr h => ?_
  obtain ⟨⟨n, wd, F⟩, ⟨n1, n3, w1, w3, c, hR⟩, rr, q⟩ := h
  simp only at n1 n3 w1 w3 hR
  obtain ⟨_, v, rfl, r1, r2⟩ := dpA2 rr
  obtain rfl := dp_int r1
  replace r2 : Dp K H v (tupP n wd F) := r2
  refine ⟨_, (pss_cons (ps_setLc (i := 2) (own := [("_law_line", 4)]) (g := gName 4) (tt := tYes) rfl sc_l_is_reduced.nd rfl rfl (sw_true rfl rfl rfl (by decide +kernel)) (kpi_tup (K := K) rfl (pv 1)) (blkOk_by (N := ["_law_p", "_law_rows", "_law_degrees", "_law_leads", "_law_line", "_law_size", "_law_one"]) (sc := defScope s_l_is_reduced) (by decide +kernel)) (fun _ _ _ _ _ => (pg_name (i := 4) sc_l_is_reduced.nd rfl (Or.inl rfl) (hf := Or.inr rfl))) (fun _ _ _ _ _ => pts_nil) (fun _ _ _ _ _ => (pe_ok O_l_row_degree (hr.mono (by decide)) (by rfl) (pa_cons (pv 4) pa_nil))))
      (pss_cons (ps_if (pt_cmpR (kNeD (K := K) rfl hr.units) (pv 2) (kpe_revL (K := K) rfl (pe_callB (kSorted (K := K) rfl) (by rfl) T.sorted (by decide +kernel) (pa_cons (pv 2) pa_nil))) (nomark _)) (pss_one (ps_ret pe_bl)) pss_nil)
      (pss_cons (ps_set (i := 3) sc_l_is_reduced.nd rfl (Or.inl rfl) (pe_lst pa_nil))
      (pss_cons (ps_for PassesOwn.never rfl (kpi_tup (K := K) rfl (pv 1)) (pg_name (i := 4) sc_l_is_reduced.nd rfl (Or.inl rfl)) (pss_cons (ps_set (i := 5) sc_l_is_reduced.nd rfl (Or.inr rfl) (pe_op op_add (pe_ok O_l_row_degree (hr.mono (by decide)) (by rfl) (pa_cons (pv 4) pa_nil)) pe_int))
      (pss_one (ps_if (pt_cmpR op_gt (pv 5) pe_int (nomark _)) (pss_one (ps_expr (pe_bm PySem.F.plainAttrs_list PySem.F.slot_list_append PySem.F.type_list_append mt_append (pv 3) (pa_cons (pe_callTy (kTuple (K := K) rfl) (by rfl) T.tuple (by decide +kernel) (pa_cons (pe_lc (own := [("_law_one", 6)]) (g := gName 6) (tt := tYes) rfl sc_l_is_reduced.nd (kpi_tup (K := K) rfl (pv 4)) (blkOk_by (N := ["_law_p", "_law_rows", "_law_degrees", "_law_leads", "_law_line", "_law_size", "_law_one"]) (sc := defScope s_l_is_reduced) (by decide +kernel)) (fun _ _ _ _ _ => (pg_name (i := 6) sc_l_is_reduced.nd rfl (Or.inl rfl) (hf := Or.inr rfl))) (fun _ _ _ _ _ => pts_nil) (fun _ _ _ _ _ => (pe_ifExp (pt_cmpR op_eq (pe_callB (kLen (K := K) rfl) (by rfl) T.len (by decide +kernel) (pa_cons (pv 6) pa_nil)) (pv 5) (nomark _)) (pe_ix (kIx (K := K) rfl) (pv 6) (pe_un un_neg pe_int) (fun _ _ => rfl)) pe_int))) pa_nil)) pa_nil)))) pss_nil))))
      (pss_one (ps_ret (pe_or (pe_cmpR (kEqD (K := K) rfl hr.units) (pv 3) (pe_lst pa_nil) (nomark _)) (pe_one (pe_cmpR op_eq (pe_ok O_l_rank (hr.mono (by decide)) (by rfl) (pa_cons (pv 0) (pa_cons (pv 3) pa_nil))) (pe_callB (kLen (K := K) rfl) (by rfl) T.len (by decide +kernel) (pa_cons (pv 3) pa_nil)) (nomark _)))))))))), ?_⟩
  -- degrees
  obtain ⟨ns, hns⟩ : ∃ ns : List Int, ns = (List.range n).map fun i => (rl wd (F i) : Int) - 1 := ⟨_, rfl⟩
  have nl : ns.length = n := by rw [hns]; simp
  have npw : ns.Pairwise (· ≥ ·) := by
    rw [hns, List.pairwise_map]
    refine List.pairwise_iff_getElem.mpr fun i j hi hj hij => ?_
    simp only [List.length_range] at hi hj
    rw [List.getElem_range, List.getElem_range]
    have := hR.desc i j (by omega) hj
    show (rl wd (F j) : Int) - 1 ≤ (rl wd (F i) : Int) - 1
    omega
  refine qd_asg (K := K) (d := .list (ns.map .int)) (EvN.toD (en_is (en_lc0 (List.range n) (fun i => .tuple (rowP wd (F i))) (fun i => .int ((rl wd (F i) : Int) - 1)) (ei_tup (ed_is (ed_var rfl r2) (tupP_eq n wd F))) (by simp; omega) (fun _ _ => rfl) (fun _ => rfl) fun i v' H' hi e r => ed_lrdeg (ed_var rfl r) w1 (by omega)) (by rw [hns, List.map_map]; rfl))) fun v2 H2 e2 r2' => ?_
  have hshp : Shp 1 (.list (ns.map PyData.int)) := shp_lst (shp_map fun i _ => shp_int)
  refine q_when' (b := false) (et_is (KR.et_test (K := K) (ed_neD (ed_var rfl r2') (ed_sortDesc (ed_var rfl r2') npw (by omega)) hshp.ok hshp.ok)) (by
    have : PyData.eqv (.list (ns.map PyData.int)) (.list (ns.map PyData.int)) = true := by simp [PyData.eqv, eqv_ints]
    rw [this]; rfl)) (fun z => nomatch z) fun _ H3 e3 => ?_
  have e23 := e2.trans e3
  -- leads
  refine qn_asg (K := K) (ds := []) (en_lst eds_nil (by decide)) fun F0 xs H4 nF e4 hF rF => ?_
  cases rF
  have nF0 : H F0 = none := fresh_back e23 nF
  have e24 := e23.trans e4
  refine q_forG (K := K) (G := Ex H) (eg_tup rfl (dp_ex e24 _ _ r2) fun H3 g3 => dp_ex g3 _ _ r2)
    (fun i σ' H' => Ex H H' ∧ (∃ vs, H' F0 = some (.lst vs) ∧ DpAll K H' vs ((List.range (min i c)).map fun i => PyData.tuple ((cellsF wd (lead wd (F i))).map dC))) ∧ ∃ x4 x5, σ' = [some (.int (p : Int)), some v, some v2, some (.ref F0), x4, x5, none])
    (fun H5 e5 => ⟨e24.trans e5, ⟨[], e5 _ _ hF, by rw [Nat.zero_min]; exact .nil⟩, none, none, rfl⟩) (fun i σ' H' _ h => h.1) (fun i d z σ' Ha Hb hd ⟨ea, ⟨vs, hFa, hva⟩, x4, x5, hσ⟩ eb rz => ?_) (fun σ' Ha ⟨ea, ⟨vs, hFa, hva⟩, x4, x5, hσ⟩ => ?_)
  · have hin : i < n := by
      have := (List.getElem?_eq_some_iff.mp hd).1
      rw [List.length_map, tabP_len] at this; exact this
    rw [tup_at hin] at hd
    obtain rfl := Option.some.inj hd
    subst hσ
    have eab := ea.trans eb
    refine qd_asg (K := K) (d := .int (rl wd (F i) : Int)) (ed_is (ed_op0 (ed_lrdeg (ed_var rfl rz) w1 (by omega)) ed_int) (by congr 1; omega)) fun v5 Hc ec r5 => ?_
    obtain rfl := dp_int r5
    have rzc := dp_ex ec _ _ rz
    have hFc := (eb.trans ec) _ _ hFa
    have hvc := dpA_ex (eb.trans ec) _ _ hva
    refine s_if (b := decide (0 < rl wd (F i))) (et_is (KR.et_test (K := K) (ed_opB (ed_var rfl (.int _)) ed_int)) (by
      by_cases h : 0 < rl wd (F i)
      · rw [decide_eq_true h, decide_eq_true (by omega)]
      · rw [decide_eq_false h, decide_eq_false (by omega)])) (fun hb Hd ed => ?_) (fun hb Hd ed => ?_)
    · have hb := of_decide_eq_true hb
      have hic : i < c := by
        by_cases q : i < c
        · exact q
        · have := hR.zero i (by omega) hin; omega
      have hFd := ed _ _ hFc
      have hvd := dpA_ex ed _ _ hvc
      refine sd_app (K := K) (d := .tuple ((cellsF wd (lead wd (F i))).map dC)) hFd rfl (ed_tupleL (en_is (en_lc0 (List.range wd) (fun j => dP (F i j)) (fun j => dC (lead wd (F i) j)) (ei_tup (ed_var rfl (dp_ex ed _ _ rzc))) (by simp; omega) (fun _ _ => rfl) (fun _ => rfl) fun j v' H' hj e r => ?_) (by unfold cellsF; rw [List.map_map]; rfl)).toD) ?_ fun v9 He ee r9 => ?_
      · have hj := List.mem_range.mp hj
        have hle := le_rl (r := F i) hj
        refine ed_if (b := decide (len (F i j) = rl wd (F i))) (et_is (KR.et_test (K := K) (ed_eqI (ed_is (ed_lenT (ed_var rfl r)) (by rw [len_dP])) (ed_var rfl (.int _)))) (by
            by_cases z : len (F i j) = rl wd (F i)
            · rw [z, decide_eq_true rfl, decide_eq_true rfl]
            · rw [decide_eq_false z, decide_eq_false (by omega)])) (fun hb2 => ?_) (fun hb2 => ?_)
        · have hb2 := of_decide_eq_true hb2
          unfold lead
          rw [← hb2]
          exact ed_ixT1 (ed_var rfl r) (ed_neg ed_int) (last_dC (by omega))
        · have hb2 := of_decide_eq_false hb2
          unfold lead
          rw [co_high (by omega), ← zero_dC]
          exact ed_int
      · have := dpA_len hva
        rw [this, List.length_map, List.length_range]; omega
      · refine ⟨Ex.mut (((eab.trans ec).trans ed).trans ee) nF0, ⟨_, upd_same, ?_⟩, _, _, rfl⟩
        have hx := exT_lst (ys := vs ++ [v9]) (ee _ _ hFd)
        rw [show min (i + 1) c = min i c + 1 by omega, List.range_succ, List.map_append, show min i c = i by omega]
        rw [show min i c = i by omega] at hvd
        exact dpA_app (dpA_exT hx _ _ (flat_map (fun i => by simp only [flatD]; exact flat_map (fun a => rfl) _) _) (dpA_ex ee _ _ hvd)) (.cons (dp_exT hx _ _ (by simp only [flatD]; exact flat_map (fun a => rfl) _) r9) .nil)
    · have hb := of_decide_eq_false hb
      have hic : c ≤ i := by
        by_cases q : i < c
        · exact absurd (hR.pos i q) hb
        · omega
      refine ⟨(eab.trans ec).trans ed, ⟨vs, ed _ _ hFc, ?_⟩, _, _, rfl⟩
      rw [show min (i + 1) c = min i c by omega]
      exact dpA_ex ed _ _ hvc
  · subst hσ
    rw [List.length_map, tabP_len, Nat.min_eq_right hR.cn] at hva
    have hdp : Dp K Ha (.ref F0) (.list ((tabD c wd fun i => lead wd (F i)).map .tuple)) := .lst (sq_of hFa) (by unfold tabD; rw [List.map_map]; exact hva)
    have hsh : Shp 2 (.list ((tabD c wd fun i => lead wd (F i)).map PyData.tuple)) := by
      unfold tabD
      rw [List.map_map]
      exact shp_lst (shp_map fun i _ => shp_tup (shp_map fun a _ => shp_int))
    refine sd_ret (K := K) (d := .bool true) (ed_is (ed_orV (a := decide (c = 0)) (b := true) (ed_is (ed_eqD (ed_var rfl hdp) (ed_lst eds_nil (by decide)) hsh.ok rfl) ?_) (fun hc => ?_)) (by simp)) fun v' H5 e5 r' => q v' H5 (ea.trans e5) r'
    · rw [eqv_nil_list]
      congr 1
      refine decide_eq_decide.mpr ⟨fun z => ?_, fun z => ?_⟩
      · have := congrArg List.length z
        rw [List.length_map, tab_len] at this
        exact this
      · rw [z]; rfl
    · have hc := of_decide_eq_false hc
      have hcn := hR.cn
      refine ed_is (ed_eqI (ed_call (c, wd, fun i => lead wd (F i)) (eds_cons (ed_var rfl (.int _)) (eds_cons (ed_var rfl hdp) eds_nil)) ⟨by show 1 ≤ c; omega, by show c ≤ 6; omega, w1, by show wd ≤ 6; omega⟩) (ed_lenL (ed_var rfl hdp))) ?_
      rw [List.length_map, tab_len]
      show PyData.bool (decide (((rk c (fun i => lead wd (F i)) wd).2 : Int) = (c : Int))) = _
      rw [rank_eq hR.ind]
      simp
end
end KW
end
section
set_option Elab.async false
set_option linter.all false
set_option maxRecDepth 100000
set_option maxHeartbeats 4000000
/-! The law's own defs: draws. -/
namespace KW
open PySem PySem.Spec PyProof.Rows L2 Evl KR K18 KX
section
variable {P : Program} {w : World} {K : PySem.W.Frag} {mg : Str → Option Value} {base : Heap} {p : Nat} [hp : Pr p]
/-- the row of draws at rL -/
def DR (K : PySem.W.Frag) (H : Hp) (rL sa : Addr) (ns : List Int) : Prop := ∃ (i a c : Int), H rL = some (.lst [.ref sa, .int i, .int a, .int c]) ∧ SqL K H sa (ns.map V.int) ∧ 0 ≤ i
/-- all but the row stays -/
def Kr (rL : Addr) (H H' : Hp) : Prop := ∀ q o, H q = some o → q ≠ rL → H' q = some o
theorem Kr.of {rL : Addr} {H H' : Hp} (e : Ex H H') : Kr rL H H' := fun q o h _ => e q o h
theorem Kr.trans {rL : Addr} {H H1 H2 : Hp} (a : Kr rL H H1) (b : Kr rL H1 H2) : Kr rL H H2 := fun q o h n => b q o (a q o h n) n
theorem Kr.upd {rL : Addr} {H H1 : Hp} {o : HO} (e : Ex H H1) : Kr rL H (upd H1 rL o) := fun q u h n => by rw [upd_ne n]; exact e q u h
theorem sqL_kr {rL sa : Addr} {H H' : Hp} {ns : List Int} {r : List V} (h : H rL = some (.lst (.ref sa :: r))) (hs : SqL K H sa (ns.map V.int)) (k : Kr rL H H') : SqL K H' sa (ns.map V.int) := by
  rcases hs with (hs | ⟨o, hs⟩) | hs
  · have hne : sa ≠ rL := fun z => by
      rw [z, h] at hs
      have e := Option.some.inj hs
      injection e with e
      cases ns with
      | nil => simp at e
      | cons n ns => simp at e
    exact .inl (.inl (k _ _ hs hne))
  · have hne : sa ≠ rL := fun z => by rw [z, h] at hs; cases hs
    exact .inl (.inr ⟨o, k _ _ hs hne⟩)
  · exact .inr hs
theorem DR.keep {rL sa : Addr} {ns : List Int} {H H' : Hp} (h : DR K H rL sa ns) (e : ∀ q o, H q = some o → (∀ ps, o ≠ .tbl ps) → H' q = some o) : DR K H' rL sa ns := by
  obtain ⟨i, a, c, h1, h2, h3⟩ := h
  refine ⟨i, a, c, e _ _ h1 (fun ps z => nomatch z), ?_, h3⟩
  rcases h2 with (h2 | ⟨o, h2⟩) | h2
  · exact .inl (.inl (e _ _ h2 (fun ps z => nomatch z)))
  · exact .inl (.inr ⟨o, e _ _ h2 (fun ps z => nomatch z)⟩)
  · exact .inr h2
theorem DR.ex {rL sa : Addr} {ns : List Int} {H H' : Hp} (h : DR K H rL sa ns) (e : Ex H H') : DR K H' rL sa ns := h.keep fun q o hq _ => e q o hq
theorem s_setL {te tb : TE} {D : Ends} {σ : L2.St} {H : Hp} {x : Int} {l : Addr} {xs : List V} {j k : Nat} (hl : H l = some (.lst xs)) (h : EvD K te σ H (.int x)) (ho : σ[k]? = some (some (.ref l))) (hi : EvD K tb σ H (.int (j : Int))) (hj : j < xs.length)
    (q : ∀ H2, H2 l = some (.lst (xs.set j (.int x))) → Kr l H H2 → D.nx σ H2) : tAsg te (gSub (tVar k) tb rSetL) D σ H := sd_setL hl h ho hi hj fun v H1 e r => by
  obtain rfl := dp_int r
  exact q _ upd_same (Kr.upd e)
theorem q_setL {te tb : TE} {tz : TS} {D : Ends} {σ : L2.St} {H : Hp} {x : Int} {l : Addr} {xs : List V} {j k : Nat} (hl : H l = some (.lst xs)) (h : EvD K te σ H (.int x)) (ho : σ[k]? = some (some (.ref l))) (hi : EvD K tb σ H (.int (j : Int))) (hj : j < xs.length)
    (q : ∀ H2, H2 l = some (.lst (xs.set j (.int x))) → Kr l H H2 → tz D σ H2) : tSeq (tAsg te (gSub (tVar k) tb rSetL)) tz D σ H := s_setL (D := { D with nx := tz D }) hl h ho hi hj q
abbrev s_l_taken : Stmt := topS 38
theorem sc_l_taken : FnScope ["_law_row", "_law_many", "_law_cell", "_law_found"] ["_law_row", "_law_many"] (defScope s_l_taken) := ⟨rfl, rfl, rfl, by decide +kernel, rfl, by decide +kernel, by decide +kernel⟩
def spTaken (K : PySem.W.Frag) : Sp := fun vs H Q _ => ∃ (rL sa : Addr) (ns : List Int) (many : Int), vs = [.ref rL, .int many] ∧ DR K H rL sa ns ∧ 1 ≤ many ∧ many < 1073741824 ∧ ∀ z H', 0 ≤ z → z < many → DR K H' rL sa ns → Kr rL H H' → Q (.int z) H'
theorem ok_l_taken (T : Bt mg) (D : DefAt K mg "_law_taken" s_l_taken ["_law_row", "_law_many"]) : Ok P w K mg base "_law_taken" ["_law_row", "_law_many"] 1 (spTaken K) := by
  refine D.ok sc_l_taken (fun vs H Q E h => ?_) fun f0 cdv A outer s H vs Q E hr h => ?_
  · obtain ⟨rL, sa, ns, many, rfl, _⟩ := h
    rfl
  obtain ⟨rL, sa, ns, many, rfl, ⟨i, a, c, hL, hs, hi⟩, m1, m2, q⟩ := h
  refine ⟨_, (pss_cons (ps_if (pt_cmpR op_gt (pe_ix (kIx (K := K) rfl) (pv 0) pe_int (fun _ _ => rfl)) pe_int (nomark _)) (pss_cons (ps_set (i := 3) sc_l_taken.nd rfl (Or.inl rfl) (pe_op op_mod (pe_callTy call_int1 (by rfl) T.int (by decide +kernel) (pa_cons (pe_ix (kIx (K := K) rfl) (pv 0) pe_int (fun _ _ => rfl)) pa_nil)) (pv 1)))
      (pss_cons (ps_asg (pe_op op_fdiv (pe_ix (kIx (K := K) rfl) (pv 0) pe_int (fun _ _ => rfl)) (pv 1)) (pg_sub (pv 0) pe_int set_list))
      (pss_one (ps_ret (pv 3))))) pss_nil)
      (pss_cons (ps_asg (pe_op op_add (pe_ix (kIx (K := K) rfl) (pv 0) pe_int (fun _ _ => rfl)) pe_int) (pg_sub (pv 0) pe_int set_list))
      (pss_cons (ps_if (pt_cmpR op_gt (pe_ix (kIx (K := K) rfl) (pv 0) pe_int (fun _ _ => rfl)) (pe_callB (kLen (K := K) rfl) (by rfl) T.len (by decide +kernel) (pa_cons (pe_ix (kIx (K := K) rfl) (pv 0) pe_int (fun _ _ => rfl)) pa_nil)) (nomark _)) (pss_cons (ps_asg (pe_op op_mod (pe_callTy call_int1 (by rfl) T.int (by decide +kernel) (pa_cons (pe_op op_add (pe_op op_mul (pe_ix (kIx (K := K) rfl) (pv 0) pe_int (fun _ _ => rfl)) pe_int) pe_int) pa_nil)) pe_int) (pg_sub (pv 0) pe_int set_list))
      (pss_one (ps_ret (pe_op op_mod (pe_callTy call_int1 (by rfl) T.int (by decide +kernel) (pa_cons (pe_op op_fdiv (pe_ix (kIx (K := K) rfl) (pv 0) pe_int (fun _ _ => rfl)) pe_int) pa_nil)) (pv 1))))) pss_nil)
      (pss_cons (ps_set (i := 2) sc_l_taken.nd rfl (Or.inl rfl) (pe_ix (kIx (K := K) rfl) (pe_ix (kIx (K := K) rfl) (pv 0) pe_int (fun _ _ => rfl)) (pe_op op_sub (pe_ix (kIx (K := K) rfl) (pv 0) pe_int (fun _ _ => rfl)) pe_int) (fun _ _ => rfl)))
      (pss_cons (ps_asg (pe_op op_mod (pe_callTy call_int1 (by rfl) T.int (by decide +kernel) (pa_cons (pe_op op_add (pe_op op_add (pe_op op_mul (pe_ix (kIx (K := K) rfl) (pv 0) pe_int (fun _ _ => rfl)) pe_int) (pv 2)) pe_int) pa_nil)) pe_int) (pg_sub (pv 0) pe_int set_list))
      (pss_cons (ps_if (pt_cmpR op_ge (pv 2) (pe_op op_pow pe_int pe_int) (nomark _)) (pss_one (ps_asg (pe_op op_fdiv (pv 2) (pv 1)) (pg_sub (pv 0) pe_int set_list))) pss_nil)
      (pss_one (ps_ret (pe_op op_mod (pe_callTy call_int1 (by rfl) T.int (by decide +kernel) (pa_cons (pv 2) pa_nil)) (pv 1)))))))))), ?_⟩
  have cell : ∀ {H' : Hp} {σ' : L2.St} {i a c : Int} (k : Nat) (x : Int), σ'[0]? = some (some (.ref rL)) → H' rL = some (.lst [.ref sa, .int i, .int a, .int c]) → ([.ref sa, .int i, .int a, .int c] : List V)[k]? = some (.int x) → EvD K (tOp (rIx K) (tVar 0) (tC (V.int (k : Int)))) σ' H' (.int x) := fun k x h0 h hk =>
    ed_ev (ev_ixV (k := k) h0 (sq_of h) ed_int rfl hk) (.int _)
  have hz : ∀ x : Int, 0 ≤ x % many ∧ x % many < many := fun x => ⟨Int.emod_nonneg _ (by omega), Int.emod_lt_of_pos _ (by omega)⟩
  have many0 : (0 : Int) < many := by omega
  refine q_when' (b := decide (0 < c)) (KR.et_test (K := K) (ed_opB (cell 3 c rfl hL rfl) ed_int)) (fun _ H1 e1 => ?_) (fun _ H1 e1 => ?_)
  · refine qd_asg (K := K) (d := .int (c % many)) (ed_opC (ed_int1 (cell 3 c rfl (e1 _ _ hL) rfl)) (ed_var rfl (.int _)) many0) fun v H2 e2 r2 => ?_
    obtain rfl := dp_int r2
    have hL2 := e2 _ _ (e1 _ _ hL)
    refine q_setL (K := K) (x := c / many) (j := 3) hL2 (ed_opC (cell 3 c rfl hL2 rfl) (ed_var rfl (.int _)) ⟨many0, m2⟩) rfl ed_int (by simp) fun H3 hL3 k3 => ?_
    have k3' : Kr rL H H3 := (Kr.of (e1.trans e2)).trans k3
    refine sd_ret (K := K) (d := .int (c % many)) (ed_var rfl (.int _)) fun v4 H4 e4 r4 => ?_
    obtain rfl := dp_int r4
    have k4 := k3'.trans (Kr.of e4)
    exact q _ H4 (hz c).1 (hz c).2 ⟨i, a, c / many, e4 _ _ hL3, sqL_kr hL hs k4, hi⟩ k4
  · have hL1 := e1 _ _ hL
    refine q_setL (K := K) (x := i + 1) (j := 1) hL1 (ed_op0 (cell 1 i rfl hL1 rfl) ed_int) rfl ed_int (by simp) fun H3 hL2 k2 => ?_
    replace k2 : Kr rL H H3 := (Kr.of e1).trans k2
    replace hL2 : H3 rL = some (.lst [.ref sa, .int (i + 1), .int a, .int c]) := hL2
    have hs2 := sqL_kr hL hs k2
    have hscr : ∀ {H' : Hp} {σ' : L2.St} {i a c : Int}, σ'[0]? = some (some (.ref rL)) → H' rL = some (.lst [.ref sa, .int i, .int a, .int c]) → SqL K H' sa (ns.map V.int) → EvD K (tOp (rIx K) (tVar 0) (tC (V.int 0))) σ' H' (.list (ns.map .int)) := fun h0 h hs' =>
      ed_ev (ev_ixV (k := 0) (v := .ref sa) h0 (sq_of h) ed_int rfl rfl) (.lst hs' (dpA_ints ns))
    refine q_when' (b := decide ((ns.length : Int) < i + 1)) (et_is (KR.et_test (K := K) (ed_opB (cell 1 (i + 1) rfl hL2 rfl) (ed_lenL (hscr rfl hL2 hs2)))) (by rw [List.length_map])) (fun _ H4 e4 => ?_) (fun hb H4 e4 => ?_)
    · have hL4 := e4 _ _ hL2
      refine q_setL (K := K) (x := (a * 48271 + 11) % 2147483647) (j := 2) hL4 (ed_opC (ed_int1 (ed_op0 (ed_opC (cell 2 a rfl hL4 rfl) ed_int (.inr ⟨by decide, by decide⟩)) ed_int)) ed_int (by show (0 : Int) < 2147483647; decide)) rfl ed_int (by simp) fun H6 hL5 k5 => ?_
      replace k5 : Kr rL H H6 := (k2.trans (Kr.of e4)).trans k5
      replace hL5 : H6 rL = some (.lst [.ref sa, .int (i + 1), .int ((a * 48271 + 11) % 2147483647), .int c]) := hL5
      refine sd_ret (K := K) (d := .int (((a * 48271 + 11) % 2147483647 / 7) % many)) (ed_opC (ed_int1 (ed_opC (cell 2 _ rfl hL5 rfl) ed_int ⟨by decide, by decide⟩)) (ed_var rfl (.int _)) many0) fun v7 H7 e7 r7 => ?_
      obtain rfl := dp_int r7
      have k7 := k5.trans (Kr.of e7)
      exact q _ H7 (hz _).1 (hz _).2 ⟨i + 1, _, c, e7 _ _ hL5, sqL_kr hL hs k7, by omega⟩ k7
    · have hb := of_decide_eq_false hb
      have hil : i.toNat < ns.length := by omega
      have hL4 := e4 _ _ hL2
      have hs4 := ex_l e4 hs2
      refine qd_asg (K := K) (d := .int ns[i.toNat]) (ed_ixL (k := i.toNat) (hscr rfl hL4 hs4) (ed_op0 (cell 1 (i + 1) rfl hL4 rfl) ed_int) (by omega) (by rw [List.getElem?_map, List.getElem?_eq_getElem hil]; rfl)) fun v5 H5 e5 r5 => ?_
      obtain rfl := dp_int r5
      generalize ns[i.toNat] = cellv
      have hL5 := e5 _ _ hL4
      have e45 := e4.trans e5
      refine q_setL (K := K) (x := (a * 48271 + cellv + 11) % 2147483647) (j := 2) hL5 (ed_opC (ed_int1 (ed_op0 (ed_op0 (ed_opC (cell 2 a rfl hL5 rfl) ed_int (.inr ⟨by decide, by decide⟩)) (ed_var rfl (.int _))) ed_int)) ed_int (by show (0 : Int) < 2147483647; decide)) rfl ed_int (by simp) fun H7 hL6 k6 => ?_
      replace k6 : Kr rL H H7 := (k2.trans (Kr.of e45)).trans k6
      replace hL6 : H7 rL = some (.lst [.ref sa, .int (i + 1), .int ((a * 48271 + cellv + 11) % 2147483647), .int c]) := hL6
      have fin : ∀ (H8 : Hp) (c' : Int) (σ' : L2.St), Kr rL H H8 → H8 rL = some (.lst [.ref sa, .int (i + 1), .int ((a * 48271 + cellv + 11) % 2147483647), .int c']) → σ'[1]? = some (some (.int many)) → σ'[2]? = some (some (.int cellv)) →
          tRet (tOp (rI (fun x j => 0 < j) fun i j => V.int (i % j)) (tCB rInt1 (tCons (tVar 2) tNil)) (tVar 1)) { nx := fun _ H' => Q .non H', rt := Q } σ' H8 := fun H8 c' σ' k8 hL8 h1 h2 => by
        refine sd_ret (K := K) (d := .int (cellv % many)) (ed_opC (ed_int1 (ed_var h2 (.int _))) (ed_var h1 (.int _)) many0) fun v9 H9 e9 r9 => ?_
        obtain rfl := dp_int r9
        have k9 := k8.trans (Kr.of e9)
        exact q _ H9 (hz _).1 (hz _).2 ⟨i + 1, _, c', e9 _ _ hL8, sqL_kr hL hs k9, by omega⟩ k9
      refine q_when' (b := decide ((10 : Int) ^ 18 ≤ cellv)) (et_is (KR.et_test (K := K) (ed_opB (ed_var rfl (.int _)) (ed_opC ed_int ed_int ⟨by decide, by decide, by decide⟩))) rfl) (fun _ H8 e8 => ?_) (fun _ H8 e8 => ?_)
      · have hL8 := e8 _ _ hL6
        refine s_setL (K := K) (x := cellv / many) (j := 3) hL8 (ed_opC (ed_var rfl (.int _)) (ed_var rfl (.int _)) ⟨many0, m2⟩) rfl ed_int (by simp) fun H9 hL9 k9 => ?_
        exact fin H9 (cellv / many) _ ((k6.trans (Kr.of e8)).trans k9) hL9 rfl rfl
      · exact fin H8 c _ (k6.trans (Kr.of e8)) (e8 _ _ hL6) rfl rfl
end
end KW
end
section
set_option Elab.async false
set_option linter.all false
set_option maxRecDepth 100000
set_option maxHeartbeats 4000000
/-! The law's own defs: drawn polynomials, tables. -/
namespace KW
open PySem PySem.Spec PyProof.Rows L2 Evl KR K18 KX
section
variable {P : Program} {w : World} {K : PySem.W.Frag} {mg : Str → Option Value} {base : Heap} {p : Nat} [hp : Pr p]
theorem DR.lst {rL sa : Addr} {ns : List Int} {H : Hp} (h : DR K H rL sa ns) : ∃ xs, H rL = some (.lst xs) := let ⟨_, _, _, h1, _⟩ := h; ⟨_, h1⟩
theorem DR.upd {rL sa Dl : Addr} {ns : List Int} {H H' : Hp} {o : HO} (h0 : DR K H rL sa ns) (n : H Dl = none) (h : DR K H' rL sa ns) : DR K (upd H' Dl o) rL sa ns := by
  obtain ⟨i0, a0, c0, g1, g2, g3⟩ := h0
  obtain ⟨i, a, c, h1, h2, h3⟩ := h
  have hr : rL ≠ Dl := fun z => by rw [z, n] at g1; cases g1
  refine ⟨i, a, c, by rw [upd_ne hr]; exact h1, ?_, h3⟩
  rcases g2 with g2 | g2
  · have hs : sa ≠ Dl := fun z => by
      rcases g2 with g2 | ⟨o, g2⟩ <;> (rw [z, n] at g2; cases g2)
    rcases h2 with (h2 | ⟨o, h2⟩) | h2
    · exact .inl (.inl (by rw [upd_ne hs]; exact h2))
    · exact .inl (.inr ⟨o, by rw [upd_ne hs]; exact h2⟩)
    · exact .inr h2
  · exact .inr g2
theorem Kr.toT {rL sa : Addr} {ns : List Int} {H H' : Hp} (k : Kr rL H H') (h : DR K H rL sa ns) : ExT H H' := fun q o hq n1 _ _ => k q o hq fun z => by
  obtain ⟨xs, h1⟩ := h.lst
  rw [z, h1] at hq; exact n1 _ (Option.some.inj hq).symm
/-- an expression that draws -/
def EvK (K : PySem.W.Frag) (te : TE) (σ : L2.St) (H : Hp) (rL sa : Addr) (ns : List Int) (Pd : V → Hp → Prop) : Prop := ∀ Q : VK, (∀ v H', Pd v H' → DR K H' rL sa ns → Kr rL H H' → Q v H') → te σ H Q
section
variable {σ : L2.St} {H : Hp} {rL sa : Addr} {ns : List Int} {te ta tb : TE} {wi : TI} {k j : Nat}
theorem ek_taken {many : Int} (hk : σ[k]? = some (some (.ref rL))) (hd : DR K H rL sa ns) (h : EvD K ta σ H (.int many)) (m1 : 1 ≤ many) (m2 : many < 1073741824) :
    EvK K (tCall (spTaken K) [] E0 (tCons (tVar k) (tCons ta tNil))) σ H rL sa ns (fun v _ => ∃ z : Int, v = .int z ∧ 0 ≤ z ∧ z < many) := fun Q q =>
  ⟨.ref rL, hk, h H (Ex.refl H) _ fun v H1 e r => by
    obtain rfl := dp_int r
    exact ⟨rL, sa, ns, many, rfl, hd.ex e, m1, m2, fun z H' h0 h1 hd' kr => q _ H' ⟨z, rfl, h0, h1⟩ hd' ((Kr.of e).trans kr)⟩⟩
/-- a list of what is drawn -/
theorem ek_lc {ds : List PyData} {n : Nat} {vs : List Nat} {Good : PyData → Prop} (hdr : DR K H rL sa ns) (hI : EvIG K wi σ H (fun _ => True) ds) (hn : ds.length = n) (hn2 : n ≤ 1000) (hw : ∀ x, wipe ((wipe σ vs).set j (some x)) vs = wipe σ vs)
    (helt : ∀ (i : Nat) x H', i < n → DR K H' rL sa ns → Kr rL H H' → EvK K te ((wipe σ vs).set j (some x)) H' rL sa ns (fun v H'' => ∃ d, Good d ∧ flatD d = true ∧ Dp K H'' v d)) :
    EvK K (tLc wi (gName j) tYes te vs) σ H rL sa ns (fun v H' => ∃ (L : Addr) (acc : List V) (es : List PyData), v = .ref L ∧ H L = none ∧ H' L = some (.lst acc) ∧ es.length = n ∧ (∀ d ∈ es, Good d) ∧ flatDs es = true ∧ DpAll K H' acc es) := fun Q q => by
  refine ev_lcG hI (fun Dl i H' => H Dl = none ∧ DR K H' rL sa ns ∧ Kr rL H H' ∧ ∃ (acc : List V) (es : List PyData), H' Dl = some (.lst acc) ∧ es.length = i ∧ (∀ d ∈ es, Good d) ∧ flatDs es = true ∧ DpAll K H' acc es)
    (fun H1 Dl e nD => ⟨fresh_back e nD, (hdr.ex e).ex (Ex.new nD), Kr.of (e.trans (Ex.new nD)), [], [], upd_same, rfl, fun d hd => by simp at hd, rfl, .nil⟩) (fun _ _ _ _ _ => True.intro)
    (fun Dl i d x H' H'' hd ⟨nD, hdr', kr, acc, es, hD, hl, hg, hf, ha⟩ e r => ?_) fun Dl H' ⟨nD, hdr', kr, acc, es, hD, hl, hg, hf, ha⟩ => ?_
  · have hi : i < n := by rw [← hn]; exact (List.getElem?_eq_some_iff.mp hd).1
    refine ⟨hw x, ?_⟩
    show te _ H'' _
    refine helt i x H'' hi (hdr'.ex e) (kr.trans (Kr.of e)) _ fun y H4 ⟨dy, gy, fy, ry⟩ hdr4 kr4 => ?_
    have hDr : Dl ≠ rL := fun z => by
      obtain ⟨xs, h1⟩ := hdr.lst
      rw [z, h1] at nD; cases nD
    have hD4 : H4 Dl = some (.lst acc) := kr4 _ _ (e _ _ hD) hDr
    have ha4 : DpAll K H4 acc es := dpA_exT (Kr.toT kr4 (hdr'.ex e)) _ _ hf (dpA_ex e _ _ ha)
    have hal := dpA_len ha
    have hx := exT_lst (ys := acc ++ [y]) hD4
    refine ⟨acc, hD4, sz_lt (by omega), nD, ?_, fun q o hq hne => ?_, acc ++ [y], es ++ [dy], upd_same, by rw [List.length_append, hl]; rfl, fun d hd => ?_, ?_, dpA_app (dpA_exT hx _ _ hf ha4) (.cons (dp_exT hx _ _ fy ry) .nil)⟩
    · exact hdr.upd nD hdr4
    · rw [upd_ne (fun z => by rw [z, nD] at hq; cases hq)]
      exact (kr.trans ((Kr.of e).trans kr4)) q o hq hne
    · rcases List.mem_append.mp hd with hd | hd
      · exact hg d hd
      · obtain rfl := List.mem_singleton.mp hd; exact gy
    · have : ∀ l : List PyData, flatDs l = true → flatDs (l ++ [dy]) = true := fun l => by
        induction l with
        | nil => intro _; simp [flatDs, fy]
        | cons a l ih => intro h; simp [flatDs] at h ⊢; exact ⟨h.1, ih h.2⟩
      exact this es hf
  · exact q _ H' ⟨Dl, acc, es, rfl, nD, hD, by rw [hl, hn], hg, hf, ha⟩ hdr' kr
end
end
end KW
end
section
set_option Elab.async false
set_option linter.all false
set_option maxRecDepth 100000
set_option maxHeartbeats 4000000
/-! The law's own defs: a prime, polynomials, tables, drawn. -/
namespace KW
open PySem PySem.Spec PyProof.Rows L2 Evl KR K18 KX
section
variable {P : Program} {w : World} {K : PySem.W.Frag} {mg : Str → Option Value} {base : Heap} {p : Nat} [hp : Pr p]
section
variable {σ : L2.St} {H : Hp} {rL sa : Addr} {ns : List Int} {te ta tb : TE} {wi : TI} {k j : Nat} {Pd Pe : V → Hp → Prop} {Q : VK}
theorem EvK.imp (h : EvK K te σ H rL sa ns Pd) (i : ∀ v H', Pd v H' → Pe v H') : EvK K te σ H rL sa ns Pe := fun Q q => h Q fun v H' a b c => q v H' (i v H' a) b c
theorem ek_opV {r : R2} {v : V} (h : σ[k]? = some (some v)) (hb : EvK K tb σ H rL sa ns Pd) (q : ∀ u H', Pd u H' → DR K H' rL sa ns → Kr rL H H' → tOp r (tVar k) (tK u) σ H' Q) : tOp r (tVar k) tb σ H Q :=
  ⟨v, h, hb _ fun u H' pu hd kr => by
    obtain ⟨v', h', g⟩ := q u H' pu hd kr
    rw [h] at h'
    cases h'
    exact g⟩
theorem ek_addI {i : Int} {g : Int → Int → Int} {C : Int → Prop} (hb : EvK K tb σ H rL sa ns (fun v _ => ∃ z, v = .int z ∧ C z)) : EvK K (tOp (rI0 fun i j => .int (g i j)) (tC (.int i)) tb) σ H rL sa ns (fun v _ => ∃ z, v = .int (g i z) ∧ C z) := fun Q q =>
  hb _ fun v H' ⟨z, e, c⟩ hd kr => ⟨i, z, rfl, e, q _ H' ⟨z, rfl, c⟩ hd kr⟩
theorem ek_call1 {sp : Sp} (h : EvK K te σ H rL sa ns Pd) (q : ∀ v H', Pd v H' → DR K H' rL sa ns → Kr rL H H' → tCall sp [] E0 (tCons (tK v) tNil) σ H' Q) : tCall sp [] E0 (tCons te tNil) σ H Q := h _ q
theorem ek_cb1 {r : List V → Hp → VK → Prop} (h : EvK K te σ H rL sa ns Pd) (q : ∀ v H', Pd v H' → DR K H' rL sa ns → Kr rL H H' → tCB r (tCons (tK v) tNil) σ H' Q) : tCB r (tCons te tNil) σ H Q := h _ q
theorem ek_rng {g : TG} {tt : TT} {vs : List Nat} (h : EvK K ta σ H rL sa ns Pd) (q : ∀ v H', Pd v H' → DR K H' rL sa ns → Kr rL H H' → tLc (iRng1 (tCons (tK v) tNil)) g tt te vs σ H' Q) : tLc (iRng1 (tCons ta tNil)) g tt te vs σ H Q := h _ q
theorem sqL_kr2 {l : Addr} {H' : Hp} {ys : List Int} (hd : DR K H rL sa ns) (hs : SqL K H l (ys.map V.int)) (k : Kr rL H H') : SqL K H' l (ys.map V.int) := by
  obtain ⟨i, a, c, h, _⟩ := hd
  rcases hs with (hs | ⟨o, hs⟩) | hs
  · have hne : l ≠ rL := fun z => by
      rw [z, h] at hs
      have e := Option.some.inj hs
      injection e with e
      cases ys with
      | nil => simp at e
      | cons n ys => simp at e
    exact .inl (.inl (k _ _ hs hne))
  · have hne : l ≠ rL := fun z => by rw [z, h] at hs; cases hs
    exact .inl (.inr ⟨o, k _ _ hs hne⟩)
  · exact .inr hs
end
theorem dps_choose {α : Type} {em : α → PyData} {Good : α → Prop} : ∀ {es : List PyData}, (∀ d ∈ es, ∃ a, Good a ∧ d = em a) → ∃ l : List α, es = l.map em ∧ ∀ a ∈ l, Good a
  | [], _ => ⟨[], rfl, fun a h => by simp at h⟩
  | d :: es, h => by
    obtain ⟨a, ga, rfl⟩ := h d (List.mem_cons_self ..)
    obtain ⟨l, rfl, gl⟩ := dps_choose (es := es) fun d hd => h d (List.mem_cons_of_mem _ hd)
    exact ⟨a :: l, rfl, fun b hb => by
      rcases List.mem_cons.mp hb with rfl | hb
      · exact ga
      · exact gl b hb⟩

abbrev s_l_pick : Stmt := topS 39
theorem sc_l_pick : FnScope ["_law_row", "_law_things"] ["_law_row", "_law_things"] (defScope s_l_pick) := ⟨rfl, rfl, rfl, by decide +kernel, rfl, by decide +kernel, by decide +kernel⟩
def spPick (K : PySem.W.Frag) : Sp := fun vs H Q _ => ∃ (rL sa l : Addr) (ns ys : List Int), vs = [.ref rL, .ref l] ∧ DR K H rL sa ns ∧ SqL K H l (ys.map V.int) ∧ 1 ≤ ys.length ∧ ys.length < 1073741824 ∧ ∀ z H', z ∈ ys → DR K H' rL sa ns → Kr rL H H' → Q (.int z) H'
theorem ok_l_pick (T : Bt mg) (D : DefAt K mg "_law_pick" s_l_pick ["_law_row", "_law_things"]) (O_l_taken : Ok P w K mg base "_law_taken" ["_law_row", "_law_many"] 1 (spTaken K)) : Ok P w K mg base "_law_pick" ["_law_row", "_law_things"] 2 (spPick K) := by
  refine D.ok sc_l_pick (fun vs H Q E h => ?_) fun f0 cdv A outer s H vs Q E hr h => ?_
  · obtain ⟨rL, sa, l, ns, ys, rfl, _⟩ := h
    rfl
  obtain ⟨rL, sa, l, ns, ys, rfl, hd, hl, y1, y2, q⟩ := h
  refine ⟨_, (pss_one (ps_ret (pe_ix (kIx (K := K) rfl) (pv 1) (pe_ok O_l_taken (hr.mono (by decide)) (by rfl) (pa_cons (pv 0) (pa_cons (pe_callB (kLen (K := K) rfl) (by rfl) T.len (by decide +kernel) (pa_cons (pv 1) pa_nil)) pa_nil))) (fun _ _ => rfl)))), ?_⟩
  have hdl : Dp K H (.ref l) (.list (ys.map .int)) := .lst hl (dpA_ints ys)
  refine ek_opV (K := K) rfl (ek_taken (many := (ys.length : Int)) rfl hd (ed_is (ed_lenL (ed_var rfl hdl)) (by rw [List.length_map])) (by omega) (by omega)) fun v H' ⟨z, hz, z0, z1⟩ hd' kr => ?_
  subst hz
  have hzl : z.toNat < ys.length := by omega
  refine ed_ixL (K := K) (k := z.toNat) (d := .int ys[z.toNat]) (ed_var rfl (.lst (sqL_kr2 hd hl kr) (dpA_ints ys))) (ed_K (.int z)) (by omega) (by rw [List.getElem?_map, List.getElem?_eq_getElem hzl]; rfl) H' (Ex.refl H') _ fun u H2 e2 r2 => ?_
  obtain rfl := dp_int r2
  exact q _ H2 (List.getElem_mem _) (hd'.ex e2) (kr.trans (Kr.of e2))

abbrev s_l_small : Stmt := topS 55
theorem sc_l_small : FnScope ["_law_row"] ["_law_row"] (defScope s_l_small) := ⟨rfl, rfl, rfl, by decide +kernel, rfl, by decide +kernel, by decide +kernel⟩
def spSmall (K : PySem.W.Frag) : Sp := fun vs H Q _ => ∃ (rL sa : Addr) (ns : List Int), vs = [.ref rL] ∧ DR K H rL sa ns ∧ ∀ (z : Nat) H', Pr z → DR K H' rL sa ns → Kr rL H H' → Q (.int (z : Int)) H'
theorem ok_l_small (T : Bt mg) (D : DefAt K mg "_law_small" s_l_small ["_law_row"]) (O_l_pick : Ok P w K mg base "_law_pick" ["_law_row", "_law_things"] 2 (spPick K)) : Ok P w K mg base "_law_small" ["_law_row"] 3 (spSmall K) := by
  refine D.ok sc_l_small (fun vs H Q E h => ?_) fun f0 cdv A outer s H vs Q E hr h => ?_
  · obtain ⟨rL, sa, ns, rfl, _⟩ := h
    rfl
  obtain ⟨rL, sa, ns, rfl, hd, q⟩ := h
  refine ⟨_, (pss_one (ps_ret (pe_ok O_l_pick (hr.mono (by decide)) (by rfl) (pa_cons (pv 0) (pa_cons (pe_lst (pa_cons pe_int (pa_cons pe_int (pa_cons pe_int (pa_cons pe_int pa_nil))))) pa_nil))))), ?_⟩
  refine ⟨_, rfl, ed_lst (K := K) (ds := [.int 2, .int 2, .int 3, .int 5]) (eds_cons ed_int (eds_cons ed_int (eds_cons ed_int (eds_cons ed_int eds_nil)))) (by decide) H (Ex.refl H) _ fun v H1 e1 r1 => ?_⟩
  obtain ⟨l, xs, rfl, hl, hx⟩ := dp_lst r1
  obtain rfl := dpA_intsV (ns := [2, 2, 3, 5]) hx
  refine ⟨rL, sa, l, ns, [2, 2, 3, 5], rfl, hd.ex e1, hl, by decide, by decide, fun z H' hz hd' kr => ?_⟩
  have hz' : z = 2 ∨ z = 3 ∨ z = 5 := by simp at hz; omega
  have k := (Kr.of e1).trans kr
  rcases hz' with rfl | rfl | rfl
  · exact q 2 H' pr2 hd' k
  · exact q 3 H' pr3 hd' k
  · exact q 5 H' pr5 hd' k

abbrev s_l_poly : Stmt := topS 42
theorem sc_l_poly : FnScope ["_law_row", "_law_p", "_law_most", "_law_at"] ["_law_row", "_law_p", "_law_most"] (defScope s_l_poly) := ⟨rfl, rfl, rfl, by decide +kernel, rfl, by decide +kernel, by decide +kernel⟩
def spLPoly (K : PySem.W.Frag) (p : Nat) [Pr p] : Sp := fun vs H Q _ => ∃ (rL sa : Addr) (ns : List Int) (m : Nat), vs = [.ref rL, .int (p : Int), .int (m : Int)] ∧ DR K H rL sa ns ∧ m ≤ 3 ∧ ∀ (f : Po p) v H', len f ≤ m + 1 → Dp K H' v (dP f) → DR K H' rL sa ns → Kr rL H H' → Q v H'
theorem pr_lt (p : Nat) [hp : Pr p] : 2 ≤ p ∧ p ≤ 5 := by rcases hp.h with h | h | h <;> omega
theorem ok_l_poly (T : Bt mg) (D : DefAt K mg "_law_poly" s_l_poly ["_law_row", "_law_p", "_law_most"]) (O_l_taken : Ok P w K mg base "_law_taken" ["_law_row", "_law_many"] 1 (spTaken K)) (O_l_trim : Ok P w K mg base "_law_trim" ["_law_some"] 1 (spLTrim K p)) : Ok P w K mg base "_law_poly" ["_law_row", "_law_p", "_law_most"] 2 (spLPoly K p) := by
  refine D.ok sc_l_poly (fun vs H Q E h => ?_) fun f0 cdv A outer s H vs Q E hr h => ?_
  · obtain ⟨rL, sa, ns, m, rfl, _⟩ := h
    rfl
  obtain ⟨rL, sa, ns, m, rfl, hd, m3, q⟩ := h
  refine ⟨_, (pss_one (ps_ret (pe_ok O_l_trim (hr.mono (by decide)) (by rfl) (pa_cons (pe_lc (own := [("_law_at", 3)]) (g := gName 3) (tt := tYes) rfl sc_l_poly.nd (pi_range1 (by rfl) T.range (pa_cons (pe_ok O_l_taken (hr.mono (by decide)) (by rfl) (pa_cons (pv 0) (pa_cons (pe_op op_add (pv 2) pe_int) pa_nil))) pa_nil)) (blkOk_by (N := ["_law_row", "_law_p", "_law_most", "_law_at"]) (sc := defScope s_l_poly) (by decide +kernel)) (fun _ _ _ _ _ => (pg_name (i := 3) sc_l_poly.nd rfl (Or.inl rfl) (hf := Or.inr rfl))) (fun _ _ _ _ _ => pts_nil) (fun _ _ _ _ _ => (pe_ok O_l_taken (hr.mono (by decide)) (by rfl) (pa_cons (pv 0) (pa_cons (pv 1) pa_nil))))) pa_nil)))), ?_⟩
  have hp5 := pr_lt p
  show tLc (iRng1 (tCons (tCall (spTaken K) [] E0 (tCons (tVar 0) (tCons (tOp (rI0 fun i j => V.int (i + j)) (tVar 2) (tC (V.int 2))) tNil))) tNil)) (gName 3) tYes (tCall (spTaken K) [] E0 (tCons (tVar 0) (tCons (tVar 1) tNil))) [3] [some (.ref rL), some (.int (p : Int)), some (.int (m : Int)), none] H fun v H1 => spLTrim K p [v] H1 Q E0
  refine ek_rng (K := K) (ek_taken (many := (m : Int) + 2) rfl hd (by exact ed_op0 (ed_var rfl (.int _)) ed_int) (by omega) (by omega)) fun v H1 ⟨n, hn, n0, n1⟩ hd1 kr1 => ?_
  subst hn
  refine ek_lc (K := K) (n := n.toNat) (Good := fun d => ∃ a : Fin p, True ∧ d = dC a) hd1 (eg_rng1 (eds_cons (ed_K (.int n)) eds_nil) (by omega)) (by rw [List.length_map, List.length_range]) (by omega) (fun x => rfl) (fun i x H' hi hd' kr' => ?_) _ fun v H2 ⟨L, acc, es, hv, nL, hL, hl, hg, hf, ha⟩ hd2 kr2 => ?_
  · refine (ek_taken rfl hd' (ed_var rfl (.int _)) (by omega) (by omega)).imp fun v H'' ⟨z, hz, z0, z1⟩ => ?_
    subst hz
    have hzp : z.toNat < p := by omega
    exact ⟨.int z, ⟨⟨z.toNat, hzp⟩, True.intro, by unfold dC; congr 1; show z = ((z.toNat : Nat) : Int); omega⟩, rfl, .int _⟩
  · subst hv
    obtain ⟨l, rfl, _⟩ := dps_choose hg
    rw [List.length_map] at hl
    refine ⟨l, (by show l.length ≤ 50000; omega), .cons (.lst (sq_of hL) ha) .nil, fun u H3 e3 r3 => ?_⟩
    exact q (trimP l) u H3 (Nat.le_trans (trimL_len l) (by omega)) r3 (hd2.ex e3) ((kr1.trans kr2).trans (Kr.of e3))
/-- a drawn polynomial -/
theorem ek_poly {σ : L2.St} {H : Hp} {rL sa : Addr} {ns : List Int} {tm : TE} {k j m : Nat} (h0 : σ[k]? = some (some (.ref rL))) (h1 : σ[j]? = some (some (.int (p : Int)))) (hd : DR K H rL sa ns) (hm : EvD K tm σ H (.int (m : Int))) (m3 : m ≤ 3) :
    EvK K (tCall (spLPoly K p) [] E0 (tCons (tVar k) (tCons (tVar j) (tCons tm tNil)))) σ H rL sa ns (fun v H' => ∃ f : Po p, len f ≤ m + 1 ∧ Dp K H' v (dP f)) := fun Q q =>
  ⟨_, h0, _, h1, hm H (Ex.refl H) _ fun u H1 e1 r1 => by
    obtain rfl := dp_int r1
    exact ⟨rL, sa, ns, m, rfl, hd.ex e1, m3, fun f v H' hf r hd' kr => q v H' ⟨f, hf, r⟩ hd' ((Kr.of e1).trans kr)⟩⟩

abbrev s_l_table : Stmt := topS 48
theorem sc_l_table : FnScope ["_law_row", "_law_p", "_law_high", "_law_wide", "_law_most", "_law_line", "_law_at"] ["_law_row", "_law_p", "_law_high", "_law_wide", "_law_most"] (defScope s_l_table) := ⟨rfl, rfl, rfl, by decide +kernel, rfl, by decide +kernel, by decide +kernel⟩
def spLTable (K : PySem.W.Frag) (p : Nat) [Pr p] : Sp := fun vs H Q _ => ∃ (rL sa : Addr) (ns : List Int) (h wd m : Nat), vs = [.ref rL, .int (p : Int), .int (h : Int), .int (wd : Int), .int (m : Int)] ∧ DR K H rL sa ns ∧ m ≤ 3 ∧ h ≤ 100 ∧ wd ≤ 100 ∧
  ∀ (R : PT p) v H', (∀ i j, i < h → j < wd → len (R i j) ≤ m + 1) → Dp K H' v (tupP h wd R) → DR K H' rL sa ns → Kr rL H H' → Q v H'
theorem ok_l_table (T : Bt mg) (D : DefAt K mg "_law_table" s_l_table ["_law_row", "_law_p", "_law_high", "_law_wide", "_law_most"]) (O_l_poly : Ok P w K mg base "_law_poly" ["_law_row", "_law_p", "_law_most"] 2 (spLPoly K p)) : Ok P w K mg base "_law_table" ["_law_row", "_law_p", "_law_high", "_law_wide", "_law_most"] 3 (spLTable K p) := by
  refine D.ok sc_l_table (fun vs H Q E h => ?_) fun f0 cdv A outer s H vs Q E hr h => ?_
  · obtain ⟨rL, sa, ns, h, wd, m, rfl, _⟩ := h
    rfl
  obtain ⟨rL, sa, ns, hh, wd, m, rfl, hd, m3, h1, w1, q⟩ := h
  refine ⟨_, (pss_one (ps_ret (pe_callTy (kTuple (K := K) rfl) (by rfl) T.tuple (by decide +kernel) (pa_cons (pe_lc (own := [("_law_line", 5)]) (g := gName 5) (tt := tYes) rfl sc_l_table.nd (pi_range1 (by rfl) T.range (pa_cons (pv 2) pa_nil)) (blkOk_by (N := ["_law_row", "_law_p", "_law_high", "_law_wide", "_law_most", "_law_line", "_law_at"]) (sc := defScope s_l_table) (by decide +kernel)) (fun _ _ _ _ _ => (pg_name (i := 5) sc_l_table.nd rfl (Or.inl rfl) (hf := Or.inr rfl))) (fun _ _ _ _ _ => pts_nil) (fun _ _ _ _ _ => (pe_callTy (kTuple (K := K) rfl) (by rfl) T.tuple (by decide +kernel) (pa_cons (pe_lc (own := [("_law_at", 6)]) (g := gName 6) (tt := tYes) rfl sc_l_table.nd (pi_range1 (by rfl) T.range (pa_cons (pv 3) pa_nil)) (blkOk_by (N := ["_law_row", "_law_p", "_law_high", "_law_wide", "_law_most", "_law_line", "_law_at"]) (sc := L2.relS _ (defScope s_l_table)) (by decide +kernel)) (fun _ _ _ _ _ => (pg_name (i := 6) sc_l_table.nd rfl (Or.inl rfl) (hf := Or.inr rfl))) (fun _ _ _ _ _ => pts_nil) (fun _ _ _ _ _ => (pe_ok O_l_poly (hr.mono (by decide)) (by rfl) (pa_cons (pv 0) (pa_cons (pv 1) (pa_cons (pv 4) pa_nil)))))) pa_nil)))) pa_nil)))), ?_⟩
  refine ek_cb1 (K := K) (ek_lc (K := K) (n := hh) (Good := fun d => ∃ r : Nat → Po p, (∀ j, j < wd → len (r j) ≤ m + 1) ∧ d = .tuple (rowP wd r)) hd (eg_rng1 (i := (hh : Int)) (eds_cons (ed_var rfl (.int _)) eds_nil) (by omega)) (by rw [List.length_map, List.length_range]; omega) (by omega) (fun x => rfl) (fun i x H' hi hd' kr' Q' q' => ?_)) fun v H2 ⟨L, acc, es, hv, nL, hL, hl, hg, hf, ha⟩ hd2 kr2 => ?_
  · refine ek_cb1 (K := K) (ek_lc (K := K) (n := wd) (Good := fun d => ∃ f : Po p, len f ≤ m + 1 ∧ d = dP f) hd' (eg_rng1 (i := (wd : Int)) (eds_cons (ed_var rfl (.int _)) eds_nil) (by omega)) (by rw [List.length_map, List.length_range]; omega) (by omega) (fun x => rfl) (fun i x H' hi hd' kr' => ?_)) fun v H2 ⟨L, acc, es, hv, nL, hL, hl, hg, hf, ha⟩ hd2 kr2 => ?_
    · exact (ek_poly rfl rfl hd' (ed_var rfl (.int _)) m3).imp fun v H'' ⟨f, hf, r⟩ => ⟨dP f, ⟨f, hf, rfl⟩, flat_dP f, r⟩
    · subst hv
      obtain ⟨l, rfl, gl⟩ := dps_choose hg
      rw [List.length_map] at hl
      refine ed_tupleL (K := K) (ed_K (.lst (sq_of hL) ha)) H2 (Ex.refl H2) _ fun u H3 e3 r3 => ?_
      have hrow : l.map dP = rowP wd (fun j => l.getD j 0) := by
        unfold rowP
        refine List.ext_getElem? fun j => ?_
        rw [List.getElem?_map, List.getElem?_map]
        by_cases hj : j < l.length
        · rw [List.getElem?_eq_getElem hj, List.getElem?_range (by omega)]
          simp [hj]
        · rw [List.getElem?_eq_none (by omega), List.getElem?_eq_none (by simp; omega)]; rfl
      refine q' u H3 ⟨.tuple (rowP wd (fun j => l.getD j 0)), ⟨_, fun j hj => ?_, rfl⟩, by simp only [flatD]; exact rowP_flat _ _, by rw [← hrow]; exact r3⟩ (hd2.ex e3) (kr2.trans (Kr.of e3))
      have hj' : j < l.length := by omega
      have : l.getD j 0 = l[j] := by simp [hj']
      rw [this]
      exact gl _ (List.getElem_mem _)
  · subst hv
    obtain ⟨l, rfl, gl⟩ := dps_choose hg
    rw [List.length_map] at hl
    refine ed_tupleL (K := K) (ed_K (.lst (sq_of hL) ha)) H2 (Ex.refl H2) _ fun u H3 e3 r3 => ?_
    have htab : PyData.tuple (l.map fun r => PyData.tuple (rowP wd r)) = tupP hh wd (fun i => l.getD i fun _ => 0) := by
      rw [tupP_eq]
      refine congrArg PyData.tuple (List.ext_getElem? fun j => ?_)
      rw [List.getElem?_map, List.getElem?_map]
      by_cases hj : j < l.length
      · rw [List.getElem?_eq_getElem hj, List.getElem?_range (by omega)]
        simp [hj]
      · rw [List.getElem?_eq_none (by omega), List.getElem?_eq_none (by simp; omega)]; rfl
    refine q (fun i => l.getD i fun _ => 0) u H3 (fun i j hi hj => ?_) (by rw [← htab]; exact r3) (hd2.ex e3) (kr2.trans (Kr.of e3))
    have hi' : i < l.length := by omega
    have : l.getD i (fun _ => 0) = l[i] := by simp [hi']
    rw [this]
    exact gl _ (List.getElem_mem _) j hj
end
end KW
end
section
set_option Elab.async false
set_option linter.all false
set_option maxRecDepth 100000
set_option maxHeartbeats 4000000
/-! The law's own defs: a mover, drawn. -/
namespace KW
open PySem PySem.Spec PyProof.Rows L2 Evl KR K18 KX
section
variable {P : Program} {w : World} {K : PySem.W.Frag} {mg : Str → Option Value} {base : Heap} {p : Nat} [hp : Pr p]
section
variable {σ : L2.St} {H H1 H2 : Hp} {rL sa Da : Addr} {ns : List Int} {te ta tb : TE} {wi : TI} {k j : Nat} {Pd Pe : V → Hp → Prop} {Q : VK} {tt : TT} {tu tw tz : TS} {D : Ends}
theorem DR.wr (h0 : DR K H rL sa ns) (n : H Da = none) (h : DR K H1 rL sa ns) (w : Wr Da H1 H2) : DR K H2 rL sa ns := by
  obtain ⟨i0, a0, c0, g1, g2, g3⟩ := h0
  obtain ⟨i, a, c, h1, h2, h3⟩ := h
  have hr : rL ≠ Da := fun z => by rw [z, n] at g1; cases g1
  refine ⟨i, a, c, w.keep _ _ h1 hr, ?_, h3⟩
  rcases g2 with g2 | g2
  · have hs : sa ≠ Da := fun z => by
      rcases g2 with g2 | ⟨o, g2⟩ <;> (rw [z, n] at g2; cases g2)
    rcases h2 with (h2 | ⟨o, h2⟩) | h2
    · exact .inl (.inl (w.keep _ _ h2 hs))
    · exact .inl (.inr ⟨o, w.keep _ _ h2 hs⟩)
    · exact .inr h2
  · exact .inr g2
theorem Kr.wr (k : Kr rL H H1) (n : H Da = none) (w : Wr Da H1 H2) : Kr rL H H2 := fun q o h hn => w.keep q o (k q o h hn) fun z => by rw [z, n] at h; cases h
theorem Kr.none (k : Kr rL H H1) (hd : DR K H1 rL sa ns) (n : H1 Da = none) : H Da = none := by
  cases e : H Da with
  | none => rfl
  | some o =>
    have hne : Da ≠ rL := fun z => by
      obtain ⟨xs, h1⟩ := hd.lst
      rw [z, h1] at n; cases n
    rw [k _ _ e hne] at n; cases n
theorem ek_if {b : Bool} {P1 : V → Hp → Prop} (hd : DR K H rL sa ns) (h : EvT tt σ H b) (h1 : b = true → ∀ H1, Ex H H1 → DR K H1 rL sa ns → EvK K ta σ H1 rL sa ns P1) (h2 : b = false → ∀ H1, Ex H H1 → DR K H1 rL sa ns → EvK K tb σ H1 rL sa ns P1) : EvK K (tIf tt ta tb) σ H rL sa ns P1 := fun Q q =>
  h H (Ex.refl H) _ fun H1 e1 => by
    cases b with
    | true => exact h1 rfl H1 e1 (hd.ex e1) Q fun v H' a b c => q v H' a b ((Kr.of e1).trans c)
    | false => exact h2 rfl H1 e1 (hd.ex e1) Q fun v H' a b c => q v H' a b ((Kr.of e1).trans c)
theorem ek_ofD {d : PyData} (hd : DR K H rL sa ns) (h : EvD K te σ H d) (i : ∀ v H', Dp K H' v d → Pd v H') : EvK K te σ H rL sa ns Pd := fun Q q => h H (Ex.refl H) _ fun v H' e r => q v H' (i v H' r) (hd.ex e) (Kr.of e)
theorem qk_asg {i : Nat} (h : EvK K te σ H rL sa ns Pd) (q : ∀ v H', Pd v H' → DR K H' rL sa ns → Kr rL H H' → tz D (σ.set i (some v)) H') : tSeq (tAsg te (gName i)) tz D σ H := h _ q
theorem sk_if {r : R2} (h : EvK K ta σ H rL sa ns Pd) (q : ∀ v H', Pd v H' → DR K H' rL sa ns → Kr rL H H' → tIfS (tTest (tOp r (tK v) tb)) tu tw D σ H') : tIfS (tTest (tOp r ta tb)) tu tw D σ H := h _ q
theorem qlb_asg {i : Nat} {B : List Addr} {rows : List (List PyData)} (h : EvLB K te σ H B rows) (q : ∀ Da vs H', H Da = none → Ex H H' → H' Da = some (.lst vs) → LB K H' (Da :: B) vs rows → tz D (σ.set i (some (.ref Da))) H') : tSeq (tAsg te (gName i)) tz D σ H := h _ q
theorem qk_par {i l : Nat} (ha : EvK K ta σ H rL sa ns Pd) (hb : ∀ H1, DR K H1 rL sa ns → Kr rL H H1 → EvK K tb σ H1 rL sa ns Pe) (q : ∀ v u H1 H', Pd v H1 → Pe u H' → DR K H' rL sa ns → Kr rL H H' → tz D ((σ.set i (some v)).set l (some u)) H') :
    tSeq (tPar i l (tCons ta (tCons tb tNil))) tz D σ H :=
  ha _ fun v H1 pv hd kr => hb H1 hd kr _ fun u H2 pu hd2 kr2 => ⟨v, u, rfl, q v u H1 H2 pv pu hd2 (kr.trans kr2)⟩
end
theorem q_setRow {σ : L2.St} {H : Hp} {B : List Addr} {te tb : TE} {tz : TS} {D : Ends} {k j : Nat} {Da : Addr} {vs : List V} {rows : List (List PyData)} {r : List PyData} (hB : Da ∈ B) (hBt : ∀ a ∈ B, H a ≠ none) (hD : H Da = some (.lst vs)) (hL : LB K H B vs rows) (fr : FlatRows rows) (hf : flatDs r = true) (hk : σ[k]? = some (some (.ref Da)))
    (h : EvN K te σ H r) (hi : EvD K tb σ H (.int (j : Int))) (hj : j < rows.length)
    (q : ∀ vs' H', Wr Da H H' → H' Da = some (.lst vs') → LB K H' B vs' (rows.set j r) → tz D σ H') : tSeq (tAsg te (gSub (tVar k) tb rSetL)) tz D σ H := s_setRow (D := { D with nx := tz D }) hB hBt hD hL fr hf hk h hi hj q
theorem cP_l {c : Fin p} (h : c ≠ 0) : (cP c).l = [c] := by
  show trimL [c] = [c]
  simp [trimL, h]
theorem dP_cP {c : Fin p} (h : c ≠ 0) : dP (cP c) = .tuple [dC c] := by unfold dP; rw [cP_l h]; rfl
def swapT (M : PT p) (a b : Nat) : PT p := fun i => M (if i = a then b else if i = b then a else i)
theorem tabP_swap {n m a b : Nat} {M : PT p} (ha : a < n) (hb : b < n) : ((tabP n m M).set a (rowP m (M b))).set b (rowP m (M a)) = tabP n m (swapT M a b) := by
  rw [tabP_set (R' := fun i j => if i = a then M b j else M i j) fun i j _ _ => rfl]
  refine tabP_set fun i j _ _ => ?_
  unfold swapT
  by_cases h1 : i = b
  · subst h1
    by_cases h2 : i = a
    · subst h2; simp
    · simp [h2]
  · by_cases h2 : i = a
    · subst h2; simp [h1]
    · simp [h1, h2]
theorem sp_swap {n m a b : Nat} {M : PT p} (ha : a < n) (hb : b < n) : Sp n m M (swapT M a b) := by
  refine sp_perm fun i hi => ?_
  by_cases h1 : i = a
  · refine ⟨b, hb, ?_⟩
    by_cases h2 : b = a
    · rw [if_pos h2, h1, h2]
    · rw [if_neg h2, if_pos rfl, h1]
  · by_cases h2 : i = b
    · exact ⟨a, ha, by rw [if_pos rfl, h2]⟩
    · exact ⟨i, hi, by rw [if_neg h1, if_neg h2]⟩
abbrev s_l_mover : Stmt := topS 52
theorem sc_l_mover : FnScope ["_law_row", "_law_p", "_law_many", "_law_found", "_law_turn", "_law_rows", "_law_other", "_law_at", "_law_step", "_law_factor", "_law_number", "_law_line", "_law_a", "_law_b"] ["_law_row", "_law_p", "_law_many"] (defScope s_l_mover) := ⟨rfl, rfl, rfl, by decide +kernel, rfl, by decide +kernel, by decide +kernel⟩
def spLMove (K : PySem.W.Frag) (p : Nat) [Pr p] : Sp := fun vs H Q _ => ∃ (rL sa : Addr) (ns : List Int) (n : Nat), vs = [.ref rL, .int (p : Int), .int (n : Int)] ∧ DR K H rL sa ns ∧ 1 ≤ n ∧ n ≤ 3 ∧
  ∀ (M : PT p) v H', (∀ i j, i < n → j < n → len (M i j) ≤ 5) → Sp n n (unitT : PT p) M → Dp K H' v (tupP n n M) → DR K H' rL sa ns → Kr rL H H' → Q v H'
theorem ok_l_mover (T : Bt mg) (D : DefAt K mg "_law_mover" s_l_mover ["_law_row", "_law_p", "_law_many"]) (O_l_taken : Ok P w K mg base "_law_taken" ["_law_row", "_law_many"] 1 (spTaken K)) (O_l_poly : Ok P w K mg base "_law_poly" ["_law_row", "_law_p", "_law_most"] 2 (spLPoly K p))
    (O_l_sum : Ok P w K mg base "_law_sum" ["_law_p", "_law_one", "_law_other"] 2 (spLSum K p)) (O_l_times : Ok P w K mg base "_law_times" ["_law_p", "_law_one", "_law_other"] 2 (spLTimes K p)) (O_l_p_unit : Ok P w K mg base "_law_p_unit" ["_law_many"] 1 (spLPUnit K p)) :
    Ok P w K mg base "_law_mover" ["_law_row", "_law_p", "_law_many"] 3 (spLMove K p) := by
  refine D.ok sc_l_mover (fun vs H Q E h => ?_) fun f0 cdv A outer s H vs Q E hr h => ?_
  · obtain ⟨rL, sa, ns, n, rfl, _⟩ := h
    rfl
  obtain ⟨rL, sa, ns, n, rfl, hd, n1, n3, q⟩ := h
  refine ⟨_, (pss_cons (ps_set (i := 3) sc_l_mover.nd rfl (Or.inl rfl) (pe_ok O_l_p_unit (hr.mono (by decide)) (by rfl) (pa_cons (pv 2) pa_nil)))
      (pss_cons (ps_for PassesOwn.never rfl (pi_range1 (by rfl) T.range (pa_cons (pe_op op_add pe_int (pe_ok O_l_taken (hr.mono (by decide)) (by rfl) (pa_cons (pv 0) (pa_cons pe_int pa_nil)))) pa_nil)) (pg_name (i := 4) sc_l_mover.nd rfl (Or.inl rfl)) (pss_cons (ps_setLc (i := 5) (own := [("_law_line", 11)]) (g := gName 11) (tt := tYes) rfl sc_l_mover.nd rfl rfl (sw_true rfl rfl rfl (by decide +kernel)) (kpi_tup (K := K) rfl (pv 3)) (blkOk_by (N := ["_law_row", "_law_p", "_law_many", "_law_found", "_law_turn", "_law_rows", "_law_other", "_law_at", "_law_step", "_law_factor", "_law_number", "_law_line", "_law_a", "_law_b"]) (sc := defScope s_l_mover) (by decide +kernel)) (fun _ _ _ _ _ => (pg_name (i := 11) sc_l_mover.nd rfl (Or.inl rfl) (hf := Or.inr rfl))) (fun _ _ _ _ _ => pts_nil) (fun _ _ _ _ _ => (pe_callTy (kList (K := K) rfl) (by rfl) T.list (by decide +kernel) (pa_cons (pv 11) pa_nil))))
      (pss_cons (ps_par (i := 7) (j := 8) rfl sc_l_mover.nd rfl rfl (by decide) rfl rfl (pa_cons (pe_ok O_l_taken (hr.mono (by decide)) (by rfl) (pa_cons (pv 0) (pa_cons (pv 2) pa_nil))) (pa_cons (pe_op op_add pe_int (pe_ok O_l_taken (hr.mono (by decide)) (by rfl) (pa_cons (pv 0) (pa_cons (pe_callB (call_max2 rfl) (by rfl) T.max (by decide +kernel) (pa_cons pe_int (pa_cons (pe_op op_sub (pv 2) pe_int) pa_nil))) pa_nil)))) pa_nil)) (by rfl))
      (pss_cons (ps_set (i := 6) sc_l_mover.nd rfl (Or.inl rfl) (pe_op op_mod (pe_callTy call_int1 (by rfl) T.int (by decide +kernel) (pa_cons (pe_op op_add (pv 7) (pv 8)) pa_nil)) (pv 2)))
      (pss_cons (ps_if (pt_cmpR op_ne (pv 6) (pv 7) (nomark _)) (pss_cons (ps_set (i := 9) sc_l_mover.nd rfl (Or.inr rfl) (pe_ok O_l_poly (hr.mono (by decide)) (by rfl) (pa_cons (pv 0) (pa_cons (pv 1) (pa_cons pe_int pa_nil)))))
      (pss_cons (ps_asg (pe_lc (own := [("_law_a", 12), ("_law_b", 13)]) (g := gTwo K 12 13) (tt := tYes) rfl sc_l_mover.nd (kpi_zipA (K := K) rfl (by rfl) T.zip (pa_cons (pe_ix (kIx (K := K) rfl) (pv 5) (pv 7) (fun _ _ => rfl)) (pa_cons (pe_ix (kIx (K := K) rfl) (pv 5) (pv 6) (fun _ _ => rfl)) pa_nil))) (blkOk_by (N := ["_law_row", "_law_p", "_law_many", "_law_found", "_law_turn", "_law_rows", "_law_other", "_law_at", "_law_step", "_law_factor", "_law_number", "_law_line", "_law_a", "_law_b"]) (sc := defScope s_l_mover) (by decide +kernel)) (fun _ _ _ _ _ => (kpg_two (K := K) (i := 12) (j := 13) rfl rfl sc_l_mover.nd rfl rfl rfl rfl)) (fun _ _ _ _ _ => pts_nil) (fun _ _ _ _ _ => (pe_ok O_l_sum (hr.mono (by decide)) (by rfl) (pa_cons (pv 1) (pa_cons (pv 12) (pa_cons (pe_ok O_l_times (hr.mono (by decide)) (by rfl) (pa_cons (pv 1) (pa_cons (pv 9) (pa_cons (pv 13) pa_nil)))) pa_nil)))))) (pg_sub (pv 5) (pv 7) set_list))
      (pss_one (ps_if (pt_cmpR op_eq (pe_ok O_l_taken (hr.mono (by decide)) (by rfl) (pa_cons (pv 0) (pa_cons pe_int pa_nil))) pe_int (nomark _)) (pss_one (ps_asg (pe_tup (pa_cons (pe_ix (kIx (K := K) rfl) (pv 5) (pv 6) (fun _ _ => rfl)) (pa_cons (pe_ix (kIx (K := K) rfl) (pv 5) (pv 7) (fun _ _ => rfl)) pa_nil))) (pg_tup rfl (pgs_cons (pg_sub (pv 5) (pv 7) set_list) (pgs_cons (pg_sub (pv 5) (pv 6) set_list) pgs_nil))))) pss_nil)))) (pss_cons (ps_set (i := 10) sc_l_mover.nd rfl (Or.inr rfl) (pe_ifExp (pt_cmpR op_gt (pv 1) pe_int (nomark _)) (pe_op op_add pe_int (pe_ok O_l_taken (hr.mono (by decide)) (by rfl) (pa_cons (pv 0) (pa_cons (pe_op op_sub (pv 1) pe_int) pa_nil)))) pe_int))
      (pss_one (ps_asg (pe_lc (own := [("_law_a", 12)]) (g := gName 12) (tt := tYes) rfl sc_l_mover.nd (kpi_list (K := K) rfl (pe_ix (kIx (K := K) rfl) (pv 5) (pv 7) (fun _ _ => rfl))) (blkOk_by (N := ["_law_row", "_law_p", "_law_many", "_law_found", "_law_turn", "_law_rows", "_law_other", "_law_at", "_law_step", "_law_factor", "_law_number", "_law_line", "_law_a", "_law_b"]) (sc := defScope s_l_mover) (by decide +kernel)) (fun _ _ _ _ _ => (pg_name (i := 12) sc_l_mover.nd rfl (Or.inl rfl) (hf := Or.inr rfl))) (fun _ _ _ _ _ => pts_nil) (fun _ _ _ _ _ => (pe_ok O_l_times (hr.mono (by decide)) (by rfl) (pa_cons (pv 1) (pa_cons (pe_tup (pa_cons (pv 10) pa_nil)) (pa_cons (pv 12) pa_nil)))))) (pg_sub (pv 5) (pv 7) set_list)))))
      (pss_one (ps_set (i := 3) sc_l_mover.nd rfl (Or.inl rfl) (pe_callTy (kTuple (K := K) rfl) (by rfl) T.tuple (by decide +kernel) (pa_cons (pe_lc (own := [("_law_line", 11)]) (g := gName 11) (tt := tYes) rfl sc_l_mover.nd (kpi_list (K := K) rfl (pv 5)) (blkOk_by (N := ["_law_row", "_law_p", "_law_many", "_law_found", "_law_turn", "_law_rows", "_law_other", "_law_at", "_law_step", "_law_factor", "_law_number", "_law_line", "_law_a", "_law_b"]) (sc := defScope s_l_mover) (by decide +kernel)) (fun _ _ _ _ _ => (pg_name (i := 11) sc_l_mover.nd rfl (Or.inl rfl) (hf := Or.inr rfl))) (fun _ _ _ _ _ => pts_nil) (fun _ _ _ _ _ => (pe_callTy (kTuple (K := K) rfl) (by rfl) T.tuple (by decide +kernel) (pa_cons (pv 11) pa_nil)))) pa_nil)))))))))
      (pss_one (ps_ret (pv 3))))), ?_⟩
  have hp5 := pr_lt p
  refine qd_asg (K := K) (d := tupP n n (unitT : PT p)) (ed_call n (eds_cons (ed_var rfl (.int _)) eds_nil) (by show n ≤ 100; omega)) fun v1 H1 e1 r1 => ?_
  have r1 : Dp K H1 v1 (tupP n n (unitT : PT p)) := r1
  show tSeq (tFor (iRng1 (tCons (tOp (rI0 fun i j => V.int (i + j)) (tC (V.int 2)) (tCall (spTaken K) [] E0 (tCons (tVar 0) (tCons (tC (V.int 3)) tNil)))) tNil)) (gName 4) _) _ _ _ _
  refine (ek_addI (K := K) (i := 2) (g := fun i j => i + j) (ek_taken (many := 3) rfl (hd.ex e1) ed_int (by decide) (by decide))) _ fun vm Hm ⟨mz, hmz, mz0, mz1⟩ hdm krm => ?_
  subst hmz
  have kr1 : Kr rL H Hm := (Kr.of e1).trans krm
  have rm := dp_exT (Kr.toT krm (hd.ex e1)) _ _ (tupP_flat _ _ _) r1
  show tSeq (tFor (iRng1 (tCons (tK (.int (2 + mz))) tNil)) (gName 4) _) _ _ _ _
  refine q_forG (K := K) (G := fun _ => True) (eg_rng1 (i := 2 + mz) (eds_cons (ed_K (.int _)) eds_nil) (by omega))
    (fun c σ' H' => Kr rL H H' ∧ DR K H' rL sa ns ∧ ∃ (M : PT p) (u : V) (x4 x5 x6 x7 x8 x9 x10 : Option V), (∀ i j, i < n → j < n → len (M i j) ≤ 1 + c) ∧ Sp n n (unitT : PT p) M ∧ Dp K H' u (tupP n n M) ∧ σ' = [some (.ref rL), some (.int (p : Int)), some (.int (n : Int)), some u, x4, x5, x6, x7, x8, x9, x10, none, none, none])
    (fun H3 e3 => ⟨kr1.trans (Kr.of e3), hdm.ex e3, unitT, v1, none, none, none, none, none, none, none, fun i j _ _ => len_unit i j, Sp.self, dp_ex e3 _ _ rm, rfl⟩) (fun _ _ _ _ _ => True.intro)
    (fun c d z σ' Ha Hb hdd ⟨kra, hda, M, u, x4, x5, x6, x7, x8, x9, x10, lM, sM, ru, hσ⟩ eb rz => ?_) (fun σ' Ha ⟨kra, hda, M, u, x4, x5, x6, x7, x8, x9, x10, lM, sM, ru, hσ⟩ => ?_)
  · have hc4 : c < 4 := by
      have := (List.getElem?_eq_some_iff.mp hdd).1
      rw [List.length_map, List.length_range] at this
      omega
    subst hσ
    have krb := kra.trans (Kr.of eb)
    have hdb := hda.ex eb
    have rub := dp_ex eb _ _ ru
    rw [tupP_eq] at rub
    obtain ⟨xs, hxs⟩ := hdb.lst
    -- rows
    refine qlb_asg (K := K) (B := [rL]) (rows := tabP n n M) ?_ fun Da vs0 Hc nDb ec hDc hLc => ?_
    · exact elb_lc (K := K) (α := Nat) (by intro a ha; rw [List.mem_singleton.mp ha, hxs]; exact fun z => nomatch z) (List.range n) (fun i => .tuple (rowP n (M i))) (fun i => rowP n (M i)) (ei_tup (ed_var rfl rub)) (by rw [List.length_range]; omega) (fun i _ => rowP_flat _ _) (fun x => rfl) (fun i x H' hi e rx => en_listT (ed_var rfl rx))
    have nDH : H Da = none := Kr.none krb hdb nDb
    have hDr : Da ≠ rL := fun z => by rw [z, hxs] at nDb; cases nDb
    have krc := krb.trans (Kr.of ec)
    have hdc := hdb.ex ec
    -- at, step
    refine qk_par (K := K) (ek_taken (many := (n : Int)) rfl hdc (ed_var rfl (.int _)) (by omega) (by omega)) (fun H1 hd1 kr1 => ek_addI (i := 1) (g := fun i j => i + j) (ek_taken (many := max 1 ((n : Int) - 1)) rfl hd1 (ed_max2 ed_int (ed_op0 (ed_var rfl (.int _)) ed_int)) (by omega) (by omega))) fun va vt Hx Hd' ⟨a, ha, a0, a1⟩ ⟨t, ht, t0, t1⟩ hdd' krd => ?_
    subst ha; subst ht
    obtain ⟨a, rfl⟩ : ∃ k : Nat, a = (k : Int) := ⟨a.toNat, by omega⟩
    have hanl : a < n := by omega
    have bkeep : ∀ {H2 H3 : Hp} {vs : List V} {N : PT p}, DR K H2 rL sa ns → Kr rL H2 H3 → H2 Da = some (.lst vs) → LB K H2 [Da, rL] vs (tabP n n N) → LB K H3 [Da, rL] vs (tabP n n N) := fun {H2 H3 vs N} hd2 k h1 h2 => by
      refine h2.keepB (tabP_flat _ _ _) (fun q o hq hB => k q o hq fun z => hB (by rw [z]; simp)) fun q hq => ?_
      rcases List.mem_cons.mp hq with rfl | hq
      · exact .inl ⟨_, h1⟩
      · rw [List.mem_singleton.mp hq]
        obtain ⟨ys, hy⟩ := hd2.lst
        exact .inl ⟨_, hy⟩
    have hLd := bkeep hdc krd hDc hLc
    have hDd := krd _ _ hDc hDr
    replace krd := krc.trans krd
    clear hLc hDc krc
    -- other
    refine qd_asg (K := K) (d := .int (((a : Int) + (1 + t)) % (n : Int))) (ed_opC (ed_int1 (ed_op0 (ed_var rfl (.int _)) (ed_var rfl (.int _)))) (ed_var rfl (.int _)) (by omega)) fun vo He ee re => ?_
    obtain rfl := dp_int re
    have ho0 : 0 ≤ ((a : Int) + (1 + t)) % (n : Int) := Int.emod_nonneg _ (by omega)
    have ho1 : ((a : Int) + (1 + t)) % (n : Int) < n := Int.emod_lt_of_pos _ (by omega)
    generalize ((a : Int) + (1 + t)) % (n : Int) = o at ho0 ho1 re ⊢
    obtain ⟨o, rfl⟩ : ∃ k : Nat, o = (k : Int) := ⟨o.toNat, by omega⟩
    have honl : o < n := by omega
    replace hLd := hLd.ex ee
    replace hDd := ee _ _ hDd
    replace krd := krd.trans (Kr.of ee)
    replace hdd' := hdd'.ex ee
    clear ee
    have dD : ∀ {H' : Hp} {vs : List V} {N : PT p}, H' Da = some (.lst vs) → LB K H' [Da, rL] vs (tabP n n N) → Dp K H' (.ref Da) (.list ((tabP n n N).map .list)) := fun h1 h2 => .lst (sq_of h1) h2.dp
    have bt : ∀ {H' : Hp} {vs' : List V}, DR K H' rL sa ns → H' Da = some (.lst vs') → ∀ a ∈ [Da, rL], H' a ≠ none := fun h0 h1 a ha => by
      rcases List.mem_cons.mp ha with rfl | ha
      · rw [h1]; exact fun z => nomatch z
      · obtain ⟨ys, hy⟩ := h0.lst
        rw [List.mem_singleton.mp ha, hy]; exact fun z => nomatch z
    have fin : ∀ {D : Ends} {H2 : Hp} {σ2 : L2.St} {vs : List V} {N : PT p} (y6 y7 y8 y9 y10 : Option V), σ2 = [some (.ref rL), some (.int (p : Int)), some (.int (n : Int)), some u, some z, some (.ref Da), y6, y7, y8, y9, y10, none, none, none] → Kr rL H H2 → DR K H2 rL sa ns → H2 Da = some (.lst vs) → LB K H2 [Da, rL] vs (tabP n n N) → (∀ i j, i < n → j < n → len (N i j) ≤ 1 + (c + 1)) → Sp n n (unitT : PT p) N →
        (∀ σ3 H3, (Kr rL H H3 ∧ DR K H3 rL sa ns ∧ ∃ (M : PT p) (u : V) (x4 x5 x6 x7 x8 x9 x10 : Option V), (∀ i j, i < n → j < n → len (M i j) ≤ 1 + (c + 1)) ∧ Sp n n (unitT : PT p) M ∧ Dp K H3 u (tupP n n M) ∧ σ3 = [some (.ref rL), some (.int (p : Int)), some (.int (n : Int)), some u, x4, x5, x6, x7, x8, x9, x10, none, none, none]) → D.nx σ3 H3) →
        tAsg (tCB (KR.rTupS K) (tCons (tLc (iList K (tVar 5)) (gName 11) tYes (tCB (KR.rTupS K) (tCons (tVar 11) tNil)) [11]) tNil)) (gName 3) D σ2 H2 := fun {D H2 σ2 vs N} y6 y7 y8 y9 y10 hs k2 d2 h1 h2 lN sN qq => by
      subst hs
      refine sd_asg (K := K) (d := tupP n n N) (ed_tupleL (EvN.toD (en_is (en_lc0 (List.range n) (fun i => .list (rowP n (N i))) (fun i => .tuple (rowP n (N i))) (ei_list (ed_is (ed_var rfl (dD h1 h2)) (by rw [tabP_lst]))) (by rw [List.length_range]; omega) (fun i _ => by simp only [flatD]; exact rowP_flat _ _) (fun x => rfl)
        fun i v' H' _ e r => ed_tupleL (ed_var rfl r)) (by rw [tabP_tup])))) fun u' H3 e3 r3 => ?_
      exact qq _ _ ⟨k2.trans (Kr.of e3), d2.ex e3, N, u', _, _, _, _, _, _, _, lN, sN, r3, rfl⟩
    refine q_if' (b := !decide ((o : Int) = (a : Int))) (KR.et_test (K := K) (ed_neI (ed_var rfl (.int _)) (ed_var rfl (.int _)))) (fun hb Hf ef => ?_) (fun hb Hf ef => ?_)
    · have hoa : a ≠ o := fun z => by rw [z] at hb; simp at hb
      have hLf := hLd.ex ef
      have hDf := ef _ _ hDd
      have krf := krd.trans (Kr.of ef)
      have hdf := hdd'.ex ef
      -- factor
      refine qk_asg (K := K) (ek_poly (m := 1) rfl rfl hdf ed_int (by decide)) fun vf Hg ⟨f, lf, rf⟩ hdg krg => ?_
      have hLg := bkeep hdf krg hDf hLf
      have hDg := krg _ _ hDf hDr
      replace krg := krf.trans krg
      clear hLf hDf krf
      refine q_setRow (K := K) (B := [Da, rL]) (Da := Da) (r := rowP n fun j => M a j + f * M o j) (by simp) (bt hdg hDg) hDg hLg (tabP_flat _ _ _) (rowP_flat _ _) rfl ?_ (ed_var rfl (.int _)) (by rw [tabP_len]; exact hanl) fun vs2 Hh wh hDh hLh => ?_
      · refine en_is (en_lcP0 ((List.range n).map fun j => (j, j)) (fun j => dP (M a j)) (fun j => dP (M o j)) (fun q => dP (M a q.1 + f * M o q.1)) ?_ (by simp; omega) (fun q _ => flat_dP _) (fun x y => rfl)
          fun q v1 v2 H2 hq e r1 r2 => ?_) (by unfold rowP; rw [List.map_map]; rfl)
        · have hz := ei_zipL (K := K) (H := Hg) (eds_cons (ed_ixL (k := a) (tb := tVar 7) (σ := [some (.ref rL), some (.int (p : Int)), some (.int (n : Int)), some u, some z, some (.ref Da), some (.int (o : Int)), some (.int (a : Int)), some (.int (1 + t)), some vf, x10, none, none, none]) (ta := tVar 5) (ed_var rfl (dD hDg hLg)) (ed_var rfl (.int _)) rfl (by rw [List.getElem?_map, tabP_at hanl]; rfl)) (eds_cons (ed_ixL (k := o) (tb := tVar 6) (ta := tVar 5) (ed_var rfl (dD hDg hLg)) (ed_var rfl (.int _)) rfl (by rw [List.getElem?_map, tabP_at honl]; rfl)) eds_nil))
          unfold rowP at hz
          rw [zipWith_same] at hz
          rw [List.map_map]
          exact hz
        · obtain ⟨j, hj, rfl⟩ := List.mem_map.mp hq
          have hj := List.mem_range.mp hj
          have l1 := lM a j hanl hj
          have l2 := lM o j honl hj
          have l3 := len_mul_le f (M o j)
          exact ed_call (M a j, f * M o j) (eds_cons (ed_var rfl (.int _)) (eds_cons (ed_var rfl r1) (eds_cons (ed_call (f, M o j) (eds_cons (ed_var rfl (.int _)) (eds_cons (ed_var rfl (dp_ex e _ _ rf)) (eds_cons (ed_var rfl r2) eds_nil))) ⟨by show len f ≤ 5000; omega, by show len (M o j) ≤ 5000; omega⟩) eds_nil)))
            ⟨by show len (M a j) ≤ 10000; omega, by show len (f * M o j) ≤ 10000; omega⟩
      rw [tabP_set (R' := takeT M a o (-f)) fun i j _ _ => by unfold takeT; split <;> grind] at hLh
      have krh := krg.wr nDH wh
      have hdh := DR.wr hd nDH hdg wh
      have lN : ∀ i j, i < n → j < n → len (takeT M a o (-f) i j) ≤ 1 + (c + 1) := fun i j hi hj => by
        unfold takeT
        have l0 := lM i j hi hj
        split
        · have l1 := lM a j hanl hj
          have l2 := lM o j honl hj
          have l3 := len_mul_le (-f) (M o j)
          have l4 := len_sub (M a j) (-f * M o j)
          rw [len_neg] at l3
          omega
        · omega
      have sN : Sp n n (unitT : PT p) (takeT M a o (-f)) := sM.trans (sp_take hanl honl hoa)
      -- swap
      refine sk_if (K := K) (ek_taken (many := 3) rfl hdh ed_int (by decide) (by decide)) fun vq Hi ⟨zq, hzq, zq0, zq1⟩ hdi kri => ?_
      subst hzq
      have hLi := bkeep hdh kri hDh hLh
      have hDi := kri _ _ hDh hDr
      replace kri := krh.trans kri
      generalize takeT M a o (-f) = N at lN sN hLi
      refine s_if (b := decide (zq = 0)) (KR.et_test (K := K) (ed_eqI (ed_K (.int _)) ed_int)) (fun hb Hj ej => ?_) (fun hb Hj ej => ?_)
      · have hLj := hLi.ex ej
        have hDj := ej _ _ hDi
        have krj := kri.trans (Kr.of ej)
        have hdj := hdi.ex ej
        obtain ⟨va, hva⟩ : ∃ va, vs2[a]? = some va := ⟨_, List.getElem?_eq_getElem (by rw [hLj.1, tabP_len]; exact hanl)⟩
        obtain ⟨vb, hvb⟩ : ∃ vb, vs2[o]? = some vb := ⟨_, List.getElem?_eq_getElem (by rw [hLj.1, tabP_len]; exact honl)⟩
        show tAsg _ _ _ _ _
        refine s_swap (K := K) (a := a) (b := o) (i1 := (o : Int)) (i2 := (a : Int)) (i3 := (a : Int)) (i4 := (o : Int)) hDj rfl (ed_var rfl (.int _)) (ed_var rfl (.int _)) (ed_var rfl (.int _)) (ed_var rfl (.int _)) hva hvb fun Hk wk hDk => ?_
        have hLk : LB K Hk [Da, rL] ((vs2.set a vb).set o va) (tabP n n (swapT N a o)) := by
          have := (hLj.swap (tabP_at hanl) (tabP_at honl) hva hvb).flat (H' := Hk) (fun r hr => by
            rw [tabP_swap hanl honl] at hr; exact tabP_flat _ _ _ r hr) (wk.exT hDj) fun q o hq hn => wk.keep q o hq fun z => hn (by rw [z]; simp)
          rw [tabP_swap hanl honl] at this
          exact this
        exact fin _ _ _ _ _ rfl (krj.wr nDH wk) (DR.wr hd nDH hdj wk) hDk hLk (fun i j hi hj => by
          unfold swapT
          split
          · exact lN _ _ honl hj
          · split
            · exact lN _ _ hanl hj
            · exact lN _ _ hi hj) (sN.trans (sp_swap hanl honl)) fun _ _ x => x
      · exact fin _ _ _ _ _ rfl (kri.trans (Kr.of ej)) (hdi.ex ej) (ej _ _ hDi) (hLi.ex ej) lN sN fun _ _ x => x
    · have hLf := hLd.ex ef
      have hDf := ef _ _ hDd
      have krf := krd.trans (Kr.of ef)
      have hdf := hdd'.ex ef
      -- number
      refine qk_asg (K := K) (Pd := fun v _ => ∃ e : Fin p, e ≠ 0 ∧ v = .int (e.val : Int)) (ek_if (b := decide ((p : Int) > 2)) hdf (KR.et_test (K := K) (ed_opB (ed_var rfl (.int _)) ed_int)) (fun hb H1 e1 hd1 => ?_) (fun hb H1 e1 hd1 => ?_)) fun vf Hg ⟨e, e0, hvf⟩ hdg krg => ?_
      · have hp2 := of_decide_eq_true hb
        refine (ek_addI (i := 1) (g := fun i j => i + j) (ek_taken (many := (p : Int) - 1) rfl hd1 (ed_op0 (ed_var rfl (.int _)) ed_int) (by omega) (by omega))).imp fun v H' ⟨y, hy, y0, y1⟩ => ?_
        have hy2 : (1 + y).toNat < p := by omega
        refine ⟨⟨(1 + y).toNat, hy2⟩, fun z => ?_, ?_⟩
        · have := congrArg Fin.val z
          simp at this
          omega
        · rw [hy]; show V.int (1 + y) = V.int (((1 + y).toNat : Nat) : Int); congr 1; omega
      · refine ek_ofD (d := .int 1) hd1 ed_int fun v H' r => ⟨1, f_one_ne, ?_⟩
        have h1 := one_dC (p := p)
        unfold dC at h1
        injection h1 with h1
        rw [dp_int r, h1]
      subst hvf
      have hLg := bkeep hdf krg hDf hLf
      have hDg := krg _ _ hDf hDr
      replace krg := krf.trans krg
      clear hLf hDf krf
      refine s_setRow (K := K) (B := [Da, rL]) (Da := Da) (r := rowP n fun j => cP e * M a j) (by simp) (bt hdg hDg) hDg hLg (tabP_flat _ _ _) (rowP_flat _ _) rfl ?_ (ed_var rfl (.int _)) (by rw [tabP_len]; exact hanl) fun vs2 Hh wh hDh hLh => ?_
      · refine en_is (en_lc0 (List.range n) (fun j => dP (M a j)) (fun j => dP (cP e * M a j)) (ei_list (ed_is (ed_ixL (k := a) (ed_var rfl (dD hDg hLg)) (ed_var rfl (.int _)) rfl (by rw [List.getElem?_map, tabP_at hanl]; rfl)) rfl)) (by rw [List.length_range]; omega) (fun j _ => flat_dP _) (fun x => rfl)
          fun j v' H2 hj e' r => ?_) rfl
        have l1 := lM a j hanl (List.mem_range.mp hj)
        have l2 := len_c e0
        exact ed_call (cP e, M a j) (eds_cons (ed_var rfl (.int _)) (eds_cons (ed_is (ed_tup (eds_cons (ed_var rfl (.int _)) eds_nil) (by simp)) (dP_cP e0).symm) (eds_cons (ed_var rfl r) eds_nil))) ⟨by show len (cP e) ≤ 5000; omega, by show len (M a j) ≤ 5000; omega⟩
      rw [tabP_set (R' := stretchT M a e) fun i j _ _ => by unfold stretchT; split <;> simp_all] at hLh
      exact fin _ _ _ _ _ rfl (krg.wr nDH wh) (DR.wr hd nDH hdg wh) hDh hLh (fun i j hi hj => by
        have l0 := lM i j hi hj
        unfold stretchT
        split
        · rw [len_cmul e0]; omega
        · omega) (sM.trans (sp_stretch e0)) fun _ _ x => x
  · subst hσ
    refine sd_ret (K := K) (ed_var rfl ru) fun v5 H5 e5 r5 => q M v5 H5 (fun i j hi hj => ?_) sM r5 (hda.ex e5) (kra.trans (Kr.of e5))
    have := lM i j hi hj
    rw [List.length_map, List.length_range] at this
    omega
end
end KW
end
section
set_option Elab.async false
set_option linter.all false
set_option maxRecDepth 100000
set_option maxHeartbeats 4000000
/-! The law. -/
namespace KW
open PySem PySem.Spec PyProof.Rows L2 Evl KR K18 KX LamX
section math
variable {p : Nat} [hp : Pr p]
/-- what the law holds against the degree of x times the form -/
def dueL (w c : Nat) (F : PT p) (X : Nat → Po p) : List Int := ((List.range c).filter fun i => !decide (X i = 0)).map fun i => (len (X i) : Int) - 1 + ((rl w (F i) : Int) - 1)
theorem due_max {n w c : Nat} {F : PT p} (R : Red n w c F) (X : Nat → Po p) :
    ((rl w (fun j => SP n fun i => X i * F i j) : Int) - 1) ∈ (-1 :: dueL w c F X) ∧ ∀ y ∈ (-1 :: dueL w c F X), y ≤ ((rl w (fun j => SP n fun i => X i * F i j) : Int) - 1) := by
  by_cases h : ∃ i, i < c ∧ X i ≠ 0
  · obtain ⟨i, hi, hx, top⟩ := top_at (c := c) (P := fun i => X i ≠ 0) (f := fun i => len (X i) + rl w (F i)) h
    have h1 := len_ne hx
    have h2 := R.pos i hi
    have key := pred R (D := len (X i) + rl w (F i) - 1) (x := X) (fun k hk hxk => by have := top k hk hxk; omega) ⟨i, hi, hx, by omega⟩
    rw [key]
    refine ⟨List.mem_cons_of_mem _ (List.mem_map.mpr ⟨i, List.mem_filter.mpr ⟨List.mem_range.mpr hi, by simp [hx]⟩, by omega⟩), fun y hy => ?_⟩
    rcases List.mem_cons.mp hy with rfl | hy
    · omega
    · obtain ⟨k, hk, rfl⟩ := List.mem_map.mp hy
      obtain ⟨hk1, hk2⟩ := List.mem_filter.mp hk
      have hk1 := List.mem_range.mp hk1
      have hxk : X k ≠ 0 := by simpa using hk2
      have := top k hk1 hxk
      omega
  · have h0 : ∀ i, i < c → X i = 0 := fun i hi => Classical.byContradiction fun z => h ⟨i, hi, z⟩
    have hz : rl w (fun j => SP n fun i => X i * F i j) = 0 := Nat.le_antisymm (rl_le fun j hj => by
      rw [SP_zero fun i hi => ?_, len_zero]
      · exact Nat.le_refl _
      · by_cases hc : i < c
        · rw [h0 i hc]; grind
        · rw [rl_zero (R.zero i (by omega) hi) j hj]; grind) (Nat.zero_le _)
    have hd : dueL w c F X = [] := by
      unfold dueL
      rw [List.filter_eq_nil_iff.mpr fun i hi => by simp [h0 i (List.mem_range.mp hi)]]; rfl
    rw [hz, hd]
    refine ⟨by simp, fun y hy => ?_⟩
    rw [List.mem_singleton.mp hy]; decide
def degL (w c : Nat) (F : PT p) : List Int := (List.range c).map fun i => (rl w (F i) : Int) - 1
/-- the degrees of two forms with one span -/
theorem degs_eq {n w c d : Nat} {F G : PT p} (hn : n ≤ 3) (RF : Red n w c F) (RG : Red n w d G) (h1 : Sp n w G F) (h2 : Sp n w F G) :
    ((List.range d).map fun i => PyData.int ((rl w (G i) : Int) - 1)) = (degL w c F).map PyData.int := by
  obtain ⟨rfl, h⟩ := deg_unique hn RF RG h1 h2
  unfold degL
  rw [List.map_map]
  exact List.map_congr_left fun i hi => by show PyData.int ((rl w (G i) : Int) - 1) = PyData.int ((rl w (F i) : Int) - 1); rw [h i (List.mem_range.mp hi)]
theorem red_filter {n w c : Nat} {F : PT p} (R : Red n w c F) : (List.range n).filter (fun i => decide (0 < rl w (F i))) = List.range c := by
  have hsp : ∀ m, m ≤ n → (List.range m).filter (fun i => decide (0 < rl w (F i))) = List.range (min m c) := fun m => by
    induction m with
    | zero => intro _; simp
    | succ m ih =>
      intro hm
      rw [List.range_succ, List.filter_append, ih (by omega)]
      by_cases h : m < c
      · have := R.pos m h
        rw [show min (m + 1) c = min m c + 1 by omega, List.range_succ, show min m c = m by omega]
        simp [this]
      · have := R.zero m (by omega) (by omega)
        rw [show min (m + 1) c = min m c by omega]
        simp [this]
  rw [hsp n (Nat.le_refl _), Nat.min_eq_right R.cn]
end math
section
variable {P : Program} {w : World} {K : PySem.W.Frag} {mg : Str → Option Value} {base : Heap}
/-- a promise at any of the primes -/
abbrev spA (sp : (p : Nat) → Pr p → Sp) : Sp := fun vs H Q E => ∃ i : {p : Nat // Pr p}, sp i.1 i.2 vs H Q E
theorem okA {x : Str} {ps : List Str} {k : Nat} {sp : (p : Nat) → Pr p → Sp} (h : ∀ (p : Nat) (hp : Pr p), Ok P w K mg base x ps k (sp p hp)) : Ok P w K mg base x ps k (spA sp) :=
  Ok.any (ι := {p : Nat // Pr p}) ⟨2, pr2⟩ fun i => h i.1 i.2
section
variable {σ : L2.St} {H H1 H2 : Hp} {rL sa Da : Addr} {ns : List Int} {te ta tb tc : TE} {wi : TI} {k j : Nat} {Pd Pe Pb Pc : V → Hp → Prop} {Q : VK} {tt : TT} {t tu tw tz : TS} {D : Ends} {ds es : List PyData}
theorem q_join (Post : L2.St → Hp → Prop) (h : (∀ σ' H', Post σ' H' → tz D σ' H') → t { D with nx := tz D } σ H) (q : ∀ σ' H', Post σ' H' → tz D σ' H') : tSeq t tz D σ H := h q
theorem tabs_kr {T : List (Addr × Str)} (k : Kr rL H H1) (hd : DR K H rL sa ns) (t : Tabs T H) : Tabs T H1 := tabs_keep (fun q o hq n1 n2 => k q o hq fun z => by
  obtain ⟨xs, h1⟩ := hd.lst
  rw [z, h1] at hq; exact n1 _ (Option.some.inj hq).symm) t
theorem DR.extN (h : DR K H rL sa ns) (e : ExtN H H1) : DR K H1 rL sa ns := h.keep fun q o hq n => e q o hq n
/-- a call at a known prime -/
theorem ed_callA {p : Nat} [hp : Pr p] {sp : (p : Nat) → Pr p → Sp} {α : Type} {arg : α → List PyData} {pre : α → Prop} {res : α → PyData} {ta : TA} (a : α) (hsp : sp p hp = spF K arg pre res := by rfl) (h : EvDs K ta σ H (arg a)) (hpre : pre a) : EvD K (tCall (spA sp) [] E0 ta) σ H (res a) := fun H1 e Q q =>
  h H1 e _ fun vs H2 e2 r => ⟨⟨p, hp⟩, by
    show sp p hp _ _ _ _
    rw [hsp]
    exact ⟨a, hpre, by rw [List.append_nil]; exact r, fun v H3 e3 s => q v H3 (e2.trans e3) s⟩⟩
/-- a drawn table -/
theorem ek_tableA {p : Nat} [hp : Pr p] {th tw tm : TE} {C1 C2 : Nat → Prop} {m : Nat} (h0 : σ[k]? = some (some (.ref rL))) (h1 : σ[j]? = some (some (.int (p : Int)))) (hth : EvK K th σ H rL sa ns (fun v _ => ∃ a : Nat, v = .int (a : Int) ∧ C1 a))
    (htw : ∀ H1, DR K H1 rL sa ns → Kr rL H H1 → EvK K tw σ H1 rL sa ns (fun v _ => ∃ b : Nat, v = .int (b : Int) ∧ C2 b)) (htm : ∀ H1, EvD K tm σ H1 (.int (m : Int))) (m3 : m ≤ 3) (c1 : ∀ a, C1 a → a ≤ 100) (c2 : ∀ b, C2 b → b ≤ 100) :
    EvK K (tCall (spA fun p hp => @spLTable K p hp) [] E0 (tCons (tVar k) (tCons (tVar j) (tCons th (tCons tw (tCons tm tNil)))))) σ H rL sa ns (fun v H' => ∃ (a b : Nat) (R : PT p), C1 a ∧ C2 b ∧ (∀ i j, i < a → j < b → len (R i j) ≤ m + 1) ∧ Dp K H' v (tupP a b R)) := fun Q q =>
  ⟨_, h0, _, h1, hth _ fun v1 H1 ⟨a, ha, ca⟩ hd1 k1 => htw H1 hd1 k1 _ fun v2 H2 ⟨b, hb, cb⟩ hd2 k2 => htm H2 H2 (Ex.refl _) _ fun v3 H3 e3 r3 => by
    subst ha; subst hb
    obtain rfl := dp_int r3
    exact ⟨⟨p, hp⟩, rL, sa, ns, a, b, m, rfl, hd2.ex e3, m3, c1 a ca, c2 b cb, fun R v H' l r d k => q v H' ⟨a, b, R, ca, cb, l, r⟩ d (k1.trans (k2.trans ((Kr.of e3).trans k)))⟩⟩
/-- a product of what is drawn -/
theorem ek_prodA {p : Nat} [hp : Pr p] {n q m : Nat} {CA CB : PT p → Prop} (h2 : σ[j]? = some (some (.int (p : Int)))) (hb : EvK K tb σ H rL sa ns (fun v H' => ∃ A : PT p, CA A ∧ Dp K H' v (tupP n q A)))
    (hc : ∀ H1, DR K H1 rL sa ns → Kr rL H H1 → EvK K tc σ H1 rL sa ns (fun v H' => ∃ B : PT p, CB B ∧ Dp K H' v (tupP q m B))) (q1 : 1 ≤ q) (n2 : n ≤ 100) (q2 : q ≤ 100) (m2 : m ≤ 100)
    (la : ∀ A : PT p, CA A → ∀ i j, i < n → j < q → len (A i j) ≤ 3000) (lb : ∀ B : PT p, CB B → ∀ i j, i < q → j < m → len (B i j) ≤ 3000) :
    EvK K (tCall (spA fun p hp => @spLProd K p hp) [] E0 (tCons (tVar j) (tCons tb (tCons tc tNil)))) σ H rL sa ns (fun v H' => ∃ A B : PT p, CA A ∧ CB B ∧ Dp K H' v (tupP n m (mulT q A B))) := fun Q q' =>
  ⟨_, h2, hb _ fun v1 H1 ⟨A, ca, r1⟩ hd1 k1 => hc H1 hd1 k1 _ fun v2 H2 ⟨B, cb, r2⟩ hd2 k2 =>
    ⟨⟨p, hp⟩, (n, q, m, A, B), ⟨q1, n2, q2, m2, la A ca, lb B cb⟩, .cons (.int _) (.cons (dp_exT (Kr.toT k2 hd1) _ _ (tupP_flat _ _ _) r1) (.cons r2 .nil)), fun v H3 e3 r3 => q' v H3 ⟨A, B, ca, cb, r3⟩ (hd2.ex e3) (k1.trans (k2.trans (Kr.of e3)))⟩⟩
/-- a list of what is drawn, over a tuple that stands -/
theorem ek_lcT {n : Nat} {vs : List Nat} {Good : PyData → Prop} (hdr : DR K H rL sa ns) (hI : EvIG K wi σ H (fun H' => DR K H' rL sa ns ∧ Kr rL H H') ds) (hn : ds.length = n) (hn2 : n ≤ 1000) (hw : ∀ x, wipe ((wipe σ vs).set j (some x)) vs = wipe σ vs)
    (helt : ∀ (i : Nat) x H', i < n → DR K H' rL sa ns → Kr rL H H' → EvK K te ((wipe σ vs).set j (some x)) H' rL sa ns (fun v H'' => ∃ d, Good d ∧ flatD d = true ∧ Dp K H'' v d)) :
    EvK K (tLc wi (gName j) tYes te vs) σ H rL sa ns (fun v H' => ∃ (L : Addr) (acc : List V) (es : List PyData), v = .ref L ∧ H L = none ∧ H' L = some (.lst acc) ∧ es.length = n ∧ (∀ d ∈ es, Good d) ∧ flatDs es = true ∧ DpAll K H' acc es) := fun Q q => by
  refine ev_lcG hI (fun Dl i H' => H Dl = none ∧ DR K H' rL sa ns ∧ Kr rL H H' ∧ ∃ (acc : List V) (es : List PyData), H' Dl = some (.lst acc) ∧ es.length = i ∧ (∀ d ∈ es, Good d) ∧ flatDs es = true ∧ DpAll K H' acc es)
    (fun H1 Dl e nD => ⟨fresh_back e nD, (hdr.ex e).ex (Ex.new nD), Kr.of (e.trans (Ex.new nD)), [], [], upd_same, rfl, fun d hd => by simp at hd, rfl, .nil⟩) (fun _ _ _ _ h => ⟨h.2.1, h.2.2.1⟩)
    (fun Dl i d x H' H'' hd ⟨nD, hdr', kr, acc, es, hD, hl, hg, hf, ha⟩ e r => ?_) fun Dl H' ⟨nD, hdr', kr, acc, es, hD, hl, hg, hf, ha⟩ => ?_
  · have hi : i < n := by rw [← hn]; exact (List.getElem?_eq_some_iff.mp hd).1
    refine ⟨hw x, ?_⟩
    show te _ H'' _
    refine helt i x H'' hi (hdr'.ex e) (kr.trans (Kr.of e)) _ fun y H4 ⟨dy, gy, fy, ry⟩ hdr4 kr4 => ?_
    have hDr : Dl ≠ rL := fun z => by
      obtain ⟨xs, h1⟩ := hdr.lst
      rw [z, h1] at nD; cases nD
    have hD4 : H4 Dl = some (.lst acc) := kr4 _ _ (e _ _ hD) hDr
    have ha4 : DpAll K H4 acc es := dpA_exT (Kr.toT kr4 (hdr'.ex e)) _ _ hf (dpA_ex e _ _ ha)
    have hal := dpA_len ha
    have hx := exT_lst (ys := acc ++ [y]) hD4
    refine ⟨acc, hD4, sz_lt (by omega), nD, ?_, fun q o hq hne => ?_, acc ++ [y], es ++ [dy], upd_same, by rw [List.length_append, hl]; rfl, fun d hd => ?_, ?_, dpA_app (dpA_exT hx _ _ hf ha4) (.cons (dp_exT hx _ _ fy ry) .nil)⟩
    · exact hdr.upd nD hdr4
    · rw [upd_ne (fun z => by rw [z, nD] at hq; cases hq)]
      exact (kr.trans ((Kr.of e).trans kr4)) q o hq hne
    · rcases List.mem_append.mp hd with hd | hd
      · exact hg d hd
      · obtain rfl := List.mem_singleton.mp hd; exact gy
    · have : ∀ l : List PyData, flatDs l = true → flatDs (l ++ [dy]) = true := fun l => by
        induction l with
        | nil => intro _; simp [flatDs, fy]
        | cons a l ih => intro h; simp [flatDs] at h ⊢; exact ⟨h.1, ih h.2⟩
      exact this es hf
  · exact q _ H' ⟨Dl, acc, es, rfl, nD, hD, by rw [hl, hn], hg, hf, ha⟩ hdr' kr
theorem ek_polyA {p : Nat} [hp : Pr p] {tm : TE} {m : Nat} (h0 : σ[k]? = some (some (.ref rL))) (h1 : σ[j]? = some (some (.int (p : Int)))) (hd : DR K H rL sa ns) (hm : EvD K tm σ H (.int (m : Int))) (m3 : m ≤ 3) :
    EvK K (tCall (spA fun p hp => @spLPoly K p hp) [] E0 (tCons (tVar k) (tCons (tVar j) (tCons tm tNil)))) σ H rL sa ns (fun v H' => ∃ f : Po p, len f ≤ m + 1 ∧ Dp K H' v (dP f)) := fun Q q =>
  ⟨_, h0, _, h1, hm H (Ex.refl H) _ fun u H1 e1 r1 => by
    obtain rfl := dp_int r1
    exact ⟨⟨p, hp⟩, rL, sa, ns, m, rfl, hd.ex e1, m3, fun f v H' hf r hd' kr => q v H' ⟨f, hf, r⟩ hd' ((Kr.of e1).trans kr)⟩⟩
theorem ek_moverA {p : Nat} [hp : Pr p] {tm : TE} {n : Nat} (h0 : σ[k]? = some (some (.ref rL))) (h1 : σ[j]? = some (some (.int (p : Int)))) (hd : DR K H rL sa ns) (hm : EvD K tm σ H (.int (n : Int))) (n1 : 1 ≤ n) (n3 : n ≤ 3) :
    EvK K (tCall (spA fun p hp => @spLMove K p hp) [] E0 (tCons (tVar k) (tCons (tVar j) (tCons tm tNil)))) σ H rL sa ns (fun v H' => ∃ M : PT p, ((∀ i j, i < n → j < n → len (M i j) ≤ 5) ∧ Sp n n (unitT : PT p) M) ∧ Dp K H' v (tupP n n M)) := fun Q q =>
  ⟨_, h0, _, h1, hm H (Ex.refl H) _ fun u H1 e1 r1 => by
    obtain rfl := dp_int r1
    exact ⟨⟨p, hp⟩, rL, sa, ns, n, rfl, hd.ex e1, n1, n3, fun M v H' hM sM r hd' kr => q v H' ⟨M, ⟨hM, sM⟩, r⟩ hd' ((Kr.of e1).trans kr)⟩⟩
theorem qk_if {r : R2} (h : EvK K ta σ H rL sa ns Pd) (q : ∀ v H', Pd v H' → DR K H' rL sa ns → Kr rL H H' → tSeq (tIfS (tTest (tOp r (tK v) tb)) tu tw) tz D σ H') : tSeq (tIfS (tTest (tOp r ta tb)) tu tw) tz D σ H := h _ q
/-- an expression that calls the forms -/
def EvX (te : TE) (σ : L2.St) (H : Hp) (Pd : V → Hp → Prop) : Prop := ∀ Q : VK, (∀ v H', Pd v H' → Q v H') → te σ H Q
theorem qx_alike {sp : Sp} {ta : TA} (h : EvX te σ H Pd) (q : ∀ v H', Pd v H' → tSeq (tIfS (tNot (tB (tCall sp [] E0 (tCons (tK v) ta)))) tu tw) tz D σ H') : tSeq (tIfS (tNot (tB (tCall sp [] E0 (tCons te ta)))) tu tw) tz D σ H := h _ q
theorem sx_ret {r : R2} (h : EvX te σ H Pd) (q : ∀ v H', Pd v H' → tRet (tOp r (tK v) tb) D σ H') : tRet (tOp r te tb) D σ H := h _ q
theorem ex_deg {p : Nat} [hp : Pr p] {Pt : Addr} {v3 : V} {n wd : Nat} {R : PT p} (h2 : σ[j]? = some (some (.int (p : Int)))) (h3 : σ[k]? = some (some v3)) (r3 : Dp K H v3 (tupP n wd R)) (n1 : 1 ≤ n) (n3 : n ≤ 3) (w1 : 1 ≤ wd) (w3 : wd ≤ 3) (hb : ∀ i, i < n → rl wd (R i) ≤ 13) (hT : Tabs (rrT Pt) H) :
    EvX (tCall (spA fun p hp => @spDeg K p hp Pt) [] E0 (tCons (tVar j) (tCons (tVar k) tNil))) σ H (fun v H' => ExtN H H' ∧ Tabs (rrT Pt) H' ∧ ∃ (F L : PT p) (c : Nat), Dp K H' v (.tuple ((List.range c).map fun i => .int ((rl wd (F i) : Int) - 1))) ∧ Red n wd c F ∧ Wk n wd R 13 1000 F L) := fun Q q =>
  ⟨_, h2, _, h3, ⟨p, hp⟩, v3, n, wd, R, rfl, r3, n1, n3, w1, w3, hb, hT, fun v' H' F L c eN T' r' hR hW => q v' H' ⟨eN, T', F, L, c, r', hR, hW⟩⟩
/-- a list by its name, behind a new one -/
theorem en_catV {l : Addr} {ys : List V} (ha : EvN K ta σ H ds) (hk : σ[k]? = some (some (.ref l))) (hl : H l = some (.lst ys)) (hy : DpAll K H ys es) (hn : ds.length + es.length ≤ 100000) : EvN K (tOp rCat ta (tVar k)) σ H (ds ++ es) := fun H1 e Q q =>
  ha H1 e _ fun p xs H2 hp e2 h2 r => ⟨_, hk, p, l, xs, ys, rfl, rfl, h2, (e.trans e2) _ _ hl, sz_of (by rw [dpA_len r, dpA_len hy]; exact hn), fun l hl => q l _ _ (fresh_back e2 hl) (e2.trans (Ex.new hl)) upd_same (dpA_ex (Ex.new hl) _ _ (dpA_app r (dpA_ex (e.trans e2) _ _ hy)))⟩
theorem sk_asg {i : Nat} (h : EvK K te σ H rL sa ns Pd) (q : ∀ v H', Pd v H' → DR K H' rL sa ns → Kr rL H H' → D.nx (σ.set i (some v)) H') : tAsg te (gName i) D σ H := h _ q
theorem qx_asg {i : Nat} (h : EvX te σ H Pd) (q : ∀ v H', Pd v H' → tz D (σ.set i (some v)) H') : tSeq (tAsg te (gName i)) tz D σ H := h _ q
theorem qx_two {i l : Nat} (h : EvX te σ H Pd) (q : ∀ v H', Pd v H' → gTwo K i l v σ H' (tz D)) : tSeq (tAsg te (gTwo K i l)) tz D σ H := h _ q
theorem ex_small (h0 : σ[k]? = some (some (.ref rL))) (hd : DR K H rL sa ns) : EvX (tCall (spSmall K) [] E0 (tCons (tVar k) tNil)) σ H (fun v H' => ∃ p : Nat, Pr p ∧ v = .int (p : Int) ∧ DR K H' rL sa ns ∧ Kr rL H H') := fun Q q =>
  ⟨_, h0, rL, sa, ns, rfl, hd, fun p H' hp hd' k' => q _ H' ⟨p, hp, rfl, hd', k'⟩⟩
theorem ek_side (h0 : σ[k]? = some (some (.ref rL))) (hd : DR K H rL sa ns) : EvK K (tOp (rI0 fun i j => .int (i + j)) (tC (.int 1)) (tCall (spTaken K) [] E0 (tCons (tVar k) (tCons (tC (.int 3)) tNil)))) σ H rL sa ns (fun v _ => ∃ a : Nat, v = .int (a : Int) ∧ 1 ≤ a ∧ a ≤ 3) :=
  (ek_addI (i := 1) (g := fun i j => i + j) (ek_taken (many := 3) h0 hd ed_int (by decide) (by decide))).imp fun v H' ⟨z, hz, z0, z1⟩ => ⟨(1 + z).toNat, by rw [hz]; congr 1; omega, by omega, by omega⟩
theorem ex_rr {p : Nat} [hp : Pr p] {Pt : Addr} {v3 : V} {n wd : Nat} {R : PT p} (h2 : σ[j]? = some (some (.int (p : Int)))) (h3 : σ[k]? = some (some v3)) (r3 : Dp K H v3 (tupP n wd R)) (n1 : 1 ≤ n) (n3 : n ≤ 3) (w1 : 1 ≤ wd) (w3 : wd ≤ 3) (hb : ∀ i, i < n → rl wd (R i) ≤ 13) (hT : Tabs (rrT Pt) H) :
    EvX (tCall (spA fun p hp => @spRR K p hp Pt) [] E0 (tCons (tVar j) (tCons (tVar k) tNil))) σ H (fun v H' => ExtN H H' ∧ Tabs (rrT Pt) H' ∧ ∃ (F L : PT p) (c : Nat), Dp K H' v (.tuple [tupP n wd F, tupP n n L]) ∧ Red n wd c F ∧ Wk n wd R 13 1000 F L) := fun Q q =>
  ⟨_, h2, _, h3, ⟨p, hp⟩, v3, n, wd, R, rfl, r3, n1, n3, w1, w3, hb, hT, fun v' H' F L c eN T' r' hR hW => q v' H' ⟨eN, T', F, L, c, r', hR, hW⟩⟩
theorem ed_prodA {p : Nat} [hp : Pr p] {ta : TA} {n q m : Nat} {A B : PT p} (h : EvDs K ta σ H [.int (p : Int), tupP n q A, tupP q m B]) (q1 : 1 ≤ q) (n2 : n ≤ 100) (q2 : q ≤ 100) (m2 : m ≤ 100)
    (la : ∀ i j, i < n → j < q → len (A i j) ≤ 3000) (lb : ∀ i j, i < q → j < m → len (B i j) ≤ 3000) : EvD K (tCall (spA fun p hp => @spLProd K p hp) [] E0 ta) σ H (tupP n m (mulT q A B)) := fun H1 e Q k =>
  h H1 e _ fun vs H2 e2 r => ⟨⟨p, hp⟩, (n, q, m, A, B), ⟨q1, n2, q2, m2, la, lb⟩, by rw [List.append_nil]; exact r, fun v H3 e3 s => k v H3 (e2.trans e3) s⟩
theorem ed_redA {p : Nat} [hp : Pr p] {ta : TA} {n wd c : Nat} {F : PT p} (h : EvDs K ta σ H [.int (p : Int), tupP n wd F]) (n1 : 1 ≤ n) (n3 : n ≤ 3) (w1 : 1 ≤ wd) (w3 : wd ≤ 3) (R : Red n wd c F) : EvD K (tCall (spA fun p hp => @spLRed K p hp) [] E0 ta) σ H (.bool true) := fun H1 e Q k =>
  h H1 e _ fun vs H2 e2 r => ⟨⟨p, hp⟩, (n, wd, F), ⟨n1, n3, w1, w3, c, R⟩, by rw [List.append_nil]; exact r, fun v H3 e3 s => k v H3 (e2.trans e3) s⟩
theorem ed_lrdegA {p : Nat} [hp : Pr p] {wd : Nat} {r : Nat → Po p} (h : EvD K te σ H (.tuple (rowP wd r))) (w1 : 1 ≤ wd) (w2 : wd ≤ 1000) : EvD K (tCall (spA fun p hp => @spLRowDeg K p hp) [] E0 (tCons te tNil)) σ H (.int ((rl wd r : Int) - 1)) := fun H1 e Q k =>
  h H1 e _ fun v H2 e2 r' => ⟨⟨p, hp⟩, (List.range wd).map r, ⟨fun z => by
      have := congrArg List.length z
      simp at this; omega, by show ((List.range wd).map r).length ≤ 1000; simp; omega⟩, .cons (by show Dp K H2 v (dR ((List.range wd).map r)); unfold dR; rw [← rowP_eq]; exact r') .nil, fun v H3 e3 s => k v H3 (e2.trans e3) s⟩
/-- the drawn row x -/
theorem ek_polys {p : Nat} [hp : Pr p] {n l1 l2 : Nat} {v9 : V} {vs : List Nat} (hdr : DR K H rL sa ns) (h9 : σ[k]? = some (some v9)) (r9 : Dp K H v9 (.tuple ds)) (fl : flatDs ds = true) (hn : ds.length = n) (hn2 : n ≤ 1000) (hw : ∀ x, wipe ((wipe σ vs).set j (some x)) vs = wipe σ vs)
    (h1 : ∀ x, ((wipe σ vs).set j (some x))[l1]? = some (some (.ref rL))) (h2 : ∀ x, ((wipe σ vs).set j (some x))[l2]? = some (some (.int (p : Int)))) :
    EvK K (tCB (KR.rTupS K) (tCons (tLc (iTup K (tVar k)) (gName j) tYes (tCall (spA fun p hp => @spLPoly K p hp) [] E0 (tCons (tVar l1) (tCons (tVar l2) (tCons (tC (.int 3)) tNil)))) vs) tNil)) σ H rL sa ns (fun v H' => ∃ X : Nat → Po p, (∀ i, i < n → len (X i) ≤ 4) ∧ Dp K H' v (.tuple (rowP n X))) := fun Q q => by
  refine ek_cb1 (K := K) (ek_lcT (K := K) (n := n) (Good := fun d => ∃ f : Po p, len f ≤ 4 ∧ d = dP f) hdr (eg_tup h9 r9 fun H3 g3 => dp_exT (Kr.toT g3.2 hdr) _ _ (by simpa [flatD] using fl) r9) hn hn2 hw (fun i x H' hi hd' kr' => ?_)) fun v H2 ⟨L, acc, es, hv, nL, hL, hl, hg, hf, ha⟩ hd2 kr2 => ?_
  · exact (ek_polyA (m := 3) (h1 x) (h2 x) hd' ed_int (by decide)).imp fun v H'' ⟨f, hf, r⟩ => ⟨dP f, ⟨f, hf, rfl⟩, flat_dP f, r⟩
  · subst hv
    obtain ⟨l, rfl, gl⟩ := dps_choose hg
    rw [List.length_map] at hl
    refine ed_tupleL (K := K) (ed_K (.lst (sq_of hL) ha)) H2 (Ex.refl H2) _ fun u H3 e3 r3 => ?_
    have hrow : l.map dP = rowP n (fun j => l.getD j 0) := by
      unfold rowP
      refine List.ext_getElem? fun j => ?_
      rw [List.getElem?_map, List.getElem?_map]
      by_cases hj : j < l.length
      · rw [List.getElem?_eq_getElem hj, List.getElem?_range (by omega)]
        simp [hj]
      · rw [List.getElem?_eq_none (by omega), List.getElem?_eq_none (by simp; omega)]; rfl
    refine q u H3 ⟨fun j => l.getD j 0, fun j hj => ?_, by rw [← hrow]; exact r3⟩ (hd2.ex e3) (kr2.trans (Kr.of e3))
    have hj' : j < l.length := by omega
    have : l.getD j 0 = l[j] := by simp [hj']
    show len (l.getD j 0) ≤ 4
    rw [this]
    exact gl _ (List.getElem_mem _)
end
abbrev s_law : Stmt := topS 57
theorem sc_law : FnScope ["_law_script", "_law_row", "_law_p", "_law_rows", "_law_degrees", "_law_x", "_law_due", "_law_told", "_law_other", "_law_form", "_law_left", "_law_line", "_law_one", "_law_degree"] ["_law_script"] (defScope s_law) := ⟨rfl, rfl, rfl, by decide +kernel, rfl, by decide +kernel, by decide +kernel⟩
def spLawE (K : PySem.W.Frag) (Pt : Addr) : Sp := fun vs H Q _ => ∃ (a : Addr) (ns : List Int), vs = [.ref a] ∧ SqL K H a (ns.map V.int) ∧ Tabs (rrT Pt) H ∧ ∀ H', Q (.bl true) H'
/-- is_mover at any prime and size -/
abbrev spMv (K : PySem.W.Frag) : Sp := fun vs H Q E => ∃ i : {q : Nat × Nat // Pr q.1 ∧ 1 ≤ q.2 ∧ q.2 ≤ 3}, @spLMover K i.1.1 i.2.1 i.1.2 vs H Q E
theorem ed_mv {p : Nat} [hp : Pr p] {σ : L2.St} {H : Hp} {ta : TA} {n : Nat} {M : PT p} (n1 : 1 ≤ n) (n3 : n ≤ 3) (h : EvDs K ta σ H [.int (p : Int), tupP n n M, .int (n : Int)]) (hM : ∀ i j, i < n → j < n → len (M i j) ≤ 1000) (hd : len (dt n M) = 1) : EvD K (tCall (spMv K) [] E0 ta) σ H (.bool true) := fun H1 e Q q =>
  h H1 e _ fun vs H2 e2 r => ⟨⟨(p, n), hp, n1, n3⟩, M, ⟨hM, hd⟩, by rw [List.append_nil]; exact r, fun v H3 e3 s => q v H3 (e2.trans e3) s⟩
theorem zip_deg {p : Nat} [hp : Pr p] {n wd c : Nat} {F : PT p} {X : Nat → Po p} (h : c ≤ n) : List.zipWith (fun a b => PyData.tuple [a, b]) (rowP n X) ((degL wd c F).map PyData.int) = ((List.range c).map fun i => (i, i)).map fun q => PyData.tuple [dP (X q.1), .int ((rl wd (F q.2) : Int) - 1)] := by
  refine List.ext_getElem? fun i => ?_
  unfold rowP degL
  rw [List.getElem?_zipWith]
  simp only [List.getElem?_map]
  by_cases hi : i < c
  · rw [List.getElem?_range (by omega), List.getElem?_range hi]; rfl
  · rw [List.getElem?_eq_none (l := List.range c) (by simp; omega)]
    cases (List.range n)[i]? <;> rfl
theorem ok_law {Pt : Addr} (T : Bt mg) (D : DefAt K mg "law" s_law ["_law_script"]) (O_l_small : Ok P w K mg base "_law_small" ["_law_row"] 3 (spSmall K)) (O_l_taken : Ok P w K mg base "_law_taken" ["_law_row", "_law_many"] 1 (spTaken K))
    (O_l_table : Ok P w K mg base "_law_table" ["_law_row", "_law_p", "_law_high", "_law_wide", "_law_most"] 3 (spA fun p hp => @spLTable K p hp)) (O_l_p_product : Ok P w K mg base "_law_p_product" ["_law_p", "_law_one", "_law_other"] 3 (spA fun p hp => @spLProd K p hp))
    (O_row_reduced : Ok P w K mg base "row_reduced" ["p", "rows"] 7 (spA fun p hp => @spRR K p hp Pt)) (O_row_degrees : Ok P w K mg base "row_degrees" ["p", "rows"] 8 (spA fun p hp => @spDeg K p hp Pt))
    (O_l_is_mover : Ok P w K mg base "_law_is_mover" ["_law_p", "_law_rows", "_law_many"] 10 (spMv K)) (O_l_is_reduced : Ok P w K mg base "_law_is_reduced" ["_law_p", "_law_rows"] 3 (spA fun p hp => @spLRed K p hp))
    (O_l_row_degree : Ok P w K mg base "_law_row_degree" ["_law_line"] 1 (spA fun p hp => @spLRowDeg K p hp)) (O_l_alike : Ok P w K mg base "_law_alike" ["_law_found", "_law_due"] 3 (spLAlike K)) (O_l_poly : Ok P w K mg base "_law_poly" ["_law_row", "_law_p", "_law_most"] 2 (spA fun p hp => @spLPoly K p hp))
    (O_l_mover : Ok P w K mg base "_law_mover" ["_law_row", "_law_p", "_law_many"] 3 (spA fun p hp => @spLMove K p hp)) : Ok P w K mg base "law" ["_law_script"] 11 (spLawE K Pt) := by
  refine D.ok sc_law (fun vs H Q E h => ?_) fun f0 cdv A outer s H vs Q E hr h => ?_
  · obtain ⟨a, ns, rfl, _⟩ := h
    rfl
  obtain ⟨a, ns, rfl, hS, hT, q⟩ := h
  refine ⟨_, (pss_cons (ps_set (i := 1) sc_law.nd rfl (Or.inr rfl) (pe_lst (pa_cons (pv 0) (pa_cons pe_int (pa_cons pe_int (pa_cons pe_int pa_nil))))))
      (pss_cons (ps_set (i := 2) sc_law.nd rfl (Or.inr rfl) (pe_ok O_l_small (hr.mono (by decide)) (by rfl) (pa_cons (pv 1) pa_nil)))
      (pss_cons (ps_set (i := 3) sc_law.nd rfl (Or.inl rfl) (pe_ok O_l_table (hr.mono (by decide)) (by rfl) (pa_cons (pv 1) (pa_cons (pv 2) (pa_cons (pe_op op_add pe_int (pe_ok O_l_taken (hr.mono (by decide)) (by rfl) (pa_cons (pv 1) (pa_cons pe_int pa_nil)))) (pa_cons (pe_op op_add pe_int (pe_ok O_l_taken (hr.mono (by decide)) (by rfl) (pa_cons (pv 1) (pa_cons pe_int pa_nil)))) (pa_cons pe_int pa_nil)))))))
      (pss_cons (ps_if (pt_cmpR op_eq (pe_ok O_l_taken (hr.mono (by decide)) (by rfl) (pa_cons (pv 1) (pa_cons pe_int pa_nil))) pe_int (nomark _)) (pss_one (ps_set (i := 3) sc_law.nd rfl (Or.inl rfl) (pe_ok O_l_p_product (hr.mono (by decide)) (by rfl) (pa_cons (pv 2) (pa_cons (pe_ok O_l_table (hr.mono (by decide)) (by rfl) (pa_cons (pv 1) (pa_cons (pv 2) (pa_cons (pe_callB (kLen (K := K) rfl) (by rfl) T.len (by decide +kernel) (pa_cons (pv 3) pa_nil)) (pa_cons pe_int (pa_cons pe_int pa_nil)))))) (pa_cons (pe_ok O_l_table (hr.mono (by decide)) (by rfl) (pa_cons (pv 1) (pa_cons (pv 2) (pa_cons pe_int (pa_cons (pe_callB (kLen (K := K) rfl) (by rfl) T.len (by decide +kernel) (pa_cons (pe_ix (kIx (K := K) rfl) (pv 3) pe_int (fun _ _ => rfl)) pa_nil)) (pa_cons pe_int pa_nil)))))) pa_nil)))))) pss_nil)
      (pss_cons (ps_asg (pe_ok O_row_reduced (hr.mono (by decide)) (by rfl) (pa_cons (pv 2) (pa_cons (pv 3) pa_nil))) (kpg_two (K := K) (i := 9) (j := 10) rfl rfl sc_law.nd rfl rfl rfl rfl))
      (pss_cons (ps_if (PW.pt (pw_or (pt_not (pt_val (pe_ok O_l_is_mover (hr.mono (by decide)) (by rfl) (pa_cons (pv 2) (pa_cons (pv 10) (pa_cons (pe_callB (kLen (K := K) rfl) (by rfl) T.len (by decide +kernel) (pa_cons (pv 3) pa_nil)) pa_nil)))))) (pw_or (pt_cmpR (kNeD (K := K) rfl hr.units) (pe_ok O_l_p_product (hr.mono (by decide)) (by rfl) (pa_cons (pv 2) (pa_cons (pv 10) (pa_cons (pv 3) pa_nil)))) (pv 9) (nomark _)) (pw_or1 (pt_not (pt_val (pe_ok O_l_is_reduced (hr.mono (by decide)) (by rfl) (pa_cons (pv 2) (pa_cons (pv 9) pa_nil))))))))) (pss_one (ps_ret pe_bl)) pss_nil)
      (pss_cons (ps_setLc (i := 4) (own := [("_law_line", 11)]) (g := gName 11) rfl sc_law.nd rfl rfl (sw_true rfl rfl rfl (by decide +kernel)) (kpi_tup (K := K) rfl (pv 9)) (blkOk_by (N := ["_law_script", "_law_row", "_law_p", "_law_rows", "_law_degrees", "_law_x", "_law_due", "_law_told", "_law_other", "_law_form", "_law_left", "_law_line", "_law_one", "_law_degree"]) (sc := defScope s_law) (by decide +kernel)) (fun _ _ _ _ _ => (pg_name (i := 11) sc_law.nd rfl (Or.inl rfl) (hf := Or.inr rfl))) (fun _ _ _ _ _ => (pts_one (pt_cmpR op_ge (pe_ok O_l_row_degree (hr.mono (by decide)) (by rfl) (pa_cons (pv 11) pa_nil)) pe_int (nomark _)))) (fun _ _ _ _ _ => (pe_ok O_l_row_degree (hr.mono (by decide)) (by rfl) (pa_cons (pv 11) pa_nil))))
      (pss_cons (ps_if (pt_not (pt_val (pe_ok O_l_alike (hr.mono (by decide)) (by rfl) (pa_cons (pe_ok O_row_degrees (hr.mono (by decide)) (by rfl) (pa_cons (pv 2) (pa_cons (pv 3) pa_nil))) (pa_cons (pe_callTy (kTuple (K := K) rfl) (by rfl) T.tuple (by decide +kernel) (pa_cons (pv 4) pa_nil)) pa_nil))))) (pss_one (ps_ret pe_bl)) pss_nil)
      (pss_cons (ps_set (i := 5) sc_law.nd rfl (Or.inl rfl) (pe_callTy (kTuple (K := K) rfl) (by rfl) T.tuple (by decide +kernel) (pa_cons (pe_lc (own := [("_law_line", 11)]) (g := gName 11) (tt := tYes) rfl sc_law.nd (kpi_tup (K := K) rfl (pv 9)) (blkOk_by (N := ["_law_script", "_law_row", "_law_p", "_law_rows", "_law_degrees", "_law_x", "_law_due", "_law_told", "_law_other", "_law_form", "_law_left", "_law_line", "_law_one", "_law_degree"]) (sc := defScope s_law) (by decide +kernel)) (fun _ _ _ _ _ => (pg_name (i := 11) sc_law.nd rfl (Or.inl rfl) (hf := Or.inr rfl))) (fun _ _ _ _ _ => pts_nil) (fun _ _ _ _ _ => (pe_ok O_l_poly (hr.mono (by decide)) (by rfl) (pa_cons (pv 1) (pa_cons (pv 2) (pa_cons pe_int pa_nil)))))) pa_nil)))
      (pss_cons (ps_setLc (i := 6) (own := [("_law_one", 12), ("_law_degree", 13)]) (g := gTwo K 12 13) rfl sc_law.nd rfl rfl (sw_true rfl rfl rfl (by decide +kernel)) (kpi_zipM (K := K) rfl (by rfl) T.zip (pa_cons (pv 5) (pa_cons (pv 4) pa_nil))) (blkOk_by (N := ["_law_script", "_law_row", "_law_p", "_law_rows", "_law_degrees", "_law_x", "_law_due", "_law_told", "_law_other", "_law_form", "_law_left", "_law_line", "_law_one", "_law_degree"]) (sc := defScope s_law) (by decide +kernel)) (fun _ _ _ _ _ => (kpg_two (K := K) (i := 12) (j := 13) rfl rfl sc_law.nd rfl rfl rfl rfl)) (fun _ _ _ _ _ => (pts_one (pt_cmpR (kNeD (K := K) rfl hr.units) (pv 12) (pe_tup pa_nil) (nomark _)))) (fun _ _ _ _ _ => (pe_op op_add (pe_op op_sub (pe_callB (kLen (K := K) rfl) (by rfl) T.len (by decide +kernel) (pa_cons (pv 12) pa_nil)) pe_int) (pv 13))))
      (pss_cons (ps_set (i := 7) sc_law.nd rfl (Or.inl rfl) (pe_ok O_l_p_product (hr.mono (by decide)) (by rfl) (pa_cons (pv 2) (pa_cons (pe_tup (pa_cons (pv 5) pa_nil)) (pa_cons (pv 9) pa_nil)))))
      (pss_cons (ps_if (pt_cmpR op_ne (pe_ok O_l_row_degree (hr.mono (by decide)) (by rfl) (pa_cons (pe_ix (kIx (K := K) rfl) (pv 7) pe_int (fun _ _ => rfl)) pa_nil)) (pe_callB (kMax (K := K) rfl rfl) (by rfl) T.max (by decide +kernel) (pa_cons (pe_op op_cat (pe_lst (pa_cons (pe_un un_neg pe_int) pa_nil)) (pv 6)) pa_nil)) (nomark _)) (pss_one (ps_ret pe_bl)) pss_nil)
      (pss_cons (ps_set (i := 8) sc_law.nd rfl (Or.inl rfl) (pe_ok O_l_p_product (hr.mono (by decide)) (by rfl) (pa_cons (pv 2) (pa_cons (pe_ok O_l_mover (hr.mono (by decide)) (by rfl) (pa_cons (pv 1) (pa_cons (pv 2) (pa_cons (pe_callB (kLen (K := K) rfl) (by rfl) T.len (by decide +kernel) (pa_cons (pv 3) pa_nil)) pa_nil)))) (pa_cons (pv 3) pa_nil)))))
      (pss_one (ps_ret (pe_cmpR (kEqD (K := K) rfl hr.units) (pe_ok O_row_degrees (hr.mono (by decide)) (by rfl) (pa_cons (pv 2) (pa_cons (pv 8) pa_nil))) (pe_callTy (kTuple (K := K) rfl) (by rfl) T.tuple (by decide +kernel) (pa_cons (pv 4) pa_nil)) (nomark _))))))))))))))))), ?_⟩
  -- row
  refine qn_asg (K := K) (ds := [.list (ns.map .int), .int 0, .int 3418, .int 0]) (en_lst (eds_cons (ed_var rfl (.lst hS (dpA_ints ns))) (eds_cons ed_int (eds_cons ed_int (eds_cons ed_int eds_nil)))) (by simp)) fun rL xs H1 nR e1 hR rR => ?_
  obtain ⟨sa, hxs, hS1⟩ : ∃ sa, xs = [.ref sa, .int 0, .int 3418, .int 0] ∧ SqL K H1 sa (ns.map V.int) := by
    cases rR with
    | cons r1 r2 =>
      obtain ⟨sa, ys, rfl, hs, hy⟩ := dp_lst r1
      obtain rfl := dpA_intsV hy
      cases r2 with
      | cons r2 r3 => cases r3 with
        | cons r3 r4 => cases r4 with
          | cons r4 r5 => cases r5; cases r2; cases r3; cases r4; exact ⟨sa, rfl, hs⟩
  subst hxs
  have hd1 : DR K H1 rL sa ns := ⟨0, 3418, 0, hR, hS1, by decide⟩
  have hT1 := hT.ext e1
  clear hR hS1 nR rR hS hT
  -- p
  refine qx_asg (ex_small rfl hd1) fun v2 H2 ⟨p, hp, hv2, hd2, k2⟩ => ?_
  subst hv2
  have hp5 := pr_lt p
  -- rows
  refine qk_asg (K := K) (ek_tableA (p := p) (m := 2) (C1 := fun a => 1 ≤ a ∧ a ≤ 3) (C2 := fun b => 1 ≤ b ∧ b ≤ 3) rfl rfl (ek_side rfl hd2) (fun H' hd' k' => ek_side rfl hd') (fun _ => ed_int) (by decide) (fun a h => by omega) (fun a h => by omega)) fun v3 H3 ⟨n, wd, R0, ⟨n1, n3⟩, ⟨w1, w3⟩, lR0, r30⟩ hd3 k3 => ?_
  have hT3 := tabs_kr k3 hd2 (tabs_kr k2 hd1 hT1)
  refine q_join (fun σ' H' => DR K H' rL sa ns ∧ Tabs (rrT Pt) H' ∧ ∃ (u3 : V) (R : PT p), (∀ i j, i < n → j < wd → len (R i j) ≤ 4) ∧ Dp K H' u3 (tupP n wd R) ∧
      σ' = [some (.ref a), some (.ref rL), some (.int (p : Int)), some u3, none, none, none, none, none, none, none, none, none, none]) (fun k => ?_) (fun σ' H4 ⟨hd4, hT4, u3, R, lR, r3, hσ⟩ => ?_)
  · refine sk_if (K := K) (ek_taken (many := 3) rfl hd3 ed_int (by decide) (by decide)) fun vq H4 ⟨z, hz, z0, z1⟩ hd4 k4 => ?_
    subst hz
    have hT4 := tabs_kr k4 hd3 hT3
    have r4 := dp_exT (Kr.toT k4 hd3) _ _ (tupP_flat _ _ _) r30
    refine s_if (b := decide (z = 0)) (KR.et_test (K := K) (ed_eqI (ed_K (.int _)) ed_int)) (fun hb H5 e5 => ?_) (fun hb H5 e5 => ?_)
    · have hd5 := hd4.ex e5
      have r5 := dp_ex e5 _ _ r4
      refine sk_asg (K := K) (ek_prodA (p := p) (n := n) (q := 1) (m := wd) (CA := fun A => ∀ i j, i < n → j < 1 → len (A i j) ≤ 2) (CB := fun B => ∀ i j, i < 1 → j < wd → len (B i j) ≤ 2) rfl
        ((ek_tableA (p := p) (m := 1) (C1 := fun x => x = n) (C2 := fun x => x = 1) rfl rfl (ek_ofD (d := .int (n : Int)) hd5 (ed_is (ed_lenT (ed_var rfl r5)) (by rw [List.length_map, tabP_len])) fun v H' r => ⟨n, dp_int r, rfl⟩) (fun H' hd' k' => ek_ofD (d := .int 1) hd' ed_int fun v H' r => ⟨1, dp_int r, rfl⟩) (fun _ => ed_int) (by decide) (fun a h => by omega) (fun a h => by omega)).imp
          fun v H' ⟨a', b', A, ha, hb, lA, rA⟩ => by subst ha; subst hb; exact ⟨A, lA, rA⟩)
        (fun H6 hd6 k6 => (ek_tableA (p := p) (m := 1) (C1 := fun x => x = 1) (C2 := fun x => x = wd) rfl rfl (ek_ofD (d := .int 1) hd6 ed_int fun v H' r => ⟨1, dp_int r, rfl⟩) (fun H' hd' k' => ek_ofD (d := .int (wd : Int)) hd'
            (ed_is (ed_lenT (ed_ixT (k := 0) (ed_var rfl (dp_exT (Kr.toT (k6.trans k') hd5) _ _ (tupP_flat _ _ _) r5)) ed_int rfl (tup_at (by omega)))) (by rw [rowP_len])) fun v H' r => ⟨wd, dp_int r, rfl⟩) (fun _ => ed_int) (by decide) (fun a h => by omega) (fun a h => by omega)).imp
          fun v H' ⟨a', b', A, ha, hb, lA, rA⟩ => by subst ha; subst hb; exact ⟨A, lA, rA⟩)
        (by decide) (by omega) (by decide) (by omega) (fun A h i j hi hj => Nat.le_trans (h i j hi hj) (by decide)) (fun A h i j hi hj => Nat.le_trans (h i j hi hj) (by decide))) fun u3 H6 ⟨A, B, lA, lB, r6⟩ hd6 k6 => ?_
      refine k _ _ ⟨hd6, tabs_kr k6 hd5 (hT4.ext e5), u3, mulT 1 A B, fun i j hi hj => ?_, r6, rfl⟩
      refine len_SP fun l hl => ?_
      have h1 := lA i l hi hl
      have h2 := lB l j hl hj
      have h3 := len_mul_le (A i l) (B l j)
      omega
    · exact k _ _ ⟨hd4.ex e5, hT4.ext e5, v3, R0, fun i j hi hj => Nat.le_trans (lR0 i j hi hj) (by decide), dp_ex e5 _ _ r4, rfl⟩
  subst hσ
  clear hT3 r30 lR0 hT1
  have hb13 : ∀ i, i < n → rl wd (R i) ≤ 13 := fun i hi => rl_le fun j hj => Nat.le_trans (lR i j hi hj) (by decide)
  -- form, left
  refine qx_two (ex_rr (p := p) rfl rfl r3 n1 n3 w1 w3 hb13 hT4) fun v H5 ⟨eN5, hT5, F, L, c, r5, hR, hW⟩ => two_of r5 fun vf vl rf rl' => ?_
  have hd5 := hd4.extN eN5
  replace r3 := dp_exT (ExtN.toT eN5) _ _ (tupP_flat _ _ _) r3
  have hcn := hR.cn
  have lF : ∀ i j, i < n → j < wd → len (F i j) ≤ 13 := fun i j hi hj => Nat.le_trans (le_rl (r := F i) hj) (hW.rb i hi)
  refine q_when' (b := false) (et_is (et_or (a := false) (b := false) (et_not (a := true) (KR.et_B (K := K) (ed_mv (p := p) n1 n3 (eds_cons (ed_var rfl (.int _)) (eds_cons (ed_var rfl rl') (eds_cons (ed_is (ed_lenT (ed_var rfl r3)) (by rw [List.length_map, tabP_len])) eds_nil))) hW.lb hW.det))) fun _ =>
    et_is (et_or (a := false) (b := false) (et_is (KR.et_test (K := K) (ed_neD (ed_prodA (p := p) (eds_cons (ed_var rfl (.int _)) (eds_cons (ed_var rfl rl') (eds_cons (ed_var rfl r3) eds_nil))) n1 (by omega) (by omega) (by omega) (fun i j hi hj => Nat.le_trans (hW.lb i j hi hj) (by decide)) (fun i j hi hj => Nat.le_trans (lR i j hi hj) (by decide))) (ed_var rfl rf) (shp_tupP _ _ _).ok (shp_tupP _ _ _).ok)) (by
        rw [tupP_congr hW.eq]
        show (!PyData.eqv (tupP n wd (mulT n L R)) (tupP n wd (mulT n L R))) = false
        rw [SeqAt.eqv_refl _ (shp_tupP _ _ _).1]; rfl)) fun _ => et_not (a := true) (KR.et_B (K := K) (ed_redA (p := p) (eds_cons (ed_var rfl (.int _)) (eds_cons (ed_var rfl rf) eds_nil)) n1 n3 w1 w3 hR))) rfl) rfl) (fun z => nomatch z) fun _ H6 e6 => ?_
  -- degrees
  refine qn_asg (K := K) (ds := (degL wd c F).map .int) (en_is (en_lc (List.range n) (fun i => .tuple (rowP wd (F i))) (fun i => decide (0 < rl wd (F i))) (fun i => .int ((rl wd (F i) : Int) - 1)) (ei_tup (ed_is (ed_var rfl (dp_ex e6 _ _ rf)) (tupP_eq n wd F))) (by rw [List.length_range]; omega) (fun _ _ => rfl) (fun x => rfl)
      (fun i u H2 hi e r => et_is (KR.et_test (K := K) (ed_opB (ed_lrdegA (p := p) (ed_var rfl r) w1 (by omega)) ed_int)) (by
        by_cases h : 0 < rl wd (F i)
        · rw [decide_eq_true h, decide_eq_true (by omega)]
        · rw [decide_eq_false h, decide_eq_false (by omega)])) (fun i u H2 hi hk e r => ed_lrdegA (p := p) (ed_var rfl r) w1 (by omega))) (by rw [red_filter hR]; unfold degL; rw [List.map_map]; rfl)) fun lD xsD H7 nD e7 hD rD => ?_
  have e57 := e6.trans e7
  replace r3 := dp_ex e57 _ _ r3
  replace rf := dp_ex e57 _ _ rf
  replace hd5 := hd5.ex e57
  have hdl : (degL wd c F).length ≤ 100 := by unfold degL; rw [List.length_map, List.length_range]; omega
  have fD : flatDs ((degL wd c F).map PyData.int) = true := flat_map (fun _ => rfl) _
  -- the same degrees
  refine qx_alike (ex_deg (p := p) (j := 2) (k := 3) rfl rfl r3 n1 n3 w1 w3 hb13 (hT5.ext e57)) fun v8 H8 ⟨eN8, hT8, F', L', c', r8, hR', hW'⟩ => ?_
  rw [degs_eq n3 hR hR' ((Sp.of_mul hW'.eq).trans (Sp.back hW.sp hW.eq)) ((Sp.of_mul hW.eq).trans (Sp.back hW'.sp hW'.eq))] at r8
  have hD8 : H8 lD = some (.lst xsD) := eN8 _ _ hD (fun ps z => nomatch z)
  have rD8 := dpA_exT (ExtN.toT eN8) _ _ fD rD
  refine q_when' (b := false) (et_is (et_not (a := true) (KR.et_B (K := K) (ed_call (degL wd c F) (eds_cons (ed_K r8) (eds_cons (ed_tupleL (ed_var rfl (.lst (sq_of hD8) rD8))) eds_nil)) hdl))) rfl) (fun z => nomatch z) fun _ H9 e9 => ?_
  have eN79 := eN8.trans (extN_of e9)
  replace hd5 := hd5.extN eN79
  replace r3 := dp_exT (ExtN.toT eN79) _ _ (tupP_flat _ _ _) r3
  replace rf := dp_exT (ExtN.toT eN79) _ _ (tupP_flat _ _ _) rf
  replace hT5 := hT8.ext e9
  have hD9 := e9 _ _ hD8
  have rD9 := dpA_ex e9 _ _ rD8
  obtain ⟨rLx, hrL⟩ := hd5.lst
  have hDr : lD ≠ rL := fun z => by
    obtain ⟨ys, hy⟩ := (hd4.extN eN5).lst
    rw [z, e6 _ _ hy] at nD; cases nD
  -- x
  refine qk_asg (K := K) (ek_polys (p := p) (n := n) hd5 rfl (by exact rf) (by have := tupP_flat n wd F; unfold tupP at this; simpa [flatD] using this) (by rw [List.length_map, tabP_len]) (by omega) (fun x => rfl) (fun x => rfl) (fun x => rfl)) fun vx Ha ⟨X, lX, rx⟩ hda ka => ?_
  have hTa := tabs_kr ka hd5 hT5
  have xTa := Kr.toT ka hd5
  replace r3 := dp_exT xTa _ _ (tupP_flat _ _ _) r3
  replace rf := dp_exT xTa _ _ (tupP_flat _ _ _) rf
  have hDa := ka _ _ hD9 hDr
  have rDa := dpA_exT xTa _ _ fD rD9
  -- due
  refine qn_asg (K := K) (ds := (dueL wd c F X).map .int) (en_is (en_lcP ((List.range c).map fun i => (i, i)) (fun i => dP (X i)) (fun i => .int ((rl wd (F i) : Int) - 1)) (fun q => !decide (X q.1 = 0)) (fun q => .int ((len (X q.1) : Int) - 1 + ((rl wd (F q.2) : Int) - 1)))
      (ei_is (ei_zipM (eds_cons (ed_var rfl rx) (eds_cons (ed_var rfl (.lst (sq_of hDa) rDa)) eds_nil))) (zip_deg hcn)) (by simp; omega) (fun _ _ => rfl) (fun x y => rfl)
      (fun q v1 v2 H' hq e r1 r2 => et_is (KR.et_test (K := K) (ed_neD (ed_var rfl r1) (ed_tup eds_nil (by decide)) (shp_dP _).ok rfl)) (by rw [dP_nil]))
      (fun q v1 v2 H' hq hk e r1 r2 => ed_op0 (ed_op0 (ed_lenP (ed_var rfl r1)) ed_int) (ed_var rfl r2))) (by unfold dueL; rw [List.filter_map, List.map_map, List.map_map]; rfl)) fun lU xsU Hb nU eb hU rU => ?_
  -- told
  refine qd_asg (K := K) (d := tupP 1 wd (mulT n (fun _ => X) F)) (ed_prodA (p := p) (n := 1) (q := n) (m := wd) (A := fun _ => X) (eds_cons (ed_var rfl (.int _)) (eds_cons (ed_is (ed_tup (eds_cons (ed_var rfl (dp_ex eb _ _ rx)) eds_nil) (by simp)) (by rw [tupP_eq]; rfl)) (eds_cons (ed_var rfl (dp_ex eb _ _ rf)) eds_nil))) n1 (by omega) (by omega) (by omega)
    (fun i j hi hj => Nat.le_trans (lX j hj) (by decide)) (fun i j hi hj => Nat.le_trans (lF i j hi hj) (by decide))) fun vt Hc ec rt => ?_
  have hmax := due_max hR X
  -- the degree of x times the form
  refine q_when' (b := false) (et_is (KR.et_test (K := K) (ed_neI (ed_lrdegA (p := p) (ed_ixT (k := 0) (ed_var rfl rt) ed_int rfl (tup_at (by decide))) w1 (by omega)) (ed_maxL (ns := -1 :: dueL wd c F X) (EvN.toD (en_is (en_catV (en_lst (eds_cons (ed_neg ed_int) eds_nil) (by decide)) rfl (ec _ _ hU) (dpA_ex ec _ _ rU) (by
      rw [List.length_map]; unfold dueL; rw [List.length_map]
      have := List.length_filter_le (fun i => !decide (X i = 0)) (List.range c)
      rw [List.length_range] at this
      simp; omega)) rfl)) hmax.1 hmax.2))) (by
        show (!decide (((rl wd (fun j => SP n fun i => X i * F i j) : Nat) : Int) - 1 = _)) = false
        simp)) (fun z => nomatch z) fun _ Hd ed => ?_
  have ebd := (eb.trans ec).trans ed
  replace hda := hda.ex ebd
  replace r3 := dp_ex ebd _ _ r3
  replace hTa := hTa.ext ebd
  have hDd := ebd _ _ hDa
  have rDd := dpA_ex ebd _ _ rDa
  -- other
  refine qk_asg (K := K) (ek_prodA (p := p) (n := n) (q := n) (m := wd) (CA := fun M => (∀ i j, i < n → j < n → len (M i j) ≤ 5) ∧ Sp n n (unitT : PT p) M) (CB := fun B => B = R) rfl (ek_moverA (p := p) rfl rfl hda (ed_is (ed_lenT (ed_var rfl r3)) (by rw [List.length_map, tabP_len])) n1 n3)
    (fun H' hd' k' => ek_ofD (d := tupP n wd R) hd' (ed_var rfl (dp_exT (Kr.toT k' hda) _ _ (tupP_flat _ _ _) r3)) fun v H'' r => ⟨R, rfl, r⟩) n1 (by omega) (by omega) (by omega) (fun A h i j hi hj => Nat.le_trans (h.1 i j hi hj) (by decide)) (fun B h i j hi hj => by rw [h]; exact Nat.le_trans (lR i j hi hj) (by decide))) fun vo He ⟨M, B, ⟨lM, sM⟩, hB, ro⟩ hde ke => ?_
  subst hB
  have hTe := tabs_kr ke hda hTa
  have hDe := ke _ _ hDd hDr
  have rDe := dpA_exT (Kr.toT ke hda) _ _ fD rDd
  have hb2 : ∀ i, i < n → rl wd (mulT n M B i) ≤ 13 := fun i hi => rl_le fun j hj => len_SP fun l hl => by
    have h1 := lM i l hi hl
    have h2 := lR l j hl hj
    have h3 := len_mul_le (M i l) (B l j)
    omega
  refine sx_ret (ex_deg (p := p) (j := 2) (k := 8) (R := mulT n M B) rfl rfl ro n1 n3 w1 w3 hb2 hTe) fun vz Hz ⟨eNz, hTz, F2, L2, c2, rz, hR2, hW2⟩ => ?_
  have b1 : Sp n wd B (mulT n M B) := Sp.back sM fun _ _ _ _ => rfl
  have b2 : Sp n wd (mulT n M B) B := Sp.of_mul fun _ _ _ _ => rfl
  rw [degs_eq n3 hR hR2 (((Sp.of_mul hW2.eq).trans b2).trans (Sp.back hW.sp hW.eq)) (((Sp.of_mul hW.eq).trans b1).trans (Sp.back hW2.sp hW2.eq))] at rz
  have hDz : Hz lD = some (.lst xsD) := eNz _ _ hDe (fun ps z => nomatch z)
  have rDz := dpA_exT (ExtN.toT eNz) _ _ fD rDe
  have shD : Shp 2 (.tuple ((degL wd c F).map PyData.int)) := shp_tup (shp_map fun _ _ => shp_int)
  refine sd_ret (K := K) (d := .bool true) (ed_is (ed_eqD (ed_K rz) (ed_tupleL (ed_var rfl (.lst (sq_of hDz) rDz))) shD.ok shD.ok) (by rw [SeqAt.eqv_refl _ shD.1])) fun v' H' e' r' => by
    rw [dp_bl r']; exact q H'
end
end KW
end
section
set_option Elab.async false
set_option linter.all false
set_option maxRecDepth 100000
set_option maxHeartbeats 0
/-! What the top leaves. -/
namespace KW
open PySem PySem.Spec PyProof.Rows L2
abbrev dd (x : Str) (st : Stmt) : He.DefD := ⟨(x, none), x, x, defArgs st, defBody st, defScope st, [], []⟩
abbrev dm (m q : Str) (st : Stmt) : He.DefD := ⟨("Worker", some m), m, q, defArgs st, defBody st, defScope st, [], []⟩
def tfn0 : List He.DefD := [dd "is_int" s_is_int, dd "is_in" s_is_in, dd "need_prime" s_need_prime, dd "inverse" s_inverse, dd "exchanged" s_exchanged, dd "echelon" s_echelon, dd "kernel_of" s_kernel_of, dd "is_free" s_is_free, dd "is_poly" s_is_poly, dd "trimmed" s_trimmed, dd "plus" s_plus, dd "scaled" s_scaled, dd "minus" s_minus, dd "times" s_times, dd "need_p_matrix" s_need_p_matrix, dd "p_unit" s_p_unit, dd "row_degree" s_row_degree, dd "lead_of" s_lead_of, dd "reduced_rows" s_reduced_rows, dd "row_reduced" s_row_reduced, dd "degrees_of" s_degrees_of, dd "row_degrees" s_row_degrees, dd "_law_taken" s_l_taken, dd "_law_pick" s_l_pick, dd "_law_alike" s_l_alike, dd "_law_trim" s_l_trim, dd "_law_poly" s_l_poly, dd "_law_sum" s_l_sum, dd "_law_times" s_l_times, dd "_law_back" s_l_back]
def tfn1 : List He.DefD := [dd "_law_less" s_l_less, dd "_law_rank" s_l_rank, dd "_law_table" s_l_table, dd "_law_p_product" s_l_p_product, dd "_law_p_unit" s_l_p_unit, dd "_law_p_det" s_l_p_det, dd "_law_mover" s_l_mover, dd "_law_is_mover" s_l_is_mover, dd "_law_row_degree" s_l_row_degree, dd "_law_small" s_l_small, dd "_law_is_reduced" s_l_is_reduced, dd "law" s_law, dm "__init__" "Worker.__init__" s_Worker___init, dm "stretch" "Worker.stretch" s_Worker_stretch, dm "take" "Worker.take" s_Worker_take, dm "told" "Worker.told" s_Worker_told]
def tfn : List He.DefD := tfn0 ++ tfn1
def tfa0 : List He.Fa := [.glo "is_int", .glo "is_in", .glo "need_prime", .glo "inverse", .glo "exchanged", .glo "echelon", .glo "kernel_of", .glo "is_free", .glo "is_poly", .glo "trimmed", .glo "plus", .glo "scaled", .glo "minus", .glo "times", .glo "need_p_matrix", .glo "p_unit", .glo "row_degree", .glo "lead_of", .glo "reduced_rows", .glo "row_reduced", .glo "degrees_of", .glo "row_degrees", .glo "_law_taken", .glo "_law_pick", .glo "_law_alike", .glo "_law_trim", .glo "_law_poly", .glo "_law_sum", .glo "_law_times", .glo "_law_back"]
def tfa1 : List He.Fa := [.glo "_law_less", .glo "_law_rank", .glo "_law_table", .glo "_law_p_product", .glo "_law_p_unit", .glo "_law_p_det", .glo "_law_mover", .glo "_law_is_mover", .glo "_law_row_degree", .glo "_law_small", .glo "_law_is_reduced", .glo "law", .glo "Worker", .glo "PRIMES", .free "len", .free "range", .free "zip", .free "tuple", .free "list", .free "int", .free "bool", .free "str", .free "isinstance", .free "max", .free "all", .free "sorted", .free "enumerate", .int "MOST_DEGREE" 40, .int "MOST_SIDE" 6, .int "MOST_ENTRY" 12]
def tfa2 : List He.Fa := [.cls "Worker", .noat "Worker" "p", .noat "Worker" "rows", .noat "Worker" "left", .meth "Worker" "stretch", .meth "Worker" "take", .meth "Worker" "told", .mkr "Worker"]
def tfa : List He.Fa := tfa0 ++ tfa1 ++ tfa2
def tnames0 : List Str := ["_wall", "SteerError", "BadPrime", "BadMatrix", "PRIMES", "is_int", "is_in", "need_prime", "inverse", "exchanged", "echelon", "kernel_of", "MOST_DEGREE", "is_free", "is_poly", "trimmed", "plus", "scaled", "minus", "times", "MOST_SIDE", "MOST_ENTRY", "need_p_matrix", "p_unit", "Worker", "row_degree", "lead_of", "reduced_rows", "row_reduced", "degrees_of"]
def tnames1 : List Str := ["row_degrees", "_law_taken", "_law_pick", "_law_alike", "_law_trim", "_law_poly", "_law_sum", "_law_times", "_law_back", "_law_less", "_law_rank", "_law_table", "_law_p_product", "_law_p_unit", "_law_p_det", "_law_mover", "_law_is_mover", "_law_row_degree", "_law_small", "_law_is_reduced"]
def tnames : List Str := tnames0 ++ tnames1
def pv11 : List He.Dv := [.int 2, .int 3, .int 5, .int 7, .int 11, .int 13, .int 17, .int 19, .int 23, .int 29, .int 31]
def texq (K : PySem.W.Frag) : Bool := He.tupB K "PRIMES" pv11
def ttf : List He.Defn := [("reduced_rows", none)]
abbrev RR : PySem.W.OpenRow := PySem.W.OpenLaw.row PySem.Challenge.rw_steerloops_k18_whole_row_reduced_matrice
abbrev thk : PySem.W.Hook := He.hookX 4 tfa tfn [] ttf texq
def tob (s : PySem.W.SharedT) : He.AlX := He.obsX 4 tfa tfn [] ttf texq (HandSHeadRun.getT s)
theorem tob_eq (s : PySem.W.SharedT) : tob s = thk.obs s.abs := He.obsX_eq (HandSHeadRun.getT_eq s)
theorem trun (w : World) : HandSHeadRun.RunEq RR (PySem.W.view RR.prog [57]) thk tob 20000 tnames w := by
  intro os
  kernel_rfl
end KW
end
section
set_option Elab.async false
set_option linter.all false
set_option maxRecDepth 100000
set_option maxHeartbeats 4000000
/-! The end. -/
namespace KW
open PySem PySem.Spec PyProof.Rows L2 KR K18
section
variable {K : PySem.W.Frag} {mg : Str → Option Value}
theorem fun_of {x qual : Str} {st : Stmt} {f : Addr} {fd : FuncData} (F : FunD K x qual (defArgs st) (defBody st) (defScope st) [] [] f fd) : Fun K x qual st f fd := by
  obtain ⟨oc, od, dV, kV, doc, pm, an, cdv, ct, osl, rfl, lk, hcd, hD, hK⟩ := F.ex
  rcases hD with ⟨_, rfl⟩ | ⟨e, _⟩
  · exact ⟨⟨oc, od, kV, doc, pm, an, cdv, ct, osl, rfl, lk, hcd⟩, F.kp⟩
  · exact absurd rfl e
abbrev BindOk (x q : Str) (st : Stmt) (ps : List Str) : Prop := ∀ (kV doc pm : Value) (an : Option Addr) (cdv ct : Value) (us : List Value), us.length = ps.length → bindArgs (PySem.W.fnOf x q (defArgs st) (defBody st) (defScope st) .none kV doc pm an cdv ct) ⟨us, []⟩ = pure (ps.zip us)
theorem defAt_of {x : Str} {st : Stmt} {ps : List Str} (F : ∃ fd, FunD K x x (defArgs st) (defBody st) (defScope st) [] [] (He.ga K x) fd) (hb : BindOk x x st ps) (g : mg x = some (.ref (He.ga K x))) : DefAt K mg x st ps :=
  let ⟨_, F⟩ := F
  ⟨_, _, fun_of F, (fun_of F).binds hb, g⟩
theorem defC_of {x : Str} {st : Stmt} {ps : List Str} (F : ∃ fd, FunD K x x (defArgs st) (defBody st) (defScope st) [] [] (He.ga K x) fd) (hb : BindOk x x st ps) (g : mg x = some (.ref (He.ga K x))) : DefC K mg x st ps (He.codeOf K (x, none)) := by
  obtain ⟨fd, F⟩ := F
  have kp := F.kp
  have hbi := (fun_of F).binds hb
  obtain ⟨oc, od, kV, doc, pm, an, cdv, ct, osl, rfl, lk, hcd⟩ := (fun_of F).ex
  obtain ⟨c, rfl⟩ := He.codeIn_ref hcd
  have e : He.codeOf K (x, none) = c := He.codeOf_eq (p := (x, none)) lk rfl
  rw [e]
  exact ⟨_, _, oc, od, kV, doc, pm, an, ct, osl, rfl, lk, hcd, hbi, g, kp⟩
theorem ok_up {P : Program} {w : World} {base : Heap} {x : Str} {ps : List Str} {j k : Nat} {sp : Sp} (h : j ≤ k) (O : Ok P w K mg base x ps j sp) : Ok P w K mg base x ps k sp :=
  let ⟨f, fd, F, b⟩ := O
  ⟨f, fd, F.mono h, b⟩
end
theorem bo_is_int : BindOk "is_int" "is_int" s_is_int ["value"] := fun _ _ _ _ _ _ us hl => match us, hl with | [_], _ => rfl
theorem bo_is_in : BindOk "is_in" "is_in" s_is_in ["value", "least", "most"] := fun _ _ _ _ _ _ us hl => match us, hl with | [_, _, _], _ => rfl
theorem bo_need_prime : BindOk "need_prime" "need_prime" s_need_prime ["value"] := fun _ _ _ _ _ _ us hl => match us, hl with | [_], _ => rfl
theorem bo_inverse : BindOk "inverse" "inverse" s_inverse ["p", "number"] := fun _ _ _ _ _ _ us hl => match us, hl with | [_, _], _ => rfl
theorem bo_exchanged : BindOk "exchanged" "exchanged" s_exchanged ["rows"] := fun _ _ _ _ _ _ us hl => match us, hl with | [_], _ => rfl
theorem bo_echelon : BindOk "echelon" "echelon" s_echelon ["p", "rows"] := fun _ _ _ _ _ _ us hl => match us, hl with | [_, _], _ => rfl
theorem bo_kernel_of : BindOk "kernel_of" "kernel_of" s_kernel_of ["p", "rows", "wide"] := fun _ _ _ _ _ _ us hl => match us, hl with | [_, _, _], _ => rfl
theorem bo_is_free : BindOk "is_free" "is_free" s_is_free ["p", "value"] := fun _ _ _ _ _ _ us hl => match us, hl with | [_, _], _ => rfl
theorem bo_is_poly : BindOk "is_poly" "is_poly" s_is_poly ["p", "value"] := fun _ _ _ _ _ _ us hl => match us, hl with | [_, _], _ => rfl
theorem bo_trimmed : BindOk "trimmed" "trimmed" s_trimmed ["some"] := fun _ _ _ _ _ _ us hl => match us, hl with | [_], _ => rfl
theorem bo_plus : BindOk "plus" "plus" s_plus ["p", "one", "other"] := fun _ _ _ _ _ _ us hl => match us, hl with | [_, _, _], _ => rfl
theorem bo_scaled : BindOk "scaled" "scaled" s_scaled ["p", "one", "number"] := fun _ _ _ _ _ _ us hl => match us, hl with | [_, _, _], _ => rfl
theorem bo_minus : BindOk "minus" "minus" s_minus ["p", "one", "other"] := fun _ _ _ _ _ _ us hl => match us, hl with | [_, _, _], _ => rfl
theorem bo_times : BindOk "times" "times" s_times ["p", "one", "other"] := fun _ _ _ _ _ _ us hl => match us, hl with | [_, _, _], _ => rfl
theorem bo_need_p_matrix : BindOk "need_p_matrix" "need_p_matrix" s_need_p_matrix ["p", "value"] := fun _ _ _ _ _ _ us hl => match us, hl with | [_, _], _ => rfl
theorem bo_p_unit : BindOk "p_unit" "p_unit" s_p_unit ["many"] := fun _ _ _ _ _ _ us hl => match us, hl with | [_], _ => rfl
theorem bo_row_degree : BindOk "row_degree" "row_degree" s_row_degree ["row"] := fun _ _ _ _ _ _ us hl => match us, hl with | [_], _ => rfl
theorem bo_lead_of : BindOk "lead_of" "lead_of" s_lead_of ["row"] := fun _ _ _ _ _ _ us hl => match us, hl with | [_], _ => rfl
theorem bo_reduced_rows : BindOk "reduced_rows" "reduced_rows" s_reduced_rows ["p", "rows"] := fun _ _ _ _ _ _ us hl => match us, hl with | [_, _], _ => rfl
theorem bo_row_reduced : BindOk "row_reduced" "row_reduced" s_row_reduced ["p", "rows"] := fun _ _ _ _ _ _ us hl => match us, hl with | [_, _], _ => rfl
theorem bo_degrees_of : BindOk "degrees_of" "degrees_of" s_degrees_of ["p", "rows"] := fun _ _ _ _ _ _ us hl => match us, hl with | [_, _], _ => rfl
theorem bo_row_degrees : BindOk "row_degrees" "row_degrees" s_row_degrees ["p", "rows"] := fun _ _ _ _ _ _ us hl => match us, hl with | [_, _], _ => rfl
theorem bo_l_taken : BindOk "_law_taken" "_law_taken" s_l_taken ["_law_row", "_law_many"] := fun _ _ _ _ _ _ us hl => match us, hl with | [_, _], _ => rfl
theorem bo_l_pick : BindOk "_law_pick" "_law_pick" s_l_pick ["_law_row", "_law_things"] := fun _ _ _ _ _ _ us hl => match us, hl with | [_, _], _ => rfl
theorem bo_l_alike : BindOk "_law_alike" "_law_alike" s_l_alike ["_law_found", "_law_due"] := fun _ _ _ _ _ _ us hl => match us, hl with | [_, _], _ => rfl
theorem bo_l_trim : BindOk "_law_trim" "_law_trim" s_l_trim ["_law_some"] := fun _ _ _ _ _ _ us hl => match us, hl with | [_], _ => rfl
theorem bo_l_poly : BindOk "_law_poly" "_law_poly" s_l_poly ["_law_row", "_law_p", "_law_most"] := fun _ _ _ _ _ _ us hl => match us, hl with | [_, _, _], _ => rfl
theorem bo_l_sum : BindOk "_law_sum" "_law_sum" s_l_sum ["_law_p", "_law_one", "_law_other"] := fun _ _ _ _ _ _ us hl => match us, hl with | [_, _, _], _ => rfl
theorem bo_l_times : BindOk "_law_times" "_law_times" s_l_times ["_law_p", "_law_one", "_law_other"] := fun _ _ _ _ _ _ us hl => match us, hl with | [_, _, _], _ => rfl
theorem bo_l_back : BindOk "_law_back" "_law_back" s_l_back ["_law_p", "_law_number"] := fun _ _ _ _ _ _ us hl => match us, hl with | [_, _], _ => rfl
theorem bo_l_less : BindOk "_law_less" "_law_less" s_l_less ["_law_p", "_law_one", "_law_other"] := fun _ _ _ _ _ _ us hl => match us, hl with | [_, _, _], _ => rfl
theorem bo_l_rank : BindOk "_law_rank" "_law_rank" s_l_rank ["_law_p", "_law_rows"] := fun _ _ _ _ _ _ us hl => match us, hl with | [_, _], _ => rfl
theorem bo_l_table : BindOk "_law_table" "_law_table" s_l_table ["_law_row", "_law_p", "_law_high", "_law_wide", "_law_most"] := fun _ _ _ _ _ _ us hl => match us, hl with | [_, _, _, _, _], _ => rfl
theorem bo_l_p_product : BindOk "_law_p_product" "_law_p_product" s_l_p_product ["_law_p", "_law_one", "_law_other"] := fun _ _ _ _ _ _ us hl => match us, hl with | [_, _, _], _ => rfl
theorem bo_l_p_unit : BindOk "_law_p_unit" "_law_p_unit" s_l_p_unit ["_law_many"] := fun _ _ _ _ _ _ us hl => match us, hl with | [_], _ => rfl
theorem bo_l_p_det : BindOk "_law_p_det" "_law_p_det" s_l_p_det ["_law_p", "_law_rows"] := fun _ _ _ _ _ _ us hl => match us, hl with | [_, _], _ => rfl
theorem bo_l_mover : BindOk "_law_mover" "_law_mover" s_l_mover ["_law_row", "_law_p", "_law_many"] := fun _ _ _ _ _ _ us hl => match us, hl with | [_, _, _], _ => rfl
theorem bo_l_is_mover : BindOk "_law_is_mover" "_law_is_mover" s_l_is_mover ["_law_p", "_law_rows", "_law_many"] := fun _ _ _ _ _ _ us hl => match us, hl with | [_, _, _], _ => rfl
theorem bo_l_row_degree : BindOk "_law_row_degree" "_law_row_degree" s_l_row_degree ["_law_line"] := fun _ _ _ _ _ _ us hl => match us, hl with | [_], _ => rfl
theorem bo_l_small : BindOk "_law_small" "_law_small" s_l_small ["_law_row"] := fun _ _ _ _ _ _ us hl => match us, hl with | [_], _ => rfl
theorem bo_l_is_reduced : BindOk "_law_is_reduced" "_law_is_reduced" s_l_is_reduced ["_law_p", "_law_rows"] := fun _ _ _ _ _ _ us hl => match us, hl with | [_, _], _ => rfl
theorem bo_law : BindOk "law" "law" s_law ["_law_script"] := fun _ _ _ _ _ _ us hl => match us, hl with | [_], _ => rfl
theorem bm_init : BindOk "__init__" "Worker.__init__" s_Worker___init ["self", "p", "rows"] := fun _ _ _ _ _ _ us hl => match us, hl with | [_, _, _], _ => rfl
theorem bm_stretch : BindOk "stretch" "Worker.stretch" s_Worker_stretch ["self", "one", "number"] := fun _ _ _ _ _ _ us hl => match us, hl with | [_, _, _], _ => rfl
theorem bm_take : BindOk "take" "Worker.take" s_Worker_take ["self", "one", "other", "factor"] := fun _ _ _ _ _ _ us hl => match us, hl with | [_, _, _, _], _ => rfl
theorem bm_told : BindOk "told" "Worker.told" s_Worker_told ["self"] := fun _ _ _ _ _ _ us hl => match us, hl with | [_], _ => rfl
theorem law_at {l : PySem.W.OpenLaw} {w : World} {K : PySem.W.Frag} {h : Heap} {mg : Str → Option Value} {f : Addr} (X : K.In h) (G : h.Ns mainGlobals mg) (hfa : mg "law" = some (.ref f)) (c : He.SaysX tfa tfn [] ttf texq w h K) :
    LamX.LawAtS l w K CX0 11 63 "_law_script" mg f h := by
  have d := c.t.d
  have D_is_int := defAt_of (st := s_is_int) (d.def_ 0 (d := dd "is_int" s_is_int) rfl) bo_is_int (He.glo_ok X G (d.fact 0 (f := .glo "is_int") rfl))
  have D_is_in := defAt_of (st := s_is_in) (d.def_ 1 (d := dd "is_in" s_is_in) rfl) bo_is_in (He.glo_ok X G (d.fact 1 (f := .glo "is_in") rfl))
  have D_need_prime := defAt_of (st := s_need_prime) (d.def_ 2 (d := dd "need_prime" s_need_prime) rfl) bo_need_prime (He.glo_ok X G (d.fact 2 (f := .glo "need_prime") rfl))
  have D_inverse := defAt_of (st := s_inverse) (d.def_ 3 (d := dd "inverse" s_inverse) rfl) bo_inverse (He.glo_ok X G (d.fact 3 (f := .glo "inverse") rfl))
  have D_exchanged := defAt_of (st := s_exchanged) (d.def_ 4 (d := dd "exchanged" s_exchanged) rfl) bo_exchanged (He.glo_ok X G (d.fact 4 (f := .glo "exchanged") rfl))
  have D_echelon := defAt_of (st := s_echelon) (d.def_ 5 (d := dd "echelon" s_echelon) rfl) bo_echelon (He.glo_ok X G (d.fact 5 (f := .glo "echelon") rfl))
  have D_kernel_of := defAt_of (st := s_kernel_of) (d.def_ 6 (d := dd "kernel_of" s_kernel_of) rfl) bo_kernel_of (He.glo_ok X G (d.fact 6 (f := .glo "kernel_of") rfl))
  have D_is_free := defAt_of (st := s_is_free) (d.def_ 7 (d := dd "is_free" s_is_free) rfl) bo_is_free (He.glo_ok X G (d.fact 7 (f := .glo "is_free") rfl))
  have D_is_poly := defAt_of (st := s_is_poly) (d.def_ 8 (d := dd "is_poly" s_is_poly) rfl) bo_is_poly (He.glo_ok X G (d.fact 8 (f := .glo "is_poly") rfl))
  have D_trimmed := defAt_of (st := s_trimmed) (d.def_ 9 (d := dd "trimmed" s_trimmed) rfl) bo_trimmed (He.glo_ok X G (d.fact 9 (f := .glo "trimmed") rfl))
  have D_plus := defAt_of (st := s_plus) (d.def_ 10 (d := dd "plus" s_plus) rfl) bo_plus (He.glo_ok X G (d.fact 10 (f := .glo "plus") rfl))
  have D_scaled := defAt_of (st := s_scaled) (d.def_ 11 (d := dd "scaled" s_scaled) rfl) bo_scaled (He.glo_ok X G (d.fact 11 (f := .glo "scaled") rfl))
  have D_minus := defAt_of (st := s_minus) (d.def_ 12 (d := dd "minus" s_minus) rfl) bo_minus (He.glo_ok X G (d.fact 12 (f := .glo "minus") rfl))
  have D_times := defAt_of (st := s_times) (d.def_ 13 (d := dd "times" s_times) rfl) bo_times (He.glo_ok X G (d.fact 13 (f := .glo "times") rfl))
  have D_need_p_matrix := defAt_of (st := s_need_p_matrix) (d.def_ 14 (d := dd "need_p_matrix" s_need_p_matrix) rfl) bo_need_p_matrix (He.glo_ok X G (d.fact 14 (f := .glo "need_p_matrix") rfl))
  have D_p_unit := defAt_of (st := s_p_unit) (d.def_ 15 (d := dd "p_unit" s_p_unit) rfl) bo_p_unit (He.glo_ok X G (d.fact 15 (f := .glo "p_unit") rfl))
  have D_row_degree := defAt_of (st := s_row_degree) (d.def_ 16 (d := dd "row_degree" s_row_degree) rfl) bo_row_degree (He.glo_ok X G (d.fact 16 (f := .glo "row_degree") rfl))
  have D_lead_of := defAt_of (st := s_lead_of) (d.def_ 17 (d := dd "lead_of" s_lead_of) rfl) bo_lead_of (He.glo_ok X G (d.fact 17 (f := .glo "lead_of") rfl))
  have D_reduced_rows := defC_of (st := s_reduced_rows) (d.def_ 18 (d := dd "reduced_rows" s_reduced_rows) rfl) bo_reduced_rows (He.glo_ok X G (d.fact 18 (f := .glo "reduced_rows") rfl))
  have D_row_reduced := defAt_of (st := s_row_reduced) (d.def_ 19 (d := dd "row_reduced" s_row_reduced) rfl) bo_row_reduced (He.glo_ok X G (d.fact 19 (f := .glo "row_reduced") rfl))
  have D_degrees_of := defAt_of (st := s_degrees_of) (d.def_ 20 (d := dd "degrees_of" s_degrees_of) rfl) bo_degrees_of (He.glo_ok X G (d.fact 20 (f := .glo "degrees_of") rfl))
  have D_row_degrees := defAt_of (st := s_row_degrees) (d.def_ 21 (d := dd "row_degrees" s_row_degrees) rfl) bo_row_degrees (He.glo_ok X G (d.fact 21 (f := .glo "row_degrees") rfl))
  have D_l_taken := defAt_of (st := s_l_taken) (d.def_ 22 (d := dd "_law_taken" s_l_taken) rfl) bo_l_taken (He.glo_ok X G (d.fact 22 (f := .glo "_law_taken") rfl))
  have D_l_pick := defAt_of (st := s_l_pick) (d.def_ 23 (d := dd "_law_pick" s_l_pick) rfl) bo_l_pick (He.glo_ok X G (d.fact 23 (f := .glo "_law_pick") rfl))
  have D_l_alike := defAt_of (st := s_l_alike) (d.def_ 24 (d := dd "_law_alike" s_l_alike) rfl) bo_l_alike (He.glo_ok X G (d.fact 24 (f := .glo "_law_alike") rfl))
  have D_l_trim := defAt_of (st := s_l_trim) (d.def_ 25 (d := dd "_law_trim" s_l_trim) rfl) bo_l_trim (He.glo_ok X G (d.fact 25 (f := .glo "_law_trim") rfl))
  have D_l_poly := defAt_of (st := s_l_poly) (d.def_ 26 (d := dd "_law_poly" s_l_poly) rfl) bo_l_poly (He.glo_ok X G (d.fact 26 (f := .glo "_law_poly") rfl))
  have D_l_sum := defAt_of (st := s_l_sum) (d.def_ 27 (d := dd "_law_sum" s_l_sum) rfl) bo_l_sum (He.glo_ok X G (d.fact 27 (f := .glo "_law_sum") rfl))
  have D_l_times := defAt_of (st := s_l_times) (d.def_ 28 (d := dd "_law_times" s_l_times) rfl) bo_l_times (He.glo_ok X G (d.fact 28 (f := .glo "_law_times") rfl))
  have D_l_back := defAt_of (st := s_l_back) (d.def_ 29 (d := dd "_law_back" s_l_back) rfl) bo_l_back (He.glo_ok X G (d.fact 29 (f := .glo "_law_back") rfl))
  have D_l_less := defAt_of (st := s_l_less) (d.def_ 30 (d := dd "_law_less" s_l_less) rfl) bo_l_less (He.glo_ok X G (d.fact 30 (f := .glo "_law_less") rfl))
  have D_l_rank := defAt_of (st := s_l_rank) (d.def_ 31 (d := dd "_law_rank" s_l_rank) rfl) bo_l_rank (He.glo_ok X G (d.fact 31 (f := .glo "_law_rank") rfl))
  have D_l_table := defAt_of (st := s_l_table) (d.def_ 32 (d := dd "_law_table" s_l_table) rfl) bo_l_table (He.glo_ok X G (d.fact 32 (f := .glo "_law_table") rfl))
  have D_l_p_product := defAt_of (st := s_l_p_product) (d.def_ 33 (d := dd "_law_p_product" s_l_p_product) rfl) bo_l_p_product (He.glo_ok X G (d.fact 33 (f := .glo "_law_p_product") rfl))
  have D_l_p_unit := defAt_of (st := s_l_p_unit) (d.def_ 34 (d := dd "_law_p_unit" s_l_p_unit) rfl) bo_l_p_unit (He.glo_ok X G (d.fact 34 (f := .glo "_law_p_unit") rfl))
  have D_l_p_det := defAt_of (st := s_l_p_det) (d.def_ 35 (d := dd "_law_p_det" s_l_p_det) rfl) bo_l_p_det (He.glo_ok X G (d.fact 35 (f := .glo "_law_p_det") rfl))
  have D_l_mover := defAt_of (st := s_l_mover) (d.def_ 36 (d := dd "_law_mover" s_l_mover) rfl) bo_l_mover (He.glo_ok X G (d.fact 36 (f := .glo "_law_mover") rfl))
  have D_l_is_mover := defAt_of (st := s_l_is_mover) (d.def_ 37 (d := dd "_law_is_mover" s_l_is_mover) rfl) bo_l_is_mover (He.glo_ok X G (d.fact 37 (f := .glo "_law_is_mover") rfl))
  have D_l_row_degree := defAt_of (st := s_l_row_degree) (d.def_ 38 (d := dd "_law_row_degree" s_l_row_degree) rfl) bo_l_row_degree (He.glo_ok X G (d.fact 38 (f := .glo "_law_row_degree") rfl))
  have D_l_small := defAt_of (st := s_l_small) (d.def_ 39 (d := dd "_law_small" s_l_small) rfl) bo_l_small (He.glo_ok X G (d.fact 39 (f := .glo "_law_small") rfl))
  have D_l_is_reduced := defAt_of (st := s_l_is_reduced) (d.def_ 40 (d := dd "_law_is_reduced" s_l_is_reduced) rfl) bo_l_is_reduced (He.glo_ok X G (d.fact 40 (f := .glo "_law_is_reduced") rfl))
  have F_law := d.def_ 41 (d := dd "law" s_law) rfl
  have g_law := (He.glo_ok X G (d.fact 41 (f := .glo "law") rfl))
  have D_law := defAt_of (st := s_law) F_law bo_law g_law
  obtain ⟨fd_init, F_init⟩ := d.def_ 42 (d := dm "__init__" "Worker.__init__" s_Worker___init) rfl
  obtain ⟨fd_stretch, F_stretch⟩ := d.def_ 43 (d := dm "stretch" "Worker.stretch" s_Worker_stretch) rfl
  obtain ⟨fd_take, F_take⟩ := d.def_ 44 (d := dm "take" "Worker.take" s_Worker_take) rfl
  obtain ⟨fd_told, F_told⟩ := d.def_ 45 (d := dm "told" "Worker.told" s_Worker_told) rfl
  have T : Bt mg := ⟨He.free_ok X G (d.fact 44 (f := .free "len") rfl), He.free_ok X G (d.fact 45 (f := .free "range") rfl), He.free_ok X G (d.fact 46 (f := .free "zip") rfl), He.free_ok X G (d.fact 47 (f := .free "tuple") rfl), He.free_ok X G (d.fact 48 (f := .free "list") rfl), He.free_ok X G (d.fact 49 (f := .free "int") rfl), He.free_ok X G (d.fact 50 (f := .free "bool") rfl), He.free_ok X G (d.fact 51 (f := .free "str") rfl), He.free_ok X G (d.fact 52 (f := .free "isinstance") rfl), He.free_ok X G (d.fact 53 (f := .free "max") rfl), He.free_ok X G (d.fact 54 (f := .free "all") rfl), He.free_ok X G (d.fact 55 (f := .free "sorted") rfl), He.free_ok X G (d.fact 56 (f := .free "enumerate") rfl)⟩
  obtain ⟨t_MOST_DEGREE, c_MOST_DEGREE⟩ := He.int_ok X G (d.fact 57 (f := .int "MOST_DEGREE" 40) rfl)
  obtain ⟨t_MOST_SIDE, c_MOST_SIDE⟩ := He.int_ok X G (d.fact 58 (f := .int "MOST_SIDE" 6) rfl)
  obtain ⟨t_MOST_ENTRY, c_MOST_ENTRY⟩ := He.int_ok X G (d.fact 59 (f := .int "MOST_ENTRY" 12) rfl)
  have C : Cn K mg := ⟨He.ga K "PRIMES", t_MOST_DEGREE, t_MOST_SIDE, t_MOST_ENTRY, (He.glo_ok X G (d.fact 43 (f := .glo "PRIMES") rfl)), fun H => He.tupB_ok c.more H, c_MOST_DEGREE, c_MOST_SIDE, c_MOST_ENTRY⟩
  have CT : ClsT K (He.ga K "Worker") := ⟨He.cls_ok (d.fact 60 (f := .cls "Worker") rfl), He.noat_ok (d.fact 61 (f := .noat "Worker" "p") rfl), He.noat_ok (d.fact 62 (f := .noat "Worker" "rows") rfl), He.noat_ok (d.fact 63 (f := .noat "Worker" "left") rfl)⟩
  have hc := c.hd _ (List.mem_singleton.mpr rfl)
  have ho := c.out _ (List.mem_singleton.mpr rfl)
  have he := c.empty _ (List.mem_singleton.mpr rfl)
  have hcode := PySem.W.codeHd_of_K X hc
  obtain ⟨fd, F⟩ := F_law
  refine ⟨fd, [He.cT K ("reduced_rows", none)], spLawE K (He.cT K ("reduced_rows", none)).2, fun p hp => ?_, fun p hp => ?_, fun p hp => ?_, fun s u => ?_, fun H a ns hn hbits hH hS => ?_, fun base KB GB TBs => ?_⟩
  · rw [List.mem_singleton.mp hp]; exact he
  · rw [List.mem_singleton.mp hp]; exact ho
  · rw [List.mem_singleton.mp hp]; exact hcode
  · exact F.bindsA (ps := ["_law_script"]) bo_law s [u] rfl
  · refine ⟨a, ns, rfl, hS, fun p hp => ?_, fun H' => rfl⟩
    rw [List.mem_singleton.mp hp]
    exact LamX.TabS.nil (hH _ (List.mem_singleton.mpr rfl))
  have TB := TBs _ (List.mem_singleton.mpr rfl)
  have O_is_int := ok_is_int (P := l.prog) (w := w) (base := base) T D_is_int
  have O_is_in := ok_is_in T D_is_in O_is_int
  have O_alike := ok_l_alike (P := l.prog) (w := w) (base := base) T D_l_alike
  have O_taken := ok_l_taken (P := l.prog) (w := w) (base := base) T D_l_taken
  have O_pick := ok_l_pick T D_l_pick O_taken
  have O_small := ok_l_small T D_l_small O_pick
  have O_rr : ∀ (p : Nat) (hp : Pr p), Ok l.prog w K mg base "reduced_rows" ["p", "rows"] 6 (@spRR K p hp (He.cT K ("reduced_rows", none)).2) := fun p hp => by
    have O_trimmed := ok_trimmed (P := l.prog) (w := w) (base := base) (p := p) T D_trimmed
    have O_scaled := ok_scaled T D_scaled O_trimmed
    have O_plus := ok_plus T D_plus O_trimmed
    have O_minus := ok_minus T D_minus O_plus O_scaled
    have O_times := ok_times T D_times O_trimmed
    have O_row_degree := ok_row_degree (P := l.prog) (w := w) (base := base) (p := p) T D_row_degree
    have O_lead_of := ok_lead_of T D_lead_of O_row_degree
    have O_p_unit := ok_p_unit (P := l.prog) (w := w) (base := base) (p := p) T D_p_unit
    have O_inverse := ok_inverse (P := l.prog) (w := w) (base := base) (p := p) T D_inverse
    have O_echelon := ok_echelon T D_echelon O_inverse
    have O_kernel_of := ok_kernel_of T D_kernel_of O_echelon
    have O_exchanged := ok_exchanged (P := l.prog) (w := w) (base := base) (p := p) T D_exchanged
    have W1 := ok_Worker_init (P := l.prog) (w := w) (mg := mg) (base := base) (p := p) T CT (fun_of F_init) O_p_unit
    have W2 := ok_Worker_stretch T CT (fun_of F_stretch) O_scaled
    have W3 := ok_Worker_take T CT (fun_of F_take) O_times O_minus
    have W4 := ok_Worker_told (P := l.prog) (w := w) (mg := mg) (base := base) (p := p) T CT (fun_of F_told)
    exact ok_reduced_rows T D_reduced_rows TB CT (He.glo_ok X G (d.fact 42 (f := .glo "Worker") rfl)) (He.mkr_ok (d.fact 67 (f := .mkr "Worker") rfl)) W1 ((fun_of F_init).binds bm_init) (He.meth_ok (d.fact 64 (f := .meth "Worker" "stretch") rfl)) W2 ((fun_of F_stretch).binds bm_stretch) (He.meth_ok (d.fact 65 (f := .meth "Worker" "take") rfl)) W3 ((fun_of F_take).binds bm_take) (He.meth_ok (d.fact 66 (f := .meth "Worker" "told") rfl)) W4 ((fun_of F_told).binds bm_told)
      O_row_degree O_lead_of O_exchanged O_kernel_of O_scaled
  have O_np : ∀ (p : Nat) (hp : Pr p), Ok l.prog w K mg base "need_prime" ["value"] 3 (spNeedPrime K p) := fun p hp => ok_up (by decide) (ok_need_prime (p := p) T C D_need_prime O_is_int)
  have O_npm : ∀ (p : Nat) (hp : Pr p), Ok l.prog w K mg base "need_p_matrix" ["p", "value"] 5 (@spNeedPMatrix K p hp) := fun p hp => ok_need_p_matrix T C D_need_p_matrix (ok_is_poly T C D_is_poly (ok_is_free T D_is_free O_is_in))
  have O_row_reduced : Ok l.prog w K mg base "row_reduced" ["p", "rows"] 7 (spA fun p hp => @spRR K p hp (He.cT K ("reduced_rows", none)).2) := okA fun p hp => ok_row_reduced T D_row_reduced (O_np p hp) (O_npm p hp) (O_rr p hp)
  have O_row_degrees : Ok l.prog w K mg base "row_degrees" ["p", "rows"] 8 (spA fun p hp => @spDeg K p hp (He.cT K ("reduced_rows", none)).2) := okA fun p hp => ok_row_degrees T D_row_degrees (O_np p hp) (O_npm p hp) (ok_degrees_of T D_degrees_of (ok_row_degree T D_row_degree) (O_rr p hp))
  have O_trim : ∀ (p : Nat) (hp : Pr p), Ok l.prog w K mg base "_law_trim" ["_law_some"] 1 (@spLTrim K p hp) := fun p hp => ok_l_trim T D_l_trim
  have O_sum : ∀ (p : Nat) (hp : Pr p), Ok l.prog w K mg base "_law_sum" ["_law_p", "_law_one", "_law_other"] 2 (@spLSum K p hp) := fun p hp => ok_l_sum T D_l_sum (O_trim p hp)
  have O_times : ∀ (p : Nat) (hp : Pr p), Ok l.prog w K mg base "_law_times" ["_law_p", "_law_one", "_law_other"] 2 (@spLTimes K p hp) := fun p hp => ok_l_times T D_l_times (O_trim p hp)
  have O_poly : ∀ (p : Nat) (hp : Pr p), Ok l.prog w K mg base "_law_poly" ["_law_row", "_law_p", "_law_most"] 2 (@spLPoly K p hp) := fun p hp => ok_l_poly T D_l_poly O_taken (O_trim p hp)
  have O_rdeg : ∀ (p : Nat) (hp : Pr p), Ok l.prog w K mg base "_law_row_degree" ["_law_line"] 1 (@spLRowDeg K p hp) := fun p hp => ok_l_row_degree T D_l_row_degree
  have O_mover : Ok l.prog w K mg base "_law_is_mover" ["_law_p", "_law_rows", "_law_many"] 10 (spMv K) := Ok.any (ι := {q : Nat × Nat // Pr q.1 ∧ 1 ≤ q.2 ∧ q.2 ≤ 3}) ⟨(2, 1), pr2, by decide, by decide⟩ fun i => by
    obtain ⟨⟨p, n⟩, hp, n1, n3⟩ := i
    haveI : Pr p := hp
    exact ok_l_is_mover (p := p) T n1 n3 D_l_is_mover (ok_l_p_det (p := p) T D_l_p_det (O_sum p hp) (O_times p hp) (ok_l_less T D_l_less (O_sum p hp)) n1 n3)
  have OL := ok_law (Pt := (He.cT K ("reduced_rows", none)).2) T D_law O_small O_taken (okA fun p hp => ok_l_table T D_l_table (O_poly p hp)) (okA fun p hp => ok_l_p_product T D_l_p_product (O_sum p hp) (O_times p hp)) O_row_reduced O_row_degrees O_mover
    (okA fun p hp => ok_l_is_reduced T D_l_is_reduced (O_rdeg p hp) (ok_l_rank T D_l_rank (ok_l_back T D_l_back))) (okA O_rdeg) O_alike (okA O_poly) (okA fun p hp => ok_l_mover T D_l_mover O_taken (O_poly p hp) (O_sum p hp) (O_times p hp) (ok_l_p_unit T D_l_p_unit))
  obtain ⟨f', fd', F', b', g', kp', oc', od', osl', lk'⟩ := OL
  have e1 := hfa.symm.trans g'
  cases e1
  have e2 := hfa.symm.trans g_law
  obtain ⟨oc, od, kV, doc, pm, an, cdv, ct, osl, e3, lk, hcd⟩ := (fun_of (x := "law") (qual := "law") (st := s_law) F).ex
  cases e2
  have lk := (show K.lookup (He.ga K "law") = _ from lk).symm.trans lk'
  cases lk
  exact F'
end KW
end
set_option Elab.async false
open PySem PySem.W PySem.Calls PyProof.Rows
set_option maxRecDepth 100000 in
set_option maxHeartbeats 0 in
theorem PySem.Challenge.cw_steerloops_k18_whole_row_reduced_matrice_holds : PySem.Challenge.rw_steerloops_k18_whole_row_reduced_matrice.Holds := by
  w_on; o_law
  refine HandSHeadRun.head_any (r := KW.RR) (q := view KW.RR.prog [57]) (H := KW.thk) (ob := KW.tob) (M := 20000) (loose := KW.tnames) (d := HandSHeadRun.topDef KW.RR.prog 57) (kwd := []) KW.tob_eq
    (by kernel_rfl) (fun s => by kernel_rfl) KW.trun (by kernel_rfl) (by kernel_rfl) (by kernel_rfl) (by rfl) (by first | assumption | decide +kernel) (by decide +kernel) ⟨rfl, rfl, rfl, rfl, rfl, by decide +kernel⟩ ?hw ?hc
  case hw => w_witness2
  case hc =>
    refine LamX.walk_ofTsE (l := PySem.Challenge.rw_steerloops_k18_whole_row_reduced_matrice) (n := 63) (k := 11) (x := "_law_script") (CX := fun _ => L2.CX0) rfl (by decide) (by kernel_rfl) ⟨rfl, by decide, by decide⟩ ?F (fun _ _ _ _ _ z => z)
    intro w mg fa h Y G hmg0
    obtain ⟨K, KX, c⟩ := Y
    have hmg : mg ("law" : PySem.Str) = some (.ref fa) := by
      have e : (HandSHeadRun.topDef KW.RR.prog 57).name = ("law" : PySem.Str) := by kernel_rfl
      rw [← e]
      exact hmg0
    exact ⟨K, KX, KW.law_at KX G hmg c⟩

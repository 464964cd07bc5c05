import PyProof.Rows.All
import Wide.All
import OpenK.AllK
import Wide.FinOn
import HandS.ForMost
import HandS.Wide
import HandS.Zip
import HandS.TupAny
import HandS.IsInst
import HandS.Gcd
import HandS.Defaults
import PySem.Challenge.RW_plumbnet_k36_whole_least_of_all_points
import HandS.NoneIn
set_option Elab.async false
set_option linter.all false
set_option maxRecDepth 100000
set_option maxHeartbeats 9000000
/-! Plain mathematics over Rat: sums, the adjustment's invariant, least and nearest. No program in sight. -/
namespace PN
/-- the sum of f 0 .. f (n - 1) -/
def S : Nat → (Nat → Rat) → Rat
  | 0, _ => 0
  | n + 1, f => S n f + f n
theorem S_congr {n : Nat} {f g : Nat → Rat} (h : ∀ i, i < n → f i = g i) : S n f = S n g := by
  induction n with
  | zero => rfl
  | succ n ih => rw [S, S, ih fun i hi => h i (by omega), h n (by omega)]
theorem S_add (n : Nat) (f g : Nat → Rat) : S n (fun i => f i + g i) = S n f + S n g := by
  induction n with
  | zero => show (0 : Rat) = 0 + 0; grind
  | succ n ih => rw [S, S, S, ih]; grind
theorem S_mul (n : Nat) (c : Rat) (f : Nat → Rat) : S n (fun i => c * f i) = c * S n f := by
  induction n with
  | zero => simp [S]
  | succ n ih => rw [S, S, ih]; grind
theorem S_sub (n : Nat) (f g : Nat → Rat) : S n (fun i => f i - g i) = S n f - S n g := by
  induction n with
  | zero => show (0 : Rat) = 0 - 0; grind
  | succ n ih => rw [S, S, S, ih]; grind
theorem S_zero (n : Nat) : S n (fun _ => 0) = 0 := by
  induction n with
  | zero => rfl
  | succ n ih => rw [S, ih]; grind
theorem S_zero' {n : Nat} {f : Nat → Rat} (h : ∀ i, i < n → f i = 0) : S n f = 0 := (S_congr h).trans (S_zero n)
theorem S_swap (n m : Nat) (f : Nat → Nat → Rat) : S n (fun i => S m (fun j => f i j)) = S m (fun j => S n (fun i => f i j)) := by
  induction n with
  | zero => exact (S_zero m).symm
  | succ n ih =>
    show S n (fun i => S m (fun j => f i j)) + S m (fun j => f n j) = S m (fun j => S n (fun i => f i j) + f n j)
    rw [S_add, ih]
theorem S_nonneg {n : Nat} {f : Nat → Rat} (h : ∀ i, i < n → 0 ≤ f i) : 0 ≤ S n f := by
  induction n with
  | zero => exact Rat.le_refl
  | succ n ih =>
    have h1 := ih fun i hi => h i (by omega)
    have h2 := h n (by omega)
    show 0 ≤ S n f + f n
    grind
theorem S_pos_of {n : Nat} {f : Nat → Rat} (h : ∀ i, i < n → 0 ≤ f i) {k : Nat} (hk : k < n) (hp : 0 < f k) : 0 < S n f := by
  induction n with
  | zero => omega
  | succ n ih =>
    have h2 := h n (by omega)
    show 0 < S n f + f n
    by_cases e : k = n
    · subst e
      have h1 : 0 ≤ S k f := S_nonneg fun i hi => h i (by omega)
      grind
    · have h1 := ih (fun i hi => h i (by omega)) (by omega)
      grind
theorem sq_nonneg (x : Rat) : 0 ≤ x * x := by
  by_cases h : 0 ≤ x
  · exact Rat.mul_nonneg h h
  · have h1 : 0 ≤ -x := by grind
    have h2 := Rat.mul_nonneg h1 h1
    have e : (-x) * (-x) = x * x := by grind
    rw [e] at h2; exact h2
theorem sq_pos {x : Rat} (h : x ≠ 0) : 0 < x * x := by
  have h1 := sq_nonneg x
  have h2 : x * x ≠ 0 := fun e => by
    rcases Rat.mul_eq_zero.mp e with q | q <;> exact h q
  grind
/-! ### vectors and matrices -/
def dot (n : Nat) (x y : Nat → Rat) : Rat := S n fun i => x i * y i
def mulV (n : Nat) (M : Nat → Nat → Rat) (x : Nat → Rat) : Nat → Rat := fun i => S n fun j => M i j * x j
variable {n m : Nat}
theorem dot_congr {x y x' y' : Nat → Rat} (h : ∀ i, i < n → x i = x' i) (h' : ∀ i, i < n → y i = y' i) : dot n x y = dot n x' y' := S_congr fun i hi => by rw [h i hi, h' i hi]
theorem dot_comm (x y : Nat → Rat) : dot n x y = dot n y x := S_congr fun i _ => by grind
theorem dot_add (x y z : Nat → Rat) : dot n x (fun i => y i + z i) = dot n x y + dot n x z := by
  unfold dot; rw [← S_add]; exact S_congr fun i _ => by grind
theorem dot_sub (x y z : Nat → Rat) : dot n x (fun i => y i - z i) = dot n x y - dot n x z := by
  unfold dot; rw [← S_sub]; exact S_congr fun i _ => by grind
theorem dot_smul (c : Rat) (x y : Nat → Rat) : dot n x (fun i => c * y i) = c * dot n x y := by
  unfold dot; rw [← S_mul]; exact S_congr fun i _ => by grind
theorem mulV_congr {M : Nat → Nat → Rat} {x x' : Nat → Rat} (h : ∀ i, i < n → x i = x' i) (i : Nat) : mulV n M x i = mulV n M x' i := S_congr fun j hj => by rw [h j hj]
theorem mulV_congr2 {M M' : Nat → Nat → Rat} {x x' : Nat → Rat} {i : Nat} (hM : ∀ j, j < n → M i j = M' i j) (h : ∀ j, j < n → x j = x' j) : mulV n M x i = mulV n M' x' i := S_congr fun j hj => by rw [hM j hj, h j hj]
theorem mulV_add (M : Nat → Nat → Rat) (x y : Nat → Rat) (i : Nat) : mulV n M (fun j => x j + y j) i = mulV n M x i + mulV n M y i := dot_add _ _ _
theorem mulV_sub (M : Nat → Nat → Rat) (x y : Nat → Rat) (i : Nat) : mulV n M (fun j => x j - y j) i = mulV n M x i - mulV n M y i := dot_sub _ _ _
theorem mulV_smul (M : Nat → Nat → Rat) (c : Rat) (x : Nat → Rat) (i : Nat) : mulV n M (fun j => c * x j) i = c * mulV n M x i := dot_smul _ _ _
theorem mulV_zero (M : Nat → Nat → Rat) {x : Nat → Rat} (h : ∀ i, i < n → x i = 0) (i : Nat) : mulV n M x i = 0 := S_zero' fun j hj => by rw [h j hj]; grind
theorem dot_zero (y : Nat → Rat) {x : Nat → Rat} (h : ∀ i, i < n → x i = 0) : dot n y x = 0 := S_zero' fun j hj => by rw [h j hj]; grind
/-- a sum of vectors -/
theorem mulV_S (M : Nat → Nat → Rat) (f : Nat → Nat → Rat) (i : Nat) : mulV n M (fun j => S m fun t => f t j) i = S m fun t => mulV n M (f t) i := by
  unfold mulV
  rw [← S_swap]
  refine S_congr fun j _ => ?_
  rw [← S_mul]
theorem dot_S (x : Nat → Rat) (f : Nat → Nat → Rat) : dot n x (fun j => S m fun t => f t j) = S m fun t => dot n x (f t) := mulV_S (fun _ => x) f 0
theorem dot_sym {M : Nat → Nat → Rat} (h : ∀ i j, i < n → j < n → M i j = M j i) (x y : Nat → Rat) : dot n (mulV n M x) y = dot n x (mulV n M y) := by
  unfold dot mulV
  have e1 : S n (fun i => S n (fun j => M i j * x j) * y i) = S n fun i => S n fun j => M i j * x j * y i := S_congr fun i _ => by
    have := S_mul n (y i) (fun j => M i j * x j)
    rw [Rat.mul_comm, ← this]
    exact S_congr fun j _ => by grind
  have e2 : S n (fun i => x i * S n (fun j => M i j * y j)) = S n fun i => S n fun j => x i * (M i j * y j) := S_congr fun i _ => (S_mul n (x i) _).symm
  rw [e1, e2, S_swap]
  exact S_congr fun i hi => S_congr fun j hj => by rw [h j i hj hi]; grind
theorem dot_self_pos {x : Nat → Rat} {k : Nat} (hk : k < n) (h : x k ≠ 0) : 0 < dot n x x := S_pos_of (fun i _ => sq_nonneg (x i)) hk (sq_pos h)
theorem dot_self_nonneg (x : Nat → Rat) : 0 ≤ dot n x x := S_nonneg fun i _ => sq_nonneg (x i)

/-! ### the adjustment's invariant -/
/-- n points, m readings with rows A t, values V t, weights W t, approximations x0: what the kept M, P, r are -/
structure Adj (n m : Nat) (x0 : Nat → Rat) (A : Nat → Nat → Rat) (V W : Nat → Rat) (M P : Nat → Nat → Rat) (r : Nat → Rat) : Prop where
  wpos : ∀ t, t < m → 0 < W t
  Mdef : ∀ i j, i < n → j < n → M i j = S m fun t => W t * (A t i * A t j)
  rdef : ∀ i, i < n → r i = S m fun t => W t * (V t - dot n (A t) x0) * A t i
  Psym : ∀ i j, i < n → j < n → P i j = P j i
  fix : ∀ t, t < m → ∀ i, i < n → mulV n M (mulV n P (A t)) i = A t i
  ker : ∀ x, (∀ t, t < m → dot n (A t) x = 0) → ∀ i, i < n → mulV n P x i = 0
  comm : ∀ x y, dot n (mulV n M (mulV n P x)) y = dot n x (mulV n M (mulV n P y))
theorem Adj.zero {n : Nat} {x0 : Nat → Rat} {A : Nat → Nat → Rat} {V W : Nat → Rat} {M P : Nat → Nat → Rat} {r : Nat → Rat}
    (hM : ∀ i j, i < n → j < n → M i j = 0) (hP : ∀ i j, i < n → j < n → P i j = 0) (hr : ∀ i, i < n → r i = 0) : Adj n 0 x0 A V W M P r := by
  have z : ∀ x i, i < n → mulV n P x i = 0 := fun x i hi => S_zero' fun j hj => by rw [hP i j hi hj]; grind
  refine ⟨fun t h => absurd h (by omega), fun i j hi hj => hM i j hi hj, fun i hi => hr i hi, fun i j hi hj => by rw [hP i j hi hj, hP j i hj hi], fun t h => absurd h (by omega), fun x _ i hi => z x i hi, fun x y => ?_⟩
  have e1 : dot n (mulV n M (mulV n P x)) y = 0 := by rw [dot_comm]; exact dot_zero _ fun i hi => mulV_zero _ (z x) i
  have e2 : dot n x (mulV n M (mulV n P y)) = 0 := dot_zero _ fun i hi => mulV_zero _ (z y) i
  rw [e1, e2]
section
variable {x0 V W r : Nat → Rat} {A M P : Nat → Nat → Rat}
theorem Adj.congr {A' : Nat → Nat → Rat} {V' W' : Nat → Rat} (a : Adj n m x0 A V W M P r) (hA : ∀ t, t < m → A' t = A t) (hV : ∀ t, t < m → V' t = V t) (hW : ∀ t, t < m → W' t = W t) : Adj n m x0 A' V' W' M P r := by
  refine ⟨fun t h => by rw [hW t h]; exact a.wpos t h, fun i j hi hj => ?_, fun i hi => ?_, a.Psym, fun t h => by rw [hA t h]; exact a.fix t h, fun x hx => a.ker x fun t h => by rw [← hA t h]; exact hx t h, a.comm⟩
  · rw [a.Mdef i j hi hj]; exact S_congr fun t h => by rw [hA t h, hW t h]
  · rw [a.rdef i hi]; exact S_congr fun t h => by rw [hA t h, hW t h, hV t h]
theorem Adj.Msym (a : Adj n m x0 A V W M P r) : ∀ i j, i < n → j < n → M i j = M j i := fun i j hi hj => by
  rw [a.Mdef i j hi hj, a.Mdef j i hj hi]; exact S_congr fun t _ => by grind
/-- M x is a sum of rows -/
theorem Adj.Mx (a : Adj n m x0 A V W M P r) (x : Nat → Rat) {i : Nat} (hi : i < n) : mulV n M x i = S m fun t => W t * dot n (A t) x * A t i := by
  have e : mulV n M x i = S n fun j => S m fun t => W t * A t i * (A t j * x j) := S_congr fun j hj => by
    rw [a.Mdef i j hi hj, Rat.mul_comm, ← S_mul]
    exact S_congr fun t _ => by grind
  rw [e, S_swap]
  refine S_congr fun t _ => ?_
  rw [S_mul]
  show W t * A t i * dot n (A t) x = _
  grind
/-- what M x and y make -/
theorem Adj.Mxy (a : Adj n m x0 A V W M P r) (x y : Nat → Rat) : dot n (mulV n M x) y = S m fun t => W t * (dot n (A t) x * dot n (A t) y) := by
  have e : dot n (mulV n M x) y = dot n y (fun i => S m fun t => W t * dot n (A t) x * A t i) := by
    rw [dot_comm]; exact dot_congr (fun _ _ => rfl) fun i hi => a.Mx x hi
  rw [e, dot_S]
  refine S_congr fun t _ => ?_
  rw [dot_smul, dot_comm y]
  grind
theorem Adj.Mpsd (a : Adj n m x0 A V W M P r) (x : Nat → Rat) : 0 ≤ dot n (mulV n M x) x := by
  rw [a.Mxy]
  exact S_nonneg fun t ht => Rat.mul_nonneg (by have := a.wpos t ht; grind) (sq_nonneg _)
end
/-! ### a reading is added -/
section
variable {x0 V W r : Nat → Rat} {A M P : Nat → Nat → Rat}
/-- the image, the rest and the share -/
def gOf (n : Nat) (P : Nat → Nat → Rat) (a : Nat → Rat) : Nat → Rat := mulV n P a
def uOf (n : Nat) (M P : Nat → Nat → Rat) (a : Nat → Rat) : Nat → Rat := fun i => a i - mulV n M (mulV n P a) i
def sOf (n : Nat) (P : Nat → Nat → Rat) (a : Nat → Rat) : Rat := dot n a (mulV n P a)
/-- what with_added makes of P, where the rest is 0 .. -/
def P1 (n : Nat) (P : Nat → Nat → Rat) (a : Nat → Rat) (w : Rat) : Nat → Nat → Rat := fun i j => P i j + (-(w / (1 + w * sOf n P a))) * (gOf n P a i * gOf n P a j)
/-- .. and where it is not -/
def cOf (n : Nat) (M P : Nat → Nat → Rat) (a : Nat → Rat) : Nat → Rat := fun i => (1 / dot n (uOf n M P a) (uOf n M P a)) * uOf n M P a i
def P2 (n : Nat) (M P : Nat → Nat → Rat) (a : Nat → Rat) (w : Rat) : Nat → Nat → Rat := fun i j =>
  P i j + (-1) * (cOf n M P a i * gOf n P a j) + (-1) * (gOf n P a i * cOf n M P a j) + (1 / w + sOf n P a) * (cOf n M P a i * cOf n M P a j)
def M1 (M : Nat → Nat → Rat) (a : Nat → Rat) (w : Rat) : Nat → Nat → Rat := fun i j => M i j + w * (a i * a j)
def r1 (n : Nat) (x0 r a : Nat → Rat) (v w : Rat) : Nat → Rat := fun i => r i + w * (v - dot n a x0) * a i
theorem mulV_M1 (a x : Nat → Rat) (w : Rat) (i : Nat) : mulV n (M1 M a w) x i = mulV n M x i + w * a i * dot n a x := by
  have e : mulV n (M1 M a w) x i = S n fun j => M i j * x j + w * a i * (a j * x j) := S_congr fun j _ => by unfold M1; grind
  rw [e, S_add, S_mul]; rfl
theorem mulV_outer (a b x : Nat → Rat) (c : Rat) (i : Nat) : S n (fun j => c * (a i * b j) * x j) = c * a i * dot n b x := by
  have e : S n (fun j => c * (a i * b j) * x j) = S n fun j => c * a i * (b j * x j) := S_congr fun j _ => by grind
  rw [e, S_mul]; rfl
theorem mulV_P1 (a x : Nat → Rat) (w : Rat) (i : Nat) : mulV n (P1 n P a w) x i = mulV n P x i + (-(w / (1 + w * sOf n P a))) * gOf n P a i * dot n (gOf n P a) x := by
  have e : mulV n (P1 n P a w) x i = S n fun j => P i j * x j + (-(w / (1 + w * sOf n P a))) * (gOf n P a i * gOf n P a j) * x j := S_congr fun j _ => by unfold P1; grind
  rw [e, S_add, mulV_outer]; rfl
theorem mulV_P2 (a x : Nat → Rat) (w : Rat) (i : Nat) : mulV n (P2 n M P a w) x i = mulV n P x i + (-1) * cOf n M P a i * dot n (gOf n P a) x + (-1) * gOf n P a i * dot n (cOf n M P a) x
    + (1 / w + sOf n P a) * cOf n M P a i * dot n (cOf n M P a) x := by
  have e : mulV n (P2 n M P a w) x i = S n fun j => (P i j * x j + (-1) * (cOf n M P a i * gOf n P a j) * x j + (-1) * (gOf n P a i * cOf n M P a j) * x j)
      + (1 / w + sOf n P a) * (cOf n M P a i * cOf n M P a j) * x j := S_congr fun j _ => by unfold P2; grind
  rw [e, S_add, S_add, S_add, mulV_outer, mulV_outer, mulV_outer]; rfl
/-- the new M and r are the sums over one reading more -/
theorem Adj.M1def (a : Adj n m x0 A V W M P r) : ∀ i j, i < n → j < n → M1 M (A m) (W m) i j = S (m + 1) fun t => W t * (A t i * A t j) := fun i j hi hj => by
  show M i j + _ = S m _ + _
  rw [a.Mdef i j hi hj]
theorem Adj.r1def (a : Adj n m x0 A V W M P r) : ∀ i, i < n → r1 n x0 r (A m) (V m) (W m) i = S (m + 1) fun t => W t * (V t - dot n (A t) x0) * A t i := fun i hi => by
  show r i + _ = S m _ + _
  rw [a.rdef i hi]
theorem Adj.Psymm (a : Adj n m x0 A V W M P r) (x y : Nat → Rat) : dot n (mulV n P x) y = dot n x (mulV n P y) := dot_sym a.Psym x y
/-- the share, where the rest is 0, is not negative -/
theorem Adj.share_nonneg (a : Adj n m x0 A V W M P r) {b : Nat → Rat} (hu : ∀ i, i < n → uOf n M P b i = 0) : 0 ≤ sOf n P b := by
  have e : sOf n P b = dot n (mulV n M (mulV n P b)) (mulV n P b) := dot_congr (fun i hi => by have := hu i hi; unfold uOf at this; grind) fun _ _ => rfl
  rw [e]; exact a.Mpsd _
theorem Adj.step1 (a : Adj n m x0 A V W M P r) (hw : 0 < W m) (hu : ∀ i, i < n → uOf n M P (A m) i = 0) :
    Adj n (m + 1) x0 A V W (M1 M (A m) (W m)) (P1 n P (A m) (W m)) (r1 n x0 r (A m) (V m) (W m)) := by
  have hs := a.share_nonneg hu
  have hd : 1 + W m * sOf n P (A m) ≠ 0 := by
    have := Rat.mul_nonneg (show (0 : Rat) ≤ W m by grind) hs
    grind
  have hMg : ∀ i, i < n → mulV n M (mulV n P (A m)) i = A m i := fun i hi => by have := hu i hi; unfold uOf at this; grind
  have gx : ∀ x, dot n (A m) (mulV n P x) = dot n (gOf n P (A m)) x := fun x => (a.Psymm (A m) x).symm
  -- what the new M and P make of x
  have key : ∀ x i, i < n → mulV n (M1 M (A m) (W m)) (mulV n (P1 n P (A m) (W m)) x) i = mulV n M (mulV n P x) i := fun x i hi => by
    rw [mulV_M1]
    have e0 : ∀ j, j < n → mulV n (P1 n P (A m) (W m)) x j = mulV n P x j + (-(W m / (1 + W m * sOf n P (A m))) * dot n (gOf n P (A m)) x) * gOf n P (A m) j := fun j _ => by
      rw [mulV_P1]; grind
    rw [mulV_congr e0, mulV_add, mulV_smul, dot_congr (n := n) (x := A m) (fun _ _ => rfl) e0, dot_add, dot_smul, gx]
    have e1 : mulV n M (gOf n P (A m)) i = A m i := hMg i hi
    have e2 : dot n (A m) (gOf n P (A m)) = sOf n P (A m) := rfl
    rw [e1, e2]
    grind
  refine ⟨fun t ht => ?_, a.M1def, a.r1def, fun i j hi hj => ?_, fun t ht i hi => ?_, fun x hx i hi => ?_, fun x y => ?_⟩
  · by_cases e : t = m
    · rw [e]; exact hw
    · exact a.wpos t (by omega)
  · unfold P1; rw [a.Psym i j hi hj]; grind
  · rw [key _ i hi]
    by_cases e : t = m
    · rw [e]; exact hMg i hi
    · exact a.fix t (by omega) i hi
  · have hk := a.ker x fun t ht => hx t (by omega)
    have g0 : dot n (gOf n P (A m)) x = 0 := by rw [← gx]; exact dot_zero _ hk
    rw [mulV_P1, hk i hi, g0]; grind
  · rw [dot_congr (key x) fun _ _ => rfl, dot_congr (x := x) (fun _ _ => rfl) (key y)]
    exact a.comm x y
theorem Adj.step2 (a : Adj n m x0 A V W M P r) (hw : 0 < W m) {k : Nat} (hk : k < n) (hu : uOf n M P (A m) k ≠ 0) :
    Adj n (m + 1) x0 A V W (M1 M (A m) (W m)) (P2 n M P (A m) (W m)) (r1 n x0 r (A m) (V m) (W m)) := by
  have hw0 : W m ≠ 0 := by grind
  have hpos : 0 < dot n (uOf n M P (A m)) (uOf n M P (A m)) := dot_self_pos hk hu
  have hne : dot n (uOf n M P (A m)) (uOf n M P (A m)) ≠ 0 := by grind
  have gx : ∀ x, dot n (A m) (mulV n P x) = dot n (gOf n P (A m)) x := fun x => (a.Psymm (A m) x).symm
  -- the rest is orthogonal to the rows
  have ua : ∀ t, t < m → dot n (A t) (uOf n M P (A m)) = 0 := fun t ht => by
    have e1 : dot n (A t) (uOf n M P (A m)) = dot n (A t) (A m) - dot n (A t) (mulV n M (mulV n P (A m))) := dot_sub _ _ _
    have e2 := a.comm (A t) (A m)
    have e3 : dot n (mulV n M (mulV n P (A t))) (A m) = dot n (A t) (A m) := dot_congr (a.fix t ht) fun _ _ => rfl
    rw [e1, ← e2, e3]; grind
  have Pu : ∀ i, i < n → mulV n P (uOf n M P (A m)) i = 0 := a.ker _ ua
  have Mu : ∀ i, i < n → mulV n M (uOf n M P (A m)) i = 0 := fun i hi => by
    rw [a.Mx _ hi]; exact S_zero' fun t ht => by rw [ua t ht]; grind
  have gu : dot n (gOf n P (A m)) (uOf n M P (A m)) = 0 := by rw [← gx]; exact dot_zero _ Pu
  have Mgu : dot n (uOf n M P (A m)) (mulV n M (gOf n P (A m))) = 0 := by
    rw [← dot_sym a.Msym, dot_comm]; exact dot_zero _ Mu
  have au : dot n (A m) (uOf n M P (A m)) = dot n (uOf n M P (A m)) (uOf n M P (A m)) := by
    have e : dot n (uOf n M P (A m)) (uOf n M P (A m)) = dot n (uOf n M P (A m)) (A m) - dot n (uOf n M P (A m)) (mulV n M (gOf n P (A m))) := dot_sub (uOf n M P (A m)) (A m) (mulV n M (gOf n P (A m)))
    rw [e, Mgu, dot_comm (A m)]; grind
  have cx : ∀ x, dot n (cOf n M P (A m)) x = (1 / dot n (uOf n M P (A m)) (uOf n M P (A m))) * dot n (uOf n M P (A m)) x := fun x => by
    have e : dot n x (cOf n M P (A m)) = (1 / dot n (uOf n M P (A m)) (uOf n M P (A m))) * dot n x (uOf n M P (A m)) := dot_smul _ _ _
    rw [dot_comm, e, dot_comm x]
  have ca : dot n (A m) (cOf n M P (A m)) = 1 := by
    rw [dot_comm, cx, dot_comm (uOf n M P (A m)) (A m), au]; grind
  have ct : ∀ t, t < m → dot n (cOf n M P (A m)) (A t) = 0 := fun t ht => by
    rw [cx, dot_comm (uOf n M P (A m)) (A t), ua t ht]; grind
  have Mc : ∀ i, i < n → mulV n M (cOf n M P (A m)) i = 0 := fun i hi => by
    show mulV n M (fun j => _ * uOf n M P (A m) j) i = 0
    rw [mulV_smul, Mu i hi]; grind
  have Mg : ∀ i, mulV n M (gOf n P (A m)) i = A m i - uOf n M P (A m) i := fun i => by unfold uOf gOf; grind
  have as : dot n (A m) (gOf n P (A m)) = sOf n P (A m) := rfl
  -- what the new M and P make of x
  have key : ∀ x i, i < n → mulV n (M1 M (A m) (W m)) (mulV n (P2 n M P (A m) (W m)) x) i = mulV n M (mulV n P x) i + uOf n M P (A m) i * dot n (cOf n M P (A m)) x := fun x i hi => by
    rw [mulV_M1]
    have e0 : ∀ j, j < n → mulV n (P2 n M P (A m) (W m)) x j = (mulV n P x j + (-dot n (cOf n M P (A m)) x) * gOf n P (A m) j)
        + ((1 / W m + sOf n P (A m)) * dot n (cOf n M P (A m)) x - dot n (gOf n P (A m)) x) * cOf n M P (A m) j := fun j _ => by
      rw [mulV_P2]; grind
    rw [mulV_congr e0, mulV_add, mulV_add, mulV_smul, mulV_smul, dot_congr (n := n) (x := A m) (fun _ _ => rfl) e0, dot_add, dot_add, dot_smul, dot_smul, gx, ca, Mc i hi, Mg, as]
    grind
  refine ⟨fun t ht => ?_, a.M1def, a.r1def, fun i j hi hj => ?_, fun t ht i hi => ?_, fun x hx i hi => ?_, fun x y => ?_⟩
  · by_cases e : t = m
    · rw [e]; exact hw
    · exact a.wpos t (by omega)
  · unfold P2; rw [a.Psym i j hi hj]; grind
  · rw [key _ i hi]
    by_cases e : t = m
    · rw [e, dot_comm, ca]
      have := Mg i
      unfold gOf at this
      rw [this]; grind
    · rw [ct t (by omega), a.fix t (by omega) i hi]; grind
  · have h1 := a.ker x fun t ht => hx t (by omega)
    have g0 : dot n (gOf n P (A m)) x = 0 := by rw [← gx]; exact dot_zero _ h1
    have M0 : ∀ i, i < n → mulV n M x i = 0 := fun i hi => by
      rw [a.Mx _ hi]; exact S_zero' fun t ht => by rw [hx t (by omega)]; grind
    have u0 : dot n (uOf n M P (A m)) x = 0 := by
      rw [dot_comm]
      have e : dot n x (uOf n M P (A m)) = dot n x (A m) - dot n x (mulV n M (gOf n P (A m))) := dot_sub _ _ _
      have e2 : dot n (mulV n M x) (gOf n P (A m)) = 0 := by rw [dot_comm]; exact dot_zero _ M0
      rw [e, ← dot_sym a.Msym, dot_comm x (A m), hx m (by omega), e2]; grind
    rw [mulV_P2, h1 i hi, g0, cx, u0]; grind
  · rw [dot_congr (key x) fun _ _ => rfl, dot_congr (x := x) (fun _ _ => rfl) (key y), dot_add, dot_comm _ y, dot_add, dot_comm y (mulV n M (mulV n P x)), a.comm x y]
    have e1 : dot n y (fun i => uOf n M P (A m) i * dot n (cOf n M P (A m)) x) = dot n (cOf n M P (A m)) x * dot n y (uOf n M P (A m)) := by
      rw [← dot_smul]; exact dot_congr (fun _ _ => rfl) fun i _ => by grind
    have e2 : dot n x (fun i => uOf n M P (A m) i * dot n (cOf n M P (A m)) y) = dot n (cOf n M P (A m)) y * dot n x (uOf n M P (A m)) := by
      rw [← dot_smul]; exact dot_congr (fun _ _ => rfl) fun i _ => by grind
    rw [e1, e2, cx, cx, dot_comm y (uOf n M P (A m)), dot_comm x (uOf n M P (A m))]
    grind
/-! ### the told heights are least and nearest -/
def hOf (n : Nat) (x0 r : Nat → Rat) (P : Nat → Nat → Rat) : Nat → Rat := fun i => x0 i + mulV n P r i
def sqs (n m : Nat) (A : Nat → Nat → Rat) (V W x : Nat → Rat) : Rat := S m fun t => W t * (dot n (A t) x - V t) * (dot n (A t) x - V t)
theorem Adj.MPr (a : Adj n m x0 A V W M P r) {i : Nat} (hi : i < n) : mulV n M (mulV n P r) i = r i := by
  have e : ∀ j, j < n → mulV n P r j = S m fun t => (W t * (V t - dot n (A t) x0)) * mulV n P (A t) j := fun j hj => by
    rw [mulV_congr (x' := fun i => S m fun t => W t * (V t - dot n (A t) x0) * A t i) a.rdef, mulV_S]
    exact S_congr fun t _ => mulV_smul _ _ _ _
  rw [mulV_congr e, mulV_S, a.rdef i hi]
  refine S_congr fun t ht => ?_
  rw [mulV_smul, a.fix t ht i hi]
theorem Adj.normal (a : Adj n m x0 A V W M P r) (d : Nat → Rat) : S m (fun t => W t * ((dot n (A t) (hOf n x0 r P) - V t) * dot n (A t) d)) = 0 := by
  have e1 : dot n (mulV n M (mulV n P r)) d = dot n r d := dot_congr (fun i hi => a.MPr hi) fun _ _ => rfl
  rw [a.Mxy] at e1
  have e2 : dot n r d = S m fun t => W t * (V t - dot n (A t) x0) * dot n (A t) d := by
    rw [dot_comm, dot_congr (fun _ _ => rfl) a.rdef, dot_S]
    exact S_congr fun t _ => by rw [dot_smul, dot_comm d (A t)]
  have e3 : S m (fun t => W t * ((dot n (A t) (hOf n x0 r P) - V t) * dot n (A t) d)) = S m (fun t => W t * (dot n (A t) (mulV n P r) * dot n (A t) d)) - S m (fun t => W t * (V t - dot n (A t) x0) * dot n (A t) d) := by
    rw [← S_sub]
    refine S_congr fun t _ => ?_
    have e : dot n (A t) (hOf n x0 r P) = dot n (A t) x0 + dot n (A t) (mulV n P r) := dot_add _ _ _
    rw [e]; grind
  rw [e3, e1, e2]; grind
theorem Adj.sqs_eq (a : Adj n m x0 A V W M P r) (x : Nat → Rat) :
    sqs n m A V W x = sqs n m A V W (hOf n x0 r P) + S m fun t => W t * (dot n (A t) (fun i => x i - hOf n x0 r P i) * dot n (A t) (fun i => x i - hOf n x0 r P i)) := by
  have h0 := a.normal fun i => x i - hOf n x0 r P i
  unfold sqs
  have e : S m (fun t => W t * (dot n (A t) x - V t) * (dot n (A t) x - V t)) =
      (S m (fun t => W t * (dot n (A t) (hOf n x0 r P) - V t) * (dot n (A t) (hOf n x0 r P) - V t)) + S m fun t => W t * (dot n (A t) (fun i => x i - hOf n x0 r P i) * dot n (A t) (fun i => x i - hOf n x0 r P i)))
      + 2 * S m fun t => W t * ((dot n (A t) (hOf n x0 r P) - V t) * dot n (A t) (fun i => x i - hOf n x0 r P i)) := by
    rw [← S_mul, ← S_add, ← S_add]
    refine S_congr fun t _ => ?_
    rw [dot_sub]; grind
  rw [e, h0]; grind
theorem Adj.least (a : Adj n m x0 A V W M P r) {x : Nat → Rat} {t : Nat} (ht : t < m) (hd : dot n (A t) (fun i => x i - hOf n x0 r P i) ≠ 0) : sqs n m A V W (hOf n x0 r P) < sqs n m A V W x := by
  have h : 0 < S m fun t => W t * (dot n (A t) (fun i => x i - hOf n x0 r P i) * dot n (A t) (fun i => x i - hOf n x0 r P i)) :=
    S_pos_of (fun i hi => Rat.mul_nonneg (by have := a.wpos i hi; grind) (sq_nonneg _)) ht (Rat.mul_pos (a.wpos t ht) (sq_pos hd))
  have e := a.sqs_eq x
  grind
theorem Adj.still (a : Adj n m x0 A V W M P r) {x : Nat → Rat} (hd : ∀ t, t < m → dot n (A t) (fun i => x i - hOf n x0 r P i) = 0) : sqs n m A V W x = sqs n m A V W (hOf n x0 r P) := by
  have e := a.sqs_eq x
  have h : (S m fun t => W t * (dot n (A t) (fun i => x i - hOf n x0 r P i) * dot n (A t) (fun i => x i - hOf n x0 r P i))) = 0 := S_zero' fun t ht => by rw [hd t ht]; grind
  grind
def dist (n : Nat) (x y : Nat → Rat) : Rat := S n fun i => (x i - y i) * (x i - y i)
theorem Adj.dist_eq (a : Adj n m x0 A V W M P r) {x : Nat → Rat} (hd : ∀ t, t < m → dot n (A t) (fun i => x i - hOf n x0 r P i) = 0) :
    dist n x x0 = dist n (hOf n x0 r P) x0 + dot n (fun i => x i - hOf n x0 r P i) (fun i => x i - hOf n x0 r P i) := by
  have h0 : dot n (fun i => x i - hOf n x0 r P i) (mulV n P r) = 0 := by
    rw [← a.Psymm, dot_comm]; exact dot_zero _ (a.ker _ hd)
  have e : dist n x x0 = (dist n (hOf n x0 r P) x0 + dot n (fun i => x i - hOf n x0 r P i) (fun i => x i - hOf n x0 r P i)) + 2 * dot n (fun i => x i - hOf n x0 r P i) (mulV n P r) := by
    unfold dist dot
    rw [← S_mul, ← S_add, ← S_add]
    exact S_congr fun i _ => by unfold hOf; grind
  rw [e, h0]; grind
theorem Adj.near (a : Adj n m x0 A V W M P r) {x : Nat → Rat} (hd : ∀ t, t < m → dot n (A t) (fun i => x i - hOf n x0 r P i) = 0) {k : Nat} (hk : k < n) (hm : x k - hOf n x0 r P k ≠ 0) :
    dist n (hOf n x0 r P) x0 < dist n x x0 := by
  have e := a.dist_eq hd
  have := dot_self_pos (x := fun i => x i - hOf n x0 r P i) hk hm
  grind
theorem Adj.same (a : Adj n m x0 A V W M P r) {x : Nat → Rat} (hm : ∀ k, k < n → x k - hOf n x0 r P k = 0) : dist n x x0 = dist n (hOf n x0 r P) x0 :=
  S_congr fun i hi => by
    have := hm i hi
    have e : x i = hOf n x0 r P i := by grind
    rw [e]
end
end PN

/-! Sizes: bounds by common denominators. -/
namespace PN
/-- x has the denominator D (perhaps not the least), its numerator is at most B -/
def Fr (D : Int) (B : Nat) (x : Rat) : Prop := ∃ z : Int, x * (D : Rat) = (z : Rat) ∧ z.natAbs ≤ B
def C1 (k : Nat) (x : Rat) : Prop := ∃ D : Int, 0 < D ∧ D.natAbs ≤ 2 ^ k ∧ Fr D (2 ^ k) x
def Cd (n k : Nat) (f : Nat → Rat) : Prop := ∃ D : Int, 0 < D ∧ D.natAbs ≤ 2 ^ k ∧ ∀ i, i < n → Fr D (2 ^ k) (f i)
def Cdm (n m k : Nat) (F : Nat → Nat → Rat) : Prop := ∃ D : Int, 0 < D ∧ D.natAbs ≤ 2 ^ k ∧ ∀ i j, i < n → j < m → Fr D (2 ^ k) (F i j)
theorem p2 {a b : Nat} (h : a ≤ b) : (2 : Nat) ^ a ≤ 2 ^ b := Nat.pow_le_pow_right (by decide) h
theorem p2m {x y a b : Nat} (h : x ≤ 2 ^ a) (h' : y ≤ 2 ^ b) : x * y ≤ 2 ^ (a + b) := by rw [Nat.pow_add]; exact Nat.mul_le_mul h h'
theorem p2a {x y a : Nat} (h : x ≤ 2 ^ a) (h' : y ≤ 2 ^ a) : x + y ≤ 2 ^ (a + 1) := by rw [Nat.pow_succ]; omega
theorem p2up {x a b : Nat} (h : x ≤ 2 ^ a) (hb : a ≤ b) : x ≤ 2 ^ b := Nat.le_trans h (p2 hb)
theorem Fr.up {D : Int} {B B' : Nat} {x : Rat} (h : Fr D B x) (hb : B ≤ B') : Fr D B' x := let ⟨z, a, b⟩ := h; ⟨z, a, Nat.le_trans b hb⟩
theorem Fr.add {D : Int} {B B' : Nat} {x y : Rat} (h : Fr D B x) (h' : Fr D B' y) : Fr D (B + B') (x + y) := by
  obtain ⟨z, a, b⟩ := h
  obtain ⟨z', a', b'⟩ := h'
  refine ⟨z + z', ?_, Nat.le_trans (Int.natAbs_add_le _ _) (Nat.add_le_add b b')⟩
  rw [Rat.intCast_add]; grind
theorem Fr.neg {D : Int} {B : Nat} {x : Rat} (h : Fr D B x) : Fr D B (-x) := by
  obtain ⟨z, a, b⟩ := h
  refine ⟨-z, ?_, by rw [Int.natAbs_neg]; exact b⟩
  rw [Rat.intCast_neg]; grind
theorem Fr.sub {D : Int} {B B' : Nat} {x y : Rat} (h : Fr D B x) (h' : Fr D B' y) : Fr D (B + B') (x - y) := by
  have := h.add h'.neg
  have e : x - y = x + -y := by grind
  rw [e]; exact this
theorem Fr.mul {D D' : Int} {B B' : Nat} {x y : Rat} (h : Fr D B x) (h' : Fr D' B' y) : Fr (D * D') (B * B') (x * y) := by
  obtain ⟨z, a, b⟩ := h
  obtain ⟨z', a', b'⟩ := h'
  refine ⟨z * z', ?_, by rw [Int.natAbs_mul]; exact Nat.mul_le_mul b b'⟩
  rw [Rat.intCast_mul, Rat.intCast_mul]; grind
theorem Fr.wide {D : Int} {B : Nat} {x : Rat} (h : Fr D B x) (E : Int) : Fr (D * E) (B * E.natAbs) x := by
  obtain ⟨z, a, b⟩ := h
  refine ⟨z * E, ?_, by rw [Int.natAbs_mul]; exact Nat.mul_le_mul_right _ b⟩
  rw [Rat.intCast_mul, Rat.intCast_mul]; grind
theorem Fr.int (z : Int) : Fr 1 z.natAbs (z : Rat) := ⟨z, by grind, Nat.le_refl _⟩
theorem Fr.sum {D : Int} {B n : Nat} {f : Nat → Rat} (h : ∀ i, i < n → Fr D B (f i)) : Fr D (n * B) (S n f) := by
  induction n with
  | zero => exact ⟨0, by show (0 : Rat) * _ = _; grind, by simp⟩
  | succ n ih =>
    have := (ih fun i hi => h i (by omega)).add (h n (by omega))
    rw [Nat.succ_mul]; exact this
theorem pos_mul {a b : Int} (h : 0 < a) (h' : 0 < b) : 0 < a * b := Int.mul_pos h h'
theorem nle (n : Nat) : n ≤ 2 ^ n := Nat.le_of_lt Nat.lt_two_pow_self

theorem C1.up {k k' : Nat} {x : Rat} (h : C1 k x) (hk : k ≤ k') : C1 k' x := let ⟨D, a, b, c⟩ := h; ⟨D, a, p2up b hk, c.up (p2 hk)⟩
theorem Cd.up {n k k' : Nat} {f : Nat → Rat} (h : Cd n k f) (hk : k ≤ k') : Cd n k' f := let ⟨D, a, b, c⟩ := h; ⟨D, a, p2up b hk, fun i hi => (c i hi).up (p2 hk)⟩
theorem Cdm.up {n m k k' : Nat} {F : Nat → Nat → Rat} (h : Cdm n m k F) (hk : k ≤ k') : Cdm n m k' F := let ⟨D, a, b, c⟩ := h; ⟨D, a, p2up b hk, fun i j hi hj => (c i j hi hj).up (p2 hk)⟩
theorem Cd.at {n k : Nat} {f : Nat → Rat} (h : Cd n k f) {i : Nat} (hi : i < n) : C1 k (f i) := let ⟨D, a, b, c⟩ := h; ⟨D, a, b, c i hi⟩
theorem Cdm.row {n m k : Nat} {F : Nat → Nat → Rat} (h : Cdm n m k F) {i : Nat} (hi : i < n) : Cd m k (F i) := let ⟨D, a, b, c⟩ := h; ⟨D, a, b, fun j hj => c i j hi hj⟩
theorem Cd.congr {n k : Nat} {f g : Nat → Rat} (h : Cd n k f) (e : ∀ i, i < n → f i = g i) : Cd n k g := let ⟨D, a, b, c⟩ := h; ⟨D, a, b, fun i hi => by rw [← e i hi]; exact c i hi⟩
theorem Cdm.congr {n m k : Nat} {F G : Nat → Nat → Rat} (h : Cdm n m k F) (e : ∀ i j, i < n → j < m → F i j = G i j) : Cdm n m k G := let ⟨D, a, b, c⟩ := h; ⟨D, a, b, fun i j hi hj => by rw [← e i j hi hj]; exact c i j hi hj⟩
theorem Cd.less {n n' k : Nat} {f : Nat → Rat} (h : Cd n k f) (hn : n' ≤ n) : Cd n' k f := let ⟨D, a, b, c⟩ := h; ⟨D, a, b, fun i hi => c i (by omega)⟩
theorem C1.int {k : Nat} {z : Int} (h : z.natAbs ≤ 2 ^ k) : C1 k (z : Rat) := ⟨1, by decide, Nat.one_le_two_pow, (Fr.int z).up h⟩
theorem C1.neg {k : Nat} {x : Rat} (h : C1 k x) : C1 k (-x) := let ⟨D, a, b, c⟩ := h; ⟨D, a, b, c.neg⟩
theorem C1.add {a b : Nat} {x y : Rat} (h : C1 a x) (h' : C1 b y) : C1 (a + b + 1) (x + y) := by
  obtain ⟨D, d1, d2, d3⟩ := h
  obtain ⟨E, e1, e2, e3⟩ := h'
  refine ⟨D * E, pos_mul d1 e1, by rw [Int.natAbs_mul]; exact p2up (p2m d2 e2) (by omega), ?_⟩
  have q := (d3.wide E).add (by rw [Int.mul_comm]; exact e3.wide D)
  refine q.up (p2a (p2m (Nat.le_refl _) e2) ?_)
  rw [Nat.add_comm a b]; exact p2m (Nat.le_refl _) d2
theorem C1.sub {a b : Nat} {x y : Rat} (h : C1 a x) (h' : C1 b y) : C1 (a + b + 1) (x - y) := by
  have e : x - y = x + -y := by grind
  rw [e]; exact h.add h'.neg
theorem C1.mul {a b : Nat} {x y : Rat} (h : C1 a x) (h' : C1 b y) : C1 (a + b) (x * y) := by
  obtain ⟨D, d1, d2, d3⟩ := h
  obtain ⟨E, e1, e2, e3⟩ := h'
  exact ⟨D * E, pos_mul d1 e1, by rw [Int.natAbs_mul]; exact p2m d2 e2, (d3.mul e3).up (by rw [Nat.pow_add]; exact Nat.le_refl _)⟩
theorem C1.inv {k : Nat} {x : Rat} (h : C1 k x) (hx : x ≠ 0) : C1 k (1 / x) := by
  obtain ⟨D, d1, d2, z, e, hz⟩ := h
  have hD : (D : Rat) ≠ 0 := fun q => by have := Rat.intCast_eq_zero_iff.mp q; omega
  have z0 : z ≠ 0 := fun q => by
    subst q
    rcases Rat.mul_eq_zero.mp e with q | q
    · exact hx q
    · exact hD q
  have hzz : (z : Rat) ≠ 0 := fun q => z0 (Rat.intCast_eq_zero_iff.mp q)
  by_cases hp : 0 < z
  · exact ⟨z, hp, hz, D, by grind, d2⟩
  · exact ⟨-z, by omega, by rw [Int.natAbs_neg]; exact hz, -D, by rw [Rat.intCast_neg, Rat.intCast_neg]; grind, by rw [Int.natAbs_neg]; exact d2⟩
theorem C1.div {a b : Nat} {x y : Rat} (h : C1 a x) (h' : C1 b y) (hy : y ≠ 0) : C1 (a + b) (x / y) := by
  have e : x / y = x * (1 / y) := by grind
  rw [e]; exact h.mul (h'.inv hy)
theorem Cd.add {n a b : Nat} {f g : Nat → Rat} (h : Cd n a f) (h' : Cd n b g) : Cd n (a + b + 1) (fun i => f i + g i) := by
  obtain ⟨D, d1, d2, d3⟩ := h
  obtain ⟨E, e1, e2, e3⟩ := h'
  refine ⟨D * E, pos_mul d1 e1, by rw [Int.natAbs_mul]; exact p2up (p2m d2 e2) (by omega), fun i hi => ?_⟩
  have q := ((d3 i hi).wide E).add (by rw [Int.mul_comm]; exact (e3 i hi).wide D)
  refine q.up (p2a (p2m (Nat.le_refl _) e2) ?_)
  rw [Nat.add_comm a b]; exact p2m (Nat.le_refl _) d2
theorem Cd.neg {n a : Nat} {f : Nat → Rat} (h : Cd n a f) : Cd n a (fun i => -f i) := let ⟨D, a, b, c⟩ := h; ⟨D, a, b, fun i hi => (c i hi).neg⟩
theorem Cd.sub {n a b : Nat} {f g : Nat → Rat} (h : Cd n a f) (h' : Cd n b g) : Cd n (a + b + 1) (fun i => f i - g i) :=
  (h.add h'.neg).congr fun i _ => by grind
theorem Cd.scale {n a b : Nat} {c : Rat} {f : Nat → Rat} (h : C1 a c) (h' : Cd n b f) : Cd n (a + b) (fun i => c * f i) := by
  obtain ⟨D, d1, d2, d3⟩ := h
  obtain ⟨E, e1, e2, e3⟩ := h'
  exact ⟨D * E, pos_mul d1 e1, by rw [Int.natAbs_mul]; exact p2m d2 e2, fun i hi => (d3.mul (e3 i hi)).up (by rw [Nat.pow_add]; exact Nat.le_refl _)⟩
theorem Cd.zero (n : Nat) : Cd n 0 (fun _ => 0) := ⟨1, by decide, by decide, fun i _ => ⟨0, by grind, by decide⟩⟩
theorem Cdm.zero (n m : Nat) : Cdm n m 0 (fun _ _ => 0) := ⟨1, by decide, by decide, fun i j _ _ => ⟨0, by grind, by decide⟩⟩
/-- a partial sum of products -/
theorem Cd.part {n a b : Nat} {f g : Nat → Rat} (h : Cd n a f) (h' : Cd n b g) {p : Nat} (hp : p ≤ n) : C1 (a + b + n) (S p fun i => f i * g i) := by
  obtain ⟨D, d1, d2, d3⟩ := h
  obtain ⟨E, e1, e2, e3⟩ := h'
  refine ⟨D * E, pos_mul d1 e1, by rw [Int.natAbs_mul]; exact p2up (p2m d2 e2) (by omega), ?_⟩
  have q : Fr (D * E) (p * (2 ^ a * 2 ^ b)) (S p fun i => f i * g i) := Fr.sum fun i hi => (d3 i (by omega)).mul (e3 i (by omega))
  refine q.up ?_
  rw [← Nat.pow_add, Nat.mul_comm]
  exact p2m (Nat.le_refl _) (Nat.le_trans (nle p) (p2 hp))
theorem Cd.dot {n a b : Nat} {f g : Nat → Rat} (h : Cd n a f) (h' : Cd n b g) : C1 (a + b + n) (PN.dot n f g) := h.part h' (Nat.le_refl _)
theorem Cdm.mulV {n m a b : Nat} {F : Nat → Nat → Rat} {g : Nat → Rat} (h : Cdm n m a F) (h' : Cd m b g) : Cd n (a + b + m) (PN.mulV m F g) := by
  obtain ⟨D, d1, d2, d3⟩ := h
  obtain ⟨E, e1, e2, e3⟩ := h'
  refine ⟨D * E, pos_mul d1 e1, by rw [Int.natAbs_mul]; exact p2up (p2m d2 e2) (by omega), fun i hi => ?_⟩
  have q : Fr (D * E) (m * (2 ^ a * 2 ^ b)) (S m fun j => F i j * g j) := Fr.sum fun j hj => (d3 i j hi hj).mul (e3 j hj)
  refine q.up ?_
  rw [← Nat.pow_add, Nat.mul_comm]
  exact p2m (Nat.le_refl _) (nle m)
theorem Cdm.outer {n m a b : Nat} {f g : Nat → Rat} (h : Cd n a f) (h' : Cd m b g) : Cdm n m (a + b) (fun i j => f i * g j) := by
  obtain ⟨D, d1, d2, d3⟩ := h
  obtain ⟨E, e1, e2, e3⟩ := h'
  exact ⟨D * E, pos_mul d1 e1, by rw [Int.natAbs_mul]; exact p2m d2 e2, fun i j hi hj => ((d3 i hi).mul (e3 j hj)).up (by rw [Nat.pow_add]; exact Nat.le_refl _)⟩
theorem Cdm.add {n m a b : Nat} {f g : Nat → Nat → Rat} (h : Cdm n m a f) (h' : Cdm n m b g) : Cdm n m (a + b + 1) (fun i j => f i j + g i j) := by
  obtain ⟨D, d1, d2, d3⟩ := h
  obtain ⟨E, e1, e2, e3⟩ := h'
  refine ⟨D * E, pos_mul d1 e1, by rw [Int.natAbs_mul]; exact p2up (p2m d2 e2) (by omega), fun i j hi hj => ?_⟩
  have q := ((d3 i j hi hj).wide E).add (by rw [Int.mul_comm]; exact (e3 i j hi hj).wide D)
  refine q.up (p2a (p2m (Nat.le_refl _) e2) ?_)
  rw [Nat.add_comm a b]; exact p2m (Nat.le_refl _) d2
theorem Cdm.scale {n m a b : Nat} {c : Rat} {f : Nat → Nat → Rat} (h : C1 a c) (h' : Cdm n m b f) : Cdm n m (a + b) (fun i j => c * f i j) := by
  obtain ⟨D, d1, d2, d3⟩ := h
  obtain ⟨E, e1, e2, e3⟩ := h'
  exact ⟨D * E, pos_mul d1 e1, by rw [Int.natAbs_mul]; exact p2m d2 e2, fun i j hi hj => (d3.mul (e3 i j hi hj)).up (by rw [Nat.pow_add]; exact Nat.le_refl _)⟩
/-- one number more -/
theorem Cd.snoc {n a b : Nat} {f : Nat → Rat} (h : Cd n a f) (h' : C1 b (f n)) : Cd (n + 1) (a + b) f := by
  obtain ⟨D, d1, d2, d3⟩ := h
  obtain ⟨E, e1, e2, e3⟩ := h'
  refine ⟨D * E, pos_mul d1 e1, by rw [Int.natAbs_mul]; exact p2m d2 e2, fun i hi => ?_⟩
  by_cases q : i = n
  · rw [q, Int.mul_comm D E]
    refine (e3.wide D).up ?_
    rw [Nat.add_comm]; exact p2m (Nat.le_refl _) d2
  · exact ((d3 i (by omega)).wide E).up (p2m (Nat.le_refl _) e2)
/-! ### what a bound says of top and bottom -/
/-- small enough for the machine's products -/
def Big (x : Rat) : Prop := x.num.natAbs.log2 < 60000000 ∧ x.den.log2 < 60000000
theorem log2_lt_of {n k : Nat} (h : n ≤ 2 ^ k) : n.log2 ≤ k := by
  by_cases h0 : n = 0
  · subst h0; simp
  · have h1 : n < 2 ^ (k + 1) := Nat.lt_of_le_of_lt h (Nat.pow_lt_pow_right (by decide) (by omega))
    have := (Nat.log2_lt h0).mpr h1
    omega
theorem Fr.parts {D : Int} {B : Nat} {x : Rat} (hD : 0 < D) (h : Fr D B x) : x.num.natAbs ≤ B ∧ x.den ≤ D.natAbs := by
  obtain ⟨z, e, hz⟩ := h
  have hden : (x.den : Int) ≠ 0 := by have := x.den_nz; omega
  have hden' : ((x.den : Int) : Rat) ≠ 0 := fun q => hden (Rat.intCast_eq_zero_iff.mp q)
  have ex : x * ((x.den : Int) : Rat) = (x.num : Rat) := by
    have h1 : x = (x.num : Rat) / ((x.den : Int) : Rat) := by rw [← Rat.divInt_eq_div, Rat.num_divInt_den]
    have h2 : (x.num : Rat) / ((x.den : Int) : Rat) * ((x.den : Int) : Rat) = (x.num : Rat) := Rat.div_mul_cancel hden'
    rw [← h1] at h2
    exact h2
  have e1 : ((x.num * D : Int) : Rat) = ((z * x.den : Int) : Rat) := by
    rw [Rat.intCast_mul, Rat.intCast_mul]; grind
  have e2 : x.num * D = z * x.den := Rat.intCast_inj.mp e1
  have e3 : x.num.natAbs * D.natAbs = z.natAbs * x.den := by
    have := congrArg Int.natAbs e2
    rw [Int.natAbs_mul, Int.natAbs_mul] at this
    simpa using this
  have cop : Nat.Coprime x.num.natAbs x.den := x.reduced
  have d1 : x.den ∣ D.natAbs := by
    have : x.den ∣ x.num.natAbs * D.natAbs := ⟨z.natAbs, by rw [e3, Nat.mul_comm]⟩
    exact (Nat.Coprime.symm cop).dvd_of_dvd_mul_left this
  have d2 : x.num.natAbs ∣ z.natAbs := by
    have : x.num.natAbs ∣ z.natAbs * x.den := ⟨D.natAbs, e3.symm⟩
    exact cop.dvd_of_dvd_mul_right this
  refine ⟨?_, Nat.le_of_dvd (by omega) d1⟩
  by_cases h0 : z.natAbs = 0
  · rw [h0] at e3
    have : x.num.natAbs = 0 := by
      rcases Nat.mul_eq_zero.mp (e3.trans (Nat.zero_mul _)) with q | q
      · exact q
      · omega
    omega
  · exact Nat.le_trans (Nat.le_of_dvd (by omega) d2) hz
theorem C1.big {k : Nat} {x : Rat} (h : C1 k x) (hk : k < 60000000) : Big x := by
  obtain ⟨D, d1, d2, d3⟩ := h
  obtain ⟨p, q⟩ := d3.parts d1
  exact ⟨Nat.lt_of_le_of_lt (log2_lt_of p) hk, Nat.lt_of_le_of_lt (log2_lt_of (Nat.le_trans q d2)) hk⟩
/-! ### a reading is added: the new P -/
/-- a row's numbers, a weight -/
def RowOk (n : Nat) (a : Nat → Rat) : Prop := ∀ i, i < n → Fr 1 (2 ^ 4) (a i)
def WOk (w : Rat) : Prop := ∃ z : Int, w * ((28 : Int) : Rat) = (z : Rat) ∧ 0 < z ∧ z.natAbs ≤ 2 ^ 11
theorem RowOk.cd {n : Nat} {a : Nat → Rat} (h : RowOk n a) : Cd n 4 a := ⟨1, by decide, by decide, h⟩
theorem WOk.pos {w : Rat} (h : WOk w) : 0 < w := by
  obtain ⟨z, e, hz, _⟩ := h
  have h1 : (0 : Rat) < (z : Rat) := Rat.intCast_pos.mpr hz
  have h28 : ((28 : Int) : Rat) = 28 := rfl
  rw [h28] at e
  grind
theorem WOk.c1 {w : Rat} (h : WOk w) : C1 11 w := by
  obtain ⟨z, e, hz, h2⟩ := h
  exact ⟨28, by decide, by decide, z, e, h2⟩
theorem P1_cd {n k : Nat} {P : Nat → Nat → Rat} {a : Nat → Rat} {w : Rat} (hn : n ≤ 5) (hP : Cdm n n k P) (ha : RowOk n a) (hw : WOk w) (hd : 1 + w * sOf n P a ≠ 0) : Cdm n n (5 * k + 200) (P1 n P a w) := by
  have g : Cd n (k + 4 + n) (gOf n P a) := hP.mulV ha.cd
  have s : C1 (4 + (k + 4 + n) + n) (sOf n P a) := ha.cd.dot g
  have one : C1 0 ((1 : Int) : Rat) := C1.int (by decide)
  have e1 : ((1 : Int) : Rat) = 1 := rfl
  rw [e1] at one
  have f := (hw.c1.div (one.add (hw.c1.mul s)) hd).neg
  have r := hP.add (Cdm.scale f (Cdm.outer g g))
  refine (Cdm.up r ?_).congr fun i j _ _ => ?_
  · omega
  · rfl
theorem P2_cd {n k : Nat} {M P : Nat → Nat → Rat} {a : Nat → Rat} {w : Rat} (hn : n ≤ 5) (hP : Cdm n n k P) (hM : ∀ i j, i < n → j < n → Fr 28 (2 ^ 21) (M i j)) (ha : RowOk n a) (hw : WOk w)
    {p : Nat} (hp : p < n) (hu : uOf n M P a p ≠ 0) : Cdm n n (5 * k + 200) (P2 n M P a w) := by
  obtain ⟨D, d1, d2, d3⟩ := hP
  obtain ⟨z, ez, z1, z2⟩ := hw
  have n3 : n ≤ 2 ^ 3 := Nat.le_trans hn (by decide)
  have hg : ∀ i, i < n → Fr D (2 ^ (k + 7)) (gOf n P a i) := fun i hi => by
    have q : Fr (D * 1) (n * (2 ^ k * 2 ^ 4)) (S n fun j => P i j * a j) := Fr.sum fun j hj => (d3 i j hi hj).mul (ha j hj)
    rw [Int.mul_one] at q
    refine q.up ?_
    have := p2m n3 (p2m (Nat.le_refl (2 ^ k)) (Nat.le_refl (2 ^ 4)))
    exact p2up this (by omega)
  have hs : Fr D (2 ^ (k + 14)) (sOf n P a) := by
    have q : Fr (1 * D) (n * (2 ^ 4 * 2 ^ (k + 7))) (S n fun j => a j * gOf n P a j) := Fr.sum fun j hj => (ha j hj).mul (hg j hj)
    rw [Int.one_mul] at q
    refine q.up ?_
    have := p2m n3 (p2m (Nat.le_refl (2 ^ 4)) (Nat.le_refl (2 ^ (k + 7))))
    exact p2up this (by omega)
  have hu' : ∀ i, i < n → Fr (28 * D) (2 ^ (k + 32)) (uOf n M P a i) := fun i hi => by
    have q : Fr (28 * D) (n * (2 ^ 21 * 2 ^ (k + 7))) (S n fun j => M i j * gOf n P a j) := Fr.sum fun j hj => (hM i j hi hj).mul (hg j hj)
    have q2 : Fr (1 * (28 * D)) (2 ^ 4 * (28 * D).natAbs) (a i) := (ha i hi).wide (28 * D)
    rw [Int.one_mul] at q2
    refine (q2.sub q).up (p2up (p2a (a := k + 31) ?_ ?_) (by omega))
    · rw [Int.natAbs_mul]
      have := p2m (Nat.le_refl (2 ^ 4)) (p2m (show (28 : Int).natAbs ≤ 2 ^ 5 by decide) d2)
      exact p2up this (by omega)
    · have := p2m n3 (p2m (Nat.le_refl (2 ^ 21)) (Nat.le_refl (2 ^ (k + 7))))
      exact p2up this (by omega)
  have huu : Fr ((28 * D) * (28 * D)) (2 ^ (2 * k + 67)) (dot n (uOf n M P a) (uOf n M P a)) := by
    have q : Fr ((28 * D) * (28 * D)) (n * (2 ^ (k + 32) * 2 ^ (k + 32))) (S n fun j => uOf n M P a j * uOf n M P a j) := Fr.sum fun j hj => (hu' j hj).mul (hu' j hj)
    refine q.up ?_
    have := p2m n3 (p2m (Nat.le_refl (2 ^ (k + 32))) (Nat.le_refl (2 ^ (k + 32))))
    exact p2up this (by omega)
  have hpos : 0 < dot n (uOf n M P a) (uOf n M P a) := dot_self_pos hp hu
  obtain ⟨Z, eZ, hZ⟩ := huu
  have hDD : (0 : Int) < (28 * D) * (28 * D) := pos_mul (by omega) (by omega)
  have Zpos : 0 < Z := by
    have h1 : (0 : Rat) < ((((28 * D) * (28 * D) : Int)) : Rat) := Rat.intCast_pos.mpr hDD
    have h2 := Rat.mul_pos hpos h1
    rw [eZ] at h2
    exact Rat.intCast_pos.mp h2
  have hZ0 : (Z : Rat) ≠ 0 := fun q => by have := Rat.intCast_eq_zero_iff.mp q; omega
  have hne : dot n (uOf n M P a) (uOf n M P a) ≠ 0 := by grind
  -- c has the denominator Z
  have hc : ∀ i, i < n → Fr Z (2 ^ (2 * k + 37)) (cOf n M P a i) := fun i hi => by
    obtain ⟨y, ey, hy⟩ := hu' i hi
    refine ⟨28 * D * y, ?_, ?_⟩
    · unfold cOf
      rw [Rat.intCast_mul] at ey eZ
      rw [Rat.intCast_mul]
      rw [← eZ, ← ey]
      have : dot n (uOf n M P a) (uOf n M P a) * (1 / dot n (uOf n M P a) (uOf n M P a)) = 1 := by grind
      grind
    · rw [Int.natAbs_mul, Int.natAbs_mul]
      have := p2m (p2m (show (28 : Int).natAbs ≤ 2 ^ 5 by decide) d2) hy
      exact p2up this (by omega)
  have hw0 : w ≠ 0 := by have := WOk.pos ⟨z, ez, z1, z2⟩; grind
  have hz0 : (z : Rat) ≠ 0 := fun q => by have := Rat.intCast_eq_zero_iff.mp q; omega
  have hiw : Fr z 28 (1 / w) := ⟨28, by rw [← ez]; grind, by decide⟩
  have hf : Fr (z * D) (2 ^ (k + 26)) (1 / w + sOf n P a) := by
    have q1 := hiw.wide D
    have q2 := hs.wide z
    rw [Int.mul_comm D z] at q2
    refine (q1.add q2).up (p2up (p2a (a := k + 25) ?_ ?_) (by omega))
    · exact p2up (p2m (show 28 ≤ 2 ^ 5 by decide) d2) (by omega)
    · exact p2up (p2m (Nat.le_refl (2 ^ (k + 14))) z2) (by omega)
  have hZB : Z.natAbs ≤ 2 ^ (2 * k + 67) := hZ
  have hE : (D * z * (Z * Z)).natAbs ≤ 2 ^ (5 * k + 145) := by
    rw [Int.natAbs_mul, Int.natAbs_mul, Int.natAbs_mul]
    exact p2up (p2m (p2m d2 z2) (p2m hZB hZB)) (by omega)
  refine ⟨D * z * (Z * Z), pos_mul (pos_mul d1 z1) (pos_mul Zpos Zpos), p2up hE (by omega), fun i j hi hj => ?_⟩
  have t1 : Fr (D * z * (Z * Z)) (2 ^ (5 * k + 146)) (P i j) := by
    have q := (d3 i j hi hj).wide (z * (Z * Z))
    rw [show D * (z * (Z * Z)) = D * z * (Z * Z) from (Int.mul_assoc _ _ _).symm] at q
    refine q.up ?_
    rw [Int.natAbs_mul, Int.natAbs_mul]
    exact p2up (p2m (Nat.le_refl (2 ^ k)) (p2m z2 (p2m hZB hZB))) (by omega)
  have t2 : ∀ i' j', i' < n → j' < n → Fr (D * z * (Z * Z)) (2 ^ (5 * k + 146)) (cOf n M P a i' * gOf n P a j') := fun i' j' hi' hj' => by
    have q := ((hc i' hi').mul (hg j' hj')).wide (z * Z)
    rw [show Z * D * (z * Z) = D * z * (Z * Z) by rw [Int.mul_comm Z D, Int.mul_assoc, Int.mul_assoc, Int.mul_left_comm Z z Z]] at q
    refine q.up ?_
    rw [Int.natAbs_mul]
    exact p2up (p2m (p2m (Nat.le_refl (2 ^ (2 * k + 37))) (Nat.le_refl (2 ^ (k + 7)))) (p2m z2 hZB)) (by omega)
  have t3 : Fr (D * z * (Z * Z)) (2 ^ (5 * k + 146)) ((1 / w + sOf n P a) * (cOf n M P a i * cOf n M P a j)) := by
    have q := hf.mul ((hc i hi).mul (hc j hj))
    rw [Int.mul_comm z D] at q
    refine q.up ?_
    exact p2up (p2m (Nat.le_refl (2 ^ (k + 26))) (p2m (Nat.le_refl (2 ^ (2 * k + 37))) (Nat.le_refl (2 ^ (2 * k + 37))))) (by omega)
  have e : P2 n M P a w i j = ((P i j - cOf n M P a i * gOf n P a j) - cOf n M P a j * gOf n P a i) + (1 / w + sOf n P a) * (cOf n M P a i * cOf n M P a j) := by unfold P2; grind
  rw [e]
  refine (((t1.sub (t2 i j hi hj)).sub (t2 j i hj hi)).add t3).up ?_
  have h1 : 2 ^ (5 * k + 146) + 2 ^ (5 * k + 146) ≤ 2 ^ (5 * k + 147) := p2a (Nat.le_refl _) (Nat.le_refl _)
  have h2 := p2a (p2a h1 (p2 (show 5 * k + 146 ≤ 5 * k + 147 by omega))) (p2 (show 5 * k + 146 ≤ 5 * k + 147 + 1 by omega))
  exact p2up h2 (by omega)
/-- the normal matrix keeps its denominator -/
theorem M1_fr {n : Nat} {M : Nat → Nat → Rat} {a : Nat → Rat} {w : Rat} {m : Nat} (hM : ∀ i j, i < n → j < n → Fr 28 (m * 2 ^ 18) (M i j)) (ha : ∀ i, i < n → Fr 1 9 (a i)) (hw : WOk w) :
    ∀ i j, i < n → j < n → Fr 28 ((m + 1) * 2 ^ 18) (M1 M a w i j) := fun i j hi hj => by
  obtain ⟨z, e, z1, z2⟩ := hw
  have q0 : Fr (28 * (1 * 1)) (2 ^ 11 * (9 * 9)) (w * (a i * a j)) := Fr.mul ⟨z, e, z2⟩ ((ha i hi).mul (ha j hj))
  have q : Fr 28 (2 ^ 18) (w * (a i * a j)) := by
    rw [show (28 : Int) * (1 * 1) = 28 by decide] at q0
    exact q0.up (by decide)
  have := (hM i j hi hj).add q
  rw [Nat.succ_mul]
  exact this
theorem Cd.big {n k : Nat} {f : Nat → Rat} (h : Cd n k f) (hk : k < 60000000) {i : Nat} (hi : i < n) : Big (f i) := (h.at hi).big hk
end PN

/-! Our own words over the layer: what a heap keeps, Ratios at addresses, own operators, great ints. -/
namespace PN
open PySem L2 PyProof.Rows

/-! ### what is kept -/
/-- never changed once it stands: tuples, finished Ratios and Readings, locked things -/
def Im : HO → Bool
  | .tup _ => true
  | .ins _ _ fs => (fs.lookup ("bottom" : Str)).isSome || (fs.lookup ("weight" : Str)).isSome
  | .frz _ _ => true
  | _ => false
structure Kp (S : List Addr) (H H' : Hp) : Prop where
  out : ∀ a o, a ∉ S → H a = some o → H' a = some o
  imm : ∀ a o, Im o = true → H a = some o → H' a = some o
theorem Kp.refl (S : List Addr) (H : Hp) : Kp S H H := ⟨fun _ _ _ h => h, fun _ _ _ h => h⟩
theorem Kp.trans {S : List Addr} {H H1 H2 : Hp} (a : Kp S H H1) (b : Kp S H1 H2) : Kp S H H2 := ⟨fun c o n h => b.out c o n (a.out c o n h), fun c o n h => b.imm c o n (a.imm c o n h)⟩
theorem Kp.mono {S S' : List Addr} {H H' : Hp} (a : Kp S H H') (h : ∀ x ∈ S, x ∈ S') : Kp S' H H' := ⟨fun c o n e => a.out c o (fun z => n (h c z)) e, a.imm⟩
theorem Kp.any {S : List Addr} {H H' : Hp} (a : Kp [] H H') : Kp S H H' := a.mono (by simp)
theorem Kp.all {H H' : Hp} (a : Kp [] H H') : ∀ b o, H b = some o → H' b = some o := fun b o => a.out b o (by simp)
theorem Kp.same {H H' : Hp} (a : Kp [] H H') : Same H H' := a.all
theorem Kp.of {S : List Addr} {H H' : Hp} (a : ∀ b o, H b = some o → H' b = some o) : Kp S H H' := ⟨fun b o _ => a b o, fun b o _ => a b o⟩
theorem Kp.free {H H' : Hp} (a : Kp [] H H') {l : Addr} (h : H' l = none) : H l = none := a.same.free h
theorem Kp.new {S : List Addr} {H : Hp} {p : Addr} {o : HO} (h : H p = none) : Kp S H (upd H p o) := .of fun b u e => by rw [upd_ne (ne_of_none e h)]; exact e
theorem Kp.new' {S : List Addr} {H H1 : Hp} {p : Addr} {o : HO} (a : Kp S H H1) (h : H1 p = none) : Kp S H (upd H1 p o) := a.trans (.new h)
theorem Kp.set {S : List Addr} {H : Hp} {p : Addr} {o u : HO} (h : H p = some o) (hi : Im o = false) (hp : p ∈ S) : Kp S H (upd H p u) :=
  ⟨fun b v n e => by rw [upd_ne (fun z => n (by rw [z]; exact hp))]; exact e, fun b v n e => by
    rw [upd_ne (fun z => by rw [z, h] at e; cases e; rw [hi] at n; cases n)]; exact e⟩
theorem Kp.set' {S : List Addr} {H H1 : Hp} {p : Addr} {o u : HO} (a : Kp S H H1) (h : H1 p = some o) (hi : Im o = false) (hp : p ∈ S) : Kp S H (upd H1 p u) := a.trans (.set h hi hp)
/-- what was new ahead may be written -/
theorem Kp.fresh {S : List Addr} {H H1 : Hp} {p : Addr} {u : HO} (a : Kp S H H1) (h : H p = none) : Kp S H (upd H1 p u) :=
  ⟨fun b v n e => by rw [upd_ne (ne_of_none e h)]; exact a.out b v n e, fun b v n e => by rw [upd_ne (ne_of_none e h)]; exact a.imm b v n e⟩

/-- a fact of a value that stays -/
def Mono (R : V → Hp → Prop) : Prop := ∀ S H H' v, Kp S H H' → R v H → R v H'
/-- what a def hands back -/
def Ret (H : Hp) (Q : VK) (R : V → Hp → Prop) : Prop := ∀ v H', Kp [] H H' → R v H' → Q v H'
/-- a tuple whose i-th item is R i -/
def TupR (R : Nat → V → Hp → Prop) (n : Nat) : V → Hp → Prop := fun v H => ∃ a vs, v = .ref a ∧ H a = some (.tup vs) ∧ vs.length = n ∧ ∀ i x, vs[i]? = some x → R i x H
def LstR (R : Nat → V → Hp → Prop) (n : Nat) (a : Addr) (H : Hp) : Prop := ∃ vs, H a = some (.lst vs) ∧ vs.length = n ∧ ∀ i x, vs[i]? = some x → R i x H
theorem TupR.mono {R : Nat → V → Hp → Prop} {n : Nat} (h : ∀ i, Mono (R i)) : Mono (TupR R n) := fun S H H' v k ⟨a, vs, e, ha, hl, hi⟩ =>
  ⟨a, vs, e, k.imm a _ rfl ha, hl, fun i x hx => h i S H H' x k (hi i x hx)⟩
theorem LstR.mono {R : Nat → V → Hp → Prop} {n : Nat} {a : Addr} (h : ∀ i, Mono (R i)) {S : List Addr} {H H' : Hp} (k : Kp S H H') (hn : a ∉ S) (l : LstR R n a H) : LstR R n a H' :=
  let ⟨vs, ha, hl, hi⟩ := l; ⟨vs, k.out a _ hn ha, hl, fun i x hx => h i S H H' x k (hi i x hx)⟩
theorem TupR.imp {R R' : Nat → V → Hp → Prop} {n : Nat} {v : V} {H : Hp} (t : TupR R n v H) (h : ∀ i x, i < n → R i x H → R' i x H) : TupR R' n v H :=
  let ⟨a, vs, e, ha, hl, hi⟩ := t; ⟨a, vs, e, ha, hl, fun i x hx => h i x (by have := (List.getElem?_eq_some_iff.mp hx).1; omega) (hi i x hx)⟩
theorem LstR.imp {R R' : Nat → V → Hp → Prop} {n : Nat} {a : Addr} {H : Hp} (t : LstR R n a H) (h : ∀ i x, i < n → R i x H → R' i x H) : LstR R' n a H :=
  let ⟨vs, ha, hl, hi⟩ := t; ⟨vs, ha, hl, fun i x hx => h i x (by have := (List.getElem?_eq_some_iff.mp hx).1; omega) (hi i x hx)⟩
theorem LstR.snoc {R : Nat → V → Hp → Prop} {n : Nat} {D : Addr} {H : Hp} {acc : List V} {y : V} (h : ∀ i, Mono (R i)) (hD : H D = some (.lst acc)) (hl : acc.length = n) (hi : ∀ i x, acc[i]? = some x → R i x H) (hy : R n y H) :
    LstR R (n + 1) D (upd H D (.lst (acc ++ [y]))) := by
  have k : Kp [D] H (upd H D (.lst (acc ++ [y]))) := .set hD rfl (by simp)
  refine ⟨acc ++ [y], upd_same, by rw [List.length_append, hl]; rfl, fun i x hx => h i _ _ _ _ k ?_⟩
  by_cases q : i < acc.length
  · rw [List.getElem?_append_left q] at hx; exact hi i x hx
  · have hb := (List.getElem?_eq_some_iff.mp hx).1
    rw [List.length_append] at hb
    have e : i = acc.length := by simp at hb; omega
    subst e
    rw [List.getElem?_append_right (Nat.le_refl _)] at hx
    simp at hx
    rw [← hx, hl]; exact hy
theorem LstR.tup {R : Nat → V → Hp → Prop} {n : Nat} {l : Addr} {H : Hp} (h : ∀ i, Mono (R i)) {vs : List V} (hl : vs.length = n) (hi : ∀ i x, vs[i]? = some x → R i x H) (hf : H l = none) : TupR R n (.ref l) (upd H l (.tup vs)) :=
  ⟨l, vs, rfl, upd_same, hl, fun i x hx => h i [] _ _ _ (.new hf) (hi i x hx)⟩
theorem get_of {α : Type} {vs : List α} {n i : Nat} (hl : vs.length = n) (hi : i < n) : ∃ x, vs[i]? = some x := ⟨vs[i]'(by omega), List.getElem?_eq_getElem (by omega)⟩

/-! ### comprehensions -/
theorem yes_of {te : TE} {σ : L2.St} {H : Hp} {Q : VK} {N : Hp → Prop} (h : te σ H Q) : tYes σ H (fun b H3 => if b = true then te σ H3 Q else N H3) := by
  show (if true = true then te σ H Q else N H)
  rw [if_pos rfl]
  exact h
section
variable {K : PySem.W.Frag} {a b : Addr} {xs ys : List V} {g : TG} {te : TE} {ns : List Nat} {σ : L2.St} {H1 : Hp} {D : Addr} {Qd : Hp → Prop} {R : Nat → V → Hp → Prop}
theorem lcR_start (hD : H1 D = none) : Kp [] H1 (upd H1 D (.lst [])) ∧ LstR R 0 D (upd H1 D (.lst [])) := ⟨.new hD, [], upd_same, rfl, fun i x h => by simp at h⟩
theorem lcR_turn (hR : ∀ i, Mono (R i)) (hD : H1 D = none) {i : Nat} {H H4 : Hp} {y : V} (hz : i < sizeLine) (k : Kp [] H1 H) (l : LstR R i D H) (k4 : Kp [] H H4) (r : R i y H4) :
    ∃ acc, H4 D = some (.lst acc) ∧ acc.length < sizeLine ∧ (Kp [] H1 (upd H4 D (.lst (acc ++ [y]))) ∧ LstR R (i + 1) D (upd H4 D (.lst (acc ++ [y])))) := by
  obtain ⟨vs, ha, hl, hi⟩ := l
  exact ⟨vs, k4.all _ _ ha, by omega, (k.trans k4).fresh hD, LstR.snoc hR (k4.all _ _ ha) hl (fun j x hx => hR j _ _ _ _ k4 (hi j x hx)) r⟩
/-- over a tuple: each turn makes R i -/
theorem lcR_tup (hR : ∀ i, Mono (R i)) (hD : H1 D = none) (ha : H1 a = some (.tup xs)) (hz : xs.length < sizeLine)
    (turn : ∀ (i : Nat) (x : V) (H : Hp) (Q : VK), xs[i]? = some x → Kp [] H1 H → (∀ y H4, Kp [] H H4 → R i y H4 → Q y H4) → g x (wipe σ ns) H fun σ2 H2 => wipe σ2 ns = wipe σ ns ∧ te σ2 H2 Q)
    (mono : ∀ x σ H Q Q', (∀ σ2 H2, Q σ2 H2 → Q' σ2 H2) → g x σ H Q → g x σ H Q')
    (done : ∀ H, Kp [] H1 H → LstR R xs.length D H → Qd H) :
    ∃ Wt : Nat → Nat → Hp → Prop, (∃ m, Wt 0 m (upd H1 D (.lst []))) ∧ ∀ i m H, Wt i m H →
      ((Itt K a).stop i H ∧ Qd H) ∨ ((Itt K a).go i H ∧ ∃ Nx : Hp → Prop, (∀ H', Nx H' → ∃ m', m' < m ∧ Wt (i + 1) m' H') ∧ ∀ x H', (Itt K a).yld i H x H' → g x (wipe σ ns) H' fun σ2 H2 => wipe σ2 ns = wipe σ ns ∧ tYes σ2 H2 fun b H3 =>
        if b = true then te σ2 H3 fun z H4 => ∃ acc, H4 D = some (.lst acc) ∧ acc.length < sizeLine ∧ Nx (upd H4 D (.lst (acc ++ [z]))) else Nx H3) := by
  refine lc_tup (K := K) (a := a) (xs := xs) (fun i H => Kp [] H1 H ∧ LstR R i D H) (lcR_start hD) (fun i H _ p => SqT.of (p.1.all _ _ ha)) (fun i x H hx p => ?_) fun H p => done H p.1 p.2
  have hi := (List.getElem?_eq_some_iff.mp hx).1
  refine mono _ _ _ _ _ (fun σ2 H2 q => ⟨q.1, yes_of q.2⟩) (turn i x H (fun y H4 => _) hx p.1 fun y H4 k4 r => lcR_turn hR hD (by omega) p.1 p.2 k4 r)
/-- over a list that stays -/
theorem lcR_list (hR : ∀ i, Mono (R i)) (hD : H1 D = none) (ha : H1 a = some (.lst xs)) (hz : xs.length < sizeLine)
    (turn : ∀ (i : Nat) (x : V) (H : Hp) (Q : VK), xs[i]? = some x → Kp [] H1 H → (∀ y H4, Kp [] H H4 → R i y H4 → Q y H4) → g x (wipe σ ns) H fun σ2 H2 => wipe σ2 ns = wipe σ ns ∧ te σ2 H2 Q)
    (mono : ∀ x σ H Q Q', (∀ σ2 H2, Q σ2 H2 → Q' σ2 H2) → g x σ H Q → g x σ H Q')
    (done : ∀ H, Kp [] H1 H → LstR R xs.length D H → Qd H) :
    ∃ Wt : Nat → Nat → Hp → Prop, (∃ m, Wt 0 m (upd H1 D (.lst []))) ∧ ∀ i m H, Wt i m H →
      ((Itl K a).stop i H ∧ Qd H) ∨ ((Itl K a).go i H ∧ ∃ Nx : Hp → Prop, (∀ H', Nx H' → ∃ m', m' < m ∧ Wt (i + 1) m' H') ∧ ∀ x H', (Itl K a).yld i H x H' → g x (wipe σ ns) H' fun σ2 H2 => wipe σ2 ns = wipe σ ns ∧ tYes σ2 H2 fun b H3 =>
        if b = true then te σ2 H3 fun z H4 => ∃ acc, H4 D = some (.lst acc) ∧ acc.length < sizeLine ∧ Nx (upd H4 D (.lst (acc ++ [z]))) else Nx H3) := by
  refine lc_list (K := K) (a := a) (xs := xs) (fun i H => Kp [] H1 H ∧ LstR R i D H) (lcR_start hD) (fun i H _ p => SqL.of (p.1.all _ _ ha)) (fun i x H hx p => ?_) fun H p => done H p.1 p.2
  have hi := (List.getElem?_eq_some_iff.mp hx).1
  refine mono _ _ _ _ _ (fun σ2 H2 q => ⟨q.1, yes_of q.2⟩) (turn i x H (fun y H4 => _) hx p.1 fun y H4 k4 r => lcR_turn hR hD (by omega) p.1 p.2 k4 r)
/-- over a range -/
theorem lcR_range {n : Nat} (hR : ∀ i, Mono (R i)) (hD : H1 D = none) (hz : n < sizeLine)
    (turn : ∀ (i : Nat) (H : Hp) (Q : VK), i < n → Kp [] H1 H → (∀ y H4, Kp [] H H4 → R i y H4 → Q y H4) → g (.int (0 + (i : Int))) (wipe σ ns) H fun σ2 H2 => wipe σ2 ns = wipe σ ns ∧ te σ2 H2 Q)
    (mono : ∀ x σ H Q Q', (∀ σ2 H2, Q σ2 H2 → Q' σ2 H2) → g x σ H Q → g x σ H Q')
    (done : ∀ H, Kp [] H1 H → LstR R n D H → Qd H) :
    ∃ Wt : Nat → Nat → Hp → Prop, (∃ m, Wt 0 m (upd H1 D (.lst []))) ∧ ∀ i m H, Wt i m H →
      ((Itr 0 n).stop i H ∧ Qd H) ∨ ((Itr 0 n).go i H ∧ ∃ Nx : Hp → Prop, (∀ H', Nx H' → ∃ m', m' < m ∧ Wt (i + 1) m' H') ∧ ∀ x H', (Itr 0 n).yld i H x H' → g x (wipe σ ns) H' fun σ2 H2 => wipe σ2 ns = wipe σ ns ∧ tYes σ2 H2 fun b H3 =>
        if b = true then te σ2 H3 fun z H4 => ∃ acc, H4 D = some (.lst acc) ∧ acc.length < sizeLine ∧ Nx (upd H4 D (.lst (acc ++ [z]))) else Nx H3) := by
  refine lc_range (lo := 0) (n := n) (fun i H => Kp [] H1 H ∧ LstR R i D H) (lcR_start hD) (fun i H hi p => ?_) fun H p => done H p.1 p.2
  refine mono _ _ _ _ _ (fun σ2 H2 q => ⟨q.1, yes_of q.2⟩) (turn i H (fun y H4 => _) hi p.1 fun y H4 k4 r => lcR_turn hR hD (by omega) p.1 p.2 k4 r)
/-- over zip of two tuples of one length -/
theorem lcR_zip (hR : ∀ i, Mono (R i)) (hD : H1 D = none) (ha : H1 a = some (.tup xs)) (hb : H1 b = some (.tup ys)) (hl : xs.length = ys.length) (hz : xs.length < sizeLine)
    (turn : ∀ (i : Nat) (x y : V) (T : Addr) (H : Hp) (Q : VK), xs[i]? = some x → ys[i]? = some y → Kp [] H1 H → H T = none → (∀ z H4, Kp [] (upd H T (.tup [x, y])) H4 → R i z H4 → Q z H4) →
      g (.ref T) (wipe σ ns) (upd H T (.tup [x, y])) fun σ2 H2 => wipe σ2 ns = wipe σ ns ∧ te σ2 H2 Q)
    (mono : ∀ x σ H Q Q', (∀ σ2 H2, Q σ2 H2 → Q' σ2 H2) → g x σ H Q → g x σ H Q')
    (done : ∀ H, Kp [] H1 H → LstR R xs.length D H → Qd H) :
    ∃ Wt : Nat → Nat → Hp → Prop, (∃ m, Wt 0 m (upd H1 D (.lst []))) ∧ ∀ i m H, Wt i m H →
      ((RZ.ItzT K a b).stop i H ∧ Qd H) ∨ ((RZ.ItzT K a b).go i H ∧ ∃ Nx : Hp → Prop, (∀ H', Nx H' → ∃ m', m' < m ∧ Wt (i + 1) m' H') ∧ ∀ x H', (RZ.ItzT K a b).yld i H x H' → g x (wipe σ ns) H' fun σ2 H2 => wipe σ2 ns = wipe σ ns ∧ tYes σ2 H2 fun b H3 =>
        if b = true then te σ2 H3 fun z H4 => ∃ acc, H4 D = some (.lst acc) ∧ acc.length < sizeLine ∧ Nx (upd H4 D (.lst (acc ++ [z]))) else Nx H3) := by
  refine ⟨fun i m H => m = xs.length - i ∧ i ≤ xs.length ∧ (Kp [] H1 H ∧ LstR R i D H), ⟨xs.length, rfl, Nat.zero_le _, lcR_start hD⟩, fun i m H ⟨e, hi, k, l⟩ => ?_⟩
  subst e
  have qa : SqT K H a xs := SqT.of (k.all _ _ ha)
  have qb : SqT K H b ys := SqT.of (k.all _ _ hb)
  by_cases hlt : i < xs.length
  · have hlt2 : i < ys.length := by omega
    have hx : xs[i]? = some xs[i] := List.getElem?_eq_getElem hlt
    have hy : ys[i]? = some ys[i] := List.getElem?_eq_getElem hlt2; refine .inr ⟨⟨xs, ys, _, _, qa, qb, hx, hy⟩, fun H => Kp [] H1 H ∧ LstR R (i + 1) D H, fun H' p => ⟨xs.length - (i + 1), by omega, rfl, hlt, p⟩, fun v H' y => ?_⟩
    obtain ⟨T, x', y', rfl, hT, rfl, f1, f2⟩ := y; have kT : Kp [] H (upd H T (.tup [x', y'])) := .new hT
    exact mono _ _ _ _ _ (fun σ2 H2 q => ⟨q.1, yes_of q.2⟩) (turn i x' y' T H (fun y H4 => _) (f1 xs qa) (f2 ys qb) k hT fun z H4 k4 r => lcR_turn hR hD (by omega) k l (kT.trans k4) r)
  · obtain rfl : i = xs.length := by omega
    exact .inl ⟨⟨xs, ys, qa, qb, Or.inl (Nat.le_refl _)⟩, done H k l⟩
theorem gName_mono (i : Nat) : ∀ x σ H Q Q', (∀ σ2 H2, Q σ2 H2 → Q' σ2 H2) → gName i x σ H Q → gName i x σ H Q' := fun _ _ _ _ _ h q => h _ _ q
theorem gPair_mono (K : PySem.W.Frag) (i j : Nat) : ∀ x σ H Q Q', (∀ σ2 H2, Q σ2 H2 → Q' σ2 H2) → gTup K 2 (gCons (gName i) (gCons (gName j) gNil)) x σ H Q → gTup K 2 (gCons (gName i) (gCons (gName j) gNil)) x σ H Q' :=
  fun _ _ _ _ _ h ⟨a, xs, e, t, l, v, r, e2, v2, r2, e3, e4, q⟩ => ⟨a, xs, e, t, l, v, r, e2, v2, r2, e3, e4, h _ _ q⟩
end

/-! ### own operators -/
section
variable {X : Cx} {C f : Addr} {fd : FuncData} {ps : List Str} {sp : Sp} {k : Nat}
/-- two instances of the class at C, and what its method promises of them -/
def rOwn (C : Addr) (sp : Sp) : R2 := fun x y H Q => (∃ a dx fs, x = .ref a ∧ H a = some (.ins C dx fs)) ∧ (∃ b dy gs, y = .ref b ∧ H b = some (.ins C dy gs)) ∧ sp [x, y] H Q E0
theorem cmpBack_of {pins : List (Addr × Obj)} {σ : L2.St} {Q : VK} {v : Value} {s : Shared} (h : EP X pins σ Q v s) : PySem.W.CmpBack (EP X pins σ Q) v s := by
  obtain ⟨x, H', I, r, q⟩ := id h
  cases x with
  | non => cases r; exact h
  | bl _ => cases r; exact h
  | int _ => obtain ⟨t, rfl⟩ := r; exact h
  | str _ => obtain ⟨t, rfl⟩ := r; exact h
  | byt _ => obtain ⟨t, rfl⟩ := r; exact h
  | flt _ => obtain ⟨t, rfl⟩ := r; exact h
  | ref _ => cases r; exact h
  | ty _ => cases r; exact h
theorem op_own {op : Operator} (F : FnOk X.prog X.w X.K X.mg X.base CX0 k f fd ps sp) (hr : Room k X.A) (hb : Binds X.K fd ps []) (hc : PySem.W.selfFirst X.K C = true)
    (hs : PySem.W.findIn X.K (.ref C) (PySem.dunder op.info.2) = some (some (.ref f))) (hf : PySem.W.isFn X.K (.ref f) = true) : OpR X (binaryOp op) (rOwn C sp) := by
  intro pins s σ H x y v u Q I rx ry h; obtain ⟨⟨a, dx, fs, rfl, ha⟩, ⟨b, dy, gs, rfl, hb'⟩, hsp⟩ := h
  cases rx
  cases ry
  obtain ⟨mA, J, _⟩ := ins_get I.hok ha; obtain ⟨mB, J', _⟩ := ins_get I.hok hb'
  obtain ⟨od, J, _⟩ := J.look
  obtain ⟨od', J', _⟩ := J'.look; obtain ⟨m, hF⟩ := I.fr
  exact PySem.W.binop_K hF I.ok.mod.kin J J'.type hc hs hf (thn (run_fn (us := [.ref a, .ref b]) (vs := [.ref a, .ref b]) F hr hb .nil pass0 I (.cons rfl (.cons rfl .nil)) hsp) fun v s' => cmpBack_of)
theorem op_ownC {op : CmpOp} (F : FnOk X.prog X.w X.K X.mg X.base CX0 k f fd ps sp) (hr : Room k X.A) (hb : Binds X.K fd ps [])
    (hs : PySem.W.findIn X.K (.ref C) (cmpInfo op).2.1 = some (some (.ref f))) (hf : PySem.W.isFn X.K (.ref f) = true) (hop : ∀ u v, compareOp op u v = richCompare op u v) : OpR X (compareOp op) (rOwn C sp) := by
  intro pins s σ H x y v u Q I rx ry h; obtain ⟨⟨a, dx, fs, rfl, ha⟩, ⟨b, dy, gs, rfl, hb'⟩, hsp⟩ := h
  cases rx
  cases ry
  obtain ⟨mA, J, _⟩ := ins_get I.hok ha; obtain ⟨mB, J', _⟩ := ins_get I.hok hb'
  obtain ⟨od, J, _⟩ := J.look
  obtain ⟨od', J', _⟩ := J'.look; obtain ⟨m, hF⟩ := I.fr
  rw [hop]
  exact PySem.W.cmp_K (op := op) (tb := .ref C) hr.units0 hF I.ok.mod.kin J J'.type (by simp [PySem.W.notFirst]) hs hf (thn (run_fn (us := [.ref a, .ref b]) (vs := [.ref a, .ref b]) F hr hb .nil pass0 I (.cons rfl (.cons rfl .nil)) hsp) fun v s' => cmpBack_of)
def rOwn1 (C : Addr) (sp : Sp) : V → Hp → VK → Prop := fun x H Q => (∃ a dx fs, x = .ref a ∧ H a = some (.ins C dx fs)) ∧ sp [x] H Q E0
theorem un_own (F : FnOk X.prog X.w X.K X.mg X.base CX0 k f fd ps sp) (hr : Room k X.A) (hb : Binds X.K fd ps [])
    (hs : PySem.W.findIn X.K (.ref C) "__neg__" = some (some (.ref f))) (hf : PySem.W.isFn X.K (.ref f) = true) : UnR X (unaryOp .USub) (rOwn1 C sp) := by
  intro pins s σ H x v Q I rx h
  obtain ⟨⟨a, dx, fs, rfl, ha⟩, hsp⟩ := h
  cases rx
  obtain ⟨mA, J, _⟩ := ins_get I.hok ha; obtain ⟨od, J, _⟩ := J.look
  obtain ⟨m, hF⟩ := I.fr
  exact PySem.W.ksp_neg hF I.ok.mod.kin J hs hf (run_fn (us := [.ref a]) (vs := [.ref a]) F hr hb .nil pass0 I (.cons rfl .nil) hsp)
end

/-! ### great ints -/
section
variable {X : Cx}
/-- the factors' bits fit the machine's line together -/
def CMulB (i j : Int) : Prop := i.natAbs.log2 < 60000000 ∧ j.natAbs.log2 < 60000000
theorem CMulB.ok {i j : Int} (h : CMulB i j) : IntMulOk i j := by
  have b : ∀ z : Int, Builtin.Int.intBits z ≤ z.natAbs.log2 + 1 := fun z => by
    unfold Builtin.Int.intBits
    split <;> omega
  obtain ⟨h1, h2⟩ := h
  have h3 := b i
  have h4 := b j
  have e : bitsLine = 134217728 := (by decide)
  intro z
  rw [Bool.and_eq_true] at z
  have z2 := of_decide_eq_true (show decide ((Builtin.Int.intBits i + Builtin.Int.intBits j : Int) > bitsLine) = true from z.2)
  rw [e] at z2
  omega
theorem op_mulB : OpR X (binaryOp .Mult) (rI CMulB fun i j => .int (i * j)) := opI fun _ _ _ _ _ _ _ hc q => mul_int q hc.ok
/-- a def's body from which a long division may be gone to -/
structure Long (X : Cx) : Prop where
  seer : X.base.NoSeer
  tree : X.prog.given.tree = none
  deep : X.A.depth + Builtin.pylongFrames < recursionLimit
  stk : X.stack = X.env :: X.outer
  gen : X.env.scope.isGenerator = false
  co : X.env.scope.isCoroutine = false
def rFdiv : R2 := fun x y H Q => ∃ i j : Int, x = .int i ∧ y = .int j ∧ j ≠ 0 ∧ Q (.int (i.fdiv j)) H
theorem op_fdivB (L : Long X) : OpR X (binaryOp .FloorDiv) rFdiv := by
  intro pins s σ H x y v u Q I rx ry h; obtain ⟨i, j, rfl, rfl, hj, q⟩ := h
  obtain ⟨t, rfl⟩ := rx
  obtain ⟨t', rfl⟩ := ry
  refine floordiv_int hj ⟨.int _, H, I.tok _, ⟨_, rfl⟩, q⟩ (.inr (PylongRoom.of I.nolimit L.deep ?_))
  refine SeerAt.of (L.seer.keeps I.bk) (by exact L.tree) (by rw [I.ok.frames, L.stk]) L.gen L.co I.ok.blt I.ok.glob
end
end PN

/-! The class Ratio. -/
namespace PN
open PySem L2 PyProof.Rows

/-! ### the text by places -/
def top (i : Nat) : Stmt := PySem.Challenge.pw_plumbnet_k36_whole_least_of_all_points.main.body.getD i (.Pass ⟨0, 0, 0, 0⟩)
abbrev sRInit : Stmt := inClass (top 13) 0
abbrev sRAdd : Stmt := inClass (top 13) 1
abbrev sRSub : Stmt := inClass (top 13) 2
abbrev sRMul : Stmt := inClass (top 13) 3
abbrev sRNeg : Stmt := inClass (top 13) 4
abbrev sRLt : Stmt := inClass (top 13) 7
abbrev sROver : Stmt := inClass (top 13) 12

/-! ### a Ratio at an address -/
def rfs (q : Rat) : List (Str × V) := putF "bottom" (.int (q.den : Int)) (putF "top" (.int q.num) [])
theorem tb_ : ¬ (("top" : Str) = "bottom") := by decide +kernel
theorem bt_ : ¬ (("bottom" : Str) = "top") := by decide +kernel
theorem rfs_top (q : Rat) : (rfs q).lookup ("top" : Str) = some (.int q.num) := by
  unfold rfs
  rw [lookup_putF, if_neg tb_, lookup_putF, if_pos rfl]
theorem rfs_bottom (q : Rat) : (rfs q).lookup ("bottom" : Str) = some (.int (q.den : Int)) := by
  unfold rfs
  rw [lookup_putF, if_pos rfl]
theorem rfs_no (q : Rat) {m : Str} (h1 : ¬ m = "bottom") (h2 : ¬ m = "top") : (rfs q).lookup m = none := by
  unfold rfs
  rw [lookup_putF, if_neg h1, lookup_putF, if_neg h2]; rfl
def RV (C : Addr) (q : Rat) : V → Hp → Prop := fun v H => ∃ a dx, v = .ref a ∧ H a = some (.ins C dx (rfs q))
theorem im_rat {C dx : Addr} {q : Rat} : Im (.ins C dx (rfs q)) = true := by
  show (((rfs q).lookup ("bottom" : Str)).isSome || ((rfs q).lookup ("weight" : Str)).isSome) = true
  rw [rfs_bottom]; rfl
theorem RV.mono {C : Addr} {q : Rat} : Mono (RV C q) := fun S H H' v k ⟨a, dx, e, h⟩ => ⟨a, dx, e, k.imm _ _ im_rat h⟩
theorem RV.ins {C : Addr} {q : Rat} {v : V} {H : Hp} (h : RV C q v H) : ∃ a dx fs, v = .ref a ∧ H a = some (.ins C dx fs) := let ⟨a, dx, e, h⟩ := h; ⟨a, dx, _, e, h⟩
/-! ### the numbers -/
theorem rat_num {t b : Int} (hb : b ≠ 0) (g : Int) (hg : g = if b < 0 then -((Nat.gcd t.natAbs b.natAbs : Nat) : Int) else ((Nat.gcd t.natAbs b.natAbs : Nat) : Int)) :
    g ≠ 0 ∧ t.fdiv g = (Rat.divInt t b).num ∧ b.fdiv g = ((Rat.divInt t b).den : Int) := by
  have hG : Int.gcd b t = Nat.gcd t.natAbs b.natAbs := by
    show Nat.gcd b.natAbs t.natAbs = _
    exact Nat.gcd_comm _ _
  have hpos : 0 < Nat.gcd t.natAbs b.natAbs := Nat.gcd_pos_of_pos_right _ (Int.natAbs_pos.mpr hb)
  have dt : ((Nat.gcd t.natAbs b.natAbs : Nat) : Int) ∣ t := Int.natAbs_dvd_natAbs.mp (show (Nat.gcd t.natAbs b.natAbs) ∣ t.natAbs from Nat.gcd_dvd_left _ _)
  have db : ((Nat.gcd t.natAbs b.natAbs : Nat) : Int) ∣ b := Int.natAbs_dvd_natAbs.mp (show (Nat.gcd t.natAbs b.natAbs) ∣ b.natAbs from Nat.gcd_dvd_right _ _)
  rw [Rat.num_divInt, Rat.den_divInt, if_neg hb, hG]
  generalize Nat.gcd t.natAbs b.natAbs = G at *
  by_cases h : b < 0
  · rw [if_pos h] at hg
    subst hg
    refine ⟨by omega, ?_, ?_⟩
    · rw [Int.fdiv_eq_ediv_of_dvd (Int.neg_dvd.mpr dt), Int.sign_eq_neg_one_of_neg h, Int.ediv_neg, Int.neg_one_mul, Int.neg_ediv_of_dvd dt]
    · rw [Int.fdiv_eq_ediv_of_dvd (Int.neg_dvd.mpr db), Int.ediv_neg, Int.natCast_ediv, Int.ofNat_natAbs_of_nonpos (by omega), Int.neg_ediv_of_dvd db]
  · rw [if_neg h] at hg
    subst hg
    have h0 : 0 < b := by omega
    refine ⟨by omega, ?_, ?_⟩
    · rw [Int.fdiv_eq_ediv_of_dvd dt, Int.sign_eq_one_of_pos h0, Int.one_mul]
    · rw [Int.fdiv_eq_ediv_of_dvd db, Int.natCast_ediv, Int.natAbs_of_nonneg (by omega)]
/-! ### the promises -/
def spRInit (C : Addr) : Sp := fun vs H Q _ => ∃ (p dx : Addr) (t b : Int), vs = [.ref p, .int t, .int b] ∧ b ≠ 0 ∧ H p = some (.ins C dx []) ∧ Q .non (upd H p (.ins C dx (rfs (Rat.divInt t b))))
def spBin (C : Addr) (g : Rat → Rat → Rat) : Sp := fun vs H Q _ => ∃ x y a b, vs = [x, y] ∧ RV C a x H ∧ RV C b y H ∧ Big a ∧ Big b ∧ Ret H Q (RV C (g a b))
def spNeg (C : Addr) : Sp := fun vs H Q _ => ∃ x a, vs = [x] ∧ RV C a x H ∧ Ret H Q (RV C (-a))
def spLt (C : Addr) : Sp := fun vs H Q _ => ∃ x y a b, vs = [x, y] ∧ RV C a x H ∧ RV C b y H ∧ Big a ∧ Big b ∧ Q (.bl (decide (a < b))) H
def spOver (C : Addr) : Sp := fun vs H Q _ => ∃ x y a b, vs = [x, y] ∧ RV C a x H ∧ RV C b y H ∧ Big a ∧ Big b ∧ b ≠ 0 ∧ Ret H Q (RV C (a / b))

/-- what the top's text says of the class Ratio -/
structure RTxt (K : PySem.W.Frag) (mg : Str → Option Value) (C : Addr) : Prop where
  cl : Cls K C
  nT : NoAttr K C "top"
  nB : NoAttr K C "bottom"
  mgC : mg "Ratio" = some (.ref C)
  sf : PySem.W.selfFirst K C = true
section
variable {P : Program} {w : World} {mg : Str → Option Value} {K : PySem.W.Frag} {base : Heap}
theorem scRI : FnScope ["self", "top", "bottom", "common"] ["self", "top", "bottom"] (defScope sRInit) := ⟨rfl, rfl, rfl, by decide +kernel, rfl, by decide +kernel, by decide +kernel⟩
theorem ok_rinit {f C : Addr} {fd : FuncData} {dvs : List V} {kws : List (Str × V)} (F : FunD K "__init__" "Ratio.__init__" (defArgs sRInit) (defBody sRInit) (defScope sRInit) dvs kws f fd) (T : RTxt K mg C)
    (gG : mg "gcd" = some (.builtin "math.gcd")) (hN : base.NoSeer) (hP : P.given.tree = none) : FnOk P w K mg base CX0 34 f fd ["self", "top", "bottom"] (spRInit C) := by
  refine F.ok scRI (fun vs H Q E h => ?_) (fun cdv A outer s H vs Q E hr h => ?_)
  · obtain ⟨p, dx, t, b, rfl, _⟩ := h
    rfl
  · obtain ⟨p, dx, t, b, rfl, hb, hp, k⟩ := h
    have L : Long (cxOf CX0 P w K mg base ["self", "top", "bottom", "common"] "Ratio.__init__" (defScope sRInit) f cdv A outer s H E) :=
      ⟨hN, hP, by have := hr.dp; show (A.deeper (envOfC "Ratio.__init__" (defScope sRInit) s.heap.objs.size f cdv)).depth + 100 < recursionLimit; omega, rfl, rfl, rfl⟩
    refine ⟨_, pss_cons (ps_if (pt_cmpR op_eq (pv 2) pe_int (nomark _)) (pss_one ps_never) pss_nil)
      (pss_cons (ps_set (i := 3) scRI.nd rfl (Or.inl rfl) (pe_callBfun cr_gcd (by rfl) gG (pa_cons (pv 1) (pa_cons (pv 2) pa_nil))))
      (pss_cons (ps_if (pt_cmpR op_lt (pv 2) pe_int (nomark _)) (pss_one (ps_set (i := 3) scRI.nd rfl (Or.inl rfl) (pe_un un_neg (pv 3)))) pss_nil)
      (pss_cons (ps_fld (pv 0) (pe_op (op_fdivB L) (pv 1) (pv 3)) rfl)
      (pss_one (ps_fld (pv 0) (pe_op (op_fdivB L) (pv 2) (pv 3)) rfl))))), ?_⟩
    refine ⟨_, rfl, rfl, _, rfl, ?_⟩; refine ite2 (fun e => ?_) (fun _ => ?_)
    · exact absurd (by simpa using of_decide_eq_true e) hb
    refine ⟨_, rfl, _, rfl, t, b, rfl, ?_⟩
    refine ⟨_, rfl, _, _, rfl, rfl, _, rfl, ?_⟩; refine ite2 (fun e => ?_) (fun e => ?_)
    · have hlt : b < 0 := of_decide_eq_true e
      obtain ⟨g0, g1, g2⟩ := rat_num hb (-((Nat.gcd t.natAbs b.natAbs : Nat) : Int)) (by rw [if_pos hlt])
      refine ⟨_, rfl, _, rfl, ?_⟩
      refine ⟨_, rfl, _, rfl, t, _, rfl, rfl, g0, _, rfl, p, C, dx, [], rfl, hp, T.cl, T.nT, (by show 0 < 1000; decide), ?_⟩
      refine ⟨_, rfl, _, rfl, b, _, rfl, rfl, g0, _, rfl, p, C, dx, _, rfl, upd_same, T.cl, T.nB, (by show 1 < 1000; decide), ?_⟩
      rw [g1, g2, upd_upd]
      exact k
    · have hlt : ¬ b < 0 := fun q => e (decide_eq_true q)
      obtain ⟨g0, g1, g2⟩ := rat_num hb (((Nat.gcd t.natAbs b.natAbs : Nat) : Int)) (by rw [if_neg hlt])
      refine ⟨_, rfl, _, rfl, t, _, rfl, rfl, g0, _, rfl, p, C, dx, [], rfl, hp, T.cl, T.nT, (by show 0 < 1000; decide), ?_⟩
      refine ⟨_, rfl, _, rfl, b, _, rfl, rfl, g0, _, rfl, p, C, dx, _, rfl, upd_same, T.cl, T.nB, (by show 1 < 1000; decide), ?_⟩
      rw [g1, g2, upd_upd]
      exact k
/-- a Ratio is made -/
theorem mkR {C : Addr} {H : Hp} {Q : VK} {t b : Int} {q : Rat} {E : XK} (hb : b ≠ 0) (e : q = Rat.divInt t b) (ret : Ret H Q (RV C q)) : ∀ x dx, H x = none → H dx = none → dx ≠ x →
    spRInit C (.ref x :: ([.int t, .int b] ++ [])) (upd (upd H dx (.own x)) x (.ins C dx [])) (fun v H2 => v = .non ∧ Q (.ref x) H2) E := fun x dx nx ndx nex => by
  refine ⟨x, dx, t, b, rfl, hb, upd_same, rfl, ret _ _ ?_ ⟨x, dx, rfl, by rw [e]; exact upd_same⟩⟩
  exact ((Kp.new (S := []) ndx).new' (by rw [upd_ne nex.symm]; exact nx)).fresh nx
/-- the same with the default -/
theorem mkR1 {C : Addr} {H : Hp} {Q : VK} {t : Int} {q : Rat} {E : XK} (e : q = (t : Rat)) (ret : Ret H Q (RV C q)) : ∀ x dx, H x = none → H dx = none → dx ≠ x →
    spRInit C (.ref x :: ([.int t] ++ [.int 1])) (upd (upd H dx (.own x)) x (.ins C dx [])) (fun v H2 => v = .non ∧ Q (.ref x) H2) E :=
  mkR (t := t) (b := 1) (by decide) (by rw [e, Rat.divInt_eq_div]; show (t : Rat) = (t : Rat) / 1; grind) ret
theorem den_ne (a : Rat) : (a.den : Int) ≠ 0 := by have := a.den_nz; omega
theorem Big.mul1 {a b : Rat} (ha : Big a) (hb : Big b) : CMulB a.num (b.den : Int) := ⟨ha.1, by simpa using hb.2⟩
theorem Big.mul2 {a b : Rat} (ha : Big a) (hb : Big b) : CMulB (a.den : Int) (b.den : Int) := ⟨by simpa using ha.2, by simpa using hb.2⟩
theorem Big.mul3 {a b : Rat} (ha : Big a) (hb : Big b) : CMulB a.num b.num := ⟨ha.1, hb.1⟩
theorem Big.mul4 {a b : Rat} (ha : Big a) (hb : Big b) : CMulB (a.den : Int) b.num := ⟨by simpa using ha.2, hb.1⟩
theorem add_parts (a b : Rat) : a + b = Rat.divInt (a.num * (b.den : Int) + b.num * (a.den : Int)) ((a.den : Int) * (b.den : Int)) := by
  rw [← Int.natCast_mul, Rat.divInt_ofNat, Rat.add_def']
theorem sub_parts (a b : Rat) : a - b = Rat.divInt (a.num * (b.den : Int) - b.num * (a.den : Int)) ((a.den : Int) * (b.den : Int)) := by
  rw [← Int.natCast_mul, Rat.divInt_ofNat, Rat.sub_def']
theorem mul_parts (a b : Rat) : a * b = Rat.divInt (a.num * b.num) ((a.den : Int) * (b.den : Int)) := by
  rw [← Int.natCast_mul, Rat.divInt_ofNat, Rat.mul_def']
theorem neg_parts (a : Rat) : -a = Rat.divInt (-a.num) (a.den : Int) := by
  rw [← Rat.neg_divInt, Rat.num_divInt_den]
theorem parts (a : Rat) : a * ((a.den : Int) : Rat) = (a.num : Rat) := by
  have h1 : a = (a.num : Rat) / ((a.den : Int) : Rat) := by rw [← Rat.divInt_eq_div, Rat.num_divInt_den]
  have h2 : (a.num : Rat) / ((a.den : Int) : Rat) * ((a.den : Int) : Rat) = (a.num : Rat) := Rat.div_mul_cancel fun q => den_ne a (Rat.intCast_eq_zero_iff.mp q)
  rw [← h1] at h2
  exact h2
theorem div_parts {a b : Rat} (hb : b ≠ 0) : a / b = Rat.divInt (a.num * (b.den : Int)) ((a.den : Int) * b.num) := by
  have ha0 : ((a.den : Int) : Rat) ≠ 0 := fun q => den_ne a (Rat.intCast_eq_zero_iff.mp q)
  have hb0 : ((b.den : Int) : Rat) ≠ 0 := fun q => den_ne b (Rat.intCast_eq_zero_iff.mp q)
  have h1 := parts a
  have h2 := parts b
  rw [Rat.divInt_eq_div, Rat.intCast_mul, Rat.intCast_mul, ← h1, ← h2]
  grind
theorem mul_ne {a b : Int} (ha : a ≠ 0) (hb : b ≠ 0) : a * b ≠ 0 := Int.mul_ne_zero ha hb
theorem num_ne {a : Rat} (h : a ≠ 0) : a.num ≠ 0 := fun q => h (Rat.num_eq_zero.mp q)
theorem lt_parts (a b : Rat) : decide (a.num * (b.den : Int) < b.num * (a.den : Int)) = decide (a < b) := by
  by_cases h : a < b
  · rw [decide_eq_true h, decide_eq_true ((Rat.lt_iff a b).mp h)]
  · rw [decide_eq_false h, decide_eq_false fun q => h ((Rat.lt_iff a b).mpr q)]
theorem scRA : FnScope ["self", "other"] ["self", "other"] (defScope sRAdd) := ⟨rfl, rfl, rfl, by decide +kernel, rfl, by decide +kernel, by decide +kernel⟩
theorem scRS : FnScope ["self", "other"] ["self", "other"] (defScope sRSub) := ⟨rfl, rfl, rfl, by decide +kernel, rfl, by decide +kernel, by decide +kernel⟩
theorem scRM : FnScope ["self", "other"] ["self", "other"] (defScope sRMul) := ⟨rfl, rfl, rfl, by decide +kernel, rfl, by decide +kernel, by decide +kernel⟩
theorem scRN : FnScope ["self"] ["self"] (defScope sRNeg) := ⟨rfl, rfl, rfl, by decide +kernel, rfl, by decide +kernel, by decide +kernel⟩
theorem scRL : FnScope ["self", "other"] ["self", "other"] (defScope sRLt) := ⟨rfl, rfl, rfl, by decide +kernel, rfl, by decide +kernel, by decide +kernel⟩
theorem scRO : FnScope ["self", "other"] ["self", "other"] (defScope sROver) := ⟨rfl, rfl, rfl, by decide +kernel, rfl, by decide +kernel, by decide +kernel⟩
variable {f fI C : Addr} {fd fdI : FuncData}
theorem ok_radd (F : Fun K "__add__" "Ratio.__add__" sRAdd f fd) (T : RTxt K mg C) (M : Mk K C fI) (G : FnOk P w K mg base CX0 34 fI fdI ["self", "top", "bottom"] (spRInit C)) (b3 : Binds K fdI ["self", "top", "bottom"] []) :
    FnOk P w K mg base CX0 36 f fd ["self", "other"] (spBin C (· + ·)) := by
  refine F.ok scRA (fun vs H Q E h => ?_) (fun cdv A outer s H vs Q E hr h => ?_)
  · obtain ⟨x, y, a, b, rfl, _⟩ := h
    rfl
  · obtain ⟨x, y, a, b, rfl, ⟨p, dx, rfl, hx⟩, ⟨p2, dx2, rfl, hy⟩, ha, hb, k⟩ := h
    refine ⟨_, pss_one (ps_ret (pe_make M G hr rfl T.mgC b3 .nil pass0 (pa_cons (pe_op op_add (pe_op op_mulB (pe_fld (pv 0) rfl) (pe_fld (pv 1) rfl)) (pe_op op_mulB (pe_fld (pv 1) rfl) (pe_fld (pv 0) rfl)))
      (pa_cons (pe_op op_mulB (pe_fld (pv 0) rfl) (pe_fld (pv 1) rfl)) pa_nil)))), ?_⟩
    refine ⟨_, rfl, p, C, dx, _, _, rfl, hx, T.cl, T.nT, rfs_top _, _, rfl, p2, C, dx2, _, _, rfl, hy, T.cl, T.nB, rfs_bottom _, _, _, rfl, rfl, ha.mul1 hb, ?_⟩
    refine ⟨_, rfl, p2, C, dx2, _, _, rfl, hy, T.cl, T.nT, rfs_top _, _, rfl, p, C, dx, _, _, rfl, hx, T.cl, T.nB, rfs_bottom _, _, _, rfl, rfl, hb.mul1 ha, _, _, rfl, rfl, ?_⟩
    refine ⟨_, rfl, p, C, dx, _, _, rfl, hx, T.cl, T.nB, rfs_bottom _, _, rfl, p2, C, dx2, _, _, rfl, hy, T.cl, T.nB, rfs_bottom _, _, _, rfl, rfl, ha.mul2 hb, ?_⟩
    exact mkR (mul_ne (den_ne a) (den_ne b)) (add_parts a b) k
theorem ok_rsub (F : Fun K "__sub__" "Ratio.__sub__" sRSub f fd) (T : RTxt K mg C) (M : Mk K C fI) (G : FnOk P w K mg base CX0 34 fI fdI ["self", "top", "bottom"] (spRInit C)) (b3 : Binds K fdI ["self", "top", "bottom"] []) :
    FnOk P w K mg base CX0 36 f fd ["self", "other"] (spBin C (· - ·)) := by
  refine F.ok scRS (fun vs H Q E h => ?_) (fun cdv A outer s H vs Q E hr h => ?_)
  · obtain ⟨x, y, a, b, rfl, _⟩ := h
    rfl
  · obtain ⟨x, y, a, b, rfl, ⟨p, dx, rfl, hx⟩, ⟨p2, dx2, rfl, hy⟩, ha, hb, k⟩ := h
    refine ⟨_, pss_one (ps_ret (pe_make M G hr rfl T.mgC b3 .nil pass0 (pa_cons (pe_op op_sub (pe_op op_mulB (pe_fld (pv 0) rfl) (pe_fld (pv 1) rfl)) (pe_op op_mulB (pe_fld (pv 1) rfl) (pe_fld (pv 0) rfl)))
      (pa_cons (pe_op op_mulB (pe_fld (pv 0) rfl) (pe_fld (pv 1) rfl)) pa_nil)))), ?_⟩
    refine ⟨_, rfl, p, C, dx, _, _, rfl, hx, T.cl, T.nT, rfs_top _, _, rfl, p2, C, dx2, _, _, rfl, hy, T.cl, T.nB, rfs_bottom _, _, _, rfl, rfl, ha.mul1 hb, ?_⟩
    refine ⟨_, rfl, p2, C, dx2, _, _, rfl, hy, T.cl, T.nT, rfs_top _, _, rfl, p, C, dx, _, _, rfl, hx, T.cl, T.nB, rfs_bottom _, _, _, rfl, rfl, hb.mul1 ha, _, _, rfl, rfl, ?_⟩
    refine ⟨_, rfl, p, C, dx, _, _, rfl, hx, T.cl, T.nB, rfs_bottom _, _, rfl, p2, C, dx2, _, _, rfl, hy, T.cl, T.nB, rfs_bottom _, _, _, rfl, rfl, ha.mul2 hb, ?_⟩
    exact mkR (mul_ne (den_ne a) (den_ne b)) (sub_parts a b) k
theorem ok_rmul (F : Fun K "__mul__" "Ratio.__mul__" sRMul f fd) (T : RTxt K mg C) (M : Mk K C fI) (G : FnOk P w K mg base CX0 34 fI fdI ["self", "top", "bottom"] (spRInit C)) (b3 : Binds K fdI ["self", "top", "bottom"] []) :
    FnOk P w K mg base CX0 36 f fd ["self", "other"] (spBin C (· * ·)) := by
  refine F.ok scRM (fun vs H Q E h => ?_) (fun cdv A outer s H vs Q E hr h => ?_)
  · obtain ⟨x, y, a, b, rfl, _⟩ := h
    rfl
  · obtain ⟨x, y, a, b, rfl, ⟨p, dx, rfl, hx⟩, ⟨p2, dx2, rfl, hy⟩, ha, hb, k⟩ := h
    refine ⟨_, pss_one (ps_ret (pe_make M G hr rfl T.mgC b3 .nil pass0 (pa_cons (pe_op op_mulB (pe_fld (pv 0) rfl) (pe_fld (pv 1) rfl)) (pa_cons (pe_op op_mulB (pe_fld (pv 0) rfl) (pe_fld (pv 1) rfl)) pa_nil)))), ?_⟩
    refine ⟨_, rfl, p, C, dx, _, _, rfl, hx, T.cl, T.nT, rfs_top _, _, rfl, p2, C, dx2, _, _, rfl, hy, T.cl, T.nT, rfs_top _, _, _, rfl, rfl, ha.mul3 hb, ?_⟩
    refine ⟨_, rfl, p, C, dx, _, _, rfl, hx, T.cl, T.nB, rfs_bottom _, _, rfl, p2, C, dx2, _, _, rfl, hy, T.cl, T.nB, rfs_bottom _, _, _, rfl, rfl, ha.mul2 hb, ?_⟩
    exact mkR (mul_ne (den_ne a) (den_ne b)) (mul_parts a b) k
theorem ok_rneg (F : Fun K "__neg__" "Ratio.__neg__" sRNeg f fd) (T : RTxt K mg C) (M : Mk K C fI) (G : FnOk P w K mg base CX0 34 fI fdI ["self", "top", "bottom"] (spRInit C)) (b3 : Binds K fdI ["self", "top", "bottom"] []) :
    FnOk P w K mg base CX0 36 f fd ["self"] (spNeg C) := by
  refine F.ok scRN (fun vs H Q E h => ?_) (fun cdv A outer s H vs Q E hr h => ?_)
  · obtain ⟨x, a, rfl, _⟩ := h
    rfl
  · obtain ⟨x, a, rfl, ⟨p, dx, rfl, hx⟩, k⟩ := h
    refine ⟨_, pss_one (ps_ret (pe_make M G hr rfl T.mgC b3 .nil pass0 (pa_cons (pe_un un_neg (pe_fld (pv 0) rfl)) (pa_cons (pe_fld (pv 0) rfl) pa_nil)))), ?_⟩
    refine ⟨_, rfl, p, C, dx, _, _, rfl, hx, T.cl, T.nT, rfs_top _, _, rfl, ?_⟩
    refine ⟨_, rfl, p, C, dx, _, _, rfl, hx, T.cl, T.nB, rfs_bottom _, ?_⟩
    exact mkR (den_ne a) (neg_parts a) k
theorem ok_rlt (F : Fun K "__lt__" "Ratio.__lt__" sRLt f fd) (T : RTxt K mg C) : FnOk P w K mg base CX0 36 f fd ["self", "other"] (spLt C) := by
  refine F.ok scRL (fun vs H Q E h => ?_) (fun cdv A outer s H vs Q E hr h => ?_)
  · obtain ⟨x, y, a, b, rfl, _⟩ := h
    rfl
  · obtain ⟨x, y, a, b, rfl, ⟨p, dx, rfl, hx⟩, ⟨p2, dx2, rfl, hy⟩, ha, hb, k⟩ := h
    refine ⟨_, pss_one (ps_ret (pe_cmpR op_lt (pe_op op_mulB (pe_fld (pv 0) rfl) (pe_fld (pv 1) rfl)) (pe_op op_mulB (pe_fld (pv 1) rfl) (pe_fld (pv 0) rfl)) (nomark _))), ?_⟩
    refine ⟨_, rfl, p, C, dx, _, _, rfl, hx, T.cl, T.nT, rfs_top _, _, rfl, p2, C, dx2, _, _, rfl, hy, T.cl, T.nB, rfs_bottom _, _, _, rfl, rfl, ha.mul1 hb, ?_⟩
    refine ⟨_, rfl, p2, C, dx2, _, _, rfl, hy, T.cl, T.nT, rfs_top _, _, rfl, p, C, dx, _, _, rfl, hx, T.cl, T.nB, rfs_bottom _, _, _, rfl, rfl, hb.mul1 ha, _, _, rfl, rfl, ?_⟩
    show Q (.bl (decide (a.num * (b.den : Int) < b.num * (a.den : Int)))) H
    rw [lt_parts]
    exact k
theorem ok_rover (F : Fun K "over" "Ratio.over" sROver f fd) (T : RTxt K mg C) (M : Mk K C fI) (G : FnOk P w K mg base CX0 34 fI fdI ["self", "top", "bottom"] (spRInit C)) (b3 : Binds K fdI ["self", "top", "bottom"] []) :
    FnOk P w K mg base CX0 36 f fd ["self", "other"] (spOver C) := by
  refine F.ok scRO (fun vs H Q E h => ?_) (fun cdv A outer s H vs Q E hr h => ?_)
  · obtain ⟨x, y, a, b, rfl, _⟩ := h
    rfl
  · obtain ⟨x, y, a, b, rfl, ⟨p, dx, rfl, hx⟩, ⟨p2, dx2, rfl, hy⟩, ha, hb, h0, k⟩ := h
    refine ⟨_, pss_one (ps_ret (pe_make M G hr rfl T.mgC b3 .nil pass0 (pa_cons (pe_op op_mulB (pe_fld (pv 0) rfl) (pe_fld (pv 1) rfl)) (pa_cons (pe_op op_mulB (pe_fld (pv 0) rfl) (pe_fld (pv 1) rfl)) pa_nil)))), ?_⟩
    refine ⟨_, rfl, p, C, dx, _, _, rfl, hx, T.cl, T.nT, rfs_top _, _, rfl, p2, C, dx2, _, _, rfl, hy, T.cl, T.nB, rfs_bottom _, _, _, rfl, rfl, ha.mul1 hb, ?_⟩
    refine ⟨_, rfl, p, C, dx, _, _, rfl, hx, T.cl, T.nB, rfs_bottom _, _, rfl, p2, C, dx2, _, _, rfl, hy, T.cl, T.nT, rfs_top _, _, _, rfl, rfl, ha.mul4 hb, ?_⟩
    exact mkR (mul_ne (den_ne a) (num_ne h0)) (div_parts h0) k
end

/-! ### the class as a whole: what others use of it -/
structure RKit (P : Program) (w : World) (K : PySem.W.Frag) (mg : Str → Option Value) (base : Heap) (C : Addr) : Prop where
  T : RTxt K mg C
  make : ∃ f fd d, Mk K C f ∧ FnOk P w K mg base CX0 34 f fd ["self", "top", "bottom"] (spRInit C) ∧ Binds K fd ["self", "top", "bottom"] [] ∧ RelV (.int 1) d ∧ Binds K fd ["self", "top", "bottom"] [d]
  add : ∃ f fd, PySem.W.findIn K (.ref C) "__add__" = some (some (.ref f)) ∧ PySem.W.isFn K (.ref f) = true ∧ FnOk P w K mg base CX0 36 f fd ["self", "other"] (spBin C (· + ·)) ∧ Binds K fd ["self", "other"] []
  sub : ∃ f fd, PySem.W.findIn K (.ref C) "__sub__" = some (some (.ref f)) ∧ PySem.W.isFn K (.ref f) = true ∧ FnOk P w K mg base CX0 36 f fd ["self", "other"] (spBin C (· - ·)) ∧ Binds K fd ["self", "other"] []
  mul : ∃ f fd, PySem.W.findIn K (.ref C) "__mul__" = some (some (.ref f)) ∧ PySem.W.isFn K (.ref f) = true ∧ FnOk P w K mg base CX0 36 f fd ["self", "other"] (spBin C (· * ·)) ∧ Binds K fd ["self", "other"] []
  neg : ∃ f fd, PySem.W.findIn K (.ref C) "__neg__" = some (some (.ref f)) ∧ PySem.W.isFn K (.ref f) = true ∧ FnOk P w K mg base CX0 36 f fd ["self"] (spNeg C) ∧ Binds K fd ["self"] []
  lt : ∃ f fd, PySem.W.findIn K (.ref C) "__lt__" = some (some (.ref f)) ∧ PySem.W.isFn K (.ref f) = true ∧ FnOk P w K mg base CX0 36 f fd ["self", "other"] (spLt C) ∧ Binds K fd ["self", "other"] []
  over : ∃ f fd, Meth K C "over" f ∧ FnOk P w K mg base CX0 36 f fd ["self", "other"] (spOver C) ∧ Binds K fd ["self", "other"] []
section
variable {X : Cx} {C : Addr} {x y : Expr} {es : List Expr} {tx ty : TE} {pos p apos : Pos}
def rBin (C : Addr) (g : Rat → Rat → Rat) : R2 := fun x y H Q => ∃ a b, RV C a x H ∧ RV C b y H ∧ Big a ∧ Big b ∧ Ret H Q (RV C (g a b))
theorem rBin_of {C : Addr} {g : Rat → Rat → Rat} {x y : V} {H : Hp} {Q : VK} (h : rBin C g x y H Q) : rOwn C (spBin C g) x y H Q := by
  obtain ⟨a, b, hx, hy, ha, hb, k⟩ := h
  exact ⟨hx.ins, hy.ins, x, y, a, b, rfl, hx, hy, ha, hb, k⟩
theorem OpR.imp {f : Value → Value → Sem Value} {r r' : R2} (h : OpR X f r) (i : ∀ x y H Q, r' x y H Q → r x y H Q) : OpR X f r' := fun pins s σ H x y v u Q I rx ry q => h pins s σ H x y v u Q I rx ry (i _ _ _ _ q)
theorem op_addR (T : RKit X.prog X.w X.K X.mg X.base C) (hr : Room 36 X.A) : OpR X (binaryOp .Add) (rBin C (· + ·)) := by
  obtain ⟨f, fd, h1, h2, h3, h4⟩ := T.add
  exact OpR.imp (op_own h3 hr h4 T.T.sf h1 h2) fun _ _ _ _ => rBin_of
theorem op_subR (T : RKit X.prog X.w X.K X.mg X.base C) (hr : Room 36 X.A) : OpR X (binaryOp .Sub) (rBin C (· - ·)) := by
  obtain ⟨f, fd, h1, h2, h3, h4⟩ := T.sub
  exact OpR.imp (op_own h3 hr h4 T.T.sf h1 h2) fun _ _ _ _ => rBin_of
theorem op_mulR (T : RKit X.prog X.w X.K X.mg X.base C) (hr : Room 36 X.A) : OpR X (binaryOp .Mult) (rBin C (· * ·)) := by
  obtain ⟨f, fd, h1, h2, h3, h4⟩ := T.mul
  exact OpR.imp (op_own h3 hr h4 T.T.sf h1 h2) fun _ _ _ _ => rBin_of
def rNegR (C : Addr) : V → Hp → VK → Prop := fun x H Q => ∃ a, RV C a x H ∧ Ret H Q (RV C (-a))
theorem un_negR (T : RKit X.prog X.w X.K X.mg X.base C) (hr : Room 36 X.A) : UnR X (unaryOp .USub) (rNegR C) := by
  obtain ⟨f, fd, h1, h2, h3, h4⟩ := T.neg
  intro pins s σ H x v Q I rx ⟨a, hx, k⟩
  exact un_own h3 hr h4 h1 h2 pins s σ H x v Q I rx ⟨hx.ins, x, a, rfl, hx, k⟩
def rLtR (C : Addr) : R2 := fun x y H Q => ∃ a b, RV C a x H ∧ RV C b y H ∧ Big a ∧ Big b ∧ Q (.bl (decide (a < b))) H
theorem op_ltR (T : RKit X.prog X.w X.K X.mg X.base C) (hr : Room 36 X.A) : OpR X (compareOp .Lt) (rLtR C) := by
  obtain ⟨f, fd, h1, h2, h3, h4⟩ := T.lt
  exact OpR.imp (op_ownC h3 hr h4 h1 h2 fun _ _ => rfl) fun x y H Q ⟨a, b, hx, hy, ha, hb, k⟩ => ⟨hx.ins, hy.ins, x, y, a, b, rfl, hx, hy, ha, hb, k⟩
/-- a reading's wish may be weakened -/
theorem PE.mcl {e : Expr} {t : TE} (h : PE X e t) : PE X e (fun σ H Q => ∃ Q0, t σ H Q0 ∧ ∀ v H', Q0 v H' → Q v H') := ⟨fun pins s σ H Q I ⟨Q0, h0, i⟩ =>
  thn (h.run pins s σ H Q0 I h0) fun u s1 ⟨v, H', I', r, q⟩ => ⟨v, H', I', r, i v H' q⟩⟩
/-- Ratio(n), Ratio(n, d) -/
def tMk1 (C : Addr) (tx : TE) : TE := fun σ H Q => tx σ H fun v H1 => ∃ t : Int, v = .int t ∧ Ret H1 Q (RV C (t : Rat))
def tMk2 (C : Addr) (tx ty : TE) : TE := fun σ H Q => tx σ H fun v H1 => ty σ H1 fun u H2 => ∃ t b : Int, v = .int t ∧ u = .int b ∧ b ≠ 0 ∧ Ret H2 Q (RV C (Rat.divInt t b))
theorem pe_mk1 (T : RKit X.prog X.w X.K X.mg X.base C) (hr : Room 35 X.A) (hx : PE X x tx) (hg : Gl X "Ratio" := by rfl) (he : starEach [x] X.env = (false, eval x X.env) :: starEach [] X.env := by rfl) :
    PE X (.Call (.Name "Ratio" p) [x] [] pos) (tMk1 C tx) := by
  obtain ⟨f, fd, d, M, F, b3, rd, b1⟩ := T.make
  refine ⟨fun pins s σ H Q I h => ?_⟩; refine (pe_make M F hr hg T.T.mgC b1 (.cons rd .nil) pass0 (pa_cons (PE.mcl hx) pa_nil he) (by decide) he rfl).run pins s σ H Q I ⟨_, h, fun v H1 ⟨t, e, ret⟩ => ?_⟩
  subst e
  exact mkR1 rfl ret
theorem pe_mk2 (T : RKit X.prog X.w X.K X.mg X.base C) (hr : Room 35 X.A) (hx : PE X x tx) (hy : PE X y ty) (hg : Gl X "Ratio" := by rfl) (he : starEach [x, y] X.env = (false, eval x X.env) :: starEach [y] X.env := by rfl)
    (he2 : starEach [y] X.env = (false, eval y X.env) :: starEach [] X.env := by rfl) (hpl : (backTo pos (starEach [y] X.env)).any (·.1) = false := by rfl) :
    PE X (.Call (.Name "Ratio" p) [x, y] [] pos) (tMk2 C tx ty) := by
  obtain ⟨f, fd, d, M, F, b3, rd, b1⟩ := T.make
  refine ⟨fun pins s σ H Q I h => ?_⟩; refine (pe_make M F hr hg T.T.mgC b3 .nil pass0 (pa_cons (PE.mcl hx) (pa_cons (PE.mcl hy) pa_nil he2) he) (by decide) he hpl).run pins s σ H Q I ⟨_, h, fun v H1 h1 => ⟨_, h1, fun u H2 ⟨t, b, e1, e2, hb, ret⟩ => ?_⟩⟩
  subst e1; subst e2
  exact mkR hb rfl ret
/-- a.over(b) -/
def tOver (C : Addr) (tx ty : TE) : TE := fun σ H Q => tx σ H fun v H1 => ∃ a, RV C a v H1 ∧ ty σ H1 fun u H2 => ∃ b, RV C a v H2 ∧ RV C b u H2 ∧ Big a ∧ Big b ∧ b ≠ 0 ∧ Ret H2 Q (RV C (a / b))
theorem pe_overR {pl : Sem Bool} (T : RKit X.prog X.w X.K X.mg X.base C) (hr : Room 36 X.A) (hx : PE X x tx) (hy : PE X y ty) (he : starEach [y] X.env = (false, eval y X.env) :: starEach [] X.env := by rfl)
    (ht : eval (.Call (.Attribute x "over" apos) [y] [] pos) X.env = (do
      let ov ← eval x X.env
      standAt apos.atName
      let (f, first) ← holding [ov] (getMethod ov "over" pl)
      callWith pos f first (backTo pos (starEach [y] X.env)) (backToKw pos (keywordEach [] X.env))) := by rfl) :
    PE X (.Call (.Attribute x "over" apos) [y] [] pos) (tOver C tx ty) := by
  obtain ⟨f, fd, hm, F, b2⟩ := T.over
  refine ⟨fun pins s σ H Q I h => ?_⟩; refine (pe_meth (PE.mcl hx) T.T.cl hm F hr b2 .nil pass0 (pa_cons (PE.mcl hy) pa_nil he) he rfl ht).run pins s σ H Q I ⟨_, h, fun v H1 ⟨a, hv, h1⟩ => ?_⟩
  obtain ⟨pa, dx, rfl, ha⟩ := id hv
  refine ⟨pa, dx, rfs a, rfl, ha, rfs_no a (by decide +kernel) (by decide +kernel), _, h1, fun u H2 ⟨b, hv2, hu, B1, B2, h0, ret⟩ => ?_⟩
  exact ⟨.ref pa, u, a, b, rfl, hv2, hu, B1, B2, h0, ret⟩
end
end PN

/-! Vectors and matrices. -/
namespace PN
open PySem L2 PyProof.Rows
abbrev sDot : Stmt := PN.top 17
abbrev sScale : Stmt := PN.top 18
abbrev sPlus : Stmt := PN.top 19
abbrev sMinus : Stmt := PN.top 20
abbrev sIsZero : Stmt := PN.top 21
abbrev sApply : Stmt := PN.top 23
abbrev sOuter : Stmt := PN.top 24
abbrev sSumOf : Stmt := PN.top 25
abbrev sScaled : Stmt := PN.top 26
abbrev sAddTerm : Stmt := PN.top 28
abbrev sWithAdded : Stmt := PN.top 29
/-- a tuple of Ratios, a tuple of such -/
def TV (C : Addr) (n : Nat) (f : Nat → Rat) : V → Hp → Prop := TupR (fun i => RV C (f i)) n
def MV (C : Addr) (n m : Nat) (F : Nat → Nat → Rat) : V → Hp → Prop := TupR (fun i => TV C m (F i)) n
theorem TV.mono {C : Addr} {n : Nat} {f : Nat → Rat} : Mono (TV C n f) := TupR.mono fun _ => RV.mono
theorem MV.mono {C : Addr} {n m : Nat} {F : Nat → Nat → Rat} : Mono (MV C n m F) := TupR.mono fun _ => TV.mono
theorem RV.congr {C : Addr} {a b : Rat} {v : V} {H : Hp} (h : RV C a v H) (e : a = b) : RV C b v H := e ▸ h
theorem TV.congr {C : Addr} {n : Nat} {f g : Nat → Rat} {v : V} {H : Hp} (h : TV C n f v H) (e : ∀ i, i < n → f i = g i) : TV C n g v H := TupR.imp h fun i x hi q => q.congr (e i hi)
theorem MV.congr {C : Addr} {n m : Nat} {F G : Nat → Nat → Rat} {v : V} {H : Hp} (h : MV C n m F v H) (e : ∀ i j, i < n → j < m → F i j = G i j) : MV C n m G v H := TupR.imp h fun i x hi q => TV.congr q fun j hj => e i j hi hj
theorem TV.get {C : Addr} {n : Nat} {f : Nat → Rat} {a : Addr} {vs : List V} {H : Hp} (h : TV C n f (.ref a) H) (ha : H a = some (.tup vs)) : vs.length = n ∧ ∀ i x, vs[i]? = some x → RV C (f i) x H := by
  obtain ⟨a', vs', e, ha', hl, hi⟩ := h
  cases e
  rw [ha] at ha'; cases ha'
  exact ⟨hl, hi⟩
theorem sz12 {n : Nat} (h : n ≤ 12) : n < sizeLine := Nat.lt_of_le_of_lt h (by decide)
/-- tuple([..]) at the end -/
theorem tup_done {K : PySem.W.Frag} {R : Nat → V → Hp → Prop} {n : Nat} {D : Addr} {H H1 : Hp} {Q : VK} (hR : ∀ i, Mono (R i)) (k : Kp [] H H1) (l : LstR R n D H1) (ret : Ret H Q (TupR R n)) :
    ∃ p ys, [V.ref D] = [V.ref p] ∧ ((SqL K H1 p ys ∧ ∀ l, H1 l = none → Q (.ref l) (upd H1 l (.tup ys))) ∨ (SqT K H1 p ys ∧ Q (.ref p) H1)) := by
  obtain ⟨vs, hD, hl, hi⟩ := l
  exact ⟨D, vs, rfl, .inl ⟨SqL.of hD, fun l hf => ret _ _ (k.new' hf) (LstR.tup hR hl hi hf)⟩⟩
def rTup (K : PySem.W.Frag) : List V → Hp → VK → Prop := fun xs H Q => ∃ p ys, xs = [.ref p] ∧ ((SqL K H p ys ∧ ∀ l, H l = none → Q (.ref l) (upd H l (.tup ys))) ∨ (SqT K H p ys ∧ Q (.ref p) H))
theorem call_tupK {X : Cx} : CallR X (.type "tuple") (rTup X.K) := call_tuple_of
theorem tup_doneK {K : PySem.W.Frag} {R : Nat → V → Hp → Prop} {n : Nat} {D : Addr} {H H1 : Hp} {Q : VK} (hR : ∀ i, Mono (R i)) (k : Kp [] H H1) (l : LstR R n D H1) (ret : Ret H Q (TupR R n)) : rTup K [V.ref D] H1 Q := tup_done hR k l ret
/-- the built-in names that the text uses -/
structure BTxt (mg : Str → Option Value) : Prop where
  tuple : mg "tuple" = none
  zip : mg "zip" = none
  len : mg "len" = none
  list : mg "list" = none
  range : mg "range" = none
  int : mg "int" = none
  str : mg "str" = none
  abs : mg "abs" = none
  isinstance : mg "isinstance" = none
theorem boot_tuple' : bootBuiltins "tuple" = some (.type "tuple") := by decide +kernel
theorem boot_list' : bootBuiltins "list" = some (.type "list") := by decide +kernel
theorem boot_str' : bootBuiltins "str" = some (.type "str") := by decide +kernel
theorem boot_int' : bootBuiltins "int" = some (.type "int") := by decide +kernel
theorem boot_abs' : bootBuiltins "abs" = some (.builtin "abs") := by decide +kernel
theorem boot_isinstance' : bootBuiltins "isinstance" = some (.builtin "isinstance") := by decide +kernel
/-! ### the promises -/
def spDot (C : Addr) : Sp := fun vs H Q _ => ∃ va vb n f g ka kb, vs = [va, vb] ∧ TV C n f va H ∧ TV C n g vb H ∧ Cd n ka f ∧ Cd n kb g ∧ ka + kb + n < 60000000 ∧ Ret H Q (RV C (dot n f g))
def spScale (C : Addr) : Sp := fun vs H Q _ => ∃ vc va n c f, vs = [vc, va] ∧ n ≤ 12 ∧ RV C c vc H ∧ TV C n f va H ∧ Big c ∧ (∀ i, i < n → Big (f i)) ∧ Ret H Q (TV C n fun i => c * f i)
def spZip (C : Addr) (o : Rat → Rat → Rat) : Sp := fun vs H Q _ => ∃ va vb n f g, vs = [va, vb] ∧ n ≤ 12 ∧ TV C n f va H ∧ TV C n g vb H ∧ (∀ i, i < n → Big (f i)) ∧ (∀ i, i < n → Big (g i)) ∧ Ret H Q (TV C n fun i => o (f i) (g i))
def spIsZero (C : Addr) : Sp := fun vs H Q _ => ∃ va n f, vs = [va] ∧ TV C n f va H ∧ ((∀ i, i < n → f i = 0) → Q (.bl true) H) ∧ (∀ p, p < n → f p ≠ 0 → Q (.bl false) H)
section
variable {P : Program} {w : World} {K : PySem.W.Frag} {mg : Str → Option Value} {base : Heap} {f C : Addr} {fd : FuncData}
theorem scDot : FnScope ["a", "b", "total", "x", "y"] ["a", "b"] (defScope sDot) := ⟨rfl, rfl, rfl, by decide +kernel, rfl, by decide +kernel, by decide +kernel⟩
theorem ok_dot (F : Fun K "dot" "dot" sDot f fd) (T : RKit P w K mg base C) (B : BTxt mg) : FnOk P w K mg base CX0 37 f fd ["a", "b"] (spDot C) := by
  refine F.ok scDot (fun vs H Q E h => ?_) (fun cdv A outer s H vs Q E hr h => ?_)
  · obtain ⟨va, vb, n, f, g, ka, kb, rfl, _⟩ := h
    rfl
  · obtain ⟨va, vb, n, f, g, ka, kb, rfl, ta, tb, ca, cb, hk, ret⟩ := h
    obtain ⟨a, xs, rfl, ha, hla, hia⟩ := ta
    obtain ⟨b, ys, rfl, hb, hlb, hib⟩ := tb
    refine ⟨_, pss_cons (ps_set (i := 2) scDot.nd rfl (Or.inl rfl) (pe_mk1 T (hr.mono (by decide)) pe_int))
      (pss_cons (ps_for PassesOwn.never rfl (RZ.pi_zipA (by rfl) B.zip (pa_cons (pv 0) (pa_cons (pv 1) pa_nil))) (pg_tup rfl (pgs_cons (pg_name (i := 3) scDot.nd rfl (Or.inl rfl)) (pgs_cons (pg_name (i := 4) scDot.nd rfl (Or.inl rfl)) pgs_nil)))
        (pss_one (ps_set (i := 2) scDot.nd rfl (Or.inl rfl) (pe_op (op_addR T hr) (pv 2) (pe_op (op_mulR T hr) (pv 3) (pv 4))))))
      (pss_one (ps_ret (pv 2)))), ?_⟩
    refine ⟨0, rfl, fun v0 H0 k0 r0 => ?_⟩
    refine ⟨_, rfl, _, rfl, a, b, xs, ys, rfl, .inr ⟨SqT.of (k0.all _ _ ha), SqT.of (k0.all _ _ hb), ?_⟩⟩
    refine RZ.for_zipT (xs := xs) (ys := ys) (hla.trans hlb.symm) (fun i σ H' => ∃ v x y, σ = [some (.ref a), some (.ref b), some v, x, y] ∧ Kp [] H H' ∧ RV C (S i fun i => f i * g i) v H')
      ⟨v0, none, none, rfl, k0, r0⟩ (fun i σ H' ⟨v, x, y, e, k, r⟩ => ⟨SqT.of (k.all _ _ ha), SqT.of (k.all _ _ hb)⟩) ?_ ?_
    · rintro i x y T' σ H' hx hy ⟨v, x0, y0, rfl, k, r⟩ hT
      have hi : i < n := by have := (List.getElem?_eq_some_iff.mp hx).1; omega
      have kT : Kp [] H' (upd H' T' (.tup [x, y])) := .new hT
      refine ⟨T', [x, y], rfl, SqT.of upd_same, rfl, x, [y], rfl, y, [], rfl, rfl, ?_⟩
      have Bp := (ca.part cb (p := i) (by omega)).big hk
      have Bxy : Big (f i * g i) := ((ca.at hi).mul (cb.at hi)).big (by omega)
      have kk := k.trans kT
      refine ⟨_, rfl, _, rfl, _, rfl, f i, g i, RV.mono _ _ _ _ kk (hia i x hx), RV.mono _ _ _ _ kk (hib i y hy), ca.big (by omega) hi, cb.big (by omega) hi, fun v1 H1 k1 r1 => ?_⟩
      refine ⟨_, _, RV.mono _ _ _ _ (kT.trans k1) r, r1, Bp, Bxy, fun v2 H2 k2 r2 => ?_⟩
      exact ⟨v2, some x, some y, rfl, (kk.trans k1).trans k2, r2⟩
    · rintro σ H' ⟨v, x0, y0, rfl, k, r⟩
      rw [hla] at r
      exact ⟨_, rfl, ret v H' k r⟩
theorem scScale : FnScope ["factor", "a", "x"] ["factor", "a"] (defScope sScale) := ⟨rfl, rfl, rfl, by decide +kernel, rfl, by decide +kernel, by decide +kernel⟩
theorem ok_scale (F : Fun K "scale" "scale" sScale f fd) (T : RKit P w K mg base C) (B : BTxt mg) : FnOk P w K mg base CX0 37 f fd ["factor", "a"] (spScale C) := by
  refine F.ok scScale (fun vs H Q E h => ?_) (fun cdv A outer s H vs Q E hr h => ?_)
  · obtain ⟨vc, va, n, c, f, rfl, _⟩ := h
    rfl
  · obtain ⟨vc, va, n, c, f, rfl, hn, tc, ta, Bc, Bf, ret⟩ := h
    obtain ⟨a, xs, rfl, ha, hla, hia⟩ := ta
    refine ⟨_, pss_one (ps_ret (pe_callTy call_tuple_of (by rfl) B.tuple boot_tuple' (pa_cons (pe_lc (own := [("x", 2)]) (g := gName 2) (tt := tYes) rfl scScale.nd (pi_tup (pv 1)) (blkOk_by (N := ["factor", "a", "x"]) (sc := defScope sScale) (by decide +kernel))
      (fun _ _ _ _ _ => pg_name (i := 2) scScale.nd rfl (Or.inl rfl)) (fun _ _ _ _ _ => pts_nil) (fun _ _ _ _ _ => pe_op (op_mulR T hr) (pv 0) (pv 2))) pa_nil))), ?_⟩
    refine ⟨_, rfl, a, rfl, ⟨_, SqT.of ha⟩, fun D hD => lcR_tup (R := fun i => RV C (c * f i)) (fun _ => RV.mono) hD ha (by rw [hla]; exact sz12 hn) (fun i x H1 Q1 hx k1 q1 => ?_) (gName_mono 2) (fun H1 k1 l1 => ?_)⟩
    · have hi : i < n := by have := (List.getElem?_eq_some_iff.mp hx).1; omega
      exact ⟨rfl, _, rfl, _, rfl, c, f i, RV.mono _ _ _ _ k1 tc, RV.mono _ _ _ _ k1 (hia i x hx), Bc, Bf i hi, q1⟩
    · rw [hla] at l1
      exact tup_done (fun _ => RV.mono) k1 l1 ret
theorem scPlus : FnScope ["a", "b", "x", "y"] ["a", "b"] (defScope sPlus) := ⟨rfl, rfl, rfl, by decide +kernel, rfl, by decide +kernel, by decide +kernel⟩
theorem ok_plus (F : Fun K "plus" "plus" sPlus f fd) (T : RKit P w K mg base C) (B : BTxt mg) : FnOk P w K mg base CX0 37 f fd ["a", "b"] (spZip C (· + ·)) := by
  refine F.ok scPlus (fun vs H Q E h => ?_) (fun cdv A outer s H vs Q E hr h => ?_)
  · obtain ⟨va, vb, n, f, g, rfl, _⟩ := h
    rfl
  · obtain ⟨va, vb, n, f, g, rfl, hn, ta, tb, Bf, Bg, ret⟩ := h
    obtain ⟨a, xs, rfl, ha, hla, hia⟩ := ta
    obtain ⟨b, ys, rfl, hb, hlb, hib⟩ := tb
    refine ⟨_, pss_one (ps_ret (pe_callTy call_tuple_of (by rfl) B.tuple boot_tuple' (pa_cons (pe_lc (own := [("x", 2), ("y", 3)]) (g := gTup K 2 (gCons (gName 2) (gCons (gName 3) gNil))) (tt := tYes) rfl scPlus.nd
      (RZ.pi_zipA (by rfl) B.zip (pa_cons (pv 0) (pa_cons (pv 1) pa_nil))) (blkOk_by (N := ["a", "b", "x", "y"]) (sc := defScope sPlus) (by decide +kernel))
      (fun _ _ _ _ _ => pg_tup rfl (pgs_cons (pg_name (i := 2) scPlus.nd rfl (Or.inl rfl)) (pgs_cons (pg_name (i := 3) scPlus.nd rfl (Or.inl rfl)) pgs_nil))) (fun _ _ _ _ _ => pts_nil) (fun _ _ _ _ _ => pe_op (op_addR T hr) (pv 2) (pv 3))) pa_nil))), ?_⟩
    refine ⟨_, rfl, _, rfl, a, b, xs, ys, rfl, .inr ⟨SqT.of ha, SqT.of hb, fun D hD => ?_⟩⟩
    refine lcR_zip (R := fun i => RV C (f i + g i)) (fun _ => RV.mono) hD ha hb (hla.trans hlb.symm) (by rw [hla]; exact sz12 hn) (fun i x y T' H1 Q1 hx hy k1 hT q1 => ?_) (gPair_mono K 2 3) (fun H1 k1 l1 => ?_)
    · have hi : i < n := by have := (List.getElem?_eq_some_iff.mp hx).1; omega
      have kT : Kp [] H1 (upd H1 T' (.tup [x, y])) := .new hT
      refine ⟨T', [x, y], rfl, SqT.of upd_same, rfl, x, [y], rfl, y, [], rfl, rfl, rfl, ?_⟩
      exact ⟨_, rfl, _, rfl, f i, g i, RV.mono _ _ _ _ (k1.trans kT) (hia i x hx), RV.mono _ _ _ _ (k1.trans kT) (hib i y hy), Bf i hi, Bg i hi, q1⟩
    · rw [hla] at l1
      exact tup_done (fun _ => RV.mono) k1 l1 ret
theorem scMinus : FnScope ["a", "b", "x", "y"] ["a", "b"] (defScope sMinus) := ⟨rfl, rfl, rfl, by decide +kernel, rfl, by decide +kernel, by decide +kernel⟩
theorem ok_minus (F : Fun K "minus" "minus" sMinus f fd) (T : RKit P w K mg base C) (B : BTxt mg) : FnOk P w K mg base CX0 37 f fd ["a", "b"] (spZip C (· - ·)) := by
  refine F.ok scMinus (fun vs H Q E h => ?_) (fun cdv A outer s H vs Q E hr h => ?_)
  · obtain ⟨va, vb, n, f, g, rfl, _⟩ := h
    rfl
  · obtain ⟨va, vb, n, f, g, rfl, hn, ta, tb, Bf, Bg, ret⟩ := h
    obtain ⟨a, xs, rfl, ha, hla, hia⟩ := ta
    obtain ⟨b, ys, rfl, hb, hlb, hib⟩ := tb
    refine ⟨_, pss_one (ps_ret (pe_callTy call_tuple_of (by rfl) B.tuple boot_tuple' (pa_cons (pe_lc (own := [("x", 2), ("y", 3)]) (g := gTup K 2 (gCons (gName 2) (gCons (gName 3) gNil))) (tt := tYes) rfl scMinus.nd
      (RZ.pi_zipA (by rfl) B.zip (pa_cons (pv 0) (pa_cons (pv 1) pa_nil))) (blkOk_by (N := ["a", "b", "x", "y"]) (sc := defScope sMinus) (by decide +kernel))
      (fun _ _ _ _ _ => pg_tup rfl (pgs_cons (pg_name (i := 2) scMinus.nd rfl (Or.inl rfl)) (pgs_cons (pg_name (i := 3) scMinus.nd rfl (Or.inl rfl)) pgs_nil))) (fun _ _ _ _ _ => pts_nil) (fun _ _ _ _ _ => pe_op (op_subR T hr) (pv 2) (pv 3))) pa_nil))), ?_⟩
    refine ⟨_, rfl, _, rfl, a, b, xs, ys, rfl, .inr ⟨SqT.of ha, SqT.of hb, fun D hD => ?_⟩⟩
    refine lcR_zip (R := fun i => RV C (f i - g i)) (fun _ => RV.mono) hD ha hb (hla.trans hlb.symm) (by rw [hla]; exact sz12 hn) (fun i x y T' H1 Q1 hx hy k1 hT q1 => ?_) (gPair_mono K 2 3) (fun H1 k1 l1 => ?_)
    · have hi : i < n := by have := (List.getElem?_eq_some_iff.mp hx).1; omega
      have kT : Kp [] H1 (upd H1 T' (.tup [x, y])) := .new hT
      refine ⟨T', [x, y], rfl, SqT.of upd_same, rfl, x, [y], rfl, y, [], rfl, rfl, rfl, ?_⟩
      exact ⟨_, rfl, _, rfl, f i, g i, RV.mono _ _ _ _ (k1.trans kT) (hia i x hx), RV.mono _ _ _ _ (k1.trans kT) (hib i y hy), Bf i hi, Bg i hi, q1⟩
    · rw [hla] at l1
      exact tup_done (fun _ => RV.mono) k1 l1 ret
theorem scIsZero : FnScope ["a", "x"] ["a"] (defScope sIsZero) := ⟨rfl, rfl, rfl, by decide +kernel, rfl, by decide +kernel, by decide +kernel⟩
theorem ok_isZero (F : Fun K "is_zero" "is_zero" sIsZero f fd) (T : RKit P w K mg base C) : FnOk P w K mg base CX0 37 f fd ["a"] (spIsZero C) := by
  refine F.ok scIsZero (fun vs H Q E h => ?_) (fun cdv A outer s H vs Q E hr h => ?_)
  · obtain ⟨va, n, f, rfl, _⟩ := h
    rfl
  · obtain ⟨va, n, f, rfl, ta, q1, q0⟩ := h
    obtain ⟨a, xs, rfl, ha, hla, hia⟩ := ta
    refine ⟨_, pss_cons (ps_for PassesOwn.never rfl (pi_tup (pv 0)) (pg_name (i := 1) scIsZero.nd rfl (Or.inl rfl)) (pss_one (ps_if (pt_cmpR op_ne (pe_fld (pv 1) rfl) pe_int (nomark _)) (pss_one (ps_ret pe_bl)) pss_nil))) (pss_one (ps_ret pe_bl)), ?_⟩
    refine ⟨_, rfl, a, rfl, ⟨_, SqT.of ha⟩, for_tup (K := K) (a := a) (xs := xs) (fun i σ H' => H' = H ∧ (∃ x, σ = [some (.ref a), x]) ∧ ∀ j, j < i → f j = 0) ⟨rfl, ⟨none, rfl⟩, fun j hj => absurd hj (by omega)⟩
      (fun i σ H' _ ⟨e, _⟩ => by rw [e]; exact SqT.of ha) ?_ ?_⟩
    · rintro i x σ H' hx ⟨rfl, ⟨x0, rfl⟩, hz⟩
      have hi : i < n := by have := (List.getElem?_eq_some_iff.mp hx).1; omega
      obtain ⟨p, dx, rfl, hp⟩ := hia i x hx
      refine ⟨_, rfl, p, C, dx, _, _, rfl, hp, T.T.cl, T.T.nT, rfs_top _, rfl, _, rfl, ?_⟩
      by_cases h0 : f i = 0
      · have e : (!decide (V.int (f i).num = V.int 0)) = false := by rw [h0]; rfl
        rw [e]
        refine iteF ⟨rfl, ⟨_, rfl⟩, fun j hj => ?_⟩
        by_cases q : j = i
        · rw [q]; exact h0
        · exact hz j (by omega)
      · have e : (!decide (V.int (f i).num = V.int 0)) = true := by
          rw [decide_eq_false (fun q => num_ne h0 (V.int.inj q))]; rfl
        rw [e]
        exact iteT (q0 i hi h0)
    · rintro σ H' ⟨rfl, ⟨x0, rfl⟩, hz⟩
      rw [hla] at hz
      exact q1 hz
end
end PN

/-! Matrices, and the pseudo-inverse behind a term more. -/
namespace PN
open PySem L2 PyProof.Rows
/-- a def of the module, by its name -/
structure FnAt (P : Program) (w : World) (K : PySem.W.Frag) (mg : Str → Option Value) (base : Heap) (x : Str) (k : Nat) (ps : List Str) (sp : Sp) : Prop where
  ex : ∃ f fd, mg x = some (.ref f) ∧ PySem.W.keepIn K (.ref f) = true ∧ Binds K fd ps [] ∧ FnOk P w K mg base CX0 k f fd ps sp
theorem pe_fn {X : Cx} {x : Str} {k : Nat} {ps : List Str} {sp : Sp} {p pos : Pos} {e : Expr} {es : List Expr} {t : TA} (G : FnAt X.prog X.w X.K X.mg X.base x k ps sp) (hr : Room k X.A) (ha : PA X (e :: es) t) (hg : Gl X x := by rfl)
    (hdb : (x == ("__debug__" : Str)) = false := by decide) (he : starEach (e :: es) X.env = (false, eval e X.env) :: starEach es X.env := by rfl) (hpl : (backTo pos (starEach es X.env)).any (·.1) = false := by rfl) : PE X (.Call (.Name x p) (e :: es) [] pos) (tCall sp [] E0 t) := by
  obtain ⟨f, fd, h1, h2, h3, h4⟩ := G.ex
  exact pe_call h4 hr hg h1 h2 h3 .nil pass0 ha hdb he hpl
/-! ### the promises -/
def spApply (C : Addr) : Sp := fun vs H Q _ => ∃ vm vb m n F g ka kb, vs = [vm, vb] ∧ m ≤ 12 ∧ MV C m n F vm H ∧ TV C n g vb H ∧ Cdm m n ka F ∧ Cd n kb g ∧ ka + kb + n < 60000000 ∧ Ret H Q (TV C m (mulV n F g))
def spOuter (C : Addr) : Sp := fun vs H Q _ => ∃ va vb n m f g, vs = [va, vb] ∧ n ≤ 12 ∧ m ≤ 12 ∧ TV C n f va H ∧ TV C m g vb H ∧ (∀ i, i < n → Big (f i)) ∧ (∀ i, i < m → Big (g i)) ∧ Ret H Q (MV C n m fun i j => f i * g j)
def spSumOf (C : Addr) : Sp := fun vs H Q _ => ∃ va vb n m F G, vs = [va, vb] ∧ n ≤ 12 ∧ m ≤ 12 ∧ MV C n m F va H ∧ MV C n m G vb H ∧ (∀ i j, i < n → j < m → Big (F i j)) ∧ (∀ i j, i < n → j < m → Big (G i j)) ∧ Ret H Q (MV C n m fun i j => F i j + G i j)
def spScaled (C : Addr) : Sp := fun vs H Q _ => ∃ vc va n m c F, vs = [vc, va] ∧ n ≤ 12 ∧ m ≤ 12 ∧ RV C c vc H ∧ MV C n m F va H ∧ Big c ∧ (∀ i j, i < n → j < m → Big (F i j)) ∧ Ret H Q (MV C n m fun i j => c * F i j)
def spAddTerm (C : Addr) : Sp := fun vs H Q _ => ∃ vm va vw n M a w k, vs = [vm, va, vw] ∧ n ≤ 5 ∧ MV C n n M vm H ∧ TV C n a va H ∧ RV C w vw H ∧ Cdm n n k M ∧ k < 1000 ∧ RowOk n a ∧ WOk w ∧ Ret H Q (MV C n n (M1 M a w))
def spWith (C : Addr) : Sp := fun vs H Q _ => ∃ vm vi va vw n M P a w k, vs = [vm, vi, va, vw] ∧ n ≤ 5 ∧ MV C n n M vm H ∧ MV C n n P vi H ∧ TV C n a va H ∧ RV C w vw H ∧ Cdm n n 21 M ∧ Cdm n n k P ∧ RowOk n a ∧ WOk w ∧ 16 * k + 1000 < 60000000 ∧
  ((∀ i, i < n → uOf n M P a i = 0) → 1 + w * sOf n P a ≠ 0 ∧ Ret H Q (MV C n n (P1 n P a w))) ∧ (∀ p, p < n → uOf n M P a p ≠ 0 → Ret H Q (MV C n n (P2 n M P a w)))
section
variable {P : Program} {w : World} {K : PySem.W.Frag} {mg : Str → Option Value} {base : Heap} {f C : Addr} {fd : FuncData}
theorem scApply : FnScope ["matrix", "vector", "row"] ["matrix", "vector"] (defScope sApply) := ⟨rfl, rfl, rfl, by decide +kernel, rfl, by decide +kernel, by decide +kernel⟩
theorem ok_apply (F : Fun K "apply" "apply" sApply f fd) (B : BTxt mg) (G : FnAt P w K mg base "dot" 37 ["a", "b"] (spDot C)) : FnOk P w K mg base CX0 38 f fd ["matrix", "vector"] (spApply C) := by
  refine F.ok scApply (fun vs H Q E h => ?_) (fun cdv A outer s H vs Q E hr h => ?_)
  · obtain ⟨vm, vb, m, n, F, g, ka, kb, rfl, _⟩ := h
    rfl
  · obtain ⟨vm, vb, m, n, F, g, ka, kb, rfl, hm, ⟨a, xs, rfl, ha, hla, hia⟩, tb, cF, cg, hk, ret⟩ := h
    refine ⟨_, pss_one (ps_ret (pe_callTy call_tuple_of (by rfl) B.tuple boot_tuple' (pa_cons (pe_lc (own := [("row", 2)]) (g := gName 2) (tt := tYes) rfl scApply.nd (pi_tup (pv 0)) (blkOk_by (N := ["matrix", "vector", "row"]) (sc := defScope sApply) (by decide +kernel))
      (fun _ _ _ _ _ => pg_name (i := 2) scApply.nd rfl (Or.inl rfl)) (fun _ _ _ _ _ => pts_nil) (fun _ _ _ _ _ => pe_fn G hr (pa_cons (pv 2) (pa_cons (pv 1) pa_nil)))) pa_nil))), ?_⟩
    refine ⟨_, rfl, a, rfl, ⟨_, SqT.of ha⟩, fun D hD => lcR_tup (R := fun i => RV C (mulV n F g i)) (fun _ => RV.mono) hD ha (by rw [hla]; exact sz12 hm) (fun i x H1 Q1 hx k1 q1 => ?_) (gName_mono 2) (fun H1 k1 l1 => ?_)⟩
    · have hi : i < m := by have := (List.getElem?_eq_some_iff.mp hx).1; omega
      exact ⟨rfl, _, rfl, _, rfl, _, _, n, F i, g, ka, kb, rfl, TV.mono _ _ _ _ k1 (hia i x hx), TV.mono _ _ _ _ k1 tb, cF.row hi, cg, hk, q1⟩
    · rw [hla] at l1
      exact tup_done (fun _ => RV.mono) k1 l1 ret
theorem scOuter : FnScope ["a", "b", "x"] ["a", "b"] (defScope sOuter) := ⟨rfl, rfl, rfl, by decide +kernel, rfl, by decide +kernel, by decide +kernel⟩
theorem ok_outer (F : Fun K "outer" "outer" sOuter f fd) (B : BTxt mg) (G : FnAt P w K mg base "scale" 37 ["factor", "a"] (spScale C)) : FnOk P w K mg base CX0 38 f fd ["a", "b"] (spOuter C) := by
  refine F.ok scOuter (fun vs H Q E h => ?_) (fun cdv A outer s H vs Q E hr h => ?_)
  · obtain ⟨va, vb, n, m, f, g, rfl, _⟩ := h
    rfl
  · obtain ⟨va, vb, n, m, f, g, rfl, hn, hm, ⟨a, xs, rfl, ha, hla, hia⟩, tb, Bf, Bg, ret⟩ := h
    refine ⟨_, pss_one (ps_ret (pe_callTy call_tuple_of (by rfl) B.tuple boot_tuple' (pa_cons (pe_lc (own := [("x", 2)]) (g := gName 2) (tt := tYes) rfl scOuter.nd (pi_tup (pv 0)) (blkOk_by (N := ["a", "b", "x"]) (sc := defScope sOuter) (by decide +kernel))
      (fun _ _ _ _ _ => pg_name (i := 2) scOuter.nd rfl (Or.inl rfl)) (fun _ _ _ _ _ => pts_nil) (fun _ _ _ _ _ => pe_fn G hr (pa_cons (pv 2) (pa_cons (pv 1) pa_nil)))) pa_nil))), ?_⟩
    refine ⟨_, rfl, a, rfl, ⟨_, SqT.of ha⟩, fun D hD => lcR_tup (R := fun i => TV C m (fun j => f i * g j)) (fun _ => TV.mono) hD ha (by rw [hla]; exact sz12 hn) (fun i x H1 Q1 hx k1 q1 => ?_) (gName_mono 2) (fun H1 k1 l1 => ?_)⟩
    · have hi : i < n := by have := (List.getElem?_eq_some_iff.mp hx).1; omega
      exact ⟨rfl, _, rfl, _, rfl, _, _, m, f i, g, rfl, hm, RV.mono _ _ _ _ k1 (hia i x hx), TV.mono _ _ _ _ k1 tb, Bf i hi, Bg, q1⟩
    · rw [hla] at l1
      exact tup_done (fun _ => TV.mono) k1 l1 ret
theorem scSumOf : FnScope ["first", "second", "one", "other"] ["first", "second"] (defScope sSumOf) := ⟨rfl, rfl, rfl, by decide +kernel, rfl, by decide +kernel, by decide +kernel⟩
theorem ok_sumOf (F : Fun K "sum_of" "sum_of" sSumOf f fd) (B : BTxt mg) (G : FnAt P w K mg base "plus" 37 ["a", "b"] (spZip C (· + ·))) : FnOk P w K mg base CX0 38 f fd ["first", "second"] (spSumOf C) := by
  refine F.ok scSumOf (fun vs H Q E h => ?_) (fun cdv A outer s H vs Q E hr h => ?_)
  · obtain ⟨va, vb, n, m, F, G, rfl, _⟩ := h
    rfl
  · obtain ⟨va, vb, n, m, F, G', rfl, hn, hm, ⟨a, xs, rfl, ha, hla, hia⟩, ⟨b, ys, rfl, hb, hlb, hib⟩, BF, BG, ret⟩ := h
    refine ⟨_, pss_one (ps_ret (pe_callTy call_tuple_of (by rfl) B.tuple boot_tuple' (pa_cons (pe_lc (own := [("one", 2), ("other", 3)]) (g := gTup K 2 (gCons (gName 2) (gCons (gName 3) gNil))) (tt := tYes) rfl scSumOf.nd
      (RZ.pi_zipA (by rfl) B.zip (pa_cons (pv 0) (pa_cons (pv 1) pa_nil))) (blkOk_by (N := ["first", "second", "one", "other"]) (sc := defScope sSumOf) (by decide +kernel))
      (fun _ _ _ _ _ => pg_tup rfl (pgs_cons (pg_name (i := 2) scSumOf.nd rfl (Or.inl rfl)) (pgs_cons (pg_name (i := 3) scSumOf.nd rfl (Or.inl rfl)) pgs_nil))) (fun _ _ _ _ _ => pts_nil) (fun _ _ _ _ _ => pe_fn G hr (pa_cons (pv 2) (pa_cons (pv 3) pa_nil)))) pa_nil))), ?_⟩
    refine ⟨_, rfl, _, rfl, a, b, xs, ys, rfl, .inr ⟨SqT.of ha, SqT.of hb, fun D hD => ?_⟩⟩
    refine lcR_zip (R := fun i => TV C m (fun j => F i j + G' i j)) (fun _ => TV.mono) hD ha hb (hla.trans hlb.symm) (by rw [hla]; exact sz12 hn) (fun i x y T' H1 Q1 hx hy k1 hT q1 => ?_) (gPair_mono K 2 3) (fun H1 k1 l1 => ?_)
    · have hi : i < n := by have := (List.getElem?_eq_some_iff.mp hx).1; omega
      have kT : Kp [] H1 (upd H1 T' (.tup [x, y])) := .new hT
      refine ⟨T', [x, y], rfl, SqT.of upd_same, rfl, x, [y], rfl, y, [], rfl, rfl, rfl, ?_⟩
      exact ⟨_, rfl, _, rfl, _, _, m, F i, G' i, rfl, hm, TV.mono _ _ _ _ (k1.trans kT) (hia i x hx), TV.mono _ _ _ _ (k1.trans kT) (hib i y hy), fun j hj => BF i j hi hj, fun j hj => BG i j hi hj, q1⟩
    · rw [hla] at l1
      exact tup_done (fun _ => TV.mono) k1 l1 ret
theorem scScaled : FnScope ["factor", "matrix", "row"] ["factor", "matrix"] (defScope sScaled) := ⟨rfl, rfl, rfl, by decide +kernel, rfl, by decide +kernel, by decide +kernel⟩
theorem ok_scaled (F : Fun K "scaled" "scaled" sScaled f fd) (B : BTxt mg) (G : FnAt P w K mg base "scale" 37 ["factor", "a"] (spScale C)) : FnOk P w K mg base CX0 38 f fd ["factor", "matrix"] (spScaled C) := by
  refine F.ok scScaled (fun vs H Q E h => ?_) (fun cdv A outer s H vs Q E hr h => ?_)
  · obtain ⟨vc, va, n, m, c, F, rfl, _⟩ := h
    rfl
  · obtain ⟨vc, va, n, m, c, F, rfl, hn, hm, tc, ⟨a, xs, rfl, ha, hla, hia⟩, Bc, BF, ret⟩ := h
    refine ⟨_, pss_one (ps_ret (pe_callTy call_tuple_of (by rfl) B.tuple boot_tuple' (pa_cons (pe_lc (own := [("row", 2)]) (g := gName 2) (tt := tYes) rfl scScaled.nd (pi_tup (pv 1)) (blkOk_by (N := ["factor", "matrix", "row"]) (sc := defScope sScaled) (by decide +kernel))
      (fun _ _ _ _ _ => pg_name (i := 2) scScaled.nd rfl (Or.inl rfl)) (fun _ _ _ _ _ => pts_nil) (fun _ _ _ _ _ => pe_fn G hr (pa_cons (pv 0) (pa_cons (pv 2) pa_nil)))) pa_nil))), ?_⟩
    refine ⟨_, rfl, a, rfl, ⟨_, SqT.of ha⟩, fun D hD => lcR_tup (R := fun i => TV C m (fun j => c * F i j)) (fun _ => TV.mono) hD ha (by rw [hla]; exact sz12 hn) (fun i x H1 Q1 hx k1 q1 => ?_) (gName_mono 2) (fun H1 k1 l1 => ?_)⟩
    · have hi : i < n := by have := (List.getElem?_eq_some_iff.mp hx).1; omega
      exact ⟨rfl, _, rfl, _, rfl, _, _, m, c, F i, rfl, hm, RV.mono _ _ _ _ k1 tc, TV.mono _ _ _ _ k1 (hia i x hx), Bc, fun j hj => BF i j hi hj, q1⟩
    · rw [hla] at l1
      exact tup_done (fun _ => TV.mono) k1 l1 ret
theorem cdm_big {n m k : Nat} {F : Nat → Nat → Rat} (h : Cdm n m k F) (hk : k < 60000000) : ∀ i j, i < n → j < m → Big (F i j) := fun i j hi hj => (h.row hi).big hk hj
theorem scAddTerm : FnScope ["matrix", "row", "weight"] ["matrix", "row", "weight"] (defScope sAddTerm) := ⟨rfl, rfl, rfl, by decide +kernel, rfl, by decide +kernel, by decide +kernel⟩
theorem ok_addTerm (F : Fun K "add_term" "add_term" sAddTerm f fd) (G1 : FnAt P w K mg base "sum_of" 38 ["first", "second"] (spSumOf C)) (G2 : FnAt P w K mg base "scaled" 38 ["factor", "matrix"] (spScaled C)) (G3 : FnAt P w K mg base "outer" 38 ["a", "b"] (spOuter C)) :
    FnOk P w K mg base CX0 39 f fd ["matrix", "row", "weight"] (spAddTerm C) := by
  refine F.ok scAddTerm (fun vs H Q E h => ?_) (fun cdv A outer s H vs Q E hr h => ?_)
  · obtain ⟨vm, va, vw, n, M, a, w', k, rfl, _⟩ := h
    rfl
  · obtain ⟨vm, va, vw, n, M, a, w', k, rfl, hn, tm, ta, tw, cM, hk, ra, rw', ret⟩ := h
    refine ⟨_, pss_one (ps_ret (pe_fn G1 hr (pa_cons (pv 0) (pa_cons (pe_fn G2 hr (pa_cons (pv 2) (pa_cons (pe_fn G3 hr (pa_cons (pv 1) (pa_cons (pv 1) pa_nil))) pa_nil))) pa_nil)))), ?_⟩
    have Ba : ∀ i, i < n → Big (a i) := fun i hi => ra.cd.big (by decide) hi
    have co := Cdm.outer ra.cd ra.cd
    have cs := Cdm.scale rw'.c1 co
    refine ⟨_, rfl, _, rfl, _, rfl, _, rfl, _, _, n, n, a, a, rfl, by omega, by omega, ta, ta, Ba, Ba, fun v1 H1 k1 r1 => ?_⟩
    refine ⟨_, _, n, n, w', _, rfl, by omega, by omega, RV.mono _ _ _ _ k1 tw, r1, rw'.c1.big (by decide), cdm_big co (by decide), fun v2 H2 k2 r2 => ?_⟩
    exact ⟨_, _, n, n, M, _, rfl, by omega, by omega, MV.mono _ _ _ _ (k1.trans k2) tm, r2, cdm_big cM (by omega), cdm_big cs (by decide), fun v3 H3 k3 r3 => ret v3 H3 ((k1.trans k2).trans k3) r3⟩
end
end PN

/-! with_added. -/
namespace PN
open PySem L2 PyProof.Rows
section
variable {P : Program} {w : World} {K : PySem.W.Frag} {mg : Str → Option Value} {base : Heap} {f C : Addr} {fd : FuncData}
abbrev nWith : List Str := ["matrix", "inverse", "row", "weight", "image", "rest", "share", "factor", "way", "found"]
theorem scWith : FnScope nWith ["matrix", "inverse", "row", "weight"] (defScope sWithAdded) := ⟨rfl, rfl, rfl, by decide +kernel, rfl, by decide +kernel, by decide +kernel⟩
theorem one_c1 : C1 0 (((1 : Int) : Rat)) := C1.int (by decide)
theorem mone_c1 : C1 0 (((-1 : Int) : Rat)) := C1.int (by decide)
theorem ok_with (F : Fun K "with_added" "with_added" sWithAdded f fd) (T : RKit P w K mg base C)
    (GA : FnAt P w K mg base "apply" 38 ["matrix", "vector"] (spApply C)) (GM : FnAt P w K mg base "minus" 37 ["a", "b"] (spZip C (· - ·))) (GD : FnAt P w K mg base "dot" 37 ["a", "b"] (spDot C))
    (GZ : FnAt P w K mg base "is_zero" 37 ["a"] (spIsZero C)) (GC : FnAt P w K mg base "scale" 37 ["factor", "a"] (spScale C))
    (GS : FnAt P w K mg base "sum_of" 38 ["first", "second"] (spSumOf C)) (GK : FnAt P w K mg base "scaled" 38 ["factor", "matrix"] (spScaled C)) (GO : FnAt P w K mg base "outer" 38 ["a", "b"] (spOuter C)) :
    FnOk P w K mg base CX0 39 f fd ["matrix", "inverse", "row", "weight"] (spWith C) := by
  refine F.ok scWith (fun vs H Q E h => ?_) (fun cdv A outer s H vs Q E hr h => ?_)
  · obtain ⟨vm, vi, va, vw, n, M, P', a, w', k, rfl, _⟩ := h
    rfl
  · obtain ⟨vm, vi, va, vw, n, M, P', a, w', k, rfl, hn, tm, ti, ta, tw, cM, cP, ra, rw', hk, ret0, ret1⟩ := h
    have h37 : Room 37 _ := hr.mono (by decide : 37 ≤ 38)
    have h36 : Room 36 _ := hr.mono (by decide : 36 ≤ 38)
    have h35 : Room 35 _ := hr.mono (by decide : 35 ≤ 38)
    refine ⟨_, pss_cons (ps_set (i := 4) scWith.nd rfl (Or.inl rfl) (pe_fn GA hr (pa_cons (pv 1) (pa_cons (pv 2) pa_nil))))
      (pss_cons (ps_set (i := 5) scWith.nd rfl (Or.inl rfl) (pe_fn GM h37 (pa_cons (pv 2) (pa_cons (pe_fn GA hr (pa_cons (pv 0) (pa_cons (pv 4) pa_nil))) pa_nil))))
      (pss_cons (ps_set (i := 6) scWith.nd rfl (Or.inl rfl) (pe_fn GD h37 (pa_cons (pv 2) (pa_cons (pv 4) pa_nil))))
      (pss_cons (ps_if (pt_val (pe_fn GZ h37 (pa_cons (pv 5) pa_nil)))
        (pss_cons (ps_set (i := 7) scWith.nd rfl (Or.inl rfl) (pe_overR T h36 (pv 3) (pe_op (op_addR T h36) (pe_mk1 T h35 pe_int) (pe_op (op_mulR T h36) (pv 3) (pv 6)))))
          (pss_one (ps_ret (pe_fn GS hr (pa_cons (pv 1) (pa_cons (pe_fn GK hr (pa_cons (pe_un (un_negR T h36) (pv 7)) (pa_cons (pe_fn GO hr (pa_cons (pv 4) (pa_cons (pv 4) pa_nil))) pa_nil))) pa_nil)))))) pss_nil)
      (pss_cons (ps_set (i := 8) scWith.nd rfl (Or.inl rfl) (pe_fn GC h37 (pa_cons (pe_overR T h36 (pe_mk1 T h35 pe_int) (pe_fn GD h37 (pa_cons (pv 5) (pa_cons (pv 5) pa_nil)))) (pa_cons (pv 5) pa_nil))))
      (pss_cons (ps_set (i := 9) scWith.nd rfl (Or.inl rfl) (pe_fn GS hr (pa_cons (pv 1) (pa_cons (pe_fn GK hr (pa_cons (pe_mk1 T h35 (pe_un un_neg pe_int)) (pa_cons (pe_fn GO hr (pa_cons (pv 8) (pa_cons (pv 4) pa_nil))) pa_nil))) pa_nil))))
      (pss_cons (ps_set (i := 9) scWith.nd rfl (Or.inl rfl) (pe_fn GS hr (pa_cons (pv 9) (pa_cons (pe_fn GK hr (pa_cons (pe_mk1 T h35 (pe_un un_neg pe_int)) (pa_cons (pe_fn GO hr (pa_cons (pv 4) (pa_cons (pv 8) pa_nil))) pa_nil))) pa_nil))))
      (pss_one (ps_ret (pe_fn GS hr (pa_cons (pv 9) (pa_cons (pe_fn GK hr (pa_cons (pe_op (op_addR T h36) (pe_overR T h36 (pe_mk1 T h35 pe_int) (pv 3)) (pv 6)) (pa_cons (pe_fn GO hr (pa_cons (pv 8) (pa_cons (pv 8) pa_nil))) pa_nil))) pa_nil))))))))))), ?_⟩
    have ca := ra.cd
    have cg : Cd n (k + 4 + n) (mulV n P' a) := cP.mulV ca
    have cMg := cM.mulV cg
    have cu : Cd n (4 + (21 + (k + 4 + n) + n) + 1) (uOf n M P' a) := ca.sub cMg
    have cs : C1 (4 + (k + 4 + n) + n) (sOf n P' a) := ca.dot cg
    have n12 : n ≤ 12 := by omega
    have Bw : Big w' := rw'.c1.big (by decide)
    have Bg : ∀ i, i < n → Big (mulV n P' a i) := fun i hi => cg.big (by omega) hi
    have Bu : ∀ i, i < n → Big (uOf n M P' a i) := fun i hi => cu.big (by omega) hi
    -- image
    refine ⟨_, rfl, _, rfl, _, _, n, n, P', a, k, 4, rfl, n12, ti, ta, cP, ca, by omega, fun v1 H1 k1 t1 => ?_⟩
    -- rest
    refine ⟨_, rfl, _, rfl, _, rfl, _, _, n, n, M, mulV n P' a, 21, k + 4 + n, rfl, n12, MV.mono _ _ _ _ k1 tm, t1, cM, cg, by omega, fun v2 H2 k2 t2 => ?_⟩
    have K2 := k1.trans k2
    refine ⟨_, _, n, a, mulV n M (mulV n P' a), rfl, n12, TV.mono _ _ _ _ K2 ta, t2, fun i hi => ca.big (by omega) hi, fun i hi => cMg.big (by omega) hi, fun v3 H3 k3 t3 => ?_⟩
    have K3 := K2.trans k3
    -- share
    refine ⟨_, rfl, _, rfl, _, _, n, a, mulV n P' a, 4, k + 4 + n, rfl, TV.mono _ _ _ _ K3 ta, TV.mono _ _ _ _ (k2.trans k3) t1, ca, cg, by omega, fun v4 H4 k4 t4 => ?_⟩
    have K4 := K3.trans k4
    have I4 : TV C n (mulV n P' a) v1 H4 := TV.mono _ _ _ _ ((k2.trans k3).trans k4) t1
    have U4 : TV C n (uOf n M P' a) v3 H4 := TV.mono _ _ _ _ k4 t3
    have W4 : RV C w' vw H4 := RV.mono _ _ _ _ K4 tw
    have N4 : MV C n n P' vi H4 := MV.mono _ _ _ _ K4 ti
    refine ⟨_, rfl, v3, n, uOf n M P' a, rfl, U4, fun hz => ⟨true, rfl, iteT ?_⟩, fun p hp hu => ⟨false, rfl, iteF ?_⟩⟩
    · obtain ⟨hd, ret⟩ := ret0 hz
      have cd0 := C1.add one_c1 (C1.mul rw'.c1 cs)
      have cf := C1.div rw'.c1 cd0 hd
      -- factor
      refine ⟨_, rfl, w', W4, 1, rfl, fun v5 H5 k5 t5 => ?_⟩
      refine ⟨_, rfl, _, rfl, w', sOf n P' a, RV.mono _ _ _ _ k5 W4, RV.mono _ _ _ _ k5 t4, Bw, cs.big (by omega), fun v6 H6 k6 t6 => ?_⟩
      refine ⟨_, _, RV.mono _ _ _ _ k6 t5, t6, one_c1.big (by decide), (C1.mul rw'.c1 cs).big (by omega), fun v7 H7 k7 t7 => ?_⟩
      have L7 := (k5.trans k6).trans k7
      refine ⟨_, RV.mono _ _ _ _ L7 W4, t7, Bw, cd0.big (by omega), hd, fun v8 H8 k8 t8 => ?_⟩
      have L8 := L7.trans k8
      -- the sum
      refine ⟨_, rfl, _, rfl, _, t8, fun v9 H9 k9 t9 => ?_⟩
      refine ⟨_, rfl, _, rfl, _, _, n, n, _, _, rfl, n12, n12, TV.mono _ _ _ _ (L8.trans k9) I4, TV.mono _ _ _ _ (L8.trans k9) I4, Bg, Bg, fun v10 H10 k10 t10 => ?_⟩
      refine ⟨_, _, n, n, _, _, rfl, n12, n12, RV.mono _ _ _ _ k10 t9, t10, cf.neg.big (by omega), cdm_big (Cdm.outer cg cg) (by omega), fun v11 H11 k11 t11 => ?_⟩
      have L11 := ((L8.trans k9).trans k10).trans k11
      refine ⟨_, _, n, n, _, _, rfl, n12, n12, MV.mono _ _ _ _ L11 N4, t11, cdm_big cP (by omega), cdm_big (Cdm.scale cf.neg (Cdm.outer cg cg)) (by omega), fun v12 H12 k12 t12 => ?_⟩
      exact ret v12 H12 ((K4.trans L11).trans k12) t12
    · have hpos : 0 < dot n (uOf n M P' a) (uOf n M P' a) := dot_self_pos hp hu
      have hne : dot n (uOf n M P' a) (uOf n M P' a) ≠ 0 := by grind
      have cuu := cu.dot cu
      have ci := C1.div one_c1 cuu hne
      have cc := Cd.scale ci cu
      have hw0 : w' ≠ 0 := by have := rw'.pos; grind
      have ciw := C1.div one_c1 rw'.c1 hw0
      have Bc : ∀ i, i < n → Big (cOf n M P' a i) := fun i hi => cc.big (by omega) hi
      -- way
      refine ⟨1, rfl, fun v5 H5 k5 t5 => ⟨_, t5, _, rfl, _, rfl, _, _, n, _, _, _, _, rfl, TV.mono _ _ _ _ k5 U4, TV.mono _ _ _ _ k5 U4, cu, cu, by omega, fun v6 H6 k6 t6 => ?_⟩⟩
      refine ⟨_, RV.mono _ _ _ _ k6 t5, t6, one_c1.big (by decide), cuu.big (by omega), hne, fun v7 H7 k7 t7 => ?_⟩
      have L7 := (k5.trans k6).trans k7
      refine ⟨_, rfl, _, _, n, _, _, rfl, n12, t7, TV.mono _ _ _ _ L7 U4, ci.big (by omega), Bu, fun v8 H8 k8 t8 => ?_⟩
      have L8 := L7.trans k8
      have X8 : TV C n (cOf n M P' a) v8 H8 := t8
      -- found
      refine ⟨_, rfl, _, rfl, _, rfl, fun v9 H9 k9 t9 => ?_⟩
      refine ⟨_, rfl, _, rfl, _, _, n, n, _, _, rfl, n12, n12, TV.mono _ _ _ _ k9 X8, TV.mono _ _ _ _ (L8.trans k9) I4, Bc, Bg, fun v10 H10 k10 t10 => ?_⟩
      refine ⟨_, _, n, n, _, _, rfl, n12, n12, RV.mono _ _ _ _ k10 t9, t10, mone_c1.big (by decide), cdm_big (Cdm.outer cc cg) (by omega), fun v11 H11 k11 t11 => ?_⟩
      have L11 := ((L8.trans k9).trans k10).trans k11
      have c1 := Cdm.scale mone_c1 (Cdm.outer cc cg)
      refine ⟨_, _, n, n, _, _, rfl, n12, n12, MV.mono _ _ _ _ L11 N4, t11, cdm_big cP (by omega), cdm_big c1 (by omega), fun v12 H12 k12 t12 => ?_⟩
      have L12 := L11.trans k12
      have q1 := Cdm.add cP c1
      -- found again
      refine ⟨_, rfl, _, rfl, _, rfl, fun v13 H13 k13 t13 => ?_⟩
      refine ⟨_, rfl, _, rfl, _, _, n, n, _, _, rfl, n12, n12, TV.mono _ _ _ _ (L12.trans k13) I4, TV.mono _ _ _ _ ((((k9.trans k10).trans k11).trans k12).trans k13) X8, Bg, Bc, fun v14 H14 k14 t14 => ?_⟩
      refine ⟨_, _, n, n, _, _, rfl, n12, n12, RV.mono _ _ _ _ k14 t13, t14, mone_c1.big (by decide), cdm_big (Cdm.outer cg cc) (by omega), fun v15 H15 k15 t15 => ?_⟩
      have c2 := Cdm.scale mone_c1 (Cdm.outer cg cc)
      have M15 := (k13.trans k14).trans k15
      refine ⟨_, _, n, n, _, _, rfl, n12, n12, MV.mono _ _ _ _ M15 t12, t15, cdm_big q1 (by omega), cdm_big c2 (by omega), fun v16 H16 k16 t16 => ?_⟩
      have q2 := Cdm.add q1 c2
      have L16 := (L12.trans M15).trans k16
      -- the last sum
      refine ⟨_, rfl, 1, rfl, fun v17 H17 k17 t17 => ⟨_, t17, _, rfl, _, t17, RV.mono _ _ _ _ (L16.trans k17) W4, one_c1.big (by decide), Bw, hw0, fun v18 H18 k18 t18 => ?_⟩⟩
      have N18 := k17.trans k18
      refine ⟨_, rfl, _, _, t18, RV.mono _ _ _ _ (L16.trans N18) t4, ciw.big (by decide), cs.big (by omega), fun v19 H19 k19 t19 => ?_⟩
      have N19 := N18.trans k19
      have X19 : TV C n (cOf n M P' a) v8 H19 := TV.mono _ _ _ _ (((((k9.trans k10).trans k11).trans k12).trans M15).trans (k16.trans N19)) X8
      refine ⟨_, rfl, _, rfl, _, _, n, n, _, _, rfl, n12, n12, X19, X19, Bc, Bc, fun v20 H20 k20 t20 => ?_⟩
      have cq := C1.add ciw cs
      refine ⟨_, _, n, n, _, _, rfl, n12, n12, RV.mono _ _ _ _ k20 t19, t20, cq.big (by omega), cdm_big (Cdm.outer cc cc) (by omega), fun v21 H21 k21 t21 => ?_⟩
      have N21 := (N19.trans k20).trans k21
      refine ⟨_, _, n, n, _, _, rfl, n12, n12, MV.mono _ _ _ _ N21 t16, t21, cdm_big q2 (by omega), cdm_big (Cdm.scale cq (Cdm.outer cc cc)) (by omega), fun v22 H22 k22 t22 => ?_⟩
      exact ret1 p hp hu v22 H22 ((K4.trans (L16.trans N21)).trans k22) t22
end
end PN

/-! Readings and nets. -/
namespace PN
open PySem L2 PyProof.Rows
abbrev sWidened : Stmt := PN.top 33
abbrev sNInit : Stmt := inClass (PN.top 34) 0
abbrev sNAddPoint : Stmt := inClass (PN.top 34) 1
abbrev sNRow : Stmt := inClass (PN.top 34) 2
abbrev sNTally : Stmt := inClass (PN.top 34) 4
abbrev sNPut : Stmt := inClass (PN.top 34) 5
abbrev sNAdd : Stmt := inClass (PN.top 34) 7
abbrev sNHeights : Stmt := inClass (PN.top 34) 12
abbrev sRdInit : Stmt := inClass (PN.top 15) 0
/-! ### fields by names -/
theorem look_zip : ∀ {ns : List Str} {vs : List V} {i : Nat} {x : Str} {v : V}, ns.Nodup → ns[i]? = some x → vs[i]? = some v → (ns.zip vs).lookup x = some v
  | [], _, i, x, v, _, h, _ => by simp at h
  | n :: ns, [], i, x, v, _, _, h => by simp at h
  | n :: ns, u :: vs, 0, x, v, _, h1, h2 => by
    simp at h1 h2
    subst h1; subst h2
    simp [List.lookup]
  | n :: ns, u :: vs, i + 1, x, v, nd, h1, h2 => by
    simp at h1 h2
    have hm : x ∈ ns := List.mem_of_getElem? h1
    have hne : x ≠ n := fun e => (List.nodup_cons.mp nd).1 (e ▸ hm)
    show List.lookup x ((n, u) :: ns.zip vs) = some v
    rw [List.lookup, beq_false_of_ne hne]
    exact look_zip (List.nodup_cons.mp nd).2 h1 h2
theorem look_none : ∀ {ns : List Str} {vs : List V} {x : Str}, x ∉ ns → (ns.zip vs).lookup x = none
  | [], _, x, _ => rfl
  | n :: ns, [], x, _ => rfl
  | n :: ns, u :: vs, x, h => by
    have hne : x ≠ n := fun e => h (e ▸ List.mem_cons_self)
    show List.lookup x ((n, u) :: ns.zip vs) = none
    rw [List.lookup, beq_false_of_ne hne]
    exact look_none fun z => h (List.mem_cons_of_mem _ z)
theorem put_zip : ∀ {ns : List Str} {vs : List V} {i : Nat} {x : Str} {v : V}, ns.Nodup → ns[i]? = some x → i < vs.length → putF x v (ns.zip vs) = ns.zip (vs.set i v)
  | [], _, i, x, v, _, h, _ => by simp at h
  | n :: ns, [], i, x, v, _, _, h => by simp at h
  | n :: ns, u :: vs, 0, x, v, _, h1, h2 => by
    simp at h1
    subst h1
    show (if n = n then (n, v) :: ns.zip vs else (n, u) :: putF n v (ns.zip vs)) = _
    rw [if_pos rfl]; rfl
  | n :: ns, u :: vs, i + 1, x, v, nd, h1, h2 => by
    simp at h1 h2
    have hm : x ∈ ns := List.mem_of_getElem? h1
    have hne : ¬ n = x := fun e => (List.nodup_cons.mp nd).1 (e ▸ hm)
    show (if n = x then (n, v) :: ns.zip vs else (n, u) :: putF x v (ns.zip vs)) = _
    rw [if_neg hne, put_zip (List.nodup_cons.mp nd).2 h1 h2]; rfl
theorem put_new : ∀ {ns : List Str} {vs : List V} {x : Str} {v : V}, x ∉ ns → ns.length = vs.length → putF x v (ns.zip vs) = (ns ++ [x]).zip (vs ++ [v])
  | [], [], x, v, _, _ => rfl
  | [], u :: vs, x, v, _, h => by simp at h
  | n :: ns, [], x, v, _, h => by simp at h
  | n :: ns, u :: vs, x, v, hx, h => by
    have hne : ¬ n = x := fun e => hx (e ▸ List.mem_cons_self)
    show (if n = x then (n, v) :: ns.zip vs else (n, u) :: putF x v (ns.zip vs)) = _
    rw [if_neg hne, put_new (fun z => hx (List.mem_cons_of_mem _ z)) (by simpa using h)]; rfl
abbrev nN : List Str := ["points", "approximations", "readings", "normal", "inverse", "right", "total"]
abbrev rN : List Str := ["name", "terms", "value", "weight"]
theorem nN_nd : nN.Nodup := by decide +kernel
theorem rN_nd : rN.Nodup := by decide +kernel
def netF (lp : Addr) (ap : V) (lr : Addr) (nm iv rt tt : V) : List (Str × V) := nN.zip [.ref lp, ap, .ref lr, nm, iv, rt, tt]
def rdF (nm tt vv vw : V) : List (Str × V) := rN.zip [nm, tt, vv, vw]
theorem im_net {C dx lp lr : Addr} {ap nm iv rt tt : V} : Im (.ins C dx (netF lp ap lr nm iv rt tt)) = false := by
  show (((netF lp ap lr nm iv rt tt).lookup ("bottom" : Str)).isSome || ((netF lp ap lr nm iv rt tt).lookup ("weight" : Str)).isSome) = false
  rw [netF, look_none (by decide +kernel), look_none (by decide +kernel)]; rfl
theorem im_rd {C dx : Addr} {nm tt vv vw : V} : Im (.ins C dx (rdF nm tt vv vw)) = true := by
  show (((rdF nm tt vv vw).lookup ("bottom" : Str)).isSome || ((rdF nm tt vv vw).lookup ("weight" : Str)).isSome) = true
  rw [show (rdF nm tt vv vw).lookup ("weight" : Str) = some vw from look_zip (i := 3) rN_nd rfl rfl]
  simp
theorem im_none {C dx : Addr} : Im (.ins C dx []) = false := rfl
/-! ### names -/
def pn (k : Nat) : Str := ("p" : Str) ++ (toString (k : Int) : Str)
def rn (k : Nat) : Str := ("r" : Str) ++ (toString (k : Int) : Str)
def pts (n : Nat) : List V := (List.range n).map fun j => V.str (pn j)
theorem pts_get {n j : Nat} (h : j < n) : (pts n)[j]? = some (.str (pn j)) := by
  unfold pts
  rw [List.getElem?_map, List.getElem?_range h]; rfl
theorem pts_len (n : Nat) : (pts n).length = n := by unfold pts; simp
theorem pts_flat (n : Nat) : (pts n).all flatV = true := by unfold pts; simp [flatV]
theorem pts_succ (n : Nat) : pts (n + 1) = pts n ++ [.str (pn n)] := by unfold pts; rw [List.range_succ, List.map_append]; rfl
theorem pn_ne : ∀ j, j < 6 → ∀ i, i < 6 → i ≠ j → (pn i == pn j) = false := by decide +kernel
theorem rn_ne : ∀ j, j < 9 → ∀ i, i < j → rn i ≠ rn j := by decide +kernel
theorem pts_notIn : ∀ n, n < 6 → inV (.str (pn n)) (pts n) = false := by decide +kernel
theorem pts_in : ∀ n, n < 6 → ∀ j, j < n → inV (.str (pn j)) (pts n) = true := by decide +kernel
/-! ### a reading's terms and its row -/
structure Tm where
  q : Nat
  j : Nat → Nat
  c : Nat → Int
def rowK (T : Tm) : Nat → Nat → Rat
  | 0 => fun _ => 0
  | t + 1 => fun i => if i = T.j t then (T.c t : Rat) else rowK T t i
def rowF (T : Tm) : Nat → Rat := rowK T T.q
structure TmOk (n : Nat) (T : Tm) : Prop where
  j : ∀ t, t < T.q → T.j t < n
  c : ∀ t, t < T.q → (T.c t).natAbs ≤ 9
  q : T.q ≤ 12
theorem rowK_fr {n : Nat} {T : Tm} (h : TmOk n T) : ∀ t, t ≤ T.q → ∀ i, Fr 1 9 (rowK T t i)
  | 0, _, i => ⟨0, by show (0 : Rat) * _ = _; grind, by decide⟩
  | t + 1, ht, i => by
    show Fr 1 9 (if i = T.j t then (T.c t : Rat) else rowK T t i)
    by_cases e : i = T.j t
    · rw [if_pos e]; exact (Fr.int _).up (h.c t (by omega))
    · rw [if_neg e]; exact rowK_fr h t (by omega) i
theorem rowF_fr {n : Nat} {T : Tm} (h : TmOk n T) : ∀ i, i < n → Fr 1 9 (rowF T i) := fun i _ => rowK_fr h T.q (Nat.le_refl _) i
theorem rowF_ok {n : Nat} {T : Tm} (h : TmOk n T) : RowOk n (rowF T) := fun i hi => (rowF_fr h i hi).up (by decide)
/-- a pair (name of a point, coefficient) -/
def PairR (j : Nat) (c : Int) : V → Hp → Prop := fun x H => ∃ a, x = .ref a ∧ H a = some (.tup [.str (pn j), .int c])
theorem PairR.mono {j : Nat} {c : Int} : Mono (PairR j c) := fun S H H' v k ⟨a, e, h⟩ => ⟨a, e, k.imm _ _ rfl h⟩
def TmR (T : Tm) : V → Hp → Prop := TupR (fun t => PairR (T.j t) (T.c t)) T.q
theorem TmR.mono {T : Tm} : Mono (TmR T) := TupR.mono fun _ => PairR.mono
/-- a Reading -/
def RdR (C CR : Addr) (T : Tm) (v w : Rat) (k : Nat) : V → Hp → Prop := fun x H => ∃ a dx tt vv vw, x = .ref a ∧ H a = some (.ins CR dx (rdF (.str (rn k)) tt vv vw)) ∧ TmR T tt H ∧ RV C v vv H ∧ RV C w vw H
theorem RdR.mono {C CR : Addr} {T : Tm} {v w : Rat} {k : Nat} : Mono (RdR C CR T v w k) := fun S H H' x kp ⟨a, dx, tt, vv, vw, e, h, h1, h2, h3⟩ =>
  ⟨a, dx, tt, vv, vw, e, kp.imm _ _ im_rd h, TmR.mono _ _ _ _ kp h1, RV.mono _ _ _ _ kp h2, RV.mono _ _ _ _ kp h3⟩
/-- what the top's text says of the classes Reading and Net -/
structure NTxt (K : PySem.W.Frag) (mg : Str → Option Value) (CR CN : Addr) : Prop where
  clR : Cls K CR
  clN : Cls K CN
  rd : ∀ x ∈ rN, NoAttr K CR x
  net : ∀ x ∈ nN, NoAttr K CN x
  mgR : mg "Reading" = some (.ref CR)
  mgN : mg "Net" = some (.ref CN)
/-- a method of a class -/
structure MtAt (P : Program) (w : World) (K : PySem.W.Frag) (mg : Str → Option Value) (base : Heap) (C : Addr) (m : Str) (k : Nat) (ps : List Str) (sp : Sp) : Prop where
  ex : ∃ f fd, Meth K C m f ∧ Binds K fd ps [] ∧ FnOk P w K mg base CX0 k f fd ps sp
theorem pe_mt {X : Cx} {C : Addr} {m : Str} {k : Nat} {ps : List Str} {sp : Sp} {pos apos : Pos} {o e : Expr} {es : List Expr} {ta : TE} {t : TA} {pl : Sem Bool} (G : MtAt X.prog X.w X.K X.mg X.base C m k ps sp) (c : Cls X.K C) (hr : Room k X.A) (he : PE X o ta) (ha : PA X (e :: es) t)
    (hst : starEach (e :: es) X.env = (false, eval e X.env) :: starEach es X.env := by rfl) (hpl : (backTo pos (starEach es X.env)).any (·.1) = false := by rfl) (ht : eval (.Call (.Attribute o m apos) (e :: es) [] pos) X.env =
      (do let ov ← eval o X.env; standAt apos.atName; let (f, fst) ← holding [ov] (getMethod ov m pl); callWith pos f fst (backTo pos (starEach (e :: es) X.env)) (backToKw pos (keywordEach [] X.env))) := by rfl) :
    PE X (.Call (.Attribute o m apos) (e :: es) [] pos) (tMeth C m sp [] E0 ta t) := by
  obtain ⟨f, fd, h1, h2, h3⟩ := G.ex
  exact pe_meth he c h1 h3 hr h2 .nil pass0 ha hst hpl ht
theorem pe_mt0 {X : Cx} {C : Addr} {m : Str} {k : Nat} {ps : List Str} {sp : Sp} {pos apos : Pos} {o : Expr} {ta : TE} {pl : Sem Bool} (G : MtAt X.prog X.w X.K X.mg X.base C m k ps sp) (c : Cls X.K C) (hr : Room k X.A) (he : PE X o ta)
    (ht : eval (.Call (.Attribute o m apos) [] [] pos) X.env = (do let ov ← eval o X.env; standAt apos.atName; let (f, fst) ← holding [ov] (getMethod ov m pl); callWith pos f fst (backTo pos (starEach [] X.env)) (backToKw pos (keywordEach [] X.env))) := by rfl) :
    PE X (.Call (.Attribute o m apos) [] [] pos) (tMeth C m sp [] E0 ta tNil) := by
  obtain ⟨f, fd, h1, h2, h3⟩ := G.ex
  exact pe_meth0 he c h1 h3 hr h2 .nil pass0 ht
/-! ### a net at an address -/
structure NetAt (C CN p dx lp lr : Addr) (n : Nat) (x0 : Nat → Rat) (M P : Nat → Nat → Rat) (r : Nat → Rat) (tt : Rat) (H : Hp) : Prop where
  ex : ∃ ap nm iv rt tv, H p = some (.ins CN dx (netF lp ap lr nm iv rt tv)) ∧ H lp = some (.lst (pts n)) ∧ TV C n x0 ap H ∧ MV C n n M nm H ∧ MV C n n P iv H ∧ TV C n r rt H ∧ RV C tt tv H
theorem NetAt.keep {C CN p dx lp lr : Addr} {n : Nat} {x0 : Nat → Rat} {M P : Nat → Nat → Rat} {r : Nat → Rat} {tt : Rat} {H H' : Hp} {S : List Addr} (h : NetAt C CN p dx lp lr n x0 M P r tt H) (k : Kp S H H') (hp : p ∉ S) (hl : lp ∉ S) : NetAt C CN p dx lp lr n x0 M P r tt H' := by
  obtain ⟨ap, nm, iv, rt, tv, h0, h1, h2, h3, h4, h5, h6⟩ := h.ex
  exact ⟨ap, nm, iv, rt, tv, k.out _ _ hp h0, k.out _ _ hl h1, TV.mono _ _ _ _ k h2, MV.mono _ _ _ _ k h3, MV.mono _ _ _ _ k h4, TV.mono _ _ _ _ k h5, RV.mono _ _ _ _ k h6⟩
theorem NetAt.kp {C CN p dx lp lr : Addr} {n : Nat} {x0 : Nat → Rat} {M P : Nat → Nat → Rat} {r : Nat → Rat} {tt : Rat} {H H' : Hp} (h : NetAt C CN p dx lp lr n x0 M P r tt H) (k : Kp [] H H') : NetAt C CN p dx lp lr n x0 M P r tt H' := h.keep k (by simp) (by simp)
def zM : Nat → Nat → Rat := fun _ _ => 0
def zV : Nat → Rat := fun _ => 0
/-- the bits that a pseudo-inverse behind m readings may have -/
def fP : Nat → Nat
  | 0 => 0
  | m + 1 => 5 * fP m + 200
structure Sz (n m : Nat) (x0 : Nat → Rat) (M P : Nat → Nat → Rat) (r : Nat → Rat) (tt : Rat) : Prop where
  n5 : n ≤ 5
  x : Cd n 95 x0
  M : ∀ i j, i < n → j < n → Fr 28 (m * 2 ^ 18) (M i j)
  P : Cdm n n (fP m) P
  r : Cd n (140 * m) r
  t : C1 (260 * m) tt
end PN

/-! Readings and nets: the small methods. -/
namespace PN
open PySem L2 PyProof.Rows
def spRdInit (C CR : Addr) : Sp := fun vs H Q _ => ∃ p dx T v w k tt vv vw, vs = [.ref p, .str (rn k), tt, vv, vw] ∧ H p = some (.ins CR dx []) ∧ TmR T tt H ∧ RV C v vv H ∧ RV C w vw H ∧ ∀ H', Kp [p] H H' → RdR C CR T v w k (.ref p) H' → Q .non H'
def spNInit (C CN : Addr) : Sp := fun vs H Q _ => ∃ p dx, vs = [.ref p] ∧ H p = some (.ins CN dx []) ∧ ∀ H' lp lr, Kp [p] H H' → H lp = none → H lr = none → lp ≠ p → lr ≠ p → lp ≠ lr → NetAt C CN p dx lp lr 0 zV zM zM zV 0 H' → H' lr = some (.lst []) → Q .non H'
def spWidened (C : Addr) : Sp := fun vs H Q _ => ∃ vm n, vs = [vm] ∧ n ≤ 5 ∧ MV C n n zM vm H ∧ Ret H Q (MV C (n + 1) (n + 1) zM)
def spAddPoint (C CN : Addr) : Sp := fun vs H Q _ => ∃ p dx lp lr n x0 va, vs = [.ref p, .str (pn n), va] ∧ n < 5 ∧ lp ≠ p ∧ NetAt C CN p dx lp lr n x0 zM zM zV 0 H ∧ RV C (x0 n) va H ∧
  ∀ H', Kp [p, lp] H H' → NetAt C CN p dx lp lr (n + 1) x0 zM zM zV 0 H' → Q .non H'
def spRow (C CR CN : Addr) : Sp := fun vs H Q _ => ∃ p dx fs lp n rd T v w k, vs = [.ref p, rd] ∧ H p = some (.ins CN dx fs) ∧ fs.lookup ("points" : Str) = some (.ref lp) ∧ H lp = some (.lst (pts n)) ∧ n ≤ 5 ∧ RdR C CR T v w k rd H ∧ TmOk n T ∧ Ret H Q (TV C n (rowF T))
def spHeights (C CN : Addr) : Sp := fun vs H Q _ => ∃ p dx lp lr n x0 M P' r tt m, vs = [.ref p] ∧ NetAt C CN p dx lp lr n x0 M P' r tt H ∧ m ≤ 7 ∧ Sz n m x0 M P' r tt ∧ Ret H Q (TV C n (hOf n x0 r P'))
section
variable {P : Program} {w : World} {K : PySem.W.Frag} {mg : Str → Option Value} {base : Heap} {f C CR CN : Addr} {fd : FuncData}
theorem scRdInit : FnScope ["self", "name", "terms", "value", "weight"] ["self", "name", "terms", "value", "weight"] (defScope sRdInit) := ⟨rfl, rfl, rfl, by decide +kernel, rfl, by decide +kernel, by decide +kernel⟩
theorem ok_rdInit (F : Fun K "__init__" "Reading.__init__" sRdInit f fd) (N : NTxt K mg CR CN) : FnOk P w K mg base CX0 1 f fd ["self", "name", "terms", "value", "weight"] (spRdInit C CR) := by
  refine F.ok scRdInit (fun vs H Q E h => ?_) (fun cdv A outer s H vs Q E hr h => ?_)
  · obtain ⟨p, dx, T, v, w', k, tt, vv, vw, rfl, _⟩ := h
    rfl
  · obtain ⟨p, dx, T, v, w', k, tt, vv, vw, rfl, hp, ht, hv, hw, ret⟩ := h
    refine ⟨_, pss_cons (ps_fld (pv 0) (pv 1) rfl) (pss_cons (ps_fld (pv 0) (pv 2) rfl) (pss_cons (ps_fld (pv 0) (pv 3) rfl) (pss_one (ps_fld (pv 0) (pv 4) rfl)))), ?_⟩
    refine ⟨_, rfl, _, rfl, p, CR, dx, _, rfl, hp, N.clR, N.rd _ (by decide +kernel), (by show 0 < 1000; decide), ?_⟩
    rw [show putF "name" (.str (rn k)) [] = (["name"] : List Str).zip [V.str (rn k)] from rfl]
    refine ⟨_, rfl, _, rfl, p, CR, dx, _, rfl, upd_same, N.clR, N.rd _ (by decide +kernel), (by show 1 < 1000; decide), ?_⟩
    rw [put_new (by decide +kernel) rfl]
    refine ⟨_, rfl, _, rfl, p, CR, dx, _, rfl, upd_same, N.clR, N.rd _ (by decide +kernel), (by show 2 < 1000; decide), ?_⟩
    rw [put_new (by decide +kernel) rfl]
    refine ⟨_, rfl, _, rfl, p, CR, dx, _, rfl, upd_same, N.clR, N.rd _ (by decide +kernel), (by show 3 < 1000; decide), ?_⟩
    rw [put_new (by decide +kernel) rfl, upd_upd, upd_upd, upd_upd]
    have kk : Kp [p] H (upd H p (.ins CR dx (rdF (.str (rn k)) tt vv vw))) := .set hp im_none (by simp)
    exact ret _ kk ⟨p, dx, tt, vv, vw, rfl, upd_same, TmR.mono _ _ _ _ kk ht, RV.mono _ _ _ _ kk hv, RV.mono _ _ _ _ kk hw⟩
theorem scNInit : FnScope ["self"] ["self"] (defScope sNInit) := ⟨rfl, rfl, rfl, by decide +kernel, rfl, by decide +kernel, by decide +kernel⟩
theorem ok_ninit (F : Fun K "__init__" "Net.__init__" sNInit f fd) (T : RKit P w K mg base C) (N : NTxt K mg CR CN) : FnOk P w K mg base CX0 36 f fd ["self"] (spNInit C CN) := by
  refine F.ok scNInit (fun vs H Q E h => ?_) (fun cdv A outer s H vs Q E hr h => ?_)
  · obtain ⟨p, dx, rfl, _⟩ := h
    rfl
  · obtain ⟨p, dx, rfl, hp, ret⟩ := h
    refine ⟨_, pss_cons (ps_fld (pv 0) (pe_lst pa_nil) rfl) (pss_cons (ps_fld (pv 0) (pe_tup pa_nil) rfl) (pss_cons (ps_fld (pv 0) (pe_lst pa_nil) rfl) (pss_cons (ps_fld (pv 0) (pe_tup pa_nil) rfl) (pss_cons (ps_fld (pv 0) (pe_tup pa_nil) rfl)
      (pss_cons (ps_fld (pv 0) (pe_tup pa_nil) rfl) (pss_one (ps_fld (pv 0) (pe_mk1 T hr pe_int) rfl))))))), ?_⟩
    refine ⟨Nat.zero_le _, fun lp h1 => ?_⟩
    have e1 : lp ≠ p := (ne_of_none hp h1).symm
    refine ⟨_, rfl, p, CN, dx, _, rfl, (by rw [upd_ne e1.symm]; exact hp), N.clN, N.net _ (by decide +kernel), (by show 0 < 1000; decide), ?_⟩
    rw [show putF "points" (.ref lp) [] = (["points"] : List Str).zip [V.ref lp] from rfl]
    refine ⟨Nat.zero_le _, fun a2 h2 => ?_⟩
    have e2 : a2 ≠ p := fun e => by rw [e, upd_same] at h2; cases h2
    refine ⟨_, rfl, p, CN, dx, _, rfl, (by rw [upd_ne e2.symm]; exact upd_same), N.clN, N.net _ (by decide +kernel), (by show 1 < 1000; decide), ?_⟩
    rw [put_new (by decide +kernel) rfl]
    refine ⟨Nat.zero_le _, fun lr h3 => ?_⟩
    have e3 : lr ≠ p := fun e => by rw [e, upd_same] at h3; cases h3
    refine ⟨_, rfl, p, CN, dx, _, rfl, (by rw [upd_ne e3.symm]; exact upd_same), N.clN, N.net _ (by decide +kernel), (by show 2 < 1000; decide), ?_⟩
    rw [put_new (by decide +kernel) rfl]
    refine ⟨Nat.zero_le _, fun a4 h4 => ?_⟩
    have e4 : a4 ≠ p := fun e => by rw [e, upd_same] at h4; cases h4
    refine ⟨_, rfl, p, CN, dx, _, rfl, (by rw [upd_ne e4.symm]; exact upd_same), N.clN, N.net _ (by decide +kernel), (by show 3 < 1000; decide), ?_⟩
    rw [put_new (by decide +kernel) rfl]
    refine ⟨Nat.zero_le _, fun a5 h5 => ?_⟩
    have e5 : a5 ≠ p := fun e => by rw [e, upd_same] at h5; cases h5
    refine ⟨_, rfl, p, CN, dx, _, rfl, (by rw [upd_ne e5.symm]; exact upd_same), N.clN, N.net _ (by decide +kernel), (by show 4 < 1000; decide), ?_⟩
    rw [put_new (by decide +kernel) rfl]
    refine ⟨Nat.zero_le _, fun a6 h6 => ?_⟩
    have e6 : a6 ≠ p := fun e => by rw [e, upd_same] at h6; cases h6
    refine ⟨_, rfl, p, CN, dx, _, rfl, (by rw [upd_ne e6.symm]; exact upd_same), N.clN, N.net _ (by decide +kernel), (by show 5 < 1000; decide), ?_⟩
    rw [put_new (by decide +kernel) rfl]
    refine ⟨0, rfl, fun v7 H7 k7 t7 => ?_⟩
    refine ⟨_, rfl, p, CN, dx, _, rfl, k7.all _ _ upd_same, N.clN, N.net _ (by decide +kernel), (by show 6 < 1000; decide), ?_⟩
    rw [put_new (by decide +kernel) rfl]
    -- what stands where
    have d2 : a2 ≠ lp := fun e => by rw [e, upd_ne e1, upd_same] at h2; cases h2
    have d3 : lr ≠ lp := fun e => by rw [e, upd_ne e1, upd_ne d2.symm, upd_ne e1, upd_same] at h3; cases h3
    have d32 : lr ≠ a2 := fun e => by rw [e, upd_ne e2, upd_same] at h3; cases h3
    have d4 : ∀ x, x ≠ p → (upd (upd (upd (upd (upd (upd H lp (.lst [])) p (.ins CN dx ((["points"] : List Str).zip [V.ref lp]))) a2 (.tup [])) p (.ins CN dx ((["points", "approximations"] : List Str).zip [V.ref lp, V.ref a2]))) lr (.lst []))
        p (.ins CN dx ((["points", "approximations", "readings"] : List Str).zip [V.ref lp, V.ref a2, V.ref lr]))) x ≠ none → x ≠ a4 := fun x _ hn e => hn (e ▸ h4)
    have hH6 : ∀ x, x ≠ p → x ≠ a4 → x ≠ a5 → x ≠ a6 → x ≠ lr → x ≠ a2 → x ≠ lp → ∀ o, H x = some o → H7 x = some o := fun x n1 n2 n3 n4 n5 n6 n7 o ho =>
      k7.all _ _ (by rw [upd_ne n1, upd_ne n4, upd_ne n1, upd_ne n3, upd_ne n1, upd_ne n2, upd_ne n1, upd_ne n5, upd_ne n1, upd_ne n6, upd_ne n1, upd_ne n7]; exact ho)
    have lplr : lp ≠ a4 := d4 lp e1 (by rw [upd_ne e1, upd_ne d3.symm, upd_ne e1, upd_ne d2.symm, upd_ne e1, upd_same]; simp)
    have lra4 : lr ≠ a4 := d4 lr e3 (by rw [upd_ne e3, upd_same]; simp)
    have a2a4 : a2 ≠ a4 := d4 a2 e2 (by rw [upd_ne e2, upd_ne d32.symm, upd_ne e2, upd_same]; simp)
    have lpa5 : lp ≠ a5 := fun e => by
      rw [← e, upd_ne e1, upd_ne lplr, upd_ne e1, upd_ne d3.symm, upd_ne e1, upd_ne d2.symm, upd_ne e1, upd_same] at h5; cases h5
    have lra5 : lr ≠ a5 := fun e => by rw [← e, upd_ne e3, upd_ne lra4, upd_ne e3, upd_same] at h5; cases h5
    have a2a5 : a2 ≠ a5 := fun e => by rw [← e, upd_ne e2, upd_ne a2a4, upd_ne e2, upd_ne d32.symm, upd_ne e2, upd_same] at h5; cases h5
    have a4a5 : a4 ≠ a5 := fun e => by rw [← e, upd_ne e4, upd_same] at h5; cases h5
    have lpa6 : lp ≠ a6 := fun e => by
      rw [← e, upd_ne e1, upd_ne lpa5, upd_ne e1, upd_ne lplr, upd_ne e1, upd_ne d3.symm, upd_ne e1, upd_ne d2.symm, upd_ne e1, upd_same] at h6; cases h6
    have lra6 : lr ≠ a6 := fun e => by rw [← e, upd_ne e3, upd_ne lra5, upd_ne e3, upd_ne lra4, upd_ne e3, upd_same] at h6; cases h6
    have a2a6 : a2 ≠ a6 := fun e => by rw [← e, upd_ne e2, upd_ne a2a5, upd_ne e2, upd_ne a2a4, upd_ne e2, upd_ne d32.symm, upd_ne e2, upd_same] at h6; cases h6
    have a4a6 : a4 ≠ a6 := fun e => by rw [← e, upd_ne e4, upd_ne a4a5, upd_ne e4, upd_same] at h6; cases h6
    have a5a6 : a5 ≠ a6 := fun e => by rw [← e, upd_ne e5, upd_same] at h6; cases h6
    have glp : H7 lp = some (.lst []) := k7.all _ _ (by rw [upd_ne e1, upd_ne lpa6, upd_ne e1, upd_ne lpa5, upd_ne e1, upd_ne lplr, upd_ne e1, upd_ne d3.symm, upd_ne e1, upd_ne d2.symm, upd_ne e1, upd_same])
    have glr : H7 lr = some (.lst []) := k7.all _ _ (by rw [upd_ne e3, upd_ne lra6, upd_ne e3, upd_ne lra5, upd_ne e3, upd_ne lra4, upd_ne e3, upd_same])
    have g2 : H7 a2 = some (.tup []) := k7.all _ _ (by rw [upd_ne e2, upd_ne a2a6, upd_ne e2, upd_ne a2a5, upd_ne e2, upd_ne a2a4, upd_ne e2, upd_ne d32.symm, upd_ne e2, upd_same])
    have g4 : H7 a4 = some (.tup []) := k7.all _ _ (by rw [upd_ne e4, upd_ne a4a6, upd_ne e4, upd_ne a4a5, upd_ne e4, upd_same])
    have g5 : H7 a5 = some (.tup []) := k7.all _ _ (by rw [upd_ne e5, upd_ne a5a6, upd_ne e5, upd_same])
    have g6 : H7 a6 = some (.tup []) := k7.all _ _ (by rw [upd_ne e6, upd_same])
    have n2 : H a2 = none := by rw [upd_ne e2, upd_ne d2] at h2; exact h2
    have n3 : H lr = none := by rw [upd_ne e3, upd_ne d32, upd_ne e3, upd_ne d3] at h3; exact h3
    have n4 : H a4 = none := by rw [upd_ne e4, upd_ne lra4.symm, upd_ne e4, upd_ne a2a4.symm, upd_ne e4, upd_ne lplr.symm] at h4; exact h4
    have n5 : H a5 = none := by rw [upd_ne e5, upd_ne a4a5.symm, upd_ne e5, upd_ne lra5.symm, upd_ne e5, upd_ne a2a5.symm, upd_ne e5, upd_ne lpa5.symm] at h5; exact h5
    have n6 : H a6 = none := by rw [upd_ne e6, upd_ne a5a6.symm, upd_ne e6, upd_ne a4a6.symm, upd_ne e6, upd_ne lra6.symm, upd_ne e6, upd_ne a2a6.symm, upd_ne e6, upd_ne lpa6.symm] at h6; exact h6
    have kk : Kp [p] H H7 := by
      refine ⟨fun x o hx ho => ?_, fun x o hi ho => ?_⟩
      · have np : x ≠ p := fun e => hx (by simp [e])
        exact hH6 x np (ne_of_none ho n4) (ne_of_none ho n5) (ne_of_none ho n6) (ne_of_none ho n3) (ne_of_none ho n2) (ne_of_none ho h1) o ho
      · have np : x ≠ p := fun e => by rw [e, hp] at ho; cases ho; cases hi
        exact hH6 x np (ne_of_none ho n4) (ne_of_none ho n5) (ne_of_none ho n6) (ne_of_none ho n3) (ne_of_none ho n2) (ne_of_none ho h1) o ho
    have pp : ∃ fs, H7 p = some (.ins CN dx fs) ∧ Im (.ins CN dx fs) = false := ⟨_, k7.all _ _ upd_same, by rfl⟩
    obtain ⟨fs, hp7, im7⟩ := pp
    have k8 : ∀ o, Kp [p] H7 (upd H7 p o) := fun o => .set hp7 im7 (by simp)
    have emp : ∀ {x : Addr} {H : Hp} {R : Nat → V → Hp → Prop}, H x = some (.tup []) → TupR R 0 (.ref x) H := fun h => ⟨_, [], rfl, h, rfl, fun i y hy => by simp at hy⟩
    refine ret _ lp lr (kk.trans (k8 _)) h1 n3 e1 e3 d3.symm ⟨.ref a2, .ref a4, .ref a5, .ref a6, v7, upd_same, (by rw [upd_ne e1]; exact glp), emp (by rw [upd_ne e2]; exact g2), emp (by rw [upd_ne e4]; exact g4), emp (by rw [upd_ne e5]; exact g5), emp (by rw [upd_ne e6]; exact g6),
      RV.mono _ _ _ _ (k8 _) t7⟩ (by rw [upd_ne e3]; exact glr)
end
end PN

/-! Nets: widened, add_point, row, heights. -/
namespace PN
open PySem L2 PyProof.Rows
/-- a tuple and one item more: t + (v,) -/
theorem cat_one {K : PySem.W.Frag} {R : Nat → V → Hp → Prop} {n : Nat} {H : Hp} {a b : Addr} {xs : List V} {y : V} {Q : VK} (hR : ∀ i, Mono (R i)) (ha : H a = some (.tup xs)) (hl : xs.length = n) (hi : ∀ i x, xs[i]? = some x → R i x H)
    (hb : H b = some (.tup [y])) (hy : R n y H) (hn : n ≤ 12) (ret : Ret H Q (TupR R (n + 1))) : rCatA K (.ref a) (.ref b) H Q := by
  refine ⟨a, b, xs, [y], rfl, rfl, SqT.of ha, SqT.of hb, ?_, fun e => ?_, fun _ e => (by cases e), fun _ _ p hp => ?_⟩
  · rw [hl]; have := sz12 hn; exact this
  · subst e
    have n0 : n = 0 := by simpa using hl.symm
    subst n0
    refine ret _ H (Kp.refl _ _) ⟨b, [y], rfl, hb, rfl, fun i x hx => ?_⟩
    match i, hx with
    | 0, hx => simp at hx; rw [← hx]; exact hy
  · have kk : Kp [] H (upd H p (.tup (xs ++ [y]))) := .new hp
    refine ret _ _ kk ⟨p, _, rfl, upd_same, by rw [List.length_append, hl]; rfl, fun i x hx => hR i _ _ _ _ kk ?_⟩
    by_cases q : i < xs.length
    · rw [List.getElem?_append_left q] at hx; exact hi i x hx
    · have hb' := (List.getElem?_eq_some_iff.mp hx).1
      rw [List.length_append] at hb'
      have e : i = xs.length := by simp at hb'; omega
      subst e
      rw [List.getElem?_append_right (Nat.le_refl _)] at hx
      simp at hx
      rw [← hx, hl]; exact hy
section
variable {P : Program} {w : World} {K : PySem.W.Frag} {mg : Str → Option Value} {base : Heap} {f C CR CN : Addr} {fd : FuncData}
theorem scWidened : FnScope ["matrix", "rows", "row", "_"] ["matrix"] (defScope sWidened) := ⟨rfl, rfl, rfl, by decide +kernel, rfl, by decide +kernel, by decide +kernel⟩
theorem ok_widened (F : Fun K "widened" "widened" sWidened f fd) (T : RKit P w K mg base C) (B : BTxt mg) : FnOk P w K mg base CX0 37 f fd ["matrix"] (spWidened C) := by
  refine F.ok scWidened (fun vs H Q E h => ?_) (fun cdv A outer s H vs Q E hr h => ?_)
  · obtain ⟨vm, n, rfl, _⟩ := h
    rfl
  · obtain ⟨vm, n, rfl, hn, ⟨a, xs, rfl, ha, hla, hia⟩, ret⟩ := h
    have h35 : Room 35 _ := hr.mono (by decide : 35 ≤ 36)
    refine ⟨_, pss_cons (ps_setLc (i := 1) (own := [("row", 2)]) (g := gName 2) (tt := tYes) rfl scWidened.nd rfl rfl (sw_true rfl rfl rfl (by decide +kernel)) (pi_tup (pv 0)) (blkOk_by (N := ["matrix", "rows", "row", "_"]) (sc := defScope sWidened) (by decide +kernel))
        (fun _ _ _ _ _ => pg_name (i := 2) scWidened.nd rfl (Or.inl rfl)) (fun _ _ _ _ _ => pts_nil) (fun _ _ _ _ _ => pe_op (r := rCatA K) op_catA (pv 2) (pe_tup (pa_cons (pe_mk1 T h35 pe_int) pa_nil))))
      (pss_cons (ps_expr (pe_bm PySem.F.plainAttrs_list PySem.F.slot_list_append PySem.F.type_list_append mt_append (pv 1) (pa_cons (pe_callTy (r := rTup K) call_tupK (by rfl) B.tuple boot_tuple' (pa_cons
        (pe_lc (own := [("_", 3)]) (g := gName 3) (tt := tYes) rfl scWidened.nd (pi_range1 rfl B.range (pa_cons (pe_op op_add (pe_callB call_len_seq (by rfl) B.len PySem.boot_len (pa_cons (pv 0) pa_nil)) pe_int) pa_nil))
          (blkOk_by (N := ["matrix", "rows", "row", "_"]) (sc := defScope sWidened) (by decide +kernel)) (fun _ _ _ _ _ => pg_name (i := 3) scWidened.nd rfl (Or.inl rfl)) (fun _ _ _ _ _ => pts_nil) (fun _ _ _ _ _ => pe_mk1 T h35 pe_int)) pa_nil)) pa_nil)))
      (pss_one (ps_ret (pe_callTy call_tuple_of (by rfl) B.tuple boot_tuple' (pa_cons (pv 1) pa_nil))))), ?_⟩
    refine ⟨_, rfl, a, rfl, ⟨_, SqT.of ha⟩, fun D hD => lcR_tup (R := fun _ => TV C (n + 1) zV) (fun _ => TV.mono) hD ha (by rw [hla]; exact sz12 (by omega)) (fun i x H1 Q1 hx k1 q1 => ?_) (gName_mono 2) (fun H1 k1 l1 => ?_)⟩
    · obtain ⟨b, ys, rfl, hb, hlb, hib⟩ := TV.mono _ _ _ _ k1 (hia i x hx)
      refine ⟨rfl, _, rfl, 0, rfl, fun v2 H2 k2 t2 => ⟨(by show 1 ≤ sizeLine; decide), fun t ht => ?_⟩⟩
      have kt : Kp [] H2 (upd H2 t (.tup [v2])) := .new ht
      exact cat_one (R := fun i => RV C (zV i)) (fun _ => RV.mono) ((k2.trans kt).all _ _ hb) hlb (fun i x hx => RV.mono _ _ _ _ (k2.trans kt) (hib i x hx)) upd_same (RV.mono _ _ _ _ kt t2) (by omega)
        (fun v3 H3 k3 t3 => q1 v3 H3 ((k2.trans kt).trans k3) t3)
    · rw [hla] at l1
      obtain ⟨ys, hD1, hly, hiy⟩ := l1
      refine ⟨_, rfl, .inl ⟨rfl, _, SqL.of hD1⟩, _, rfl, a, xs, rfl, .inr (SqT.of (k1.all _ _ ha)), _, _, rfl, rfl, ((n + 1 : Nat) : Int), (by rw [hla]; rfl), by omega, by omega, fun D2 hD2 => ?_⟩
      have eN : ((n + 1 : Nat) : Int).toNat = n + 1 := by omega
      rw [eN]
      refine lcR_range (R := fun i => RV C (zV i)) (fun _ => RV.mono) hD2 (sz12 (by omega)) (fun i H2 Q2 hi k2 q2 => ⟨rfl, 0, rfl, q2⟩) (gName_mono 3) (fun H2 k2 l2 => ?_)
      dsimp only [tNil]
      refine tup_doneK (fun _ => RV.mono) k2 l2 (fun v3 H3 k3 t3 => ?_)
      have hD3 : H3 D = some (.lst ys) := k3.all _ _ hD1
      have hz : ys.length < sizeLine := by rw [hly]; exact sz12 (by omega)
      refine ⟨D, ys, v3, rfl, rfl, hD3, hz, ?_⟩
      have l4 := LstR.snoc (R := fun _ => TV C (n + 1) zV) (fun _ => TV.mono) hD3 hly (fun i x hx => TV.mono _ _ _ _ k3 (hiy i x hx)) t3
      obtain ⟨zs, hz1, hz2, hz3⟩ := l4
      refine ⟨_, rfl, D, zs, rfl, .inl ⟨SqL.of hz1, fun l hf => ?_⟩⟩
      have K4 : Kp [] H (upd H3 D (.lst (ys ++ [v3]))) := (k1.trans k3).fresh hD
      exact ret _ _ (K4.new' hf) (LstR.tup (fun _ => TV.mono) hz2 hz3 hf)
theorem scAddPoint : FnScope ["self", "name", "approximation"] ["self", "name", "approximation"] (defScope sNAddPoint) := ⟨rfl, rfl, rfl, by decide +kernel, rfl, by decide +kernel, by decide +kernel⟩
theorem net_look {i : Nat} {x : Str} {v : V} {lp lr : Addr} {ap nm iv rt tt : V} (h1 : nN[i]? = some x := by rfl) (h2 : ([.ref lp, ap, .ref lr, nm, iv, rt, tt] : List V)[i]? = some v := by rfl) : (netF lp ap lr nm iv rt tt).lookup x = some v := look_zip nN_nd h1 h2
theorem rd_look {i : Nat} {x : Str} {v : V} {nm tt vv vw : V} (h1 : rN[i]? = some x := by rfl) (h2 : ([nm, tt, vv, vw] : List V)[i]? = some v := by rfl) : (rdF nm tt vv vw).lookup x = some v := look_zip rN_nd h1 h2
theorem ok_addPoint (F : Fun K "add_point" "Net.add_point" sNAddPoint f fd) (T : RKit P w K mg base C) (B : BTxt mg) (N : NTxt K mg CR CN) (mP : mg "MOST_POINTS" = some (.int 12 tk)) (G : FnAt P w K mg base "widened" 37 ["matrix"] (spWidened C)) :
    FnOk P w K mg base CX0 38 f fd ["self", "name", "approximation"] (spAddPoint C CN) := by
  refine F.ok scAddPoint (fun vs H Q E h => ?_) (fun cdv A outer s H vs Q E hr h => ?_)
  · obtain ⟨p, dx, lp, lr, n, x0, va, rfl, _⟩ := h
    rfl
  · obtain ⟨p, dx, lp, lr, n, x0, va, rfl, hn, hpl, ⟨⟨ap, nm, iv, rt, tv, h0, h1, h2, h3, h4, h5, h6⟩⟩, hv, ret⟩ := h
    have h35 : Room 35 _ := hr.mono (by decide : 35 ≤ 37)
    have nA : ∀ x ∈ nN, NoAttr K CN x := N.net
    refine ⟨_, pss_cons (ps_if (pt_cmpR op_in_seq (pv 1) (pe_fld (pv 0) rfl) (by rfl)) (pss_one ps_never) pss_nil)
      (pss_cons (ps_if (pt_cmpR op_eq (pe_callB call_len_seq (by rfl) B.len PySem.boot_len (pa_cons (pe_fld (pv 0) rfl) pa_nil)) (pe_glob (v := .int 12) (by rfl) mP ⟨_, rfl⟩) (nomark _)) (pss_one ps_never) pss_nil)
      (pss_cons (ps_expr (pe_bm PySem.F.plainAttrs_list PySem.F.slot_list_append PySem.F.type_list_append mt_append (pe_fld (pv 0) rfl) (pa_cons (pv 1) pa_nil)))
      (pss_cons (ps_fld (pv 0) (pe_op op_catA (pe_fld (pv 0) rfl) (pe_tup (pa_cons (pv 2) pa_nil))) rfl)
      (pss_cons (ps_fld (pv 0) (pe_fn G hr (pa_cons (pe_fld (pv 0) rfl) pa_nil)) rfl)
      (pss_cons (ps_fld (pv 0) (pe_fn G hr (pa_cons (pe_fld (pv 0) rfl) pa_nil)) rfl)
      (pss_one (ps_fld (pv 0) (pe_op op_catA (pe_fld (pv 0) rfl) (pe_tup (pa_cons (pe_mk1 T h35 pe_int) pa_nil))) rfl))))))), ?_⟩
    -- if name in self.points
    refine ⟨_, rfl, _, rfl, p, CN, dx, _, _, rfl, h0, N.clN, nA _ (by decide +kernel), net_look (i := 0), lp, _, rfl, .inl (SqL.of h1), rfl, pts_flat n, _, rfl, ?_⟩
    rw [show (if (false : Bool) = true then !inV (.str (pn n)) (pts n) else inV (.str (pn n)) (pts n)) = false by rw [pts_notIn n (by omega)]; rfl]
    refine iteF ?_
    -- if len(self.points) == MOST_POINTS
    refine ⟨_, rfl, p, CN, dx, _, _, rfl, h0, N.clN, nA _ (by decide +kernel), net_look (i := 0), lp, _, rfl, .inl (SqL.of h1), rfl, _, rfl, ?_⟩
    rw [pts_len, show decide (V.int ((n : Nat) : Int) = V.int 12) = false from decide_eq_false fun q => by have := V.int.inj q; omega]
    refine iteF ?_
    -- self.points.append(name)
    refine ⟨_, rfl, p, CN, dx, _, _, rfl, h0, N.clN, nA _ (by decide +kernel), net_look (i := 0) (v := .ref lp), .inl ⟨rfl, _, SqL.of h1⟩, _, rfl, lp, _, _, rfl, rfl, h1, (by rw [pts_len]; exact sz12 (by omega)), ?_⟩
    rw [← pts_succ]
    have k1 : Kp [p, lp] H (upd H lp (.lst (pts (n + 1)))) := .set h1 rfl (by simp)
    generalize hH1 : upd H lp (.lst (pts (n + 1))) = H1 at k1 ⊢
    have q0 : H1 p = some (.ins CN dx (netF lp ap lr nm iv rt tv)) := by rw [← hH1, upd_ne hpl.symm]; exact h0
    have q1 : H1 lp = some (.lst (pts (n + 1))) := by rw [← hH1, upd_same]
    -- self.approximations
    refine ⟨_, rfl, p, CN, dx, _, _, rfl, q0, N.clN, nA _ (by decide +kernel), net_look (i := 1), _, rfl, (by show 1 ≤ sizeLine; decide), fun t ht => ?_⟩
    have kt : Kp [] H1 (upd H1 t (.tup [va])) := .new ht
    obtain ⟨aa, xs, rfl, haa, hla, hia⟩ := TV.mono _ _ _ _ (k1.trans kt.any) h2
    refine cat_one (R := fun i => RV C (x0 i)) (fun _ => RV.mono) haa hla hia upd_same (RV.mono _ _ _ _ (k1.trans kt.any) hv) (by omega) (fun v2 H2 k2 t2 => ?_)
    have c2 := kt.trans k2
    refine ⟨_, rfl, p, CN, dx, _, rfl, c2.all _ _ q0, N.clN, nA _ (by decide +kernel), (by show 7 < 1000; decide), ?_⟩
    rw [netF, put_zip (i := 1) nN_nd rfl (by simp)]
    generalize hH3 : upd H2 p _ = H3
    have k3 : Kp [p, lp] H2 H3 := by rw [← hH3]; exact .set (c2.all _ _ q0) im_net (by simp)
    have K3 : Kp [p, lp] H H3 := (k1.trans c2.any).trans k3
    have r0 : H3 p = some (.ins CN dx (netF lp v2 lr nm iv rt tv)) := by rw [← hH3, upd_same]; rfl
    have r1 : H3 lp = some (.lst (pts (n + 1))) := by rw [← hH3, upd_ne hpl]; exact c2.all _ _ q1
    -- self.normal
    refine ⟨_, rfl, p, CN, dx, _, _, rfl, r0, N.clN, nA _ (by decide +kernel), net_look (i := 3), _, n, rfl, by omega, MV.mono _ _ _ _ K3 h3, fun v4 H4 k4 t4 => ?_⟩
    refine ⟨_, rfl, p, CN, dx, _, rfl, k4.all _ _ r0, N.clN, nA _ (by decide +kernel), (by show 7 < 1000; decide), ?_⟩
    rw [netF, put_zip (i := 3) nN_nd rfl (by simp)]
    generalize hH5 : upd H4 p _ = H5
    have k5 : Kp [p, lp] H4 H5 := by rw [← hH5]; exact .set (k4.all _ _ r0) im_net (by simp)
    have K5 : Kp [p, lp] H H5 := (K3.trans k4.any).trans k5
    have s0 : H5 p = some (.ins CN dx (netF lp v2 lr v4 iv rt tv)) := by rw [← hH5, upd_same]; rfl
    have s1 : H5 lp = some (.lst (pts (n + 1))) := by rw [← hH5, upd_ne hpl]; exact k4.all _ _ r1
    -- self.inverse
    refine ⟨_, rfl, p, CN, dx, _, _, rfl, s0, N.clN, nA _ (by decide +kernel), net_look (i := 4), _, n, rfl, by omega, MV.mono _ _ _ _ K5 h4, fun v6 H6 k6 t6 => ?_⟩
    refine ⟨_, rfl, p, CN, dx, _, rfl, k6.all _ _ s0, N.clN, nA _ (by decide +kernel), (by show 7 < 1000; decide), ?_⟩
    rw [netF, put_zip (i := 4) nN_nd rfl (by simp)]
    generalize hH7 : upd H6 p _ = H7
    have k7 : Kp [p, lp] H6 H7 := by rw [← hH7]; exact .set (k6.all _ _ s0) im_net (by simp)
    have K7 : Kp [p, lp] H H7 := (K5.trans k6.any).trans k7
    have u0 : H7 p = some (.ins CN dx (netF lp v2 lr v4 v6 rt tv)) := by rw [← hH7, upd_same]; rfl
    have u1 : H7 lp = some (.lst (pts (n + 1))) := by rw [← hH7, upd_ne hpl]; exact k6.all _ _ s1
    -- self.right
    refine ⟨_, rfl, p, CN, dx, _, _, rfl, u0, N.clN, nA _ (by decide +kernel), net_look (i := 5), 0, rfl, fun v8 H8 k8 t8 => ⟨(by show 1 ≤ sizeLine; decide), fun t' ht' => ?_⟩⟩
    have kt' : Kp [] H8 (upd H8 t' (.tup [v8])) := .new ht'
    obtain ⟨ab, ys, rfl, hab, hlb, hib⟩ := TV.mono _ _ _ _ (K7.trans (k8.trans kt').any) h5
    refine cat_one (R := fun i => RV C (zV i)) (fun _ => RV.mono) hab hlb hib upd_same (RV.mono _ _ _ _ kt' t8) (by omega) (fun v9 H9 k9 t9 => ?_)
    have c9 := (k8.trans kt').trans k9
    refine ⟨_, rfl, p, CN, dx, _, rfl, c9.all _ _ u0, N.clN, nA _ (by decide +kernel), (by show 7 < 1000; decide), ?_⟩
    rw [netF, put_zip (i := 5) nN_nd rfl (by simp)]
    generalize hH10 : upd H9 p _ = H10
    have k10 : Kp [p, lp] H9 H10 := by rw [← hH10]; exact .set (c9.all _ _ u0) im_net (by simp)
    have K10 : Kp [p, lp] H H10 := (K7.trans c9.any).trans k10
    have w0 : H10 p = some (.ins CN dx (netF lp v2 lr v4 v6 v9 tv)) := by rw [← hH10, upd_same]; rfl
    have w1 : H10 lp = some (.lst (pts (n + 1))) := by rw [← hH10, upd_ne hpl]; exact c9.all _ _ u1
    have z7 : Kp [p, lp] H7 H10 := c9.any.trans k10
    have z5 : Kp [p, lp] H5 H10 := (k6.any.trans k7).trans z7
    have z3 : Kp [p, lp] H3 H10 := (k4.any.trans k5).trans z5
    exact ret _ K10 ⟨v2, v4, v6, v9, tv, w0, w1, TV.mono _ _ _ _ (k3.trans z3) t2, MV.mono _ _ _ _ (k5.trans z5) t4, MV.mono _ _ _ _ (k7.trans z7) t6, TV.mono _ _ _ _ k10 t9, RV.mono _ _ _ _ K10 h6⟩
end
end PN

/-! Nets: row, heights. -/
namespace PN
open PySem L2 PyProof.Rows
theorem zero_cast : (((0 : Int) : Rat)) = 0 := rfl
/-- a list's item is replaced -/
theorem LstR.put {R' : Nat → V → Hp → Prop} {n j : Nat} {D : Addr} {H : Hp} {xs : List V} {y : V} (hR : ∀ i, Mono (R' i)) (hD : H D = some (.lst xs)) (hl : xs.length = n) (hi : ∀ i x, xs[i]? = some x → i ≠ j → R' i x H) (hy : R' j y H) :
    LstR R' n D (upd H D (.lst (xs.set j y))) := by
  have k : Kp [D] H (upd H D (.lst (xs.set j y))) := .set hD rfl (by simp)
  refine ⟨xs.set j y, upd_same, by rw [List.length_set, hl], fun i x hx => hR i _ _ _ _ k ?_⟩
  by_cases e : i = j
  · subst e
    have hb := (List.getElem?_eq_some_iff.mp hx).1
    rw [List.length_set] at hb
    rw [List.getElem?_set_self hb] at hx
    cases hx
    exact hy
  · rw [List.getElem?_set_ne (Ne.symm e)] at hx
    exact hi i x hx e
theorem ixN_nat {n j : Nat} (h : j < n) : ixN n (j : Int) = some j := by
  unfold ixN
  rw [if_pos (by omega), if_pos (by omega), Int.toNat_natCast]
section
variable {P : Program} {w : World} {K : PySem.W.Frag} {mg : Str → Option Value} {base : Heap} {f C CR CN : Addr} {fd : FuncData}
theorem pts_before {n j : Nat} (hn : n ≤ 5) (hj : j < n) : ∀ (m : Nat) (z' : V), m < j → (pts n)[m]? = some z' → eqV z' (.str (pn j)) = false := fun m z' hm h => by
  rw [pts_get (by omega)] at h
  cases h
  show (pn m == pn j) = false
  exact pn_ne j (by omega) m (by omega) (by omega)
/-- points.index(name) -/
theorem pts_index {H : Hp} {lp : Addr} {n j : Nat} {Q : VK} (hn : n ≤ 5) (hj : j < n) (h : H lp = some (.lst (pts n))) (q : Q (.int (j : Nat)) H) : rIndex K (.ref lp) [.str (pn j)] H Q :=
  ⟨lp, pts n, .str (pn j), j, .str (pn j), rfl, rfl, SqL.of h, rfl, pts_flat n, pts_get hj, (by show (pn j == pn j) = true; exact beq_self_eq_true _), pts_before hn hj, q⟩
theorem scRow : FnScope ["self", "reading", "found", "name", "coefficient", "_"] ["self", "reading"] (defScope sNRow) := ⟨rfl, rfl, rfl, by decide +kernel, rfl, by decide +kernel, by decide +kernel⟩
theorem ok_row (F : Fun K "row" "Net.row" sNRow f fd) (T : RKit P w K mg base C) (B : BTxt mg) (N : NTxt K mg CR CN) : FnOk P w K mg base CX0 37 f fd ["self", "reading"] (spRow C CR CN) := by
  refine F.ok scRow (fun vs H Q E h => ?_) (fun cdv A outer s H vs Q E hr h => ?_)
  · obtain ⟨p, dx, fs, lp, n, rd, Tm, v, w', k, rfl, _⟩ := h
    rfl
  · obtain ⟨p, dx, fs, lp, n, rd, Tm, v, w', k, rfl, hp, hf, hlp, hn, ⟨ar, dr, tt, vv, vw, rfl, hrd, ⟨at', ts, rfl, hat, hlt, hit⟩, _, _⟩, hT, ret⟩ := h
    have h35 : Room 35 _ := hr.mono (by decide : 35 ≤ 36)
    refine ⟨_, pss_cons (ps_setLc (i := 2) (own := [("_", 5)]) (g := gName 5) (tt := tYes) rfl scRow.nd rfl rfl (sw_true rfl rfl rfl (by decide +kernel)) (pi_list (pe_fld (pv 0) rfl)) (blkOk_by (N := ["self", "reading", "found", "name", "coefficient", "_"]) (sc := defScope sNRow) (by decide +kernel))
        (fun _ _ _ _ _ => pg_name (i := 5) scRow.nd rfl (Or.inl rfl)) (fun _ _ _ _ _ => pts_nil) (fun _ _ _ _ _ => pe_mk1 T h35 pe_int))
      (pss_cons (ps_for PassesOwn.never rfl (pi_tup (pe_fld (pv 1) rfl)) (pg_tup rfl (pgs_cons (pg_name (i := 3) scRow.nd rfl (Or.inl rfl)) (pgs_cons (pg_name (i := 4) scRow.nd rfl (Or.inl rfl)) pgs_nil)))
        (pss_one (ps_asg (pe_mk1 T h35 (pv 4)) (pg_sub (pv 2) (pe_bm PySem.F.plainAttrs_list PySem.F.slot_list_index PySem.F.type_list_index mt_index (pe_fld (pv 0) rfl) (pa_cons (pv 3) pa_nil)) set_list))))
      (pss_one (ps_ret (pe_callTy call_tuple_of (by rfl) B.tuple boot_tuple' (pa_cons (pv 2) pa_nil))))), ?_⟩
    refine ⟨_, rfl, p, CN, dx, _, _, rfl, hp, N.clN, N.net _ (by decide +kernel), hf, lp, rfl, ⟨_, SqL.of hlp⟩, fun D hD => ?_⟩
    refine lcR_list (R := fun _ => RV C 0) (fun _ => RV.mono) hD hlp (by rw [pts_len]; exact sz12 (by omega)) (fun i x H1 Q1 hx k1 q1 => ⟨rfl, 0, rfl, q1⟩) (gName_mono 5) (fun H1 k1 l1 => ?_)
    rw [pts_len] at l1
    refine ⟨_, rfl, ar, CR, dr, _, _, rfl, k1.all _ _ hrd, N.clR, N.rd _ (by decide +kernel), rd_look (i := 1), at', rfl, ⟨_, SqT.of (k1.all _ _ hat)⟩, ?_⟩
    refine for_tup (K := K) (a := at') (xs := ts) (fun t σ H' => (∃ x y z, σ = [some (.ref p), some (.ref ar), some (.ref D), x, y, z]) ∧ Kp [] H H' ∧ LstR (fun i => RV C (rowK Tm t i)) n D H') ⟨⟨none, none, none, rfl⟩, k1, l1⟩
      (fun t σ H' _ ⟨_, k2, _⟩ => SqT.of (k2.all _ _ hat)) ?_ ?_
    · rintro t x σ H' hx ⟨⟨x0, y0, z0, rfl⟩, k2, l2⟩
      have ht : t < Tm.q := by have := (List.getElem?_eq_some_iff.mp hx).1; omega
      obtain ⟨ap, rfl, hap⟩ := hit t x hx
      refine ⟨ap, [.str (pn (Tm.j t)), .int (Tm.c t)], rfl, SqT.of (k2.all _ _ hap), rfl, _, _, rfl, _, _, rfl, rfl, ?_⟩
      refine ⟨_, rfl, Tm.c t, rfl, fun v3 H3 k3 r3 => ?_⟩
      have k4 := k2.trans k3
      refine ⟨_, rfl, _, rfl, p, CN, dx, _, _, rfl, k4.all _ _ hp, N.clN, N.net _ (by decide +kernel), hf, .inl ⟨rfl, _, SqL.of (k4.all _ _ hlp)⟩, _, rfl, ?_⟩
      dsimp only [tNil]
      refine pts_index hn (hT.j t ht) (k4.all _ _ hlp) ?_
      obtain ⟨zs, hz1, hz2, hz3⟩ := l2
      refine ⟨D, zs, _, Tm.j t, rfl, rfl, k3.all _ _ hz1, ixN_nat (by rw [hz2]; exact hT.j t ht), ?_⟩
      refine ⟨⟨_, _, _, rfl⟩, k4.fresh hD, LstR.put (fun _ => RV.mono) (k3.all _ _ hz1) hz2 (fun i y hy hne => ?_) ?_⟩
      · show RV C (if i = Tm.j t then (Tm.c t : Rat) else rowK Tm t i) y H3
        rw [if_neg hne]
        exact RV.mono _ _ _ _ k3 (hz3 i y hy)
      · show RV C (if Tm.j t = Tm.j t then (Tm.c t : Rat) else rowK Tm t (Tm.j t)) v3 H3
        rw [if_pos rfl]
        exact r3
    · rintro σ H' ⟨⟨x0, y0, z0, rfl⟩, k2, l2⟩
      rw [hlt] at l2
      obtain ⟨zs, hz1, hz2, hz3⟩ := l2
      exact ⟨_, rfl, D, zs, rfl, .inl ⟨SqL.of hz1, fun l hf => ret _ _ (k2.new' hf) (LstR.tup (fun _ => RV.mono) hz2 hz3 hf)⟩⟩
theorem scHeights : FnScope ["self"] ["self"] (defScope sNHeights) := ⟨rfl, rfl, rfl, by decide +kernel, rfl, by decide +kernel, by decide +kernel⟩
theorem fP_le : ∀ m, m ≤ 7 → fP m ≤ 3906200 := by decide +kernel
theorem fP_le6 : ∀ m, m ≤ 6 → fP m ≤ 781200 := by decide +kernel
theorem ok_heights (F : Fun K "heights" "Net.heights" sNHeights f fd) (N : NTxt K mg CR CN) (GP : FnAt P w K mg base "plus" 37 ["a", "b"] (spZip C (· + ·))) (GA : FnAt P w K mg base "apply" 38 ["matrix", "vector"] (spApply C)) :
    FnOk P w K mg base CX0 39 f fd ["self"] (spHeights C CN) := by
  refine F.ok scHeights (fun vs H Q E h => ?_) (fun cdv A outer s H vs Q E hr h => ?_)
  · obtain ⟨p, dx, lp, lr, n, x0, M, P', r, tt, m, rfl, _⟩ := h
    rfl
  · obtain ⟨p, dx, lp, lr, n, x0, M, P', r, tt, m, rfl, ⟨⟨ap, nm, iv, rt, tv, h0, h1, h2, h3, h4, h5, h6⟩⟩, hm, S, ret⟩ := h
    refine ⟨_, pss_one (ps_ret (pe_fn GP (hr.mono (by decide)) (pa_cons (pe_fld (pv 0) rfl) (pa_cons (pe_fn GA hr (pa_cons (pe_fld (pv 0) rfl) (pa_cons (pe_fld (pv 0) rfl) pa_nil))) pa_nil)))), ?_⟩
    have n5 := S.n5
    have hf := fP_le m hm
    refine ⟨_, rfl, p, CN, dx, _, _, rfl, h0, N.clN, N.net _ (by decide +kernel), net_look (i := 1), _, rfl, p, CN, dx, _, _, rfl, h0, N.clN, N.net _ (by decide +kernel), net_look (i := 4), _, rfl, p, CN, dx, _, _, rfl, h0, N.clN, N.net _ (by decide +kernel), net_look (i := 5), ?_⟩
    refine ⟨_, _, n, n, P', r, fP m, 140 * m, rfl, by omega, h4, h5, S.P, S.r, by omega, fun v1 H1 k1 t1 => ?_⟩
    exact ⟨_, _, n, x0, mulV n P' r, rfl, by omega, TV.mono _ _ _ _ k1 h2, t1, fun i hi => S.x.big (by omega) hi, fun i hi => (S.P.mulV S.r).big (by omega) hi, fun v2 H2 k2 t2 => ret v2 H2 (k1.trans k2) t2⟩
end
end PN

/-! Nets: a reading is added. -/
namespace PN
open PySem L2 PyProof.Rows
/-- the sizes without the pseudo-inverse's -/
structure SzT (n m : Nat) (x0 : Nat → Rat) (M : Nat → Nat → Rat) (r : Nat → Rat) (tt : Rat) : Prop where
  n5 : n ≤ 5
  x : Cd n 95 x0
  M : ∀ i j, i < n → j < n → Fr 28 (m * 2 ^ 18) (M i j)
  r : Cd n (140 * m) r
  t : C1 (260 * m) tt
theorem Sz.toT {n m : Nat} {x0 : Nat → Rat} {M P : Nat → Nat → Rat} {r : Nat → Rat} {tt : Rat} (S : Sz n m x0 M P r tt) : SzT n m x0 M r tt := ⟨S.n5, S.x, S.M, S.r, S.t⟩
def spTally (C CR CN : Addr) : Sp := fun vs H Q _ => ∃ p dx lp lr n m x0 M P' r tt T v w k rd vw, vs = [.ref p, rd, vw] ∧ lp ≠ p ∧ NetAt C CN p dx lp lr n x0 M P' r tt H ∧ RdR C CR T v w k rd H ∧ RV C w vw H ∧ TmOk n T ∧ WOk w ∧ C1 19 v ∧ SzT n m x0 M r tt ∧ m ≤ 6 ∧
  ∀ H', Kp [p] H H' → NetAt C CN p dx lp lr n x0 (M1 M (rowF T) w) P' (r1 n x0 r (rowF T) v w) (tt + w * (v - dot n (rowF T) x0) * (v - dot n (rowF T) x0)) H' → Q .non H'
def spPut (C CR CN : Addr) : Sp := fun vs H Q _ => ∃ p dx lp lr n m x0 A V W M P' r tt T rd, vs = [.ref p, rd] ∧ lp ≠ p ∧ NetAt C CN p dx lp lr n x0 M P' r tt H ∧ RdR C CR T (V m) (W m) m rd H ∧ TmOk n T ∧ A m = rowF T ∧ WOk (W m) ∧ C1 19 (V m) ∧ Adj n m x0 A V W M P' r ∧ Sz n m x0 M P' r tt ∧ m ≤ 6 ∧
  ∀ H' M' P2 r' tt', Kp [p] H H' → NetAt C CN p dx lp lr n x0 M' P2 r' tt' H' → Adj n (m + 1) x0 A V W M' P2 r' → Sz n (m + 1) x0 M' P2 r' tt' → Q .non H'
def spAddRd (C CR CN : Addr) : Sp := fun vs H Q _ => ∃ p dx lp lr n m x0 A V W M P' r tt T rd rvs, vs = [.ref p, rd] ∧ lp ≠ p ∧ lr ≠ p ∧ lp ≠ lr ∧ NetAt C CN p dx lp lr n x0 M P' r tt H ∧ RdR C CR T (V m) (W m) m rd H ∧ TmOk n T ∧ A m = rowF T ∧ WOk (W m) ∧ C1 19 (V m) ∧ Adj n m x0 A V W M P' r ∧ Sz n m x0 M P' r tt ∧ m ≤ 6 ∧
  H lr = some (.lst rvs) ∧ rvs.length = m ∧ (∀ t x, rvs[t]? = some x → ∃ T v w, RdR C CR T v w t x H) ∧
  ∀ H' M' P2 r' tt', Kp [p, lr] H H' → NetAt C CN p dx lp lr n x0 M' P2 r' tt' H' → H' lr = some (.lst (rvs ++ [rd])) → Adj n (m + 1) x0 A V W M' P2 r' → Sz n (m + 1) x0 M' P2 r' tt' → Q .non H'
theorem fr_cdm {n m : Nat} {M : Nat → Nat → Rat} (hm : m ≤ 8) (h : ∀ i j, i < n → j < n → Fr 28 (m * 2 ^ 18) (M i j)) : Cdm n n 21 M :=
  ⟨28, by decide, by decide, fun i j hi hj => (h i j hi hj).up (Nat.le_trans (Nat.mul_le_mul_right _ hm) (by decide))⟩
theorem sh_c1 {n : Nat} {x0 : Nat → Rat} {T : Tm} {v : Rat} (hx : Cd n 95 x0) (hT : TmOk n T) (hv : C1 19 v) : C1 (19 + (4 + 95 + n) + 1) (v - dot n (rowF T) x0) := hv.sub ((rowF_ok hT).cd.dot hx)
section
variable {P : Program} {w : World} {K : PySem.W.Frag} {mg : Str → Option Value} {base : Heap} {f C CR CN : Addr} {fd : FuncData}
theorem scTally : FnScope ["self", "reading", "weight", "row", "shift"] ["self", "reading", "weight"] (defScope sNTally) := ⟨rfl, rfl, rfl, by decide +kernel, rfl, by decide +kernel, by decide +kernel⟩
theorem ok_tally (F : Fun K "tally" "Net.tally" sNTally f fd) (T : RKit P w K mg base C) (N : NTxt K mg CR CN) (GR : MtAt P w K mg base CN "row" 37 ["self", "reading"] (spRow C CR CN)) (GD : FnAt P w K mg base "dot" 37 ["a", "b"] (spDot C))
    (GT : FnAt P w K mg base "add_term" 39 ["matrix", "row", "weight"] (spAddTerm C)) (GP : FnAt P w K mg base "plus" 37 ["a", "b"] (spZip C (· + ·))) (GC : FnAt P w K mg base "scale" 37 ["factor", "a"] (spScale C)) :
    FnOk P w K mg base CX0 40 f fd ["self", "reading", "weight"] (spTally C CR CN) := by
  refine F.ok scTally (fun vs H Q E h => ?_) (fun cdv A outer s H vs Q E hr h => ?_)
  · obtain ⟨p, dx, lp, lr, n, m, x0, M, P', r, tt, Tm, v, w', k, rd, vw, rfl, _⟩ := h
    rfl
  · obtain ⟨p, dx, lp, lr, n, m, x0, M, P', r, tt, Tm, v, w', k, rd, vw, rfl, hpl, ⟨⟨ap, nm, iv, rt, tv, h0, h1, h2, h3, h4, h5, h6⟩⟩, hrd, hw, hT, ww, cv, S, hm, ret⟩ := h
    have h37 : Room 37 _ := hr.mono (by decide : 37 ≤ 39)
    have h36 : Room 36 _ := hr.mono (by decide : 36 ≤ 39)
    have nA : ∀ x ∈ nN, NoAttr K CN x := N.net
    refine ⟨_, pss_cons (ps_set (i := 3) scTally.nd rfl (Or.inl rfl) (pe_mt GR N.clN h37 (pv 0) (pa_cons (pv 1) pa_nil)))
      (pss_cons (ps_set (i := 4) scTally.nd rfl (Or.inl rfl) (pe_op (op_subR T h36) (pe_fld (pv 1) rfl) (pe_fn GD h37 (pa_cons (pv 3) (pa_cons (pe_fld (pv 0) rfl) pa_nil)))))
      (pss_cons (ps_fld (pv 0) (pe_fn GT hr (pa_cons (pe_fld (pv 0) rfl) (pa_cons (pv 3) (pa_cons (pv 2) pa_nil)))) rfl)
      (pss_cons (ps_fld (pv 0) (pe_fn GP h37 (pa_cons (pe_fld (pv 0) rfl) (pa_cons (pe_fn GC h37 (pa_cons (pe_op (op_mulR T h36) (pv 2) (pv 4)) (pa_cons (pv 3) pa_nil))) pa_nil))) rfl)
      (pss_one (ps_fld (pv 0) (pe_op (op_addR T h36) (pe_fld (pv 0) rfl) (pe_op (op_mulR T h36) (pe_op (op_mulR T h36) (pv 2) (pv 4)) (pv 4))) rfl))))), ?_⟩
    have n5 := S.n5
    have n12 : n ≤ 12 := by omega
    have rok := rowF_ok hT
    have csh := sh_c1 S.x hT cv
    have cws := C1.mul ww.c1 csh
    obtain ⟨ar, dr, vt, vv, vw2, rfl, hrd0, hrt, hrv, hrw⟩ := id hrd
    -- row
    refine ⟨_, rfl, p, dx, _, rfl, h0, look_none (by decide +kernel), _, rfl, ?_⟩
    refine ⟨p, dx, _, lp, n, .ref ar, Tm, v, w', k, rfl, h0, net_look (i := 0), h1, n5, hrd, hT, fun v1 H1 k1 t1 => ?_⟩
    -- shift
    refine ⟨_, rfl, ar, CR, dr, _, _, rfl, k1.all _ _ hrd0, N.clR, N.rd _ (by decide +kernel), rd_look (i := 2), _, rfl, _, rfl, p, CN, dx, _, _, rfl, k1.all _ _ h0, N.clN, nA _ (by decide +kernel), net_look (i := 1), ?_⟩
    refine ⟨_, _, n, rowF Tm, x0, 4, 95, rfl, t1, TV.mono _ _ _ _ k1 h2, rok.cd, S.x, by omega, fun v2 H2 k2 t2 => ?_⟩
    refine ⟨v, _, RV.mono _ _ _ _ (k1.trans k2) hrv, t2, cv.big (by decide), (rok.cd.dot S.x).big (by omega), fun v3 H3 k3 t3 => ?_⟩
    have K3 := (k1.trans k2).trans k3
    have R3 : TV C n (rowF Tm) v1 H3 := TV.mono _ _ _ _ (k2.trans k3) t1
    -- self.normal
    refine ⟨_, rfl, p, CN, dx, _, _, rfl, K3.all _ _ h0, N.clN, nA _ (by decide +kernel), net_look (i := 3), _, rfl, _, rfl, ?_⟩
    refine ⟨_, _, _, n, M, rowF Tm, w', 21, rfl, n5, MV.mono _ _ _ _ K3 h3, R3, RV.mono _ _ _ _ K3 hw, fr_cdm (by omega) S.M, by decide, rok, ww, fun v4 H4 k4 t4 => ?_⟩
    have K4 := K3.trans k4
    refine ⟨_, rfl, p, CN, dx, _, rfl, K4.all _ _ h0, N.clN, nA _ (by decide +kernel), (by show 7 < 1000; decide), ?_⟩
    rw [netF, put_zip (i := 3) nN_nd rfl (by simp)]
    generalize hH5 : upd H4 p _ = H5
    have k5 : Kp [p] H4 H5 := by rw [← hH5]; exact .set (K4.all _ _ h0) im_net (by simp)
    have K5 : Kp [p] H H5 := K4.any.trans k5
    have q0 : H5 p = some (.ins CN dx (netF lp ap lr v4 iv rt tv)) := by rw [← hH5, upd_same]; rfl
    -- self.right
    refine ⟨_, rfl, p, CN, dx, _, _, rfl, q0, N.clN, nA _ (by decide +kernel), net_look (i := 5), _, rfl, _, rfl, ?_⟩
    refine ⟨w', _, RV.mono _ _ _ _ K5 hw, RV.mono _ _ _ _ (k4.any.trans k5) t3, ww.c1.big (by decide), csh.big (by omega), fun v6 H6 k6 t6 => ?_⟩
    refine ⟨_, rfl, _, _, n, _, rowF Tm, rfl, n12, t6, TV.mono _ _ _ _ ((k4.any.trans k5).trans k6.any) R3, cws.big (by omega), fun i hi => rok.cd.big (by decide) hi, fun v7 H7 k7 t7 => ?_⟩
    have k57 := k6.trans k7
    refine ⟨_, _, n, r, _, rfl, n12, TV.mono _ _ _ _ (K5.trans k57.any) h5, t7, fun i hi => S.r.big (by omega) hi, fun i hi => (Cd.scale cws rok.cd).big (by omega) hi, fun v8 H8 k8 t8 => ?_⟩
    have k58 := k57.trans k8
    refine ⟨_, rfl, p, CN, dx, _, rfl, k58.all _ _ q0, N.clN, nA _ (by decide +kernel), (by show 7 < 1000; decide), ?_⟩
    rw [netF, put_zip (i := 5) nN_nd rfl (by simp)]
    generalize hH9 : upd H8 p _ = H9
    have k9 : Kp [p] H8 H9 := by rw [← hH9]; exact .set (k58.all _ _ q0) im_net (by simp)
    have k59 : Kp [p] H5 H9 := k58.any.trans k9
    have K9 : Kp [p] H H9 := K5.trans k59
    have s0 : H9 p = some (.ins CN dx (netF lp ap lr v4 iv v8 tv)) := by rw [← hH9, upd_same]; rfl
    -- self.total
    refine ⟨_, rfl, p, CN, dx, _, _, rfl, s0, N.clN, nA _ (by decide +kernel), net_look (i := 6), _, rfl, _, rfl, ?_⟩
    have t39 : RV C (v - dot n (rowF Tm) x0) v3 H9 := RV.mono _ _ _ _ (k4.any.trans (k5.trans k59)) t3
    refine ⟨w', _, RV.mono _ _ _ _ K9 hw, t39, ww.c1.big (by decide), csh.big (by omega), fun v10 H10 k10 t10 => ?_⟩
    refine ⟨_, rfl, _, _, t10, RV.mono _ _ _ _ k10 t39, cws.big (by omega), csh.big (by omega), fun v11 H11 k11 t11 => ?_⟩
    have k911 := k10.trans k11
    refine ⟨tt, _, RV.mono _ _ _ _ (K9.trans k911.any) h6, t11, S.t.big (by omega), (C1.mul cws csh).big (by omega), fun v12 H12 k12 t12 => ?_⟩
    have k912 := k911.trans k12
    refine ⟨_, rfl, p, CN, dx, _, rfl, k912.all _ _ s0, N.clN, nA _ (by decide +kernel), (by show 7 < 1000; decide), ?_⟩
    rw [netF, put_zip (i := 6) nN_nd rfl (by simp)]
    generalize hH13 : upd H12 p _ = H13
    have k13 : Kp [p] H12 H13 := by rw [← hH13]; exact .set (k912.all _ _ s0) im_net (by simp)
    have k913 : Kp [p] H9 H13 := k912.any.trans k13
    have K13 : Kp [p] H H13 := K9.trans k913
    have u0 : H13 p = some (.ins CN dx (netF lp ap lr v4 iv v8 v12)) := by rw [← hH13, upd_same]; rfl
    refine ret H13 K13 ⟨ap, v4, iv, v8, v12, u0, K13.out _ _ (by simpa using hpl) h1, TV.mono _ _ _ _ K13 h2, MV.mono _ _ _ _ (k5.trans (k59.trans k913)) t4, MV.mono _ _ _ _ K13 h4, TV.mono _ _ _ _ (k9.trans k913) t8, RV.mono _ _ _ _ k13 t12⟩
end
end PN

/-! Nets: put, add. -/
namespace PN
open PySem L2 PyProof.Rows
theorem sz_step {n m : Nat} {x0 : Nat → Rat} {M P P2 : Nat → Nat → Rat} {r : Nat → Rat} {tt v w : Rat} {T : Tm} (S : Sz n m x0 M P r tt) (hT : TmOk n T) (hw : WOk w) (hv : C1 19 v) (hP : Cdm n n (5 * fP m + 200) P2) :
    Sz n (m + 1) x0 (M1 M (rowF T) w) P2 (r1 n x0 r (rowF T) v w) (tt + w * (v - dot n (rowF T) x0) * (v - dot n (rowF T) x0)) := by
  have n5 := S.n5
  have csh := sh_c1 S.x hT hv
  have cws := C1.mul hw.c1 csh
  refine ⟨n5, S.x, M1_fr S.M (rowF_fr hT) hw, hP, ?_, ?_⟩
  · exact (Cd.add S.r (Cd.scale cws (rowF_ok hT).cd)).up (by omega)
  · exact (C1.add S.t (C1.mul cws csh)).up (by omega)
/-- both ways of with_added at once -/
theorem both {C : Addr} {n : Nat} {M P : Nat → Nat → Rat} {a : Nat → Rat} {w : Rat} {H : Hp} {Q : VK} {G : (Nat → Nat → Rat) → Prop} (hd : (∀ i, i < n → uOf n M P a i = 0) → 1 + w * sOf n P a ≠ 0) (key : ∀ P2, G P2 → Ret H Q (MV C n n P2))
    (g1 : (∀ i, i < n → uOf n M P a i = 0) → G (P1 n P a w)) (g2 : ∀ p, p < n → uOf n M P a p ≠ 0 → G (P2 n M P a w)) :
    ((∀ i, i < n → uOf n M P a i = 0) → 1 + w * sOf n P a ≠ 0 ∧ Ret H Q (MV C n n (P1 n P a w))) ∧ (∀ p, p < n → uOf n M P a p ≠ 0 → Ret H Q (MV C n n (P2 n M P a w))) :=
  ⟨fun hz => ⟨hd hz, key _ (g1 hz)⟩, fun p hp hu => key _ (g2 p hp hu)⟩
section
variable {P : Program} {w : World} {K : PySem.W.Frag} {mg : Str → Option Value} {base : Heap} {f C CR CN : Addr} {fd : FuncData}
theorem scPut : FnScope ["self", "reading"] ["self", "reading"] (defScope sNPut) := ⟨rfl, rfl, rfl, by decide +kernel, rfl, by decide +kernel, by decide +kernel⟩
theorem ok_put (F : Fun K "put" "Net.put" sNPut f fd) (N : NTxt K mg CR CN) (GR : MtAt P w K mg base CN "row" 37 ["self", "reading"] (spRow C CR CN)) (GW : FnAt P w K mg base "with_added" 39 ["matrix", "inverse", "row", "weight"] (spWith C))
    (GT : MtAt P w K mg base CN "tally" 40 ["self", "reading", "weight"] (spTally C CR CN)) : FnOk P w K mg base CX0 41 f fd ["self", "reading"] (spPut C CR CN) := by
  refine F.ok scPut (fun vs H Q E h => ?_) (fun cdv A outer s H vs Q E hr h => ?_)
  · obtain ⟨p, dx, lp, lr, n, m, x0, A', V', W', M, P', r, tt, Tm, rd, rfl, _⟩ := h
    rfl
  · obtain ⟨p, dx, lp, lr, n, m, x0, A', V', W', M, P', r, tt, Tm, rd, rfl, hpl, hnet, hrd, hT, hA, ww, cv, adj, S, hm, ret⟩ := h
    obtain ⟨ap, nm, iv, rt, tv, h0, h1, h2, h3, h4, h5, h6⟩ := hnet.ex
    have h37 : Room 37 _ := hr.mono (by decide : 37 ≤ 40)
    have h39 : Room 39 _ := hr.mono (by decide : 39 ≤ 40)
    have nA : ∀ x ∈ nN, NoAttr K CN x := N.net
    have n5 := S.n5
    have hf := fP_le6 m hm
    obtain ⟨ar, dr, vt, vv, vw, rfl, hrd0, hrt, hrv, hrw⟩ := id hrd
    refine ⟨_, pss_cons (ps_fld (pv 0) (pe_fn GW h39 (pa_cons (pe_fld (pv 0) rfl) (pa_cons (pe_fld (pv 0) rfl) (pa_cons (pe_mt GR N.clN h37 (pv 0) (pa_cons (pv 1) pa_nil)) (pa_cons (pe_fld (pv 1) rfl) pa_nil))))) rfl)
      (pss_one (ps_expr (pe_mt GT N.clN hr (pv 0) (pa_cons (pv 1) (pa_cons (pe_fld (pv 1) rfl) pa_nil))))), ?_⟩
    refine ⟨_, rfl, p, CN, dx, _, _, rfl, h0, N.clN, nA _ (by decide +kernel), net_look (i := 3), _, rfl, p, CN, dx, _, _, rfl, h0, N.clN, nA _ (by decide +kernel), net_look (i := 4), _, rfl, p, dx, _, rfl, h0, look_none (by decide +kernel), _, rfl, ?_⟩
    refine ⟨p, dx, _, lp, n, .ref ar, Tm, V' m, W' m, m, rfl, h0, net_look (i := 0), h1, n5, hrd, hT, fun v1 H1 k1 t1 => ?_⟩
    refine ⟨_, rfl, ar, CR, dr, _, _, rfl, k1.all _ _ hrd0, N.clR, N.rd _ (by decide +kernel), rd_look (i := 3), ?_⟩
    have hM21 : ∀ i j, i < n → j < n → Fr 28 (2 ^ 21) (M i j) := fun i j hi hj => (S.M i j hi hj).up (Nat.le_trans (Nat.mul_le_mul_right _ (show m ≤ 8 by omega)) (by decide))
    have hd : (∀ i, i < n → uOf n M P' (rowF Tm) i = 0) → 1 + W' m * sOf n P' (rowF Tm) ≠ 0 := fun hz => by
      have hs := adj.share_nonneg hz
      have := Rat.mul_nonneg (show (0 : Rat) ≤ W' m by have := ww.pos; grind) hs
      grind
    refine ⟨_, _, _, _, n, M, P', rowF Tm, W' m, fP m, rfl, n5, MV.mono _ _ _ _ k1 h3, MV.mono _ _ _ _ k1 h4, t1, RV.mono _ _ _ _ k1 hrw, fr_cdm (by omega) S.M, S.P, rowF_ok hT, ww, by omega, ?_⟩
    refine both (G := fun P2 => Cdm n n (5 * fP m + 200) P2 ∧ Adj n (m + 1) x0 A' V' W' (M1 M (rowF Tm) (W' m)) P2 (r1 n x0 r (rowF Tm) (V' m) (W' m))) hd (fun P2 ⟨cP, a2⟩ v2 H2 k2 t2 => ?_)
      (fun hz => ⟨P1_cd n5 S.P (rowF_ok hT) ww (hd hz), by rw [← hA] at hz ⊢; exact adj.step1 ww.pos hz⟩) (fun q hq hu => ⟨P2_cd n5 S.P hM21 (rowF_ok hT) ww hq hu, by rw [← hA] at hu ⊢; exact adj.step2 ww.pos hq hu⟩)
    have K2 := k1.trans k2
    refine ⟨_, rfl, p, CN, dx, _, rfl, K2.all _ _ h0, N.clN, nA _ (by decide +kernel), (by show 7 < 1000; decide), ?_⟩
    rw [netF, put_zip (i := 4) nN_nd rfl (by simp)]
    generalize hH3 : upd H2 p _ = H3
    have k3 : Kp [p] H2 H3 := by rw [← hH3]; exact .set (K2.all _ _ h0) im_net (by simp)
    have q0 : H3 p = some (.ins CN dx (netF lp ap lr nm v2 rt tv)) := by rw [← hH3, upd_same]; rfl
    have K3 : Kp [p] H H3 := K2.any.trans k3
    refine ⟨_, rfl, p, dx, _, rfl, q0, look_none (by decide +kernel), _, rfl, _, rfl, ar, CR, dr, _, _, rfl, K3.imm _ _ im_rd hrd0, N.clR, N.rd _ (by decide +kernel), rd_look (i := 3), ?_⟩
    refine ⟨p, dx, lp, lr, n, m, x0, M, P2, r, tt, Tm, V' m, W' m, m, .ref ar, vw, rfl, hpl, ?_, RdR.mono _ _ _ _ K3 hrd, RV.mono _ _ _ _ K3 hrw, hT, ww, cv, S.toT, hm, fun H' k' n' => ?_⟩
    · exact ⟨ap, nm, v2, rt, tv, q0, K3.out _ _ (by simpa using hpl) h1, TV.mono _ _ _ _ K3 h2, MV.mono _ _ _ _ K3 h3, MV.mono _ _ _ _ k3 t2, TV.mono _ _ _ _ K3 h5, RV.mono _ _ _ _ K3 h6⟩
    · exact ret H' _ _ _ _ (K3.trans k') n' a2 (sz_step S hT ww cv cP)
theorem scNAdd : FnScope ["self", "reading", "other", "name", "_"] ["self", "reading"] (defScope sNAdd) := ⟨rfl, rfl, rfl, by decide +kernel, rfl, by decide +kernel, by decide +kernel⟩
theorem ok_nadd (F : Fun K "add" "Net.add" sNAdd f fd) (B : BTxt mg) (N : NTxt K mg CR CN) (mR : mg "MOST_READINGS" = some (.int 24 tk)) (GU : MtAt P w K mg base CN "put" 41 ["self", "reading"] (spPut C CR CN)) :
    FnOk P w K mg base CX0 42 f fd ["self", "reading"] (spAddRd C CR CN) := by
  refine F.ok scNAdd (fun vs H Q E h => ?_) (fun cdv A outer s H vs Q E hr h => ?_)
  · obtain ⟨p, dx, lp, lr, n, m, x0, A', V', W', M, P', r, tt, Tm, rd, rvs, rfl, _⟩ := h
    rfl
  · obtain ⟨p, dx, lp, lr, n, m, x0, A', V', W', M, P', r, tt, Tm, rd, rvs, rfl, hpl, hrl, hll, hnet, hrd, hT, hA, ww, cv, adj, S, hm, hlr, hlen, hall, ret⟩ := h
    obtain ⟨ap, nm, iv, rt, tv, h0, h1, h2, h3, h4, h5, h6⟩ := hnet.ex
    have nA : ∀ x ∈ nN, NoAttr K CN x := N.net
    have n5 := S.n5
    obtain ⟨ar, dr, vt, vv, vw, rfl, hrd0, ⟨at', ts, rfl, hat, hlt, hit⟩, hrv, hrw⟩ := id hrd
    refine ⟨_, pss_cons (ps_for PassesOwn.never rfl (pi_list (pe_fld (pv 0) rfl)) (pg_name (i := 2) scNAdd.nd rfl (Or.inl rfl)) (pss_one (ps_if (pt_cmpR op_eq (pe_fld (pv 2) rfl) (pe_fld (pv 1) rfl) (nomark _)) (pss_one ps_never) pss_nil)))
      (pss_cons (ps_for PassesOwn.never rfl (pi_tup (pe_fld (pv 1) rfl)) (pg_tup rfl (pgs_cons (pg_name (i := 3) scNAdd.nd rfl (Or.inl rfl)) (pgs_cons (pg_name (i := 4) scNAdd.nd rfl (Or.inl rfl)) pgs_nil)))
        (pss_one (ps_if (pt_cmpR op_notIn_seq (pv 3) (pe_fld (pv 0) rfl) (by rfl)) (pss_one ps_never) pss_nil)))
      (pss_cons (ps_if (pt_cmpR op_eq (pe_callB call_len_seq (by rfl) B.len PySem.boot_len (pa_cons (pe_fld (pv 0) rfl) pa_nil)) (pe_glob (v := .int 24) (by rfl) mR ⟨_, rfl⟩) (nomark _)) (pss_one ps_never) pss_nil)
      (pss_cons (ps_expr (pe_mt GU N.clN hr (pv 0) (pa_cons (pv 1) pa_nil)))
      (pss_one (ps_expr (pe_bm PySem.F.plainAttrs_list PySem.F.slot_list_append PySem.F.type_list_append mt_append (pe_fld (pv 0) rfl) (pa_cons (pv 1) pa_nil))))))), ?_⟩
    refine ⟨_, rfl, p, CN, dx, _, _, rfl, h0, N.clN, nA _ (by decide +kernel), net_look (i := 2) (v := .ref lr), lr, rfl, ⟨_, SqL.of hlr⟩, ?_⟩
    refine for_list (K := K) (a := lr) (xs := rvs) (fun t σ H' => (∃ x, σ = [some (.ref p), some (.ref ar), x, none, none]) ∧ H' = H) ⟨⟨none, rfl⟩, rfl⟩ (fun t σ H' _ ⟨_, e⟩ => by rw [e]; exact SqL.of hlr) ?_ ?_
    · rintro t x σ H' hx ⟨⟨x0', rfl⟩, rfl⟩
      obtain ⟨T2, v2, w2, ao, do', to, vo, wo, rfl, ho, _⟩ := hall t x hx
      have ht : t < m := by have := (List.getElem?_eq_some_iff.mp hx).1; omega
      refine ⟨_, rfl, ao, CR, do', _, _, rfl, ho, N.clR, N.rd _ (by decide +kernel), rd_look (i := 0) (v := .str (rn t)), _, rfl, ar, CR, dr, _, _, rfl, hrd0, N.clR, N.rd _ (by decide +kernel), rd_look (i := 0) (v := .str (rn m)), rfl, _, rfl, ?_⟩
      rw [show decide (V.str (rn t) = V.str (rn m)) = false from decide_eq_false fun q => rn_ne m (by omega) t ht (V.str.inj q)]
      exact iteF ⟨⟨_, rfl⟩, rfl⟩
    · rintro σ H' ⟨⟨x0', rfl⟩, rfl⟩
      refine ⟨_, rfl, ar, CR, dr, _, _, rfl, hrd0, N.clR, N.rd _ (by decide +kernel), rd_look (i := 1) (v := .ref at'), at', rfl, ⟨_, SqT.of hat⟩, ?_⟩
      refine for_tup (K := K) (a := at') (xs := ts) (fun t σ H'' => (∃ x y z, σ = [some (.ref p), some (.ref ar), x, y, z]) ∧ H'' = H') ⟨⟨_, _, _, rfl⟩, rfl⟩ (fun t σ H'' _ ⟨_, e⟩ => by rw [e]; exact SqT.of hat) ?_ ?_
      · rintro t x σ H'' hx ⟨⟨x1, y1, z1, rfl⟩, rfl⟩
        have ht : t < Tm.q := by have := (List.getElem?_eq_some_iff.mp hx).1; omega
        obtain ⟨ap', rfl, hap⟩ := hit t x hx
        refine ⟨ap', [.str (pn (Tm.j t)), .int (Tm.c t)], rfl, SqT.of hap, rfl, _, _, rfl, _, _, rfl, rfl, ?_⟩
        refine ⟨_, rfl, _, rfl, p, CN, dx, _, _, rfl, h0, N.clN, nA _ (by decide +kernel), net_look (i := 0) (v := .ref lp), lp, _, rfl, .inl (SqL.of h1), rfl, pts_flat n, _, rfl, ?_⟩
        rw [show (if (true : Bool) = true then !inV (.str (pn (Tm.j t))) (pts n) else inV (.str (pn (Tm.j t))) (pts n)) = false by rw [pts_in n (by omega) _ (hT.j t ht)]; rfl]
        exact iteF ⟨⟨_, _, _, rfl⟩, rfl⟩
      · rintro σ H'' ⟨⟨x1, y1, z1, rfl⟩, rfl⟩
        refine ⟨_, rfl, p, CN, dx, _, _, rfl, h0, N.clN, nA _ (by decide +kernel), net_look (i := 2) (v := .ref lr), lr, _, rfl, .inl (SqL.of hlr), rfl, _, rfl, ?_⟩
        rw [hlen, show decide (V.int ((m : Nat) : Int) = V.int 24) = false from decide_eq_false fun q => by have := V.int.inj q; omega]
        refine iteF ?_
        refine ⟨_, rfl, p, dx, _, rfl, h0, look_none (by decide +kernel), _, rfl, ?_⟩
        refine ⟨p, dx, lp, lr, n, m, x0, A', V', W', M, P', r, tt, Tm, .ref ar, rfl, hpl, hnet, hrd, hT, hA, ww, cv, adj, S, hm, fun H3 M3 P3 r3 t3 k3 n3 a3 S3 => ?_⟩
        obtain ⟨ap3, nm3, iv3, rt3, tv3, q0, _⟩ := n3.ex
        have hlr3 : H3 lr = some (.lst rvs) := k3.out _ _ (by simpa using hrl) hlr
        refine ⟨_, rfl, p, CN, dx, _, _, rfl, q0, N.clN, nA _ (by decide +kernel), net_look (i := 2) (v := .ref lr), .inl ⟨rfl, _, SqL.of hlr3⟩, _, rfl, lr, _, _, rfl, rfl, hlr3, (by rw [hlen]; exact sz12 (by omega)), ?_⟩
        have k4 : Kp [lr] H3 (upd H3 lr (.lst (rvs ++ [.ref ar]))) := .set hlr3 rfl (by simp)
        refine ret _ M3 P3 r3 t3 ((k3.mono (by simp)).trans (k4.mono (by simp))) (n3.keep k4 (by simpa using hrl.symm) (by simpa using hll)) upd_same a3 S3
end
end PN

/-! The law's own helpers: the state, what is drawn. -/
namespace PN
open PySem L2 PyProof.Rows
abbrev sState : Stmt := PN.top 36
abbrev sDraw : Stmt := PN.top 37
abbrev sWhole : Stmt := PN.top 38
abbrev sRatio : Stmt := PN.top 39
abbrev sSame : Stmt := PN.top 40
abbrev sLDot : Stmt := PN.top 41
abbrev sReduced : Stmt := PN.top 42
abbrev sTerms : Stmt := PN.top 43
abbrev sWeight : Stmt := PN.top 44
abbrev sReading : Stmt := PN.top 45
abbrev sNames : Stmt := PN.top 46
abbrev sLRow : Stmt := PN.top 47
abbrev sLNet : Stmt := PN.top 48
abbrev sSquares : Stmt := PN.top 49
abbrev sKernel : Stmt := PN.top 50
abbrev sDistance : Stmt := PN.top 51
abbrev sLaw : Stmt := PN.top 52
/-- the state: [digits, place, seed] -/
def StAt (st dl : Addr) (H : Hp) : Prop := ∃ (at' : Nat) (seed : Int) (ds : List Int), H st = some (.lst [.ref dl, .int (at' : Int), .int seed]) ∧ H dl = some (.lst (ds.map V.int)) ∧ dl ≠ st
theorem StAt.keep {st dl : Addr} {H H' : Hp} {S : List Addr} (h : StAt st dl H) (k : Kp S H H') (n1 : st ∉ S) (n2 : dl ∉ S) : StAt st dl H' := let ⟨at', seed, ds, h1, h2, h3⟩ := h; ⟨at', seed, ds, k.out _ _ n1 h1, k.out _ _ n2 h2, h3⟩
theorem StAt.kp {st dl : Addr} {H H' : Hp} (h : StAt st dl H) (k : Kp [] H H') : StAt st dl H' := h.keep k (by simp) (by simp)
theorem StAt.ne {st dl D : Addr} {H : Hp} (h : StAt st dl H) (hD : H D = none) : st ≠ D ∧ dl ≠ D := let ⟨_, _, _, h1, h2, _⟩ := h; ⟨ne_of_none h1 hD, ne_of_none h2 hD⟩
def spState (K : PySem.W.Frag) : Sp := fun vs H Q _ => ∃ (a : Addr) (ns : List Int), vs = [.ref a] ∧ SqL K H a (ns.map V.int) ∧ ns.length ≤ 63 ∧ ∀ st dl H', Kp [] H H' → StAt st dl H' → Q (.ref st) H'
def spDraw : Sp := fun vs H Q _ => ∃ st dl many, vs = [.ref st, .int many] ∧ 0 < many ∧ StAt st dl H ∧ ∀ d H', 0 ≤ d → d < many → Kp [st] H H' → StAt st dl H' → Q (.int d) H'
def spWhole : Sp := fun vs H Q _ => ∃ st dl, vs = [.ref st] ∧ StAt st dl H ∧ ∀ z H', z.natAbs ≤ 500000 → Kp [st] H H' → StAt st dl H' → Q (.int z) H'
def spRatio (C : Addr) : Sp := fun vs H Q _ => ∃ st dl, vs = [.ref st] ∧ StAt st dl H ∧ ∀ v q H', C1 19 q → RV C q v H' → Kp [st] H H' → StAt st dl H' → Q v H'
section
variable {P : Program} {w : World} {K : PySem.W.Frag} {mg : Str → Option Value} {base : Heap} {f C CR CN : Addr} {fd : FuncData}
theorem scState : FnScope ["_law_script", "_law_digits", "_law_seed", "_law_cell", "_law_rest", "_law_k"] ["_law_script"] (defScope sState) := ⟨rfl, rfl, rfl, by decide +kernel, rfl, by decide +kernel, by decide +kernel⟩
theorem ok_state (F : Fun K "_law_state" "_law_state" sState f fd) (B : BTxt mg) : FnOk P w K mg base CX0 1 f fd ["_law_script"] (spState K) := by
  refine F.ok scState (fun vs H Q E h => ?_) (fun cdv A outer s H vs Q E hr h => ?_)
  · obtain ⟨a, ns, rfl, _⟩ := h
    rfl
  · obtain ⟨a, ns, rfl, hS, hlen, ret⟩ := h
    refine ⟨_, pss_cons (ps_set (i := 1) scState.nd rfl (Or.inl rfl) (pe_lst pa_nil)) (pss_cons (ps_set (i := 2) scState.nd rfl (Or.inl rfl) pe_int)
      (pss_cons (ps_for PassesOwn.never rfl (pi_list (pv 0)) (pg_name (i := 3) scState.nd rfl (Or.inl rfl))
        (pss_cons (ps_set (i := 4) scState.nd rfl (Or.inl rfl) (pe_callB call_abs (by rfl) B.abs boot_abs' (pa_cons (pv 3) pa_nil)))
        (pss_cons (ps_set (i := 2) scState.nd rfl (Or.inl rfl) (pe_op op_mod (pe_callTy call_int1 (by rfl) B.int boot_int' (pa_cons (pe_op op_add (pe_op op_add (pe_op op_mul (pv 2) pe_int) (pv 4)) pe_int) pa_nil)) pe_int))
        (pss_one (ps_for PassesOwn.never rfl (pi_range1 rfl B.range (pa_cons pe_int pa_nil)) (pg_name (i := 5) scState.nd rfl (Or.inl rfl))
          (pss_one (ps_if (PW.pt (pw_or (pt_cmpR op_gt (pv 4) pe_int (nomark _)) (pw_or1 (pt_cmpR op_eq (pv 5) pe_int (nomark _)))))
            (pss_cons (ps_expr (pe_bm PySem.F.plainAttrs_list PySem.F.slot_list_append PySem.F.type_list_append mt_append (pv 1) (pa_cons (pe_op op_mod (pe_callTy call_int1 (by rfl) B.int boot_int' (pa_cons (pv 4) pa_nil)) pe_int) pa_nil)))
            (pss_one (ps_set (i := 4) scState.nd rfl (Or.inl rfl) (pe_op op_fdiv (pv 4) pe_int)))) pss_nil)))))))
      (pss_one (ps_ret (pe_lst (pa_cons (pv 1) (pa_cons pe_int (pa_cons (pv 2) pa_nil)))))))), ?_⟩
    refine ⟨Nat.zero_le _, fun D hD => ?_⟩
    refine ⟨_, rfl, a, rfl, ⟨_, (Kp.new (S := []) hD).same.seq hS⟩, ?_⟩
    refine for_list (K := K) (a := a) (xs := ns.map V.int) (fun i σ H' => ∃ (seed : Int) (x y z : Option V) (ds : List Int), σ = [some (.ref a), some (.ref D), some (.int seed), x, y, z] ∧ Kp [] H H' ∧ H' D = some (.lst (ds.map V.int)) ∧ ds.length ≤ 60 * i)
      ⟨7, none, none, none, [], rfl, .new hD, upd_same, Nat.le_refl _⟩ (fun i σ H' _ ⟨_, _, _, _, _, _, k, _⟩ => k.same.seq hS) ?_ ?_
    · rintro i x σ H' hx ⟨seed, x0, y0, z0, ds, rfl, k, hds, hl⟩
      have hi : i < 63 := by
        have := (List.getElem?_eq_some_iff.mp hx).1
        rw [List.length_map] at this; omega
      obtain ⟨u, rfl⟩ : ∃ u, x = V.int u := by
        rw [List.getElem?_map] at hx
        cases e : ns[i]? with
        | none => rw [e] at hx; cases hx
        | some u => rw [e] at hx; exact ⟨u, (Option.some.inj hx).symm⟩
      refine ⟨_, rfl, _, rfl, ?_⟩
      refine ⟨_, rfl, _, _, rfl, rfl, .inr ⟨by decide, by decide⟩, _, rfl, _, _, rfl, rfl, _, _, rfl, rfl, .inl ⟨_, rfl, _, _, rfl, rfl, (by show (0 : Int) < 2147483647; decide), ?_⟩⟩
      refine ⟨60, rfl, by decide, by decide, ?_⟩
      refine for_range (lo := 0) (n := 60) (fun j σ H2 => ∃ (seed rest : Int) (x z : Option V) (ds : List Int), σ = [some (.ref a), some (.ref D), some (.int seed), x, some (.int rest), z] ∧ Kp [] H H2 ∧ H2 D = some (.lst (ds.map V.int)) ∧ ds.length ≤ 60 * i + j)
        ⟨_, _, _, _, ds, rfl, k, hds, hl⟩ ?_ ?_
      · rintro j σ H2 hj ⟨sd, rest, x1, z1, ds1, rfl, k1, hds1, hl1⟩
        have yes : ∃ l xs y, V.ref D = .ref l ∧ [V.int (rest % 1000)] = [y] ∧ H2 l = some (.lst xs) ∧ xs.length < sizeLine ∧
            ∃ ds2 : List Int, upd H2 l (.lst (xs ++ [y])) D = some (.lst (ds2.map V.int)) ∧ ds2.length ≤ 60 * i + (j + 1) ∧ Kp [] H (upd H2 l (.lst (xs ++ [y]))) ∧ l = D ∧ xs = ds1.map V.int ∧ y = .int (rest % 1000) :=
          ⟨D, _, _, rfl, rfl, hds1, (by rw [List.length_map]; exact Nat.lt_of_le_of_lt hl1 (Nat.lt_of_le_of_lt (show 60 * i + j ≤ 4000 by omega) (by decide))), ds1 ++ [rest % 1000], (by rw [upd_same, List.map_append]; rfl), (by rw [List.length_append, List.length_singleton]; omega), k1.fresh hD, rfl, rfl, rfl⟩
        obtain ⟨l, xs, y, e1, e2, h3, h4, ds2, h5, h6, h7, e3, e4, e5⟩ := yes
        subst e3; subst e4; subst e5
        refine ⟨_, rfl, _, _, rfl, rfl, _, rfl, ?_⟩; by_cases hc : 0 < rest
        · rw [show decide (0 < rest) = true from decide_eq_true hc]
          refine iteT (iteT ?_)
          refine ⟨_, rfl, .inl ⟨rfl, _, SqL.of h3⟩, _, rfl, .inl ⟨rest, rfl, _, _, rfl, rfl, (by show (0 : Int) < 1000; decide), ?_⟩⟩
          dsimp only [tNil]
          refine ⟨l, _, _, rfl, rfl, h3, h4, ?_⟩
          exact ⟨_, rfl, _, _, rfl, rfl, ⟨by decide, by decide⟩, sd, _, _, _, ds2, rfl, h7, h5, h6⟩
        · rw [show decide (0 < rest) = false from decide_eq_false hc]
          refine iteF ?_
          refine ⟨_, rfl, rfl, _, rfl, ?_⟩; refine ite2 (fun _ => ?_) (fun _ => ?_)
          · refine ⟨_, rfl, .inl ⟨rfl, _, SqL.of h3⟩, _, rfl, .inl ⟨rest, rfl, _, _, rfl, rfl, (by show (0 : Int) < 1000; decide), ?_⟩⟩
            dsimp only [tNil]
            refine ⟨l, _, _, rfl, rfl, h3, h4, ?_⟩
            exact ⟨_, rfl, _, _, rfl, rfl, ⟨by decide, by decide⟩, sd, _, _, _, ds2, rfl, h7, h5, h6⟩
          · exact ⟨sd, rest, _, _, ds1, rfl, k1, h3, by omega⟩
      · rintro σ H2 ⟨sd, rest, x1, z1, ds1, rfl, k1, hds1, hl1⟩
        exact ⟨sd, _, _, _, ds1, rfl, k1, hds1, by omega⟩
    · rintro σ H' ⟨seed, x0, y0, z0, ds, rfl, k, hds, hl⟩
      refine ⟨_, rfl, _, rfl, (by show 3 ≤ sizeLine; decide), fun st hst => ?_⟩
      have kn : Kp [] H' (upd H' st (.lst [.ref D, .int 0, .int seed])) := .new hst
      exact ret st D _ (k.trans kn) ⟨0, seed, ds, upd_same, kn.all _ _ hds, ne_of_none hds hst⟩
theorem scDraw : FnScope ["_law_state_here", "_law_many", "_law_at", "_law_digits"] ["_law_state_here", "_law_many"] (defScope sDraw) := ⟨rfl, rfl, rfl, by decide +kernel, rfl, by decide +kernel, by decide +kernel⟩
theorem ok_draw (F : Fun K "_law_draw" "_law_draw" sDraw f fd) (B : BTxt mg) : FnOk P w K mg base CX0 1 f fd ["_law_state_here", "_law_many"] spDraw := by
  refine F.ok scDraw (fun vs H Q E h => ?_) (fun cdv A outer s H vs Q E hr h => ?_)
  · obtain ⟨st, dl, many, rfl, _⟩ := h
    rfl
  · obtain ⟨st, dl, many, rfl, hm, ⟨at', seed, ds, h1, h2, h3⟩, ret⟩ := h
    refine ⟨_, pss_cons (ps_set (i := 2) scDraw.nd rfl (Or.inl rfl) (pe_ix ix_list (pv 0) pe_int (fun _ _ => rfl)))
      (pss_cons (ps_asg (pe_op op_add (pv 2) pe_int) (pg_sub (pv 0) pe_int set_list))
      (pss_cons (ps_set (i := 3) scDraw.nd rfl (Or.inl rfl) (pe_ix ix_list (pv 0) pe_int (fun _ _ => rfl)))
      (pss_cons (ps_if (pt_cmpR op_lt (pv 2) (pe_callB call_len_seq (by rfl) B.len PySem.boot_len (pa_cons (pv 3) pa_nil)) (nomark _))
        (pss_one (ps_ret (pe_op op_mod (pe_callTy call_int1 (by rfl) B.int boot_int' (pa_cons (pe_ix ix_list (pv 3) (pv 2) (fun _ _ => rfl)) pa_nil)) (pv 1)))) pss_nil)
      (pss_cons (ps_asg (pe_op op_mod (pe_callTy call_int1 (by rfl) B.int boot_int' (pa_cons (pe_op op_add (pe_op op_add (pe_op op_mul (pe_ix ix_list (pv 0) pe_int (fun _ _ => rfl)) pe_int) (pe_op op_mul (pv 2) pe_int)) pe_int) pa_nil)) pe_int) (pg_sub (pv 0) pe_int set_list))
      (pss_one (ps_ret (pe_op op_mod (pe_callTy call_int1 (by rfl) B.int boot_int' (pa_cons (pe_op op_fdiv (pe_ix ix_list (pv 0) pe_int (fun _ _ => rfl)) pe_int) pa_nil)) (pv 1)))))))), ?_⟩
    refine ⟨_, rfl, st, _, 1, _, rfl, rfl, SqL.of h1, rfl, ?_⟩
    refine ⟨_, rfl, _, _, rfl, rfl, _, rfl, st, _, 1, 1, rfl, rfl, h1, rfl, ?_⟩
    have k1 : Kp [st] H (upd H st (.lst [.ref dl, .int ((at' : Int) + 1), .int seed])) := .set h1 rfl (by simp)
    have g2 : upd H st (.lst [.ref dl, .int ((at' : Int) + 1), .int seed]) dl = some (.lst (ds.map V.int)) := by rw [upd_ne h3]; exact h2
    have e1 : ((at' + 1 : Nat) : Int) = (at' : Int) + 1 := by omega
    refine ⟨_, rfl, st, _, 0, _, rfl, rfl, SqL.of upd_same, rfl, ?_⟩
    refine ⟨_, rfl, _, rfl, dl, _, rfl, .inl (SqL.of g2), _, _, rfl, rfl, _, rfl, ?_⟩
    rw [List.length_map]
    refine ite2 (fun hlt => ?_) (fun _ => ?_)
    · have hlt' : at' < ds.length := by have := of_decide_eq_true hlt; omega
      have hg : (ds.map V.int)[at']? = some (.int ds[at']) := by rw [List.getElem?_map, List.getElem?_eq_getElem hlt']; rfl
      refine ⟨_, rfl, _, rfl, dl, _, _, _, rfl, rfl, SqL.of g2, atI_nat hg, .inl ⟨_, rfl, _, rfl, _, _, rfl, rfl, hm, ?_⟩⟩
      exact ret _ _ (Int.emod_nonneg _ (by omega)) (Int.emod_lt_of_pos _ hm) k1 ⟨at' + 1, seed, ds, (by rw [upd_same, e1]; rfl), g2, h3⟩
    · refine ⟨_, rfl, st, _, 2, _, rfl, rfl, SqL.of upd_same, rfl, _, _, rfl, rfl, .inr ⟨by decide, by decide⟩, _, rfl, _, _, rfl, rfl, .inr ⟨by decide, by decide⟩, _, _, rfl, rfl, _, _, rfl, rfl, .inl ⟨_, rfl, _, _, rfl, rfl, (by show (0 : Int) < 2147483647; decide), ?_⟩⟩
      refine ⟨_, rfl, st, _, 2, 2, rfl, rfl, upd_same, rfl, ?_⟩
      rw [upd_upd]
      refine ⟨_, rfl, st, _, 2, _, rfl, rfl, SqL.of upd_same, rfl, _, _, rfl, rfl, ⟨by decide, by decide⟩, .inl ⟨_, rfl, _, rfl, _, _, rfl, rfl, hm, ?_⟩⟩
      exact ret _ _ (Int.emod_nonneg _ (by omega)) (Int.emod_lt_of_pos _ hm) (.set h1 rfl (by simp)) ⟨at' + 1, _, ds, (by rw [upd_same, e1]; rfl), (by rw [upd_ne h3]; exact h2), h3⟩
theorem scWhole : FnScope ["_law_state_here", "_law_pick"] ["_law_state_here"] (defScope sWhole) := ⟨rfl, rfl, rfl, by decide +kernel, rfl, by decide +kernel, by decide +kernel⟩
theorem ok_whole (F : Fun K "_law_whole" "_law_whole" sWhole f fd) (GD : FnAt P w K mg base "_law_draw" 1 ["_law_state_here", "_law_many"] spDraw) : FnOk P w K mg base CX0 2 f fd ["_law_state_here"] spWhole := by
  refine F.ok scWhole (fun vs H Q E h => ?_) (fun cdv A outer s H vs Q E hr h => ?_)
  · obtain ⟨st, dl, rfl, _⟩ := h
    rfl
  · obtain ⟨st, dl, rfl, hst, ret⟩ := h
    refine ⟨_, pss_cons (ps_set (i := 1) scWhole.nd rfl (Or.inl rfl) (pe_fn GD hr (pa_cons (pv 0) (pa_cons pe_int pa_nil))))
      (pss_cons (ps_if (pt_cmpR op_lt (pv 1) pe_int (nomark _)) (pss_one (ps_ret (pe_op op_sub (pe_fn GD hr (pa_cons (pv 0) (pa_cons pe_int pa_nil))) pe_int))) pss_nil)
      (pss_cons (ps_if (pt_cmpR op_eq (pv 1) pe_int (nomark _)) (pss_one (ps_ret pe_int)) pss_nil)
      (pss_cons (ps_if (pt_cmpR op_eq (pv 1) pe_int (nomark _)) (pss_one (ps_ret (pe_op op_sub (pe_op op_add (pe_op op_mul (pe_fn GD hr (pa_cons (pv 0) (pa_cons pe_int pa_nil))) pe_int) (pe_fn GD hr (pa_cons (pv 0) (pa_cons pe_int pa_nil)))) pe_int))) pss_nil)
      (pss_one (ps_ret (pe_op op_sub (pe_fn GD hr (pa_cons (pv 0) (pa_cons pe_int pa_nil))) pe_int)))))), ?_⟩
    refine ⟨_, rfl, st, dl, 6, rfl, by decide, hst, fun d H1 d0 d1 k1 s1 => ?_⟩
    refine ⟨_, rfl, _, _, rfl, rfl, _, rfl, ite2 (fun _ => ?_) (fun _ => ?_)⟩
    · refine ⟨_, rfl, st, dl, 7, rfl, by decide, s1, fun e H2 e0 e1 k2 s2 => ?_⟩
      exact ⟨_, _, rfl, rfl, ret _ H2 (by omega) (k1.trans k2) s2⟩
    refine ⟨_, rfl, rfl, _, rfl, ite2 (fun _ => ?_) (fun _ => ?_)⟩
    · exact ret 0 H1 (by decide) k1 s1
    refine ⟨_, rfl, rfl, _, rfl, ite2 (fun _ => ?_) (fun _ => ?_)⟩
    · refine ⟨_, rfl, st, dl, 1000, rfl, by decide, s1, fun e H2 e0 e1 k2 s2 => ?_⟩
      refine ⟨_, _, rfl, rfl, .inr ⟨by decide, by decide⟩, _, rfl, st, dl, 1000, rfl, by decide, s2, fun g H3 g0 g1 k3 s3 => ?_⟩
      exact ⟨_, _, rfl, rfl, _, _, rfl, rfl, ret _ H3 (by omega) ((k1.trans k2).trans k3) s3⟩
    · refine ⟨_, rfl, st, dl, 199, rfl, by decide, s1, fun e H2 e0 e1 k2 s2 => ?_⟩
      exact ⟨_, _, rfl, rfl, ret _ H2 (by omega) (k1.trans k2) s2⟩
theorem scRatio : FnScope ["_law_state_here", "_law_top"] ["_law_state_here"] (defScope sRatio) := ⟨rfl, rfl, rfl, by decide +kernel, rfl, by decide +kernel, by decide +kernel⟩
theorem c1_ratio {t b : Int} (ht : t.natAbs ≤ 500000) (h0 : 0 < b) (h1 : b ≤ 12) : C1 19 (Rat.divInt t b) := by
  refine ⟨b, h0, Nat.le_trans (show b.natAbs ≤ 12 by omega) (by decide), t, ?_, Nat.le_trans ht (by decide)⟩
  rw [Rat.divInt_eq_div]
  exact Rat.div_mul_cancel fun q => by have := Rat.intCast_eq_zero_iff.mp q; omega
theorem ok_ratio (F : Fun K "_law_ratio" "_law_ratio" sRatio f fd) (T : RKit P w K mg base C) (GD : FnAt P w K mg base "_law_draw" 1 ["_law_state_here", "_law_many"] spDraw) (GW : FnAt P w K mg base "_law_whole" 2 ["_law_state_here"] spWhole) :
    FnOk P w K mg base CX0 36 f fd ["_law_state_here"] (spRatio C) := by
  refine F.ok scRatio (fun vs H Q E h => ?_) (fun cdv A outer s H vs Q E hr h => ?_)
  · obtain ⟨st, dl, rfl, _⟩ := h
    rfl
  · obtain ⟨st, dl, rfl, hst, ret⟩ := h
    have h1 : Room 1 _ := hr.mono (by decide : 1 ≤ 35)
    refine ⟨_, pss_cons (ps_set (i := 1) scRatio.nd rfl (Or.inl rfl) (pe_fn GW (hr.mono (by decide)) (pa_cons (pv 0) pa_nil)))
      (pss_cons (ps_if (pt_cmpR op_eq (pe_fn GD h1 (pa_cons (pv 0) (pa_cons pe_int pa_nil))) pe_int (nomark _)) (pss_one (ps_ret (pe_mk1 T hr (pv 1)))) pss_nil)
      (pss_one (ps_ret (pe_mk2 T hr (pv 1) (pe_op op_add pe_int (pe_fn GD h1 (pa_cons (pv 0) (pa_cons pe_int pa_nil)))))))), ?_⟩
    refine ⟨_, rfl, st, dl, rfl, hst, fun t H1 ht k1 s1 => ?_⟩
    refine ⟨_, rfl, st, dl, 2, rfl, by decide, s1, fun d H2 d0 d1 k2 s2 => ⟨rfl, _, rfl, ite2 (fun _ => ?_) (fun _ => ?_)⟩⟩
    · refine ⟨_, rfl, t, rfl, fun v H3 k3 r3 => ?_⟩
      have c := c1_ratio (t := t) (b := 1) ht (by decide) (by decide)
      rw [show Rat.divInt t 1 = (t : Rat) by rw [Rat.divInt_eq_div]; show (t : Rat) / 1 = (t : Rat); grind] at c
      exact ret v _ H3 c r3 ((k1.trans k2).trans k3.any) (s2.kp k3)
    · refine ⟨_, rfl, _, rfl, st, dl, 12, rfl, by decide, s2, fun e H3 e0 e1 k3 s3 => ?_⟩
      refine ⟨_, _, rfl, rfl, t, 1 + e, rfl, rfl, by omega, fun v H4 k4 r4 => ?_⟩
      exact ret v _ H4 (c1_ratio ht (by omega) (by omega)) r4 (((k1.trans k2).trans k3).trans k4.any) (s3.kp k4)
end
end PN

/-! The law's own helpers: readings drawn, rows, dots, distances. -/
namespace PN
open PySem L2 PyProof.Rows
/-- a built-in's call with one argument -/
def tC1 (r : List V → Hp → VK → Prop) (te : TE) : TE := fun σ H Q => te σ H fun x H1 => r [x] H1 Q
theorem pe_callB1 {X : Cx} {x : Str} {id : String} {e : Expr} {te : TE} {p pos : Pos} {r : List V → Hp → VK → Prop} (hc : CallR X (.builtin id) r) (hg : Gl X x) (hm : X.mg x = none) (hv : bootBuiltins x = some (.builtin id)) (ha : PE X e te) (hn : x ≠ "__name__" := by decide) (hdb : (x == ("__debug__" : Str)) = false := by decide)
    (he : starEach [e] X.env = (false, eval e X.env) :: starEach [] X.env := by rfl) : PE X (.Call (.Name x p) [e] [] pos) (tC1 r te) :=
  show PE X _ (tCB r (tCons te tNil)) from pe_callB hc hg hm hv (pa_cons ha pa_nil he) hn hdb he rfl
theorem pe_callTy1 {X : Cx} {x : Str} {T : String} {e : Expr} {te : TE} {p pos : Pos} {r : List V → Hp → VK → Prop} (hc : CallR X (.type T) r) (hg : Gl X x) (hm : X.mg x = none) (hv : bootBuiltins x = some (.type T)) (ha : PE X e te) (hn : x ≠ "__name__" := by decide) (hdb : (x == ("__debug__" : Str)) = false := by decide)
    (he : starEach [e] X.env = (false, eval e X.env) :: starEach [] X.env := by rfl) : PE X (.Call (.Name x p) [e] [] pos) (tC1 r te) :=
  show PE X _ (tCB r (tCons te tNil)) from pe_callTy hc hg hm hv (pa_cons ha pa_nil he) hn hdb he rfl
/-- a tuple or a list of Ratios -/
def SV (C : Addr) (n : Nat) (f : Nat → Rat) : V → Hp → Prop := fun v H => ∃ a vs, v = .ref a ∧ (H a = some (.tup vs) ∨ H a = some (.lst vs)) ∧ vs.length = n ∧ ∀ i x, vs[i]? = some x → RV C (f i) x H
theorem SV.kp {C : Addr} {n : Nat} {f : Nat → Rat} {v : V} {H H' : Hp} (h : SV C n f v H) (k : Kp [] H H') : SV C n f v H' :=
  let ⟨a, vs, e, ha, hl, hi⟩ := h; ⟨a, vs, e, ha.imp (k.all _ _) (k.all _ _), hl, fun i x hx => RV.mono _ _ _ _ k (hi i x hx)⟩
theorem TV.sv {C : Addr} {n : Nat} {f : Nat → Rat} {v : V} {H : Hp} (h : TV C n f v H) : SV C n f v H := let ⟨a, vs, e, ha, hl, hi⟩ := h; ⟨a, vs, e, .inl ha, hl, hi⟩
theorem LstR.sv {C : Addr} {n : Nat} {f : Nat → Rat} {D : Addr} {H : Hp} (h : LstR (fun i => RV C (f i)) n D H) : SV C n f (.ref D) H := let ⟨vs, ha, hl, hi⟩ := h; ⟨D, vs, rfl, .inr ha, hl, hi⟩
/-- s[i] -/
theorem SV.ix {K : PySem.W.Frag} {C : Addr} {n i : Nat} {f : Nat → Rat} {v : V} {H : Hp} {Q : VK} (h : SV C n f v H) (hi : i < n) (q : ∀ x, RV C (f i) x H → Q x H) : rIx K v (.int (i : Int)) H Q := by
  obtain ⟨a, vs, rfl, ha, hl, hr⟩ := h
  obtain ⟨x, hx⟩ := get_of hl hi
  rcases ha with ha | ha
  · exact .inr (.inl ⟨a, vs, _, x, rfl, rfl, SqT.of ha, atI_nat hx, q x (hr i x hx)⟩)
  · exact .inl ⟨a, vs, _, x, rfl, rfl, SqL.of ha, atI_nat hx, q x (hr i x hx)⟩
def rLenS (K : PySem.W.Frag) : List V → Hp → VK → Prop := fun vs H Q => ∃ p ys, vs = [.ref p] ∧ (SqL K H p ys ∨ SqT K H p ys) ∧ Q (.int ys.length) H
theorem call_lenS {X : Cx} : CallR X (.builtin "len") (rLenS X.K) := call_len_seq
theorem SV.len {K : PySem.W.Frag} {C : Addr} {n : Nat} {f : Nat → Rat} {v : V} {H : Hp} {Q : VK} (h : SV C n f v H) (q : Q (.int (n : Nat)) H) : rLenS K [v] H Q := by
  obtain ⟨a, vs, rfl, ha, hl, hr⟩ := h
  refine ⟨a, vs, rfl, ?_, by rw [hl]; exact q⟩
  rcases ha with ha | ha
  · exact .inr (SqT.of ha)
  · exact .inl (SqL.of ha)
/-- what isinstance asks of the class -/
structure IsK (K : PySem.W.Frag) (C : Addr) : Prop where
  cls : PySem.W.findIn K (.ref C) "__class__" = some (some (.builtin "object.__class__"))
  get : PySem.W.specialIn K (.builtin "object.__class__") "__get__" = some (some (.builtin "getset_descriptor.__get__"))
  tak : PySem.W.takesIn K (.builtin "object.__class__") = some true
  mro : PySem.W.mroIn K C (.type "object") = some true
def spSame (C : Addr) : Sp := fun vs H Q _ => ∃ x y a b, vs = [x, y] ∧ RV C a x H ∧ RV C b y H ∧ Q (.bl (decide (a = b))) H
def spLDot (C : Addr) : Sp := fun vs H Q _ => ∃ va vb n f g ka kb, vs = [va, vb] ∧ n ≤ 12 ∧ SV C n f va H ∧ SV C n g vb H ∧ Cd n ka f ∧ Cd n kb g ∧ ka + kb + n < 60000000 ∧ Ret H Q (RV C (dot n f g))
def spTerms : Sp := fun vs H Q _ => ∃ st dl ln n, vs = [.ref st, .ref ln] ∧ 1 ≤ n ∧ n ≤ 5 ∧ H ln = some (.lst (pts n)) ∧ ln ≠ st ∧ StAt st dl H ∧ ∀ v T H', TmR T v H' → TmOk n T → Kp [st] H H' → StAt st dl H' → Q v H'
def spWeight (C : Addr) : Sp := fun vs H Q _ => ∃ st dl, vs = [.ref st] ∧ StAt st dl H ∧ ∀ v w H', WOk w → RV C w v H' → Kp [st] H H' → StAt st dl H' → Q v H'
def spReading (C CR : Addr) : Sp := fun vs H Q _ => ∃ st dl ln n k, vs = [.ref st, .ref ln, .int ((k : Nat) : Int)] ∧ 1 ≤ n ∧ n ≤ 5 ∧ k < 9 ∧ H ln = some (.lst (pts n)) ∧ ln ≠ st ∧ StAt st dl H ∧
  ∀ x T v w H', RdR C CR T v w k x H' → TmOk n T → C1 19 v → WOk w → Kp [st] H H' → StAt st dl H' → Q x H'
def spNames : Sp := fun vs H Q _ => ∃ st dl most, vs = [.ref st, .int most] ∧ 0 < most ∧ most ≤ 5 ∧ StAt st dl H ∧ ∀ l n H', 1 ≤ n → n ≤ 5 → H' l = some (.lst (pts n)) → H l = none → l ≠ st → Kp [st] H H' → StAt st dl H' → Q (.ref l) H'
def spLRow (C CR : Addr) : Sp := fun vs H Q _ => ∃ ln n rd T v w k, vs = [.ref ln, rd] ∧ n ≤ 5 ∧ H ln = some (.lst (pts n)) ∧ RdR C CR T v w k rd H ∧ TmOk n T ∧ Ret H Q (TV C n (rowF T))
section
variable {P : Program} {w : World} {K : PySem.W.Frag} {mg : Str → Option Value} {base : Heap} {f C CR CN : Addr} {fd : FuncData}
theorem scSame : FnScope ["_law_first", "_law_second"] ["_law_first", "_law_second"] (defScope sSame) := ⟨rfl, rfl, rfl, by decide +kernel, rfl, by decide +kernel, by decide +kernel⟩
theorem same_dec (a b : Rat) : (decide (a.num = b.num) && decide ((a.den : Int) = (b.den : Int))) = decide (a = b) := by
  by_cases h : a = b
  · subst h; simp
  · rw [decide_eq_false h]
    by_cases h1 : a.num = b.num
    · have h2 : ¬ ((a.den : Int) = (b.den : Int)) := fun q => h (Rat.ext h1 (by omega))
      rw [decide_eq_false h2, Bool.and_false]
    · rw [decide_eq_false h1, Bool.false_and]
theorem ok_same (F : Fun K "_law_same" "_law_same" sSame f fd) (T : RKit P w K mg base C) (B : BTxt mg) (Z : IsK K C) : FnOk P w K mg base CX0 1 f fd ["_law_first", "_law_second"] (spSame C) := by
  refine F.ok scSame (fun vs H Q E h => ?_) (fun cdv A outer s H vs Q E hr h => ?_)
  · obtain ⟨x, y, a, b, rfl, _⟩ := h
    rfl
  · obtain ⟨x, y, a, b, rfl, ⟨p, dx, rfl, hx⟩, ⟨p2, dx2, rfl, hy⟩, q⟩ := h
    refine ⟨_, pss_cons (ps_if (PW.pt (pw_or (pt_not (pt_val (pe_callB call_isi (by rfl) B.isinstance boot_isinstance' (pa_cons (pv 0) (pa_cons (pe_glob (v := .ref C) (by rfl) T.T.mgC rfl) pa_nil)))))
        (pw_or1 (pt_not (pt_val (pe_callB call_isi (by rfl) B.isinstance boot_isinstance' (pa_cons (pv 1) (pa_cons (pe_glob (v := .ref C) (by rfl) T.T.mgC rfl) pa_nil)))))))) (pss_one (ps_ret pe_bl)) pss_nil)
      (pss_one (ps_ret (pe_and (pe_cmpR op_eq (pe_fld (pv 0) rfl) (pe_fld (pv 1) rfl) (nomark _)) (pe_one (pe_cmpR op_eq (pe_fld (pv 0) rfl) (pe_fld (pv 1) rfl) (nomark _)))))), ?_⟩
    refine ⟨_, rfl, _, .ref C, .ref C, .ref C, true, rfl, .own C, .base (.ins hx T.T.cl Z.cls Z.get Z.tak Z.mro), (by simp [PySem.W.kitOne]), true, rfl, ?_⟩
    refine iteF ⟨_, rfl, _, .ref C, .ref C, .ref C, true, rfl, .own C, .base (.ins hy T.T.cl Z.cls Z.get Z.tak Z.mro), (by simp [PySem.W.kitOne]), true, rfl, ?_⟩
    refine iteF ?_
    refine ⟨_, rfl, p, C, dx, _, _, rfl, hx, T.T.cl, T.T.nT, rfs_top _, _, rfl, p2, C, dx2, _, _, rfl, hy, T.T.cl, T.T.nT, rfs_top _, rfl, _, rfl, ?_⟩
    rw [← same_dec] at q
    have e0 : decide (V.int a.num = V.int b.num) = decide (a.num = b.num) := by
      by_cases h : a.num = b.num
      · rw [h]; simp
      · rw [decide_eq_false h, decide_eq_false fun q => h (V.int.inj q)]
    have e1 : decide (V.int (a.den : Int) = V.int (b.den : Int)) = decide ((a.den : Int) = (b.den : Int)) := by
      by_cases h : (a.den : Int) = (b.den : Int)
      · rw [h]; simp
      · rw [decide_eq_false h, decide_eq_false fun q => h (V.int.inj q)]
    rw [e0]
    by_cases h : a.num = b.num
    · rw [decide_eq_true h]
      rw [decide_eq_true h, Bool.true_and, ← e1] at q
      exact iteT ⟨_, rfl, p, C, dx, _, _, rfl, hx, T.T.cl, T.T.nB, rfs_bottom _, _, rfl, p2, C, dx2, _, _, rfl, hy, T.T.cl, T.T.nB, rfs_bottom _, rfl, q⟩
    · rw [decide_eq_false h]
      rw [decide_eq_false h, Bool.false_and] at q
      exact iteF q
theorem scLDot : FnScope ["_law_first", "_law_second", "_law_total", "_law_k"] ["_law_first", "_law_second"] (defScope sLDot) := ⟨rfl, rfl, rfl, by decide +kernel, rfl, by decide +kernel, by decide +kernel⟩
theorem ok_ldot (F : Fun K "_law_dot" "_law_dot" sLDot f fd) (T : RKit P w K mg base C) (B : BTxt mg) : FnOk P w K mg base CX0 37 f fd ["_law_first", "_law_second"] (spLDot C) := by
  refine F.ok scLDot (fun vs H Q E h => ?_) (fun cdv A outer s H vs Q E hr h => ?_)
  · obtain ⟨va, vb, n, f, g, ka, kb, rfl, _⟩ := h
    rfl
  · obtain ⟨va, vb, n, f, g, ka, kb, rfl, hn, ta, tb, ca, cb, hk, ret⟩ := h
    refine ⟨_, pss_cons (ps_set (i := 2) scLDot.nd rfl (Or.inl rfl) (pe_mk1 T (hr.mono (by decide)) pe_int))
      (pss_cons (ps_for PassesOwn.never rfl (pi_range1 rfl B.range (pa_cons (pe_callB1 call_lenS (by rfl) B.len PySem.boot_len (pv 0)) pa_nil)) (pg_name (i := 3) scLDot.nd rfl (Or.inl rfl))
        (pss_one (ps_set (i := 2) scLDot.nd rfl (Or.inl rfl) (pe_op (op_addR T hr) (pv 2) (pe_op (op_mulR T hr) (pe_ix ix_seq (pv 0) (pv 3) (fun _ _ => rfl)) (pe_ix ix_seq (pv 1) (pv 3) (fun _ _ => rfl)))))))
      (pss_one (ps_ret (pv 2)))), ?_⟩
    refine ⟨0, rfl, fun v0 H0 k0 r0 => ?_⟩
    refine ⟨_, rfl, (ta.kp k0).len ?_⟩
    refine ⟨((n : Nat) : Int), rfl, by omega, by omega, ?_⟩
    rw [Int.toNat_natCast]
    refine for_range (lo := 0) (n := n) (fun i σ H' => ∃ (v : V) (x : Option V), σ = [some va, some vb, some v, x] ∧ Kp [] H H' ∧ RV C (S i fun i => f i * g i) v H') ⟨v0, none, rfl, k0, r0⟩ ?_ ?_
    · rintro i σ H' hi ⟨v, x, rfl, k, r⟩
      refine ⟨_, rfl, _, rfl, _, rfl, ?_⟩
      rw [Int.zero_add]
      refine (ta.kp k).ix hi fun x1 hx1 => ⟨_, rfl, _, rfl, (tb.kp k).ix hi fun y1 hy1 => ?_⟩
      refine ⟨f i, g i, hx1, hy1, ca.big (by omega) hi, cb.big (by omega) hi, fun v1 H1 k1 r1 => ?_⟩
      refine ⟨_, _, RV.mono _ _ _ _ k1 r, r1, (ca.part cb (p := i) (by omega)).big hk, ((ca.at hi).mul (cb.at hi)).big (by omega), fun v2 H2 k2 r2 => ?_⟩
      exact ⟨v2, _, rfl, (k.trans k1).trans k2, r2⟩
    · rintro σ H' ⟨v, x, rfl, k, r⟩
      exact ⟨_, rfl, ret v H' k r⟩
end
end PN

/-! The law's own helpers: readings drawn. -/
namespace PN
open PySem L2 PyProof.Rows
section
variable {P : Program} {w : World} {K : PySem.W.Frag} {mg : Str → Option Value} {base : Heap} {f C CR CN : Addr} {fd : FuncData}
/-- the terms so far -/
def Chosen (n : Nat) (D : Addr) (T : Tm) (H : Hp) : Prop := ∃ xs, H D = some (.lst xs) ∧ xs.length = T.q ∧ TmOk n T ∧ ∀ t x, xs[t]? = some x → PairR (T.j t) (T.c t) x H
def Tm.more (T : Tm) (j : Nat) (c : Int) : Tm := ⟨T.q + 1, fun t => if t = T.q then j else T.j t, fun t => if t = T.q then c else T.c t⟩
theorem Chosen.more {n : Nat} {D : Addr} {T : Tm} {H : Hp} {xs : List V} {a : Addr} {j : Nat} {c : Int} (hD : H D = some (.lst xs)) (hl : xs.length = T.q) (ok : TmOk n T) (hi : ∀ t x, xs[t]? = some x → PairR (T.j t) (T.c t) x H)
    (ha : H a = some (.tup [.str (pn j), .int c])) (hj : j < n) (hc : c.natAbs ≤ 9) (hq : T.q < 12) : Chosen n D (T.more j c) (upd H D (.lst (xs ++ [.ref a]))) := by
  have k : Kp [D] H (upd H D (.lst (xs ++ [.ref a]))) := .set hD rfl (by simp)
  refine ⟨_, upd_same, by rw [List.length_append, hl]; rfl, ⟨fun t ht => ?_, fun t ht => ?_, hq⟩, fun t x hx => ?_⟩
  · show (if t = T.q then j else T.j t) < n
    by_cases e : t = T.q
    · rw [if_pos e]; exact hj
    · rw [if_neg e]; exact ok.j t (by have : t < T.q + 1 := ht; omega)
  · show (if t = T.q then c else T.c t).natAbs ≤ 9
    by_cases e : t = T.q
    · rw [if_pos e]; exact hc
    · rw [if_neg e]; exact ok.c t (by have : t < T.q + 1 := ht; omega)
  · show PairR (if t = T.q then j else T.j t) (if t = T.q then c else T.c t) x _
    by_cases q : t < xs.length
    · rw [List.getElem?_append_left q] at hx
      have e : t ≠ T.q := by omega
      rw [if_neg e, if_neg e]
      exact PairR.mono _ _ _ _ k (hi t x hx)
    · have hb := (List.getElem?_eq_some_iff.mp hx).1
      rw [List.length_append] at hb
      have e : t = xs.length := by simp at hb; omega
      subst e
      rw [List.getElem?_append_right (Nat.le_refl _)] at hx
      simp at hx
      rw [if_pos hl, if_pos hl, ← hx]
      exact ⟨a, rfl, k.imm _ _ rfl ha⟩
theorem Chosen.keep {n : Nat} {D : Addr} {T : Tm} {H H' : Hp} {S : List Addr} (h : Chosen n D T H) (k : Kp S H H') (hn : D ∉ S) : Chosen n D T H' :=
  let ⟨xs, h1, h2, h3, h4⟩ := h; ⟨xs, k.out _ _ hn h1, h2, h3, fun t x hx => PairR.mono _ _ _ _ k (h4 t x hx)⟩
theorem Kp.back {S : List Addr} {H H1 H2 : Hp} {D : Addr} (hD : H D = none) (k : Kp S H H1) (k2 : Kp [D] H1 H2) : Kp S H H2 :=
  ⟨fun a o n e => k2.out a o (by simpa using ne_of_none e hD) (k.out a o n e), fun a o n e => k2.imm a o n (k.imm a o n e)⟩
theorem scTerms : FnScope ["_law_state_here", "_law_names_here", "_law_chosen", "_law_name", "_law_coefficient"] ["_law_state_here", "_law_names_here"] (defScope sTerms) := ⟨rfl, rfl, rfl, by decide +kernel, rfl, by decide +kernel, by decide +kernel⟩
theorem ok_terms (F : Fun K "_law_terms" "_law_terms" sTerms f fd) (B : BTxt mg) (GD : FnAt P w K mg base "_law_draw" 1 ["_law_state_here", "_law_many"] spDraw) : FnOk P w K mg base CX0 2 f fd ["_law_state_here", "_law_names_here"] spTerms := by
  refine F.ok scTerms (fun vs H Q E h => ?_) (fun cdv A outer s H vs Q E hr h => ?_)
  · obtain ⟨st, dl, ln, n, rfl, _⟩ := h
    rfl
  · obtain ⟨st, dl, ln, n, rfl, n1, n5, hln, hne, hst, ret⟩ := h
    refine ⟨_, pss_cons (ps_set (i := 2) scTerms.nd rfl (Or.inl rfl) (pe_lst pa_nil))
      (pss_cons (ps_for PassesOwn.never rfl (pi_list (pv 1)) (pg_name (i := 3) scTerms.nd rfl (Or.inl rfl))
        (pss_one (ps_if (PW.pt (pw_and (pt_cmpR op_gt (pe_fn GD hr (pa_cons (pv 0) (pa_cons pe_int pa_nil))) pe_int (nomark _)) (pw_and1 (pt_cmpR op_lt (pe_callB1 call_lenS (by rfl) B.len PySem.boot_len (pv 2)) pe_int (nomark _)))))
          (pss_cons (ps_set (i := 4) scTerms.nd rfl (Or.inl rfl) (pe_ix ix_tup (pe_tup (pa_cons pe_int (pa_cons (pe_un un_neg pe_int) (pa_cons pe_int (pa_cons (pe_un un_neg pe_int) (pa_cons pe_int (pa_cons (pe_un un_neg pe_int) (pa_cons pe_int (pa_cons (pe_un un_neg pe_int) pa_nil)))))))))
            (pe_fn GD hr (pa_cons (pv 0) (pa_cons pe_int pa_nil))) (fun _ _ => rfl)))
          (pss_one (ps_expr (pe_bm PySem.F.plainAttrs_list PySem.F.slot_list_append PySem.F.type_list_append mt_append (pv 2) (pa_cons (pe_tup (pa_cons (pv 3) (pa_cons (pv 4) pa_nil))) pa_nil))))) pss_nil)))
      (pss_cons (ps_if (pt_cmpR op_eq (pe_callB1 call_lenS (by rfl) B.len PySem.boot_len (pv 2)) pe_int (nomark _))
        (pss_one (ps_expr (pe_bm PySem.F.plainAttrs_list PySem.F.slot_list_append PySem.F.type_list_append mt_append (pv 2) (pa_cons (pe_tup (pa_cons (pe_ix ix_list (pv 1) pe_int (fun _ _ => rfl)) (pa_cons pe_int pa_nil))) pa_nil)))) pss_nil)
      (pss_one (ps_ret (pe_callTy call_tuple_of (by rfl) B.tuple boot_tuple' (pa_cons (pv 2) pa_nil)))))), ?_⟩
    refine ⟨Nat.zero_le _, fun D hD => ?_⟩
    have kD : Kp [] H (upd H D (.lst [])) := .new hD
    have dst : D ≠ st := (hst.ne hD).1.symm
    have ddl : D ≠ dl := (hst.ne hD).2.symm
    refine ⟨_, rfl, ln, rfl, ⟨_, SqL.of (kD.all _ _ hln)⟩, ?_⟩
    -- the end: what is chosen becomes a tuple
    have fin : ∀ (T : Tm) (H' : Hp), Kp [st] H H' → StAt st dl H' → Chosen n D T H' → ∃ p ys, [V.ref D] = [V.ref p] ∧ ((SqL K H' p ys ∧ ∀ l, H' l = none → Q (.ref l) (upd H' l (.tup ys))) ∨ (SqT K H' p ys ∧ Q (.ref p) H')) := fun T H' k s ⟨xs, c1, c2, c3, c4⟩ =>
      ⟨D, xs, rfl, .inl ⟨SqL.of c1, fun l hf => ret _ T _ (LstR.tup (fun _ => PairR.mono) c2 c4 hf) c3 (k.trans (.new hf)) (s.kp (.new hf))⟩⟩
    refine for_list (K := K) (a := ln) (xs := pts n) (fun i σ H' => ∃ (x y : Option V) (T : Tm), σ = [some (.ref st), some (.ref ln), some (.ref D), x, y] ∧ Kp [st] H H' ∧ StAt st dl H' ∧ T.q ≤ 4 ∧ Chosen n D T H')
      ⟨none, none, ⟨0, fun _ => 0, fun _ => 0⟩, rfl, kD.any, hst.kp kD, by decide, [], upd_same, rfl, ⟨fun t ht => absurd ht (by simp), fun t ht => absurd ht (by simp), by decide⟩, fun t x hx => by simp at hx⟩
      (fun i σ H' _ ⟨_, _, _, _, k, _⟩ => SqL.of (k.out _ _ (by simpa using hne) hln)) ?_ ?_
    · rintro i x σ H' hx ⟨x0, y0, T, rfl, k, s1, hq, ch⟩
      have hi : i < n := by have := (List.getElem?_eq_some_iff.mp hx).1; rw [pts_len] at this; exact this
      rw [pts_get hi] at hx
      cases hx
      refine ⟨_, rfl, st, dl, 3, rfl, by decide, s1, fun d H1 d0 d1 k1 s2 => ⟨_, _, rfl, rfl, _, rfl, ite2 (fun _ => ?_) (fun _ => ?_)⟩⟩
      · have ch1 := ch.keep k1 (by simpa using dst)
        obtain ⟨xs, c1, c2, c3, c4⟩ := ch1
        refine ⟨_, rfl, D, xs, rfl, .inl (SqL.of c1), _, _, rfl, rfl, _, rfl, ite2 (fun hlt => ?_) (fun _ => ?_)⟩
        · refine ⟨_, rfl, _, rfl, _, rfl, _, rfl, (by show 8 ≤ sizeLine; decide), fun t ht => ?_⟩
          have kt : Kp [] H1 (upd H1 t (.tup [.int 1, .int (-1), .int 1, .int (-1), .int 2, .int (-3), .int 9, .int (-9)])) := .new ht
          refine ⟨_, rfl, st, dl, 8, rfl, by decide, s2.kp kt, fun e H2 e0 e1 k2 s3 => ?_⟩
          have ht2 : H2 t = some (.tup [.int 1, .int (-1), .int 1, .int (-1), .int 2, .int (-3), .int 9, .int (-9)]) := k2.imm _ _ rfl upd_same
          obtain ⟨c, hc, hc9⟩ : ∃ c : Int, atI [V.int 1, .int (-1), .int 1, .int (-1), .int 2, .int (-3), .int 9, .int (-9)] e = some (.int c) ∧ c.natAbs ≤ 9 := by
            obtain ⟨m, rfl⟩ : ∃ m : Nat, e = (m : Int) := ⟨e.toNat, by omega⟩
            have hm : m < 8 := by omega
            match m, hm with
            | 0, _ => exact ⟨1, atI_nat rfl, by decide⟩
            | 1, _ => exact ⟨-1, atI_nat rfl, by decide⟩
            | 2, _ => exact ⟨1, atI_nat rfl, by decide⟩
            | 3, _ => exact ⟨-1, atI_nat rfl, by decide⟩
            | 4, _ => exact ⟨2, atI_nat rfl, by decide⟩
            | 5, _ => exact ⟨-3, atI_nat rfl, by decide⟩
            | 6, _ => exact ⟨9, atI_nat rfl, by decide⟩
            | 7, _ => exact ⟨-9, atI_nat rfl, by decide⟩
            | m + 8, h => omega
          refine ⟨t, _, _, _, rfl, rfl, SqT.of ht2, hc, ?_⟩
          have kk := (k.trans k1).trans (kt.any.trans k2)
          have c1' : H2 D = some (.lst xs) := k2.out _ _ (by simpa using dst) (kt.all _ _ c1)
          refine ⟨_, rfl, .inl ⟨rfl, _, SqL.of c1'⟩, _, rfl, _, rfl, (by show 2 ≤ sizeLine; decide), fun u hu => ?_⟩
          have ku : Kp [] H2 (upd H2 u (.tup [.str (pn i), .int c])) := .new hu
          refine ⟨D, xs, _, rfl, rfl, ku.all _ _ c1', (by rw [c2]; exact sz12 (by omega)), ?_⟩
          have hxl : xs.length < 4 := by have := of_decide_eq_true hlt; omega
          have cm := Chosen.more (T := T) (j := i) (c := c) (ku.all _ _ c1') c2 c3 (fun t' x' hx' => PairR.mono _ _ _ _ ku (PairR.mono _ _ _ _ k2 (PairR.mono _ _ _ _ kt (c4 t' x' hx')))) (upd_same (a := u)) hi hc9 (by omega)
          have kset : Kp [D] (upd H2 u (.tup [.str (pn i), .int c])) (upd (upd H2 u (.tup [.str (pn i), .int c])) D (.lst (xs ++ [.ref u]))) := .set (ku.all _ _ c1') rfl (by simp)
          exact ⟨_, _, T.more i c, rfl, Kp.back hD (kk.trans ku.any) kset, (s3.kp ku).keep kset (by simpa using dst.symm) (by simpa using ddl.symm), (by show T.q + 1 ≤ 4; omega), cm⟩
        · exact ⟨_, _, T, rfl, k.trans k1, s2, hq, xs, c1, c2, c3, c4⟩
      · exact ⟨_, _, T, rfl, k.trans k1, s2, hq, ch.keep k1 (by simpa using dst)⟩
    · rintro σ H' ⟨x0, y0, T, rfl, k, s1, hq, ch⟩
      obtain ⟨xs, c1, c2, c3, c4⟩ := id ch
      refine ⟨_, rfl, D, xs, rfl, .inl (SqL.of c1), rfl, _, rfl, ite2 (fun h0 => ?_) (fun _ => ?_)⟩
      · have hl' : H' ln = some (.lst (pts n)) := k.out _ _ (by simpa using hne) hln
        refine ⟨_, rfl, .inl ⟨rfl, _, SqL.of c1⟩, _, rfl, ln, _, 0, _, rfl, rfl, SqL.of hl', atI_nat (j := 0) (pts_get (show 0 < n by omega)), (by show 2 ≤ sizeLine; decide), fun u hu => ?_⟩
        have ku : Kp [] H' (upd H' u (.tup [.str (pn 0), .int 1])) := .new hu
        refine ⟨D, xs, _, rfl, rfl, ku.all _ _ c1, (by rw [c2]; exact sz12 (by omega)), ?_⟩
        have cm := Chosen.more (T := T) (j := 0) (c := 1) (ku.all _ _ c1) c2 c3 (fun t' x' hx' => PairR.mono _ _ _ _ ku (c4 t' x' hx')) (upd_same (a := u)) (show 0 < n by omega) (by decide) (by omega)
        have kset : Kp [D] (upd H' u (.tup [.str (pn 0), .int 1])) (upd (upd H' u (.tup [.str (pn 0), .int 1])) D (.lst (xs ++ [.ref u]))) := .set (ku.all _ _ c1) rfl (by simp)
        exact ⟨_, rfl, fin _ _ (Kp.back hD (k.trans ku.any) kset) ((s1.kp ku).keep kset (by simpa using dst.symm) (by simpa using ddl.symm)) cm⟩
      · exact ⟨_, rfl, fin T _ k s1 ch⟩
theorem scWeight : FnScope ["_law_state_here"] ["_law_state_here"] (defScope sWeight) := ⟨rfl, rfl, rfl, by decide +kernel, rfl, by decide +kernel, by decide +kernel⟩
theorem wok_int {z : Int} (h0 : 0 < z) (h : z ≤ 70) : WOk (z : Rat) := ⟨z * 28, by rw [Rat.intCast_mul], by omega, Nat.le_trans (show (z * 28).natAbs ≤ 2000 by omega) (by decide)⟩
theorem wok_div {t b c : Int} (h0 : 0 < t) (hb : b ≠ 0) (hbc : b * c = 28) (h1 : 0 < t * c) (h : (t * c).natAbs ≤ 2 ^ 11) : WOk (Rat.divInt t b) := by
  refine ⟨t * c, ?_, h1, h⟩
  have hb0 : ((b : Int) : Rat) ≠ 0 := fun q => hb (Rat.intCast_eq_zero_iff.mp q)
  rw [Rat.divInt_eq_div, ← hbc, Rat.intCast_mul, Rat.intCast_mul]
  grind
theorem ok_weight (F : Fun K "_law_weight" "_law_weight" sWeight f fd) (T : RKit P w K mg base C) (GD : FnAt P w K mg base "_law_draw" 1 ["_law_state_here", "_law_many"] spDraw) : FnOk P w K mg base CX0 36 f fd ["_law_state_here"] (spWeight C) := by
  refine F.ok scWeight (fun vs H Q E h => ?_) (fun cdv A outer s H vs Q E hr h => ?_)
  · obtain ⟨st, dl, rfl, _⟩ := h
    rfl
  · obtain ⟨st, dl, rfl, hst, ret⟩ := h
    have h1 : Room 1 _ := hr.mono (by decide : 1 ≤ 35)
    refine ⟨_, pss_one (ps_ret (pe_ix ix_tup (pe_tup (pa_cons (pe_mk1 T hr pe_int) (pa_cons (pe_mk1 T hr pe_int) (pa_cons (pe_mk2 T hr pe_int pe_int) (pa_cons (pe_mk2 T hr pe_int pe_int)
      (pa_cons (pe_mk2 T hr (pe_op op_add pe_int (pe_fn GD h1 (pa_cons (pv 0) (pa_cons pe_int pa_nil)))) pe_int) pa_nil)))))) (pe_fn GD h1 (pa_cons (pv 0) (pa_cons pe_int pa_nil))) (fun _ _ => rfl))), ?_⟩
    refine ⟨1, rfl, fun v1 H1 k1 r1 => ⟨2, rfl, fun v2 H2 k2 r2 => ⟨1, 2, rfl, rfl, by decide, fun v3 H3 k3 r3 => ⟨3, 4, rfl, rfl, by decide, fun v4 H4 k4 r4 => ?_⟩⟩⟩⟩
    have s4 : StAt st dl H4 := (((hst.kp k1).kp k2).kp k3).kp k4
    refine ⟨_, rfl, st, dl, 500, rfl, by decide, s4, fun d H5 d0 d1 k5 s5 => ?_⟩
    refine ⟨_, _, rfl, rfl, 1 + d, 7, rfl, rfl, by decide, fun v6 H6 k6 r6 => ⟨(by show 5 ≤ sizeLine; decide), fun t ht => ?_⟩⟩
    have kt : Kp [] H6 (upd H6 t (.tup [v1, v2, v3, v4, v6])) := .new ht
    refine ⟨_, rfl, st, dl, 5, rfl, by decide, (s5.kp k6).kp kt, fun e H7 e0 e1 k7 s7 => ?_⟩
    have ht7 : H7 t = some (.tup [v1, v2, v3, v4, v6]) := k7.imm _ _ rfl upd_same
    have kk : Kp [st] H H7 := ((((k1.trans k2).trans (k3.trans k4)).any.trans k5).trans (k6.trans kt).any).trans k7
    have k67 : Kp [st] H6 H7 := kt.any.trans k7
    have k47 : Kp [st] H4 H7 := (k5.trans k6.any).trans k67
    have k37 : Kp [st] H3 H7 := k4.any.trans k47
    have k27 : Kp [st] H2 H7 := k3.any.trans k37
    have k17 : Kp [st] H1 H7 := k2.any.trans k27
    obtain ⟨m, rfl⟩ : ∃ m : Nat, e = (m : Int) := ⟨e.toNat, by omega⟩
    have hm : m < 5 := by omega
    match m, hm with
    | 0, _ => exact ⟨t, _, _, v1, rfl, rfl, SqT.of ht7, atI_nat rfl, ret v1 _ H7 (wok_int (z := 1) (by decide) (by decide)) (RV.mono _ _ _ _ k17 r1) kk s7⟩
    | 1, _ => exact ⟨t, _, _, v2, rfl, rfl, SqT.of ht7, atI_nat rfl, ret v2 _ H7 (wok_int (z := 2) (by decide) (by decide)) (RV.mono _ _ _ _ k27 r2) kk s7⟩
    | 2, _ => exact ⟨t, _, _, v3, rfl, rfl, SqT.of ht7, atI_nat rfl, ret v3 _ H7 (wok_div (c := 14) (by decide) (by decide) (by decide) (by decide) (by decide)) (RV.mono _ _ _ _ k37 r3) kk s7⟩
    | 3, _ => exact ⟨t, _, _, v4, rfl, rfl, SqT.of ht7, atI_nat rfl, ret v4 _ H7 (wok_div (c := 7) (by decide) (by decide) (by decide) (by decide) (by decide)) (RV.mono _ _ _ _ k47 r4) kk s7⟩
    | 4, _ => exact ⟨t, _, _, v6, rfl, rfl, SqT.of ht7, atI_nat rfl, ret v6 _ H7 (wok_div (c := 4) (by omega) (by decide) (by decide) (by omega) (Nat.le_trans (show ((1 + d) * 4).natAbs ≤ 2000 by omega) (by decide))) (RV.mono _ _ _ _ k67 r6) kk s7⟩
    | m + 5, h => omega
theorem scReading : FnScope ["_law_state_here", "_law_names_here", "_law_count"] ["_law_state_here", "_law_names_here", "_law_count"] (defScope sReading) := ⟨rfl, rfl, rfl, by decide +kernel, rfl, by decide +kernel, by decide +kernel⟩
theorem nat_log (k : Nat) (h : k < 9) : ((k : Nat) : Int).natAbs.log2 < 1920 := by
  have : ((k : Nat) : Int).natAbs.log2 ≤ 4 := log2_lt_of (by omega)
  omega
theorem rn_len : ∀ k, k < 9 → ("r" : Str).length + (toString ((k : Nat) : Int) : Str).length ≤ sizeLine := by decide +kernel
theorem pn_len : ∀ k, k < 9 → ("p" : Str).length + (toString ((k : Nat) : Int) : Str).length ≤ sizeLine := by decide +kernel
theorem ok_reading {fI : Addr} {fdI : FuncData} (F : Fun K "_law_reading" "_law_reading" sReading f fd) (B : BTxt mg) (N : NTxt K mg CR CN) (M : Mk K CR fI) (GI : FnOk P w K mg base CX0 1 fI fdI ["self", "name", "terms", "value", "weight"] (spRdInit C CR)) (bI : Binds K fdI ["self", "name", "terms", "value", "weight"] [])
    (GT : FnAt P w K mg base "_law_terms" 2 ["_law_state_here", "_law_names_here"] spTerms) (GR : FnAt P w K mg base "_law_ratio" 36 ["_law_state_here"] (spRatio C)) (GW : FnAt P w K mg base "_law_weight" 36 ["_law_state_here"] (spWeight C)) :
    FnOk P w K mg base CX0 37 f fd ["_law_state_here", "_law_names_here", "_law_count"] (spReading C CR) := by
  refine F.ok scReading (fun vs H Q E h => ?_) (fun cdv A outer s H vs Q E hr h => ?_)
  · obtain ⟨st, dl, ln, n, k, rfl, _⟩ := h
    rfl
  · obtain ⟨st, dl, ln, n, k, rfl, n1, n5, hk, hln, hne, hst, ret⟩ := h
    refine ⟨_, pss_one (ps_ret (pe_make M GI (hr.mono (by decide)) (by rfl) N.mgR bI .nil pass0 (pa_cons (pe_op op_add_str pe_str (pe_callTy1 call_str_int (by rfl) B.str boot_str' (pv 2)))
      (pa_cons (pe_fn GT (hr.mono (by decide)) (pa_cons (pv 0) (pa_cons (pv 1) pa_nil))) (pa_cons (pe_fn GR hr (pa_cons (pv 0) pa_nil)) (pa_cons (pe_fn GW hr (pa_cons (pv 0) pa_nil)) pa_nil)))))), ?_⟩
    refine ⟨_, rfl, _, rfl, nat_log k hk, _, _, rfl, rfl, rn_len k hk, ?_⟩
    refine ⟨_, rfl, _, rfl, st, dl, ln, n, rfl, n1, n5, hln, hne, hst, fun vt T H1 t1 ok1 k1 s1 => ?_⟩
    refine ⟨_, rfl, st, dl, rfl, s1, fun vv v H2 c2 r2 k2 s2 => ?_⟩
    refine ⟨_, rfl, st, dl, rfl, s2, fun vw w' H3 w3 r3 k3 s3 => ?_⟩
    intro x dx nx ndx nex
    have kx : Kp [] H3 (upd (upd H3 dx (.own x)) x (.ins CR dx [])) := (Kp.new ndx).new' (by rw [upd_ne nex.symm]; exact nx)
    have k12 := k2.trans k3
    refine ⟨x, dx, T, v, w', k, vt, vv, vw, rfl, upd_same, TmR.mono _ _ _ _ (k12.trans kx.any) t1, RV.mono _ _ _ _ (k3.trans kx.any) r2, RV.mono _ _ _ _ kx r3, fun H4 k4 r4 => ⟨rfl, ?_⟩⟩
    have k34 : Kp [] H3 H4 := ⟨fun a o _ e => k4.out a o (by simpa using ne_of_none e nx) (kx.all a o e), fun a o i e => k4.imm a o i (kx.all a o e)⟩
    exact ret _ T v w' H4 r4 ok1 c2 w3 ((k1.trans k12).trans k34.any) (s3.kp k34)
theorem scNames : FnScope ["_law_state_here", "_law_most", "_law_k"] ["_law_state_here", "_law_most"] (defScope sNames) := ⟨rfl, rfl, rfl, by decide +kernel, rfl, by decide +kernel, by decide +kernel⟩
theorem ok_names (F : Fun K "_law_names" "_law_names" sNames f fd) (B : BTxt mg) (GD : FnAt P w K mg base "_law_draw" 1 ["_law_state_here", "_law_many"] spDraw) : FnOk P w K mg base CX0 2 f fd ["_law_state_here", "_law_most"] spNames := by
  refine F.ok scNames (fun vs H Q E h => ?_) (fun cdv A outer s H vs Q E hr h => ?_)
  · obtain ⟨st, dl, most, rfl, _⟩ := h
    rfl
  · obtain ⟨st, dl, most, rfl, m0, m5, hst, ret⟩ := h
    refine ⟨_, pss_one (ps_ret (pe_lc (own := [("_law_k", 2)]) (g := gName 2) (tt := tYes) rfl scNames.nd (pi_range1 rfl B.range (pa_cons (pe_op op_add pe_int (pe_fn GD hr (pa_cons (pv 0) (pa_cons (pv 1) pa_nil)))) pa_nil))
      (blkOk_by (N := ["_law_state_here", "_law_most", "_law_k"]) (sc := defScope sNames) (by decide +kernel)) (fun _ _ _ _ _ => pg_name (i := 2) scNames.nd rfl (Or.inl rfl)) (fun _ _ _ _ _ => pts_nil)
      (fun _ _ _ _ _ => pe_op op_add_str pe_str (pe_callTy1 call_str_int (by rfl) B.str boot_str' (pv 2))))), ?_⟩
    refine ⟨_, rfl, _, rfl, st, dl, most, rfl, m0, hst, fun d H1 d0 d1 k1 s1 => ⟨_, _, rfl, rfl, 1 + d, rfl, by omega, by omega, fun D hD => ?_⟩⟩
    refine lcR_range (R := fun i v _ => v = .str (pn i)) (fun _ _ _ _ _ _ e => e) hD (sz12 (by omega)) (fun i H2 Q2 hi k2 q2 => ⟨rfl, _, rfl, _, rfl, ?_⟩) (gName_mono 2) (fun H2 k2 l2 => ?_)
    · rw [Int.zero_add]
      exact ⟨nat_log i (by omega), _, _, rfl, rfl, pn_len i (by omega), q2 _ H2 (Kp.refl _ _) rfl⟩
    · obtain ⟨vs, hv, hl, hi⟩ := l2
      obtain ⟨m, rfl⟩ : ∃ m : Nat, d = (m : Int) := ⟨d.toNat, by omega⟩
      have em : (1 + (m : Int)).toNat = m + 1 := by omega
      have eq : vs = pts (m + 1) := by
        refine List.ext_getElem? fun i => ?_
        by_cases h : i < m + 1
        · obtain ⟨x, hx⟩ := get_of (hl.trans em) h
          rw [hx, pts_get h, hi i x hx]
        · rw [List.getElem?_eq_none (by rw [hl, em]; omega), List.getElem?_eq_none (by rw [pts_len]; omega)]
      have kk : Kp [st] H H2 := k1.trans k2.any
      refine ret D (m + 1) H2 (by omega) (by omega) (by rw [← eq]; exact hv) ?_ ?_ kk (s1.kp k2)
      · cases e : H D with
        | none => rfl
        | some o =>
          by_cases hs : D = st
          · subst hs
            obtain ⟨_, _, _, z, _⟩ := s1
            rw [hD] at z; cases z
          · rw [k1.out D o (by simpa using hs) e] at hD; cases hD
      · intro e
        subst e
        obtain ⟨_, _, _, z, _⟩ := s1
        rw [hD] at z; cases z
end
end PN

/-! The law's own helpers: rows, squares, distances. -/
namespace PN
open PySem L2 PyProof.Rows
theorem sum_c1 {k : Nat} {f : Nat → Rat} : ∀ {m : Nat}, (∀ t, t < m → C1 k (f t)) → C1 (m * (k + 1)) (S m f)
  | 0, _ => C1.up (k := 0) (C1.int (z := 0) (by decide)) (by omega)
  | m + 1, h => (C1.add (sum_c1 fun t ht => h t (by omega)) (h m (by omega))).up (by rw [Nat.succ_mul]; omega)
/-- a list of Readings -/
structure RdsAt (C CR : Addr) (n m : Nat) (Ts : Nat → Tm) (V W : Nat → Rat) (lr : Addr) (H : Hp) : Prop where
  ex : ∃ rvs, H lr = some (.lst rvs) ∧ rvs.length = m ∧ ∀ t x, rvs[t]? = some x → RdR C CR (Ts t) (V t) (W t) t x H
  ok : ∀ t, t < m → TmOk n (Ts t) ∧ C1 19 (V t) ∧ WOk (W t)
theorem RdsAt.keep {C CR : Addr} {n m : Nat} {Ts : Nat → Tm} {V W : Nat → Rat} {lr : Addr} {H H' : Hp} {S : List Addr} (h : RdsAt C CR n m Ts V W lr H) (k : Kp S H H') (hn : lr ∉ S) : RdsAt C CR n m Ts V W lr H' :=
  ⟨let ⟨rvs, h1, h2, h3⟩ := h.ex; ⟨rvs, k.out _ _ hn h1, h2, fun t x hx => RdR.mono _ _ _ _ k (h3 t x hx)⟩, h.ok⟩
def spSquares (C CR : Addr) : Sp := fun vs H Q _ => ∃ ln lr vh n m Ts V W h k, vs = [.ref ln, .ref lr, vh] ∧ n ≤ 5 ∧ m ≤ 7 ∧ H ln = some (.lst (pts n)) ∧ RdsAt C CR n m Ts V W lr H ∧ SV C n h vh H ∧ Cd n k h ∧ 14 * k + 2000 < 60000000 ∧
  Ret H Q (RV C (sqs n m (fun t => rowF (Ts t)) V W h))
def spDistance (C : Addr) : Sp := fun vs H Q _ => ∃ va vb n f g ka kb, vs = [va, vb] ∧ n ≤ 5 ∧ SV C n f va H ∧ SV C n g vb H ∧ Cd n ka f ∧ Cd n kb g ∧ 10 * ka + 10 * kb + 100 < 60000000 ∧ Ret H Q (RV C (dist n f g))
section
variable {P : Program} {w : World} {K : PySem.W.Frag} {mg : Str → Option Value} {base : Heap} {f C CR CN : Addr} {fd : FuncData}
theorem scLRow : FnScope ["_law_names_here", "_law_reading_here", "_law_name", "_law_row_here", "_law_coefficient"] ["_law_names_here", "_law_reading_here"] (defScope sLRow) := ⟨rfl, rfl, rfl, by decide +kernel, rfl, by decide +kernel, by decide +kernel⟩
theorem ok_lrow (F : Fun K "_law_row" "_law_row" sLRow f fd) (T : RKit P w K mg base C) (B : BTxt mg) (N : NTxt K mg CR CN) : FnOk P w K mg base CX0 37 f fd ["_law_names_here", "_law_reading_here"] (spLRow C CR) := by
  refine F.ok scLRow (fun vs H Q E h => ?_) (fun cdv A outer s H vs Q E hr h => ?_)
  · obtain ⟨ln, n, rd, Tm, v, w', k, rfl, _⟩ := h
    rfl
  · obtain ⟨lp, n, rd, Tm, v, w', k, rfl, hn, hlp, ⟨ar, dr, tt, vv, vw, rfl, hrd, ⟨at', ts, rfl, hat, hlt, hit⟩, _, _⟩, hT, ret⟩ := h
    have h35 : Room 35 _ := hr.mono (by decide : 35 ≤ 36)
    refine ⟨_, pss_cons (ps_setLc (i := 3) (own := [("_law_name", 2)]) (g := gName 2) (tt := tYes) rfl scLRow.nd rfl rfl (sw_true rfl rfl rfl (by decide +kernel)) (pi_list (pv 0)) (blkOk_by (N := ["_law_names_here", "_law_reading_here", "_law_name", "_law_row_here", "_law_coefficient"]) (sc := defScope sLRow) (by decide +kernel))
        (fun _ _ _ _ _ => pg_name (i := 2) scLRow.nd rfl (Or.inl rfl)) (fun _ _ _ _ _ => pts_nil) (fun _ _ _ _ _ => pe_mk1 T h35 pe_int))
      (pss_cons (ps_for PassesOwn.never rfl (pi_tup (pe_fld (pv 1) rfl)) (pg_tup rfl (pgs_cons (pg_name (i := 2) scLRow.nd rfl (Or.inl rfl)) (pgs_cons (pg_name (i := 4) scLRow.nd rfl (Or.inl rfl)) pgs_nil)))
        (pss_one (ps_asg (pe_mk1 T h35 (pv 4)) (pg_sub (pv 3) (pe_bm PySem.F.plainAttrs_list PySem.F.slot_list_index PySem.F.type_list_index mt_index (pv 0) (pa_cons (pv 2) pa_nil)) set_list))))
      (pss_one (ps_ret (pe_callTy call_tuple_of (by rfl) B.tuple boot_tuple' (pa_cons (pv 3) pa_nil))))), ?_⟩
    refine ⟨_, rfl, lp, rfl, ⟨_, SqL.of hlp⟩, fun D hD => ?_⟩
    refine lcR_list (R := fun _ => RV C 0) (fun _ => RV.mono) hD hlp (by rw [pts_len]; exact sz12 (by omega)) (fun i x H1 Q1 hx k1 q1 => ⟨rfl, 0, rfl, q1⟩) (gName_mono 2) (fun H1 k1 l1 => ?_)
    rw [pts_len] at l1
    refine ⟨_, rfl, ar, CR, dr, _, _, rfl, k1.all _ _ hrd, N.clR, N.rd _ (by decide +kernel), rd_look (i := 1), at', rfl, ⟨_, SqT.of (k1.all _ _ hat)⟩, ?_⟩
    refine for_tup (K := K) (a := at') (xs := ts) (fun t σ H' => (∃ x z, σ = [some (.ref lp), some (.ref ar), x, some (.ref D), z]) ∧ Kp [] H H' ∧ LstR (fun i => RV C (rowK Tm t i)) n D H') ⟨⟨none, none, rfl⟩, k1, l1⟩
      (fun t σ H' _ ⟨_, k2, _⟩ => SqT.of (k2.all _ _ hat)) ?_ ?_
    · rintro t x σ H' hx ⟨⟨x0, z0, rfl⟩, k2, l2⟩
      have ht : t < Tm.q := by have := (List.getElem?_eq_some_iff.mp hx).1; omega
      obtain ⟨ap, rfl, hap⟩ := hit t x hx
      refine ⟨ap, [.str (pn (Tm.j t)), .int (Tm.c t)], rfl, SqT.of (k2.all _ _ hap), rfl, _, _, rfl, _, _, rfl, rfl, ?_⟩
      refine ⟨_, rfl, Tm.c t, rfl, fun v3 H3 k3 r3 => ?_⟩
      have k4 := k2.trans k3
      refine ⟨_, rfl, _, rfl, .inl ⟨rfl, _, SqL.of (k4.all _ _ hlp)⟩, _, rfl, ?_⟩
      dsimp only [tNil]
      refine pts_index hn (hT.j t ht) (k4.all _ _ hlp) ?_
      obtain ⟨zs, hz1, hz2, hz3⟩ := l2
      refine ⟨D, zs, _, Tm.j t, rfl, rfl, k3.all _ _ hz1, ixN_nat (by rw [hz2]; exact hT.j t ht), ?_⟩
      refine ⟨⟨_, _, rfl⟩, k4.fresh hD, LstR.put (fun _ => RV.mono) (k3.all _ _ hz1) hz2 (fun i y hy hne => ?_) ?_⟩
      · show RV C (if i = Tm.j t then (Tm.c t : Rat) else rowK Tm t i) y H3
        rw [if_neg hne]
        exact RV.mono _ _ _ _ k3 (hz3 i y hy)
      · show RV C (if Tm.j t = Tm.j t then (Tm.c t : Rat) else rowK Tm t (Tm.j t)) v3 H3
        rw [if_pos rfl]
        exact r3
    · rintro σ H' ⟨⟨x0, z0, rfl⟩, k2, l2⟩
      rw [hlt] at l2
      obtain ⟨zs, hz1, hz2, hz3⟩ := l2
      exact ⟨_, rfl, D, zs, rfl, .inl ⟨SqL.of hz1, fun l hf => ret _ _ (k2.new' hf) (LstR.tup (fun _ => RV.mono) hz2 hz3 hf)⟩⟩
theorem scSquares : FnScope ["_law_names_here", "_law_readings", "_law_heights", "_law_total", "_law_reading_here", "_law_misfit"] ["_law_names_here", "_law_readings", "_law_heights"] (defScope sSquares) := ⟨rfl, rfl, rfl, by decide +kernel, rfl, by decide +kernel, by decide +kernel⟩
theorem ok_squares (F : Fun K "_law_squares" "_law_squares" sSquares f fd) (T : RKit P w K mg base C) (N : NTxt K mg CR CN) (GR : FnAt P w K mg base "_law_row" 37 ["_law_names_here", "_law_reading_here"] (spLRow C CR))
    (GD : FnAt P w K mg base "_law_dot" 37 ["_law_first", "_law_second"] (spLDot C)) : FnOk P w K mg base CX0 38 f fd ["_law_names_here", "_law_readings", "_law_heights"] (spSquares C CR) := by
  refine F.ok scSquares (fun vs H Q E h => ?_) (fun cdv A outer s H vs Q E hr h => ?_)
  · obtain ⟨ln, lr, vh, n, m, Ts, V', W', h', k, rfl, _⟩ := h
    rfl
  · obtain ⟨ln, lr, vh, n, m, Ts, V', W', h', k, rfl, n5, m7, hln, ⟨⟨rvs, hlr, hl, hi⟩, hok⟩, hh, ch, hk, ret⟩ := h
    have h36 : Room 36 _ := hr.mono (by decide : 36 ≤ 37)
    refine ⟨_, pss_cons (ps_set (i := 3) scSquares.nd rfl (Or.inl rfl) (pe_mk1 T (hr.mono (by decide)) pe_int))
      (pss_cons (ps_for PassesOwn.never rfl (pi_list (pv 1)) (pg_name (i := 4) scSquares.nd rfl (Or.inl rfl))
        (pss_cons (ps_set (i := 5) scSquares.nd rfl (Or.inl rfl) (pe_op (op_subR T h36) (pe_fn GD hr (pa_cons (pe_fn GR hr (pa_cons (pv 0) (pa_cons (pv 4) pa_nil))) (pa_cons (pv 2) pa_nil))) (pe_fld (pv 4) rfl)))
        (pss_one (ps_set (i := 3) scSquares.nd rfl (Or.inl rfl) (pe_op (op_addR T h36) (pv 3) (pe_op (op_mulR T h36) (pe_op (op_mulR T h36) (pe_fld (pv 4) rfl) (pv 5)) (pv 5)))))))
      (pss_one (ps_ret (pv 3)))), ?_⟩
    refine ⟨0, rfl, fun v0 H0 k0 r0 => ?_⟩
    refine ⟨_, rfl, lr, rfl, ⟨_, SqL.of (k0.all _ _ hlr)⟩, ?_⟩
    have cm : ∀ t, t < m → C1 (4 + k + n + 19 + 1) (dot n (rowF (Ts t)) h' - V' t) := fun t ht => C1.sub ((rowF_ok (hok t ht).1).cd.dot ch) (hok t ht).2.1
    have cwm : ∀ t, t < m → C1 (11 + (4 + k + n + 19 + 1)) (W' t * (dot n (rowF (Ts t)) h' - V' t)) := fun t ht => C1.mul (hok t ht).2.2.c1 (cm t ht)
    have cwmm : ∀ t, t < m → C1 (2 * k + 69) (W' t * (dot n (rowF (Ts t)) h' - V' t) * (dot n (rowF (Ts t)) h' - V' t)) := fun t ht => (C1.mul (cwm t ht) (cm t ht)).up (by omega)
    have ctot : ∀ i, i ≤ m → C1 (14 * k + 490) (S i fun t => W' t * (dot n (rowF (Ts t)) h' - V' t) * (dot n (rowF (Ts t)) h' - V' t)) := fun i hi' => (sum_c1 fun t ht => cwmm t (by omega)).up (Nat.le_trans (Nat.mul_le_mul_right _ (show i ≤ 7 by omega)) (by omega))
    refine for_list (K := K) (a := lr) (xs := rvs) (fun i σ H' => ∃ (v : V) (x y : Option V), σ = [some (.ref ln), some (.ref lr), some vh, some v, x, y] ∧ Kp [] H H' ∧ RV C (S i fun t => W' t * (dot n (rowF (Ts t)) h' - V' t) * (dot n (rowF (Ts t)) h' - V' t)) v H')
      ⟨v0, none, none, rfl, k0, r0⟩ (fun i σ H' _ ⟨_, _, _, _, kk, _⟩ => SqL.of (kk.all _ _ hlr)) ?_ ?_
    · rintro i x σ H' hx ⟨v, x0, y0, rfl, kk, r⟩
      have hi' : i < m := by have := (List.getElem?_eq_some_iff.mp hx).1; omega
      have hrd := RdR.mono _ _ _ _ kk (hi i x hx)
      obtain ⟨ar, dr, vt, vv, vw, rfl, hrd0, hrt, hrv, hrw⟩ := id hrd
      obtain ⟨hT, cv, ww⟩ := hok i hi'
      refine ⟨_, rfl, _, rfl, ln, n, _, Ts i, V' i, W' i, i, rfl, n5, kk.all _ _ hln, hrd, hT, fun v1 H1 k1 t1 => ?_⟩
      refine ⟨_, rfl, _, _, n, rowF (Ts i), h', 4, k, rfl, by omega, TV.sv t1, hh.kp (kk.trans k1), (rowF_ok hT).cd, ch, by omega, fun v2 H2 k2 t2 => ?_⟩
      have k12 := k1.trans k2
      refine ⟨_, rfl, ar, CR, dr, _, _, rfl, k12.all _ _ hrd0, N.clR, N.rd _ (by decide +kernel), rd_look (i := 2), ?_⟩
      refine ⟨_, V' i, t2, RV.mono _ _ _ _ k12 hrv, ((rowF_ok hT).cd.dot ch).big (by omega), cv.big (by decide), fun v3 H3 k3 t3 => ?_⟩
      have k13 := k12.trans k3
      refine ⟨_, rfl, _, rfl, ar, CR, dr, _, _, rfl, k13.all _ _ hrd0, N.clR, N.rd _ (by decide +kernel), rd_look (i := 3), _, rfl, ?_⟩
      refine ⟨W' i, _, RV.mono _ _ _ _ k13 hrw, t3, ww.c1.big (by decide), (cm i hi').big (by omega), fun v4 H4 k4 t4 => ?_⟩
      refine ⟨_, rfl, _, _, t4, RV.mono _ _ _ _ k4 t3, (cwm i hi').big (by omega), (cm i hi').big (by omega), fun v5 H5 k5 t5 => ?_⟩
      have k15 := (k13.trans k4).trans k5
      refine ⟨_, _, RV.mono _ _ _ _ k15 r, t5, (ctot i (by omega)).big (by omega), (cwmm i hi').big (by omega), fun v6 H6 k6 t6 => ?_⟩
      exact ⟨v6, _, _, rfl, (kk.trans k15).trans k6, t6⟩
    · rintro σ H' ⟨v, x0, y0, rfl, kk, r⟩
      rw [hl] at r
      exact ⟨_, rfl, ret v H' kk r⟩
theorem scDistance : FnScope ["_law_first", "_law_second", "_law_total", "_law_k"] ["_law_first", "_law_second"] (defScope sDistance) := ⟨rfl, rfl, rfl, by decide +kernel, rfl, by decide +kernel, by decide +kernel⟩
theorem ok_distance (F : Fun K "_law_distance" "_law_distance" sDistance f fd) (T : RKit P w K mg base C) (B : BTxt mg) : FnOk P w K mg base CX0 37 f fd ["_law_first", "_law_second"] (spDistance C) := by
  refine F.ok scDistance (fun vs H Q E h => ?_) (fun cdv A outer s H vs Q E hr h => ?_)
  · obtain ⟨va, vb, n, f, g, ka, kb, rfl, _⟩ := h
    rfl
  · obtain ⟨va, vb, n, f, g, ka, kb, rfl, hn, ta, tb, ca, cb, hk, ret⟩ := h
    refine ⟨_, pss_cons (ps_set (i := 2) scDistance.nd rfl (Or.inl rfl) (pe_mk1 T (hr.mono (by decide)) pe_int))
      (pss_cons (ps_for PassesOwn.never rfl (pi_range1 rfl B.range (pa_cons (pe_callB1 call_lenS (by rfl) B.len PySem.boot_len (pv 0)) pa_nil)) (pg_name (i := 3) scDistance.nd rfl (Or.inl rfl))
        (pss_one (ps_set (i := 2) scDistance.nd rfl (Or.inl rfl) (pe_op (op_addR T hr) (pv 2) (pe_op (op_mulR T hr) (pe_op (op_subR T hr) (pe_ix ix_seq (pv 0) (pv 3) (fun _ _ => rfl)) (pe_ix ix_seq (pv 1) (pv 3) (fun _ _ => rfl)))
          (pe_op (op_subR T hr) (pe_ix ix_seq (pv 0) (pv 3) (fun _ _ => rfl)) (pe_ix ix_seq (pv 1) (pv 3) (fun _ _ => rfl))))))))
      (pss_one (ps_ret (pv 2)))), ?_⟩
    have cd : ∀ i, i < n → C1 (ka + kb + 1) (f i - g i) := fun i hi => C1.sub (ca.at hi) (cb.at hi)
    have cdd : ∀ i, i < n → C1 (2 * (ka + kb + 1)) ((f i - g i) * (f i - g i)) := fun i hi => (C1.mul (cd i hi) (cd i hi)).up (by omega)
    have ctot : ∀ i, i ≤ n → C1 (10 * ka + 10 * kb + 15) (S i fun i => (f i - g i) * (f i - g i)) := fun i hi => (sum_c1 fun t ht => cdd t (by omega)).up (Nat.le_trans (Nat.mul_le_mul_right _ (show i ≤ 5 by omega)) (by omega))
    refine ⟨0, rfl, fun v0 H0 k0 r0 => ?_⟩
    refine ⟨_, rfl, (ta.kp k0).len ?_⟩
    refine ⟨((n : Nat) : Int), rfl, by omega, by omega, ?_⟩
    rw [Int.toNat_natCast]
    refine for_range (lo := 0) (n := n) (fun i σ H' => ∃ (v : V) (x : Option V), σ = [some va, some vb, some v, x] ∧ Kp [] H H' ∧ RV C (S i fun i => (f i - g i) * (f i - g i)) v H') ⟨v0, none, rfl, k0, r0⟩ ?_ ?_
    · rintro i σ H' hi ⟨v, x, rfl, k, r⟩
      refine ⟨_, rfl, _, rfl, _, rfl, ?_⟩
      rw [Int.zero_add]
      refine (ta.kp k).ix hi fun x1 hx1 => ⟨_, rfl, _, rfl, (tb.kp k).ix hi fun y1 hy1 => ?_⟩
      refine ⟨f i, g i, hx1, hy1, ca.big (by omega) hi, cb.big (by omega) hi, fun v1 H1 k1 r1 => ?_⟩
      refine ⟨_, rfl, _, rfl, (ta.kp (k.trans k1)).ix hi fun x2 hx2 => ⟨_, rfl, _, rfl, (tb.kp (k.trans k1)).ix hi fun y2 hy2 => ?_⟩⟩
      refine ⟨f i, g i, hx2, hy2, ca.big (by omega) hi, cb.big (by omega) hi, fun v2 H2 k2 r2 => ?_⟩
      refine ⟨_, _, RV.mono _ _ _ _ k2 r1, r2, (cd i hi).big (by omega), (cd i hi).big (by omega), fun v3 H3 k3 r3 => ?_⟩
      have k13 := (k1.trans k2).trans k3
      refine ⟨_, _, RV.mono _ _ _ _ k13 r, r3, (ctot i (by omega)).big (by omega), (cdd i hi).big (by omega), fun v4 H4 k4 r4 => ?_⟩
      exact ⟨v4, _, rfl, (k.trans k13).trans k4, r4⟩
    · rintro σ H' ⟨v, x, rfl, k, r⟩
      exact ⟨_, rfl, ret v H' k r⟩
end
end PN

/-! Sizes through the law's own elimination. -/
namespace PN
def swp (F : Nat → Nat → Rat) (f at' : Nat) : Nat → Nat → Rat := fun t => if t = at' then F f else if t = f then F at' else F t
def leadR (F : Nat → Nat → Rat) (f j : Nat) : Nat → Rat := fun i => F f i / F f j
def elim (F : Nat → Nat → Rat) (at' j : Nat) (l : Nat → Rat) : Nat → Nat → Rat := fun t => if t = at' then l else fun i => F t i - F t j * l i
theorem swp_cd {m n k : Nat} {F : Nat → Nat → Rat} {f at' : Nat} (h : Cdm m n k F) (hf : f < m) (ha : at' < m) : Cdm m n k (swp F f at') := by
  obtain ⟨D, d1, d2, d3⟩ := h
  refine ⟨D, d1, d2, fun t i ht hi => ?_⟩
  unfold swp
  by_cases e : t = at'
  · rw [if_pos e]; exact d3 f i hf hi
  · rw [if_neg e]
    by_cases e2 : t = f
    · rw [if_pos e2]; exact d3 at' i ha hi
    · rw [if_neg e2]; exact d3 t i ht hi
theorem elim_cd {m n k : Nat} {F : Nat → Nat → Rat} {f at' j : Nat} (h : Cdm m n k F) (hf : f < m) (ha : at' < m) (hj : j < n) (h0 : F f j ≠ 0) : Cdm m n (2 * k + 2) (elim (swp F f at') at' j (leadR F f j)) := by
  obtain ⟨D, d1, d2, d3⟩ := swp_cd h hf ha
  have eL : ∀ i, swp F f at' at' i = F f i := fun i => by unfold swp; rw [if_pos rfl]
  obtain ⟨z, ez, hz⟩ := d3 at' j ha hj
  rw [eL] at ez
  have hD : (D : Rat) ≠ 0 := fun q => by have := Rat.intCast_eq_zero_iff.mp q; omega
  have z0 : z ≠ 0 := fun q => by
    subst q
    rcases Rat.mul_eq_zero.mp ez with q | q
    · exact h0 q
    · exact hD q
  have hz0 : (z : Rat) ≠ 0 := fun q => z0 (Rat.intCast_eq_zero_iff.mp q)
  -- the sign of z is put into a positive denominator
  obtain ⟨y, y1, y2, y3⟩ : ∃ y : Int, 0 < y ∧ y.natAbs ≤ 2 ^ k ∧ (y = z ∨ y = -z) := by
    by_cases hp : 0 < z
    · exact ⟨z, hp, hz, .inl rfl⟩
    · exact ⟨-z, by omega, by rw [Int.natAbs_neg]; exact hz, .inr rfl⟩
  have hl : ∀ i, i < n → Fr y (2 ^ k) (leadR F f j i) := fun i hi => by
    obtain ⟨x, ex, hx⟩ := d3 at' i ha hi
    rw [eL] at ex
    rcases y3 with e | e
    · refine ⟨x, ?_, hx⟩
      unfold leadR
      rw [e, ← ex, ← ez]; grind
    · refine ⟨-x, ?_, by rw [Int.natAbs_neg]; exact hx⟩
      unfold leadR
      rw [e, Rat.intCast_neg, Rat.intCast_neg, ← ex, ← ez]; grind
  have hB : (D * y).natAbs ≤ 2 ^ (2 * k + 2) := by rw [Int.natAbs_mul]; exact p2up (p2m d2 y2) (by omega)
  refine ⟨D * y, pos_mul d1 y1, hB, fun t i ht hi => ?_⟩
  unfold elim
  by_cases e : t = at'
  · rw [if_pos e, Int.mul_comm]
    refine ((hl i hi).wide D).up (p2up (p2m (Nat.le_refl _) d2) (by omega))
  · rw [if_neg e]
    have q1 := (d3 t i ht hi).wide y
    have q2 := (d3 t j ht hj).mul (hl i hi)
    refine (q1.sub q2).up (p2up (p2a (a := 2 * k) ?_ ?_) (by omega))
    · exact p2up (p2m (Nat.le_refl _) y2) (by omega)
    · exact p2up (p2m (Nat.le_refl (2 ^ k)) (Nat.le_refl (2 ^ k))) (by omega)
def kR : Nat → Nat
  | 0 => 4
  | j + 1 => 2 * kR j + 2
theorem kR_le : ∀ j, j ≤ 5 → kR j ≤ 190 := by decide
theorem kR_up (j : Nat) : kR j ≤ kR (j + 1) := by show kR j ≤ 2 * kR j + 2; omega
theorem cdm_rows {n m : Nat} {A : Nat → Nat → Rat} (h : ∀ t, t < m → RowOk n (A t)) : Cdm m n 4 A := ⟨1, by decide, by decide, fun t i ht hi => h t ht i hi⟩
end PN

/-! The law's own elimination. -/
namespace PN
open PySem L2 PyProof.Rows
def rLstOf (K : PySem.W.Frag) : List V → Hp → VK → Prop := fun xs H Q => ∃ p ys, xs = [.ref p] ∧ (SqL K H p ys ∨ SqT K H p ys) ∧ ∀ l, H l = none → Q (.ref l) (upd H l (.lst ys))
theorem call_lstK {X : Cx} : CallR X (.type "list") (rLstOf X.K) := call_list_of
/-- xs[i], the written part named -/
theorem pe_ixK (K : PySem.W.Frag) {X : Cx} {a b : Expr} {ta tb : TE} {pos : Pos} (ha : PE X a ta) (hb : PE X b tb) (hs : PlainIx b) (hK : X.K = K := by rfl) : PE X (.Subscript a b pos) (tOp (rIxL K) ta tb) := by
  subst hK
  exact pe_ix ix_list ha hb hs
/-- x.f, the written part named -/
theorem pe_fldK (K : PySem.W.Frag) {X : Cx} {e : Expr} {ta : TE} {f : Str} {pos : Pos} (he : PE X e ta) (hb : attributeBase e f X.env (eval e X.env) = eval e X.env := by rfl) (hK : X.K = K := by rfl) : PE X (.Attribute e f pos) (tFld K ta f) := by
  subst hK
  exact pe_fld he hb
/-- a row as a list that is none of Z -/
def RowX (Z : List Addr) (C : Addr) (n : Nat) (f : Nat → Rat) : V → Hp → Prop := fun v H => ∃ b vs, v = .ref b ∧ b ∉ Z ∧ H b = some (.lst vs) ∧ vs.length = n ∧ ∀ i x, vs[i]? = some x → RV C (f i) x H
theorem RowX.keep {Z S : List Addr} {C : Addr} {n : Nat} {f : Nat → Rat} {v : V} {H H' : Hp} (h : RowX Z C n f v H) (k : Kp S H H') (hS : ∀ s ∈ S, s ∈ Z) : RowX Z C n f v H' :=
  let ⟨b, vs, e, hb, h1, h2, h3⟩ := h; ⟨b, vs, e, hb, k.out _ _ (fun z => hb (hS _ z)) h1, h2, fun i x hx => RV.mono _ _ _ _ k (h3 i x hx)⟩
theorem RowX.kp {Z : List Addr} {C : Addr} {n : Nat} {f : Nat → Rat} {v : V} {H H' : Hp} (h : RowX Z C n f v H) (k : Kp [] H H') : RowX Z C n f v H' := h.keep k (by simp)
structure RowsAt (Z : List Addr) (C : Addr) (n m : Nat) (F : Nat → Nat → Rat) (R0 : Addr) (H : Hp) : Prop where
  ex : ∃ rs, H R0 = some (.lst rs) ∧ rs.length = m ∧ ∀ t x, rs[t]? = some x → RowX Z C n (F t) x H
theorem RowsAt.kp {Z : List Addr} {C : Addr} {n m : Nat} {F : Nat → Nat → Rat} {R0 : Addr} {H H' : Hp} (h : RowsAt Z C n m F R0 H) (k : Kp [] H H') : RowsAt Z C n m F R0 H' :=
  let ⟨rs, h1, h2, h3⟩ := h.ex; ⟨rs, k.all _ _ h1, h2, fun t x hx => (h3 t x hx).kp k⟩
theorem RowsAt.keep {Z S : List Addr} {C : Addr} {n m : Nat} {F : Nat → Nat → Rat} {R0 : Addr} {H H' : Hp} (h : RowsAt Z C n m F R0 H) (k : Kp S H H') (hS : ∀ s ∈ S, s ∈ Z) (hR : R0 ∉ S) : RowsAt Z C n m F R0 H' :=
  let ⟨rs, h1, h2, h3⟩ := h.ex; ⟨rs, k.out _ _ hR h1, h2, fun t x hx => (h3 t x hx).keep k hS⟩
theorem RowsAt.congr {Z : List Addr} {C : Addr} {n m : Nat} {F G : Nat → Nat → Rat} {R0 : Addr} {H : Hp} (h : RowsAt Z C n m F R0 H) (e : ∀ t, t < m → F t = G t) : RowsAt Z C n m G R0 H :=
  let ⟨rs, h1, h2, h3⟩ := h.ex; ⟨rs, h1, h2, fun t x hx => by rw [← e t (by have := (List.getElem?_eq_some_iff.mp hx).1; omega)]; exact h3 t x hx⟩
theorem RowsAt.set {Z : List Addr} {C : Addr} {n m k : Nat} {F : Nat → Nat → Rat} {g : Nat → Rat} {R0 : Addr} {H : Hp} {rs : List V} {y : V} (hR : R0 ∈ Z) (h1 : H R0 = some (.lst rs)) (h2 : rs.length = m) (h3 : ∀ t x, rs[t]? = some x → RowX Z C n (F t) x H) (hy : RowX Z C n g y H) :
    RowsAt Z C n m (fun t => if t = k then g else F t) R0 (upd H R0 (.lst (rs.set k y))) := by
  have kk : Kp [R0] H (upd H R0 (.lst (rs.set k y))) := .set h1 rfl (by simp)
  refine ⟨rs.set k y, upd_same, by rw [List.length_set, h2], fun t x hx => ?_⟩
  refine RowX.keep ?_ kk (by simpa using hR)
  by_cases e : t = k
  · subst e
    have hb := (List.getElem?_eq_some_iff.mp hx).1
    rw [List.length_set] at hb
    rw [List.getElem?_set_self hb] at hx
    cases hx
    rw [if_pos rfl]; exact hy
  · rw [List.getElem?_set_ne (Ne.symm e)] at hx
    rw [if_neg e]; exact h3 t x hx
/-- rows[t][i] -/
theorem RowsAt.ix {K : PySem.W.Frag} {Z : List Addr} {C : Addr} {n m t : Nat} {F : Nat → Nat → Rat} {R0 : Addr} {H : Hp} {Q : VK} (h : RowsAt Z C n m F R0 H) (ht : t < m) (q : ∀ x, RowX Z C n (F t) x H → Q x H) : rIxL K (.ref R0) (.int (t : Int)) H Q := by
  obtain ⟨rs, h1, h2, h3⟩ := h.ex
  obtain ⟨x, hx⟩ := get_of h2 ht
  exact ⟨R0, rs, _, x, rfl, rfl, SqL.of h1, atI_nat hx, q x (h3 t x hx)⟩
theorem RowX.ix {K : PySem.W.Frag} {Z : List Addr} {C : Addr} {n i : Nat} {f : Nat → Rat} {v : V} {H : Hp} {Q : VK} (h : RowX Z C n f v H) (hi : i < n) (q : ∀ x, RV C (f i) x H → Q x H) : rIxL K v (.int (i : Int)) H Q := by
  obtain ⟨b, vs, rfl, hb, h1, h2, h3⟩ := h
  obtain ⟨x, hx⟩ := get_of h2 hi
  exact ⟨b, vs, _, x, rfl, rfl, SqL.of h1, atI_nat hx, q x (h3 i x hx)⟩
/-- .. on from what is known of the step -/
theorem RowsAt.ixm {K : PySem.W.Frag} {R0 : Addr} {t : Int} {H : Hp} {Q Q' : VK} (h : rIxL K (.ref R0) (.int t) H Q') (i : ∀ v H', Q' v H' → Q v H') : rIxL K (.ref R0) (.int t) H Q :=
  let ⟨p, xs, j, v, e1, e2, s, a, q⟩ := h; ⟨p, xs, j, v, e1, e2, s, a, i _ _ q⟩
def spReduced (C : Addr) : Sp := fun vs H Q _ => ∃ (L : Addr) (n m : Nat) (A : Nat → Nat → Rat), vs = [.ref L, .int ((n : Nat) : Int)] ∧ n ≤ 5 ∧ m ≤ 7 ∧ LstR (fun t => TV C n (A t)) m L H ∧ (∀ t, t < m → RowOk n (A t)) ∧
  ∀ (r fm pv : Addr) (np : Nat) (F : Nat → Nat → Rat) (pvs : List Int) H', Kp [] H H' → H' r = some (.lst [.ref fm, .ref pv]) → MV C np n F (.ref fm) H' → H' pv = some (.tup (pvs.map V.int)) → pvs.length = np → np ≤ 7 → (∀ q ∈ pvs, 0 ≤ q ∧ q < (n : Int)) → Cdm np n 190 F → Q (.ref r) H'
section
variable {P : Program} {w : World} {K : PySem.W.Frag} {mg : Str → Option Value} {base : Heap} {f C CR CN : Addr} {fd : FuncData}
abbrev nRed : List Str := ["_law_matrix", "_law_width", "_law_rows", "_law_pivots", "_law_j", "_law_at", "_law_k", "_law_found", "_law_lead", "_law_factor", "_law_row_here", "_law_one", "_law_i"]
theorem scReduced : FnScope nRed ["_law_matrix", "_law_width"] (defScope sReduced) := ⟨rfl, rfl, rfl, by decide +kernel, rfl, by decide +kernel, by decide +kernel⟩
theorem ok_reduced (F : Fun K "_law_reduced" "_law_reduced" sReduced f fd) (T : RKit P w K mg base C) (B : BTxt mg) : FnOk P w K mg base CX0 37 f fd ["_law_matrix", "_law_width"] (spReduced C) := by
  refine F.ok scReduced (fun vs H Q E h => ?_) (fun cdv A outer s H vs Q E hr h => ?_)
  · obtain ⟨L, n, m, A', rfl, _⟩ := h
    rfl
  · obtain ⟨L, n, m, A', rfl, n5, m7, ⟨ms, hL, hml, hmi⟩, hA, ret⟩ := h
    refine ⟨_, pss_cons (ps_set (i := 2) scReduced.nd rfl (Or.inr rfl) (pe_lc (own := [("_law_row_here", 10)]) (g := gName 10) (tt := tYes) rfl scReduced.nd (pi_list (pv 0)) (blkOk_by (N := nRed) (sc := defScope sReduced) (by decide +kernel))
        (fun _ _ _ _ _ => pg_name (i := 10) scReduced.nd rfl (Or.inl rfl)) (fun _ _ _ _ _ => pts_nil) (fun _ _ _ _ _ => pe_callTy1 (r := rLstOf K) call_lstK (by rfl) B.list boot_list' (pv 10))))
      (pss_cons (ps_set (i := 3) scReduced.nd rfl (Or.inl rfl) (pe_lst pa_nil))
      (pss_cons (ps_for PassesOwn.never rfl (pi_range1 rfl B.range (pa_cons (pv 1) pa_nil)) (pg_name (i := 4) scReduced.nd rfl (Or.inr rfl))
        (pss_cons (ps_set (i := 5) scReduced.nd rfl (Or.inr rfl) (pe_callB1 call_lenS (by rfl) B.len PySem.boot_len (pv 3)))
        (pss_cons (ps_setLc (i := 7) (own := [("_law_k", 6)]) (g := gName 6) rfl scReduced.nd rfl rfl (sw_true rfl rfl rfl (by decide +kernel)) (pi_range2 (by rfl) B.range (pa_cons (pv 5) (pa_cons (pe_callB1 call_lenS (by rfl) B.len PySem.boot_len (pv 2)) pa_nil)))
          (blkOk_by (N := nRed) (sc := defScope sReduced) (by decide +kernel)) (fun _ _ _ _ _ => pg_name (i := 6) scReduced.nd rfl (Or.inl rfl))
          (fun _ _ _ _ _ => pts_one (pt_cmpR op_ne (pe_fldK K (pe_ixK K (pe_ixK K (pv 2) (pv 6) (fun _ _ => rfl)) (pv 4) (fun _ _ => rfl))) pe_int (nomark _))) (fun _ _ _ _ _ => pv 6))
        (pss_one (ps_if (pt_cmpR op_gt (pe_callB1 call_lenS (by rfl) B.len PySem.boot_len (pv 7)) pe_int (nomark _))
          (pss_cons (ps_set (i := 8) scReduced.nd rfl (Or.inr rfl) (pe_ix ix_list (pv 2) (pe_ix ix_list (pv 7) pe_int (fun _ _ => rfl)) (fun _ _ => rfl)))
          (pss_cons (ps_asg (pe_ix ix_list (pv 2) (pv 5) (fun _ _ => rfl)) (pg_sub (pv 2) (pe_ix ix_list (pv 7) pe_int (fun _ _ => rfl)) set_list))
          (pss_cons (ps_asg (pe_lc (own := [("_law_one", 11)]) (g := gName 11) (tt := tYes) rfl scReduced.nd (pi_list (pv 8)) (blkOk_by (N := nRed) (sc := defScope sReduced) (by decide +kernel))
              (fun _ _ _ _ _ => pg_name (i := 11) scReduced.nd rfl (Or.inl rfl)) (fun _ _ _ _ _ => pts_nil) (fun _ _ _ _ _ => pe_overR T hr (pv 11) (pe_ixK K (pv 8) (pv 4) (fun _ _ => rfl)))) (pg_sub (pv 2) (pv 5) set_list))
          (pss_cons (ps_for PassesOwn.never rfl (pi_range1 rfl B.range (pa_cons (pe_callB1 call_lenS (by rfl) B.len PySem.boot_len (pv 2)) pa_nil)) (pg_name (i := 6) scReduced.nd rfl (Or.inr rfl))
            (pss_one (ps_if (pt_cmpR op_ne (pv 6) (pv 5) (nomark _))
              (pss_cons (ps_set (i := 9) scReduced.nd rfl (Or.inr rfl) (pe_ix ix_list (pe_ix ix_list (pv 2) (pv 6) (fun _ _ => rfl)) (pv 4) (fun _ _ => rfl)))
              (pss_one (ps_asg (pe_lc (own := [("_law_i", 12)]) (g := gName 12) (tt := tYes) rfl scReduced.nd (pi_range1 rfl B.range (pa_cons (pv 1) pa_nil)) (blkOk_by (N := nRed) (sc := defScope sReduced) (by decide +kernel))
                (fun _ _ _ _ _ => pg_name (i := 12) scReduced.nd rfl (Or.inl rfl)) (fun _ _ _ _ _ => pts_nil)
                (fun _ _ _ _ _ => pe_op (op_subR T hr) (pe_ixK K (pe_ixK K (pv 2) (pv 6) (fun _ _ => rfl)) (pv 12) (fun _ _ => rfl))
                  (pe_op (op_mulR T hr) (pv 9) (pe_ixK K (pe_ixK K (pv 2) (pv 5) (fun _ _ => rfl)) (pv 12) (fun _ _ => rfl))))) (pg_sub (pv 2) (pv 6) set_list)))) pss_nil)))
          (pss_one (ps_expr (pe_bm PySem.F.plainAttrs_list PySem.F.slot_list_append PySem.F.type_list_append mt_append (pv 3) (pa_cons (pv 4) pa_nil))))))))
          pss_nil)))))
      (pss_one (ps_ret (pe_lst (pa_cons (pe_callTy1 (r := rTup K) call_tupK (by rfl) B.tuple boot_tuple' (pe_lc (own := [("_law_k", 6)]) (g := gName 6) (tt := tYes) rfl scReduced.nd (pi_range1 rfl B.range (pa_cons (pe_callB1 call_lenS (by rfl) B.len PySem.boot_len (pv 3)) pa_nil))
          (blkOk_by (N := nRed) (sc := defScope sReduced) (by decide +kernel)) (fun _ _ _ _ _ => pg_name (i := 6) scReduced.nd rfl (Or.inl rfl)) (fun _ _ _ _ _ => pts_nil)
          (fun _ _ _ _ _ => pe_callTy1 (r := rTup K) call_tupK (by rfl) B.tuple boot_tuple' (pe_ixK K (pv 2) (pv 6) (fun _ _ => rfl)))))
        (pa_cons (pe_callTy1 (r := rTup K) call_tupK (by rfl) B.tuple boot_tuple' (pv 3)) pa_nil))))))), ?_⟩
    -- rows
    refine ⟨_, rfl, L, rfl, ⟨_, SqL.of hL⟩, fun R0 hR0 => ?_⟩
    refine lc_list (K := K) (a := L) (xs := ms) (fun i H' => Kp [] H H' ∧ RowsAt [R0] C n i A' R0 H') ⟨.new hR0, [], upd_same, rfl, fun t x hx => by simp at hx⟩ (fun i H' _ p => SqL.of (p.1.all _ _ hL)) ?_ ?_
    · rintro i x H' hx ⟨k, ⟨rs, h1, h2, h3⟩⟩
      have hi := (List.getElem?_eq_some_iff.mp hx).1
      obtain ⟨a, vs, rfl, ha, hl, hv⟩ := TV.mono _ _ _ _ k (hmi i x hx)
      refine ⟨rfl, yes_of ⟨_, rfl, a, vs, rfl, .inr (SqT.of ha), fun l hl' => ?_⟩⟩
      have kl : Kp [] H' (upd H' l (.lst vs)) := .new hl'
      have nl : l ≠ R0 := (ne_of_none h1 hl').symm
      have g1 : upd H' l (.lst vs) R0 = some (.lst rs) := kl.all _ _ h1
      refine ⟨rs, g1, (by rw [h2]; exact sz12 (by omega)), (k.trans kl).fresh hR0, ?_⟩
      have kR : Kp [R0] (upd H' l (.lst vs)) (upd (upd H' l (.lst vs)) R0 (.lst (rs ++ [.ref l]))) := .set g1 rfl (by simp)
      have hrow : RowX [R0] C n (A' i) (.ref l) (upd H' l (.lst vs)) := ⟨l, vs, rfl, by simpa using nl, upd_same, hl, fun i' x' hx' => RV.mono _ _ _ _ kl (hv i' x' hx')⟩
      refine ⟨rs ++ [.ref l], upd_same, by rw [List.length_append, h2]; rfl, fun t x' hx' => RowX.keep ?_ kR (by simp)⟩
      by_cases q : t < rs.length
      · rw [List.getElem?_append_left q] at hx'; exact (h3 t x' hx').kp kl
      · have hb := (List.getElem?_eq_some_iff.mp hx').1
        rw [List.length_append] at hb
        have e : t = rs.length := by simp at hb; omega
        subst e
        rw [List.getElem?_append_right (Nat.le_refl _)] at hx'
        simp at hx'
        rw [← hx', h2]; exact hrow
    rintro H1 ⟨k1, rows1⟩
    rw [hml] at rows1
    -- pivots
    refine ⟨Nat.zero_le _, fun Pv hPv => ?_⟩
    have kP : Kp [] H1 (upd H1 Pv (.lst [])) := .new hPv
    have nP : R0 ≠ Pv := by obtain ⟨rs, h1, _⟩ := rows1.ex; exact ne_of_none h1 hPv
    have rows2 : RowsAt [R0, Pv] C n m A' R0 (upd H1 Pv (.lst [])) := by
      obtain ⟨rs, h1, h2, h3⟩ := rows1.ex
      refine ⟨rs, kP.all _ _ h1, h2, fun t x hx => ?_⟩
      obtain ⟨b, vs, e, hb, g1, g2, g3⟩ := h3 t x hx
      refine RowX.kp ⟨b, vs, e, ?_, g1, g2, g3⟩ kP
      have nb : b ≠ Pv := ne_of_none g1 hPv
      simp at hb ⊢
      exact ⟨hb, nb⟩
    have fPv : H Pv = none := k1.free hPv
    have RZ : R0 ∈ [R0, Pv] := by simp
    have PZ : Pv ∈ [R0, Pv] := by simp
    refine ⟨_, rfl, ((n : Nat) : Int), rfl, by omega, by omega, ?_⟩
    rw [Int.toNat_natCast]
    refine for_range (lo := 0) (n := n) (fun j σ H' => ∃ (s4 s5 s6 s7 s8 s9 : Option V) (F : Nat → Nat → Rat) (pvs : List Int), σ = [some (.ref L), some (.int ((n : Nat) : Int)), some (.ref R0), some (.ref Pv), s4, s5, s6, s7, s8, s9, none, none, none] ∧ Kp [] H H' ∧
        RowsAt [R0, Pv] C n m F R0 H' ∧ H' Pv = some (.lst (pvs.map V.int)) ∧ pvs.length ≤ j ∧ pvs.length ≤ m ∧ (∀ q ∈ pvs, 0 ≤ q ∧ q < (n : Int)) ∧ Cdm m n (kR j) F)
      ⟨_, _, _, _, _, _, A', [], rfl, k1.trans kP, rows2, upd_same, Nat.zero_le _, Nat.zero_le _, fun q hq => absurd hq (by simp), cdm_rows hA⟩ ?_ ?_
    · rintro j σ H' hj ⟨s4, s5, s6, s7, s8, s9, F, pvs, rfl, k, rows, hP, hpj, hpm, hpq, cF⟩
      have hk190 : kR j ≤ 190 := kR_le j (by omega)
      rw [Int.zero_add]
      -- at
      refine ⟨_, rfl, Pv, _, rfl, .inl (SqL.of hP), ?_⟩
      rw [List.length_map]
      -- found
      obtain ⟨rs, r1, r2, r3⟩ := rows.ex
      refine ⟨_, rfl, _, rfl, R0, rs, rfl, .inl (SqL.of r1), _, _, rfl, ⟨by omega, by omega, by omega, by omega⟩, fun D hD => ?_⟩
      have eq : (((rs.length : Nat) : Int) - ((pvs.length : Nat) : Int)).toNat = m - pvs.length := by omega
      rw [eq]
      refine lc_range (lo := ((pvs.length : Nat) : Int)) (n := m - pvs.length) (fun i H3 => Kp [] H' H3 ∧ ∃ ks : List Nat, H3 D = some (.lst (ks.map fun k => V.int ((k : Nat) : Int))) ∧ ks.length ≤ i ∧ ∀ k ∈ ks, pvs.length ≤ k ∧ k < m ∧ F k j ≠ 0)
        ⟨.new hD, [], upd_same, Nat.le_refl _, fun k hk => absurd hk (by simp)⟩ ?_ ?_
      · rintro i H3 hi ⟨k3, ks, hks, hkl, hkk⟩
        rw [← Int.natCast_add]
        refine ⟨rfl, _, rfl, _, rfl, (rows.kp k3).ix (by omega) fun x hx => ⟨_, rfl, hx.ix hj fun y hy => ?_⟩⟩
        obtain ⟨p, dx, rfl, hp⟩ := hy
        refine ⟨p, C, dx, _, _, rfl, hp, T.T.cl, T.T.nT, rfs_top _, rfl, _, rfl, ?_⟩
        by_cases h0 : F (pvs.length + i) j = 0
        · rw [show (!decide (V.int (F (pvs.length + i) j).num = V.int 0)) = false by rw [h0]; rfl]
          exact iteF ⟨k3, ks, hks, by omega, hkk⟩
        · rw [show (!decide (V.int (F (pvs.length + i) j).num = V.int 0)) = true by rw [decide_eq_false (fun q => num_ne h0 (V.int.inj q))]; rfl]
          refine iteT ⟨_, rfl, _, hks, (by rw [List.length_map]; exact sz12 (by omega)), k3.fresh hD, ks ++ [pvs.length + i], (by rw [upd_same, List.map_append]; rfl), (by rw [List.length_append, List.length_singleton]; omega), fun q hq => ?_⟩
          refine (List.mem_append.mp hq).elim (fun hq => ?_) fun hq => ?_
          · exact hkk q hq
          · have e := List.mem_singleton.mp hq
            subst e
            exact ⟨by omega, by omega, h0⟩
      rintro H3 ⟨k3, ks, hks, hkl, hkk⟩
      have kk3 := k.trans k3
      have rows3 := rows.kp k3
      have hP3 := k3.all _ _ hP
      -- if len(found) > 0
      refine ⟨_, rfl, D, _, rfl, .inl (SqL.of hks), _, _, rfl, rfl, _, rfl, ?_⟩
      rw [List.length_map]
      cases ks with
      | nil =>
        refine ite2 (fun z => ?_) (fun _ => ⟨_, _, _, _, _, _, F, pvs, rfl, kk3, rows3, hP3, by omega, hpm, hpq, cF.up (kR_up j)⟩)
        have := of_decide_eq_true z
        simp at this
      | cons k0 kt =>
        obtain ⟨k0a, k0m, k0n⟩ := hkk k0 (List.mem_cons_self)
        refine ite2 (fun _ => ?_) (fun z => absurd (decide_eq_true (show (0 : Int) < (((k0 :: kt).length : Nat) : Int) by rw [List.length_cons]; omega)) z)
        have ham : pvs.length < m := by omega
        have i0 : atI (List.map (fun k => V.int ((k : Nat) : Int)) (k0 :: kt)) 0 = some (.int ((k0 : Nat) : Int)) := atI_nat (j := 0) rfl
        -- lead
        refine ⟨_, rfl, _, rfl, D, _, 0, _, rfl, rfl, SqL.of hks, i0, rows3.ix k0m fun x0 hx0 => ?_⟩
        -- rows[found[0]] = rows[at]
        obtain ⟨rs3, t1, t2, t3⟩ := rows3.ex
        obtain ⟨xa, hxa⟩ := get_of t2 ham
        refine ⟨_, rfl, _, rfl, R0, rs3, _, xa, rfl, rfl, SqL.of t1, atI_nat hxa, ?_⟩
        refine ⟨_, rfl, _, rfl, D, _, 0, _, rfl, rfl, SqL.of hks, i0, R0, rs3, _, k0, rfl, rfl, t1, ixN_nat (by omega), ?_⟩
        have rows4 := RowsAt.set (k := k0) RZ t1 t2 t3 (t3 _ _ hxa)
        have k4 : Kp [R0] H3 (upd H3 R0 (.lst (rs3.set k0 xa))) := .set t1 rfl (by simp)
        have hx4 := hx0.keep k4 (by simp)
        have K4 : Kp [] H (upd H3 R0 (.lst (rs3.set k0 xa))) := kk3.fresh hR0
        have hP4 : upd H3 R0 (.lst (rs3.set k0 xa)) Pv = some (.lst (pvs.map V.int)) := k4.out _ _ (by simpa using nP.symm) hP3
        generalize upd H3 R0 (.lst (rs3.set k0 xa)) = H4 at rows4 k4 hx4 K4 hP4 ⊢
        obtain ⟨b0, vs0, rfl, hb0, g1, g2, g3⟩ := hx4
        -- rows[at] = [..]
        refine ⟨_, rfl, b0, rfl, ⟨_, SqL.of g1⟩, fun D2 hD2 => ?_⟩
        have cl : ∀ i, i < n → C1 (2 * kR j) (leadR F k0 j i) := fun i hi => (C1.div ((cF.row k0m).at hi) ((cF.row k0m).at hj) k0n).up (by omega)
        refine lcR_list (R := fun i => RV C (leadR F k0 j i)) (fun _ => RV.mono) hD2 g1 (by rw [g2]; exact sz12 (by omega)) (fun i x H5 Q5 hx k5 q5 => ?_) (gName_mono 11) (fun H5 k5 l5 => ?_)
        · have hi : i < n := by have := (List.getElem?_eq_some_iff.mp hx).1; omega
          have g1' := k5.all _ _ g1
          obtain ⟨xj, hxj⟩ := get_of g2 hj
          refine ⟨rfl, _, rfl, F k0 i, RV.mono _ _ _ _ k5 (g3 i x hx), _, rfl, _, rfl, b0, vs0, _, xj, rfl, rfl, SqL.of g1', atI_nat hxj, F k0 j, RV.mono _ _ _ _ k5 (g3 i x hx), RV.mono _ _ _ _ k5 (g3 j xj hxj),
            ((cF.row k0m).at hi).big (by omega), ((cF.row k0m).at hj).big (by omega), k0n, q5⟩
        rw [g2] at l5
        have rows5 := rows4.kp k5
        have hP5 := k5.all _ _ hP4
        obtain ⟨rs5, u1, u2, u3⟩ := rows5.ex
        obtain ⟨ys, y1, y2, y3⟩ := l5
        have hlead : RowX [R0, Pv] C n (leadR F k0 j) (.ref D2) H5 := by
          refine ⟨D2, ys, rfl, ?_, y1, y2, y3⟩
          obtain ⟨rs4, v1, _⟩ := rows4.ex
          have a1 : D2 ≠ R0 := (ne_of_none v1 hD2).symm
          have a2 : D2 ≠ Pv := (ne_of_none hP4 hD2).symm
          simp [a1, a2]
        refine ⟨_, rfl, _, rfl, R0, rs5, _, pvs.length, rfl, rfl, u1, ixN_nat (by omega), ?_⟩
        have rows6 := RowsAt.set (k := pvs.length) RZ u1 u2 u3 hlead
        have k6 : Kp [R0] H5 (upd H5 R0 (.lst (rs5.set pvs.length (.ref D2)))) := .set u1 rfl (by simp)
        have K6 : Kp [] H (upd H5 R0 (.lst (rs5.set pvs.length (.ref D2)))) := (K4.trans k5).fresh hR0
        have hP6 : upd H5 R0 (.lst (rs5.set pvs.length (.ref D2))) Pv = some (.lst (pvs.map V.int)) := k6.out _ _ (by simpa using nP.symm) hP5
        generalize upd H5 R0 (.lst (rs5.set pvs.length (.ref D2))) = H6 at rows6 k6 K6 hP6 ⊢
        -- the rows as they stand: F2
        obtain ⟨F2, hF2⟩ : ∃ F2 : Nat → Nat → Rat, F2 = fun t => if t = pvs.length then leadR F k0 j else if t = k0 then F pvs.length else F t := ⟨_, rfl⟩
        rw [← hF2] at rows6
        have F2a : F2 pvs.length = leadR F k0 j := by rw [hF2]; exact if_pos rfl
        have F2s : ∀ t, t ≠ pvs.length → F2 t = swp F k0 pvs.length t := fun t ht => by
          rw [hF2]; unfold swp
          show (if t = pvs.length then _ else _) = (if t = pvs.length then _ else _)
          rw [if_neg ht, if_neg ht]
        have c2 : ∀ t i, t < m → i < n → C1 400 (F2 t i) := fun t i ht hi => by
          by_cases e : t = pvs.length
          · rw [e, F2a]; exact (cl i hi).up (by omega)
          · rw [F2s t e]; exact (((swp_cd cF k0m ham).row ht).at hi).up (by omega)
        -- for k in range(len(rows))
        obtain ⟨rs6, w1, w2, w3⟩ := rows6.ex
        refine ⟨_, rfl, R0, rs6, rfl, .inl (SqL.of w1), ((m : Nat) : Int), (by rw [w2]), by omega, by omega, ?_⟩
        rw [Int.toNat_natCast]
        refine for_range (lo := 0) (n := m) (fun q σ H' => ∃ (s6 s9 : Option V), σ = [some (.ref L), some (.int ((n : Nat) : Int)), some (.ref R0), some (.ref Pv), some (.int ((j : Nat) : Int)), some (.int ((pvs.length : Nat) : Int)), s6, some (.ref D), some (.ref b0), s9, none, none, none] ∧ Kp [] H H' ∧
            RowsAt [R0, Pv] C n m (fun t => if t < q ∧ t ≠ pvs.length then (fun i => F2 t i - F2 t j * leadR F k0 j i) else F2 t) R0 H' ∧ H' Pv = some (.lst (pvs.map V.int)))
          ⟨_, _, rfl, K6, rows6.congr fun t ht => by rw [if_neg (by omega)], hP6⟩ ?_ ?_
        · rintro q σ H7 hq ⟨s6', s9', rfl, k7, rows7, hP7⟩
          rw [Int.zero_add]
          refine ⟨_, rfl, _, rfl, rfl, _, rfl, ?_⟩; by_cases e : q = pvs.length
          · rw [show (!decide (V.int ((q : Nat) : Int) = V.int ((pvs.length : Nat) : Int))) = false by rw [e]; simp]
            refine iteF ⟨_, _, rfl, k7, rows7.congr fun t ht => ?_, hP7⟩
            by_cases h : t < q ∧ t ≠ pvs.length
            · rw [if_pos h, if_pos ⟨by omega, h.2⟩]
            · rw [if_neg h, if_neg fun z => h ⟨by omega, z.2⟩]
          · rw [show (!decide (V.int ((q : Nat) : Int) = V.int ((pvs.length : Nat) : Int))) = true by rw [decide_eq_false fun z => e (by have := V.int.inj z; omega)]; rfl]
            refine iteT ?_
            have eqq : (if q < q ∧ q ≠ pvs.length then (fun i => F2 q i - F2 q j * leadR F k0 j i) else F2 q) = F2 q := if_neg (by omega)
            have eqa : (if pvs.length < q ∧ pvs.length ≠ pvs.length then (fun i => F2 pvs.length i - F2 pvs.length j * leadR F k0 j i) else F2 pvs.length) = leadR F k0 j := (if_neg (by omega)).trans F2a
            -- factor
            refine ⟨_, rfl, _, rfl, rows7.ix hq fun x hx => ⟨_, rfl, hx.ix hj fun vf hvf => ?_⟩⟩
            rw [eqq] at hvf
            -- rows[k] = [..]
            refine ⟨_, rfl, ((n : Nat) : Int), rfl, by omega, by omega, fun D3 hD3 => ?_⟩
            rw [Int.toNat_natCast]
            refine lcR_range (R := fun i => RV C (F2 q i - F2 q j * leadR F k0 j i)) (fun _ => RV.mono) hD3 (sz12 (by omega)) (fun i H8 Q8 hi k8 q8 => ?_) (gName_mono 12) (fun H8 k8 l8 => ?_)
            · rw [Int.zero_add]
              refine ⟨rfl, _, rfl, _, rfl, (rows7.kp k8).ix hq fun x1 hx1 => ⟨_, rfl, hx1.ix hi fun v1 hv1 => ?_⟩⟩
              rw [eqq] at hv1
              refine ⟨_, rfl, _, rfl, _, rfl, (rows7.kp k8).ix ham fun x2 hx2 => ⟨_, rfl, hx2.ix hi fun v2 hv2 => ?_⟩⟩
              rw [eqa] at hv2
              have cq := c2 q j hq hj
              have cli := (cl i hi).up (show 2 * kR j ≤ 400 by omega)
              refine ⟨F2 q j, leadR F k0 j i, RV.mono _ _ _ _ k8 hvf, hv2, cq.big (by decide), cli.big (by decide), fun v3 H9 k9 r9 => ?_⟩
              exact ⟨F2 q i, _, RV.mono _ _ _ _ k9 hv1, r9, (c2 q i hq hi).big (by decide), (C1.mul cq cli).big (by decide), fun v4 H10 k10 r10 => q8 v4 H10 (k9.trans k10) r10⟩
            obtain ⟨zs, z1, z2, z3⟩ := l8
            have hnew : RowX [R0, Pv] C n (fun i => F2 q i - F2 q j * leadR F k0 j i) (.ref D3) H8 := by
              refine ⟨D3, zs, rfl, ?_, z1, z2, z3⟩
              obtain ⟨rs7, v1, _⟩ := rows7.ex
              have a1 : D3 ≠ R0 := (ne_of_none v1 hD3).symm
              have a2 : D3 ≠ Pv := (ne_of_none hP7 hD3).symm
              simp [a1, a2]
            obtain ⟨rs8, o1, o2, o3⟩ := (rows7.kp k8).ex
            refine ⟨_, rfl, _, rfl, R0, rs8, _, q, rfl, rfl, o1, ixN_nat (by omega), ?_⟩
            have rows9 := RowsAt.set (k := q) RZ o1 o2 o3 hnew
            have k9 : Kp [R0] H8 (upd H8 R0 (.lst (rs8.set q (.ref D3)))) := .set o1 rfl (by simp)
            refine ⟨_, _, rfl, (k7.trans k8).fresh hR0, rows9.congr fun t ht => ?_, k9.out _ _ (by simpa using nP.symm) (k8.all _ _ hP7)⟩
            by_cases h1 : t = q
            · subst h1
              rw [if_pos rfl, if_pos ⟨by omega, e⟩]
            · rw [if_neg h1]
              by_cases h : t < q ∧ t ≠ pvs.length
              · rw [if_pos h, if_pos ⟨by omega, h.2⟩]
              · rw [if_neg h, if_neg fun z => h ⟨by omega, z.2⟩]
        · rintro σ H7 ⟨s6', s9', rfl, k7, rows7, hP7⟩
          refine ⟨_, rfl, .inl ⟨rfl, _, SqL.of hP7⟩, _, rfl, Pv, _, _, rfl, rfl, hP7, (by rw [List.length_map]; exact sz12 (by omega)), ?_⟩
          have k8 : Kp [Pv] H7 (upd H7 Pv (.lst (pvs.map V.int ++ [V.int ((j : Nat) : Int)]))) := .set hP7 rfl (by simp)
          refine ⟨_, _, _, _, _, _, elim (swp F k0 pvs.length) pvs.length j (leadR F k0 j), pvs ++ [((j : Nat) : Int)], rfl, k7.fresh fPv, ?_, (by rw [upd_same, List.map_append]; rfl), (by rw [List.length_append, List.length_singleton]; omega), (by rw [List.length_append, List.length_singleton]; omega), fun q hq => ?_, elim_cd cF k0m ham hj k0n⟩
          · refine (rows7.keep k8 (by simp) (by simpa using nP)).congr fun t ht => ?_
            unfold elim
            by_cases e : t = pvs.length
            · rw [if_neg (by omega), if_pos e, e, F2a]
            · rw [if_pos ⟨ht, e⟩, if_neg e, F2s t e]
          · refine (List.mem_append.mp hq).elim (fun hq => ?_) fun hq => ?_
            · exact hpq q hq
            · have e := List.mem_singleton.mp hq
              subst e
              omega
    · rintro σ H' ⟨s4, s5, s6, s7, s8, s9, F, pvs, rfl, k, rows, hP, hpj, hpm, hpq, cF⟩
      refine ⟨_, rfl, Pv, _, rfl, .inl (SqL.of hP), ((pvs.length : Nat) : Int), (by rw [List.length_map]), by omega, by omega, fun D hD => ?_⟩
      rw [Int.toNat_natCast]
      refine lcR_range (R := fun t => TV C n (F t)) (fun _ => TV.mono) hD (sz12 (by omega)) (fun i H2 Q2 hi k2 q2 => ?_) (gName_mono 6) (fun H2 k2 l2 => ?_)
      · rw [Int.zero_add]
        refine ⟨rfl, _, rfl, _, rfl, (rows.kp k2).ix (by omega) fun x hx => ?_⟩
        obtain ⟨b, vs, rfl, hb, g1, g2, g3⟩ := hx
        exact ⟨b, vs, rfl, .inl ⟨SqL.of g1, fun l hl => q2 _ _ (.new hl) (LstR.tup (fun _ => RV.mono) g2 g3 hl)⟩⟩
      · refine tup_doneK (fun _ => TV.mono) k2 l2 (fun v3 H3 k3 t3 => ?_)
        obtain ⟨fm, ws, rfl, f1, f2, f3⟩ := id t3
        have hP3 := (k3).all _ _ hP
        refine ⟨_, rfl, Pv, _, rfl, .inl ⟨SqL.of hP3, fun pv hpv => ?_⟩⟩
        have k4 : Kp [] H3 (upd H3 pv (.tup (pvs.map V.int))) := .new hpv
        refine ⟨(by show 2 ≤ sizeLine; decide), fun r hr' => ?_⟩
        have k5 : Kp [] (upd H3 pv (.tup (pvs.map V.int))) (upd (upd H3 pv (.tup (pvs.map V.int))) r (.lst [.ref fm, .ref pv])) := .new hr'
        have c : Cdm pvs.length n 190 F := by
          obtain ⟨D0, d1, d2, d3⟩ := cF.up (kR_le n n5)
          exact ⟨D0, d1, d2, fun i' j' h1 h2 => d3 i' j' (by omega) h2⟩
        exact ret r fm pv pvs.length F pvs _ ((k.trans k3).trans (k4.trans k5)) upd_same (MV.mono _ _ _ _ (k4.trans k5) t3) (k5.all _ _ upd_same) rfl (by omega) hpq c
end
end PN

/-! The law's own kernel. -/
namespace PN
open PySem L2 PyProof.Rows
/-- a vector as a new list that is none of Z -/
def VecR (Z : List Addr) (H0 : Hp) (C : Addr) (n : Nat) (f : Nat → Rat) : V → Hp → Prop := fun v H => ∃ b vs, v = .ref b ∧ b ∉ Z ∧ H0 b = none ∧ H b = some (.lst vs) ∧ vs.length = n ∧ ∀ i x, vs[i]? = some x → RV C (f i) x H
theorem VecR.keep {Z S : List Addr} {H0 : Hp} {C : Addr} {n : Nat} {f : Nat → Rat} {v : V} {H H' : Hp} (h : VecR Z H0 C n f v H) (k : Kp S H H') (hS : ∀ s ∈ S, s ∈ Z) : VecR Z H0 C n f v H' :=
  let ⟨b, vs, e, hb, h0, h1, h2, h3⟩ := h; ⟨b, vs, e, hb, h0, k.out _ _ (fun z => hb (hS _ z)) h1, h2, fun i x hx => RV.mono _ _ _ _ k (h3 i x hx)⟩
def spKernel (C : Addr) : Sp := fun vs H Q _ => ∃ (L : Addr) (n m : Nat) (A : Nat → Nat → Rat), vs = [.ref L, .int ((n : Nat) : Int)] ∧ n ≤ 5 ∧ m ≤ 7 ∧ LstR (fun t => TV C n (A t)) m L H ∧ (∀ t, t < m → RowOk n (A t)) ∧
  ∀ (D : Addr) (xs : List V) H', Kp [] H H' → H D = none → H' D = some (.lst xs) → xs.length ≤ 5 → (∀ x ∈ xs, ∃ f, Cd n 190 f ∧ VecR [] H C n f x H') → Q (.ref D) H'
section
variable {P : Program} {w : World} {K : PySem.W.Frag} {mg : Str → Option Value} {base : Heap} {f C CR CN : Addr} {fd : FuncData}
abbrev nKer : List Str := ["_law_rows", "_law_width", "_law_form", "_law_pivots", "_law_found", "_law_j", "_law_vector", "_law_k", "_law_i"]
theorem scKernel : FnScope nKer ["_law_rows", "_law_width"] (defScope sKernel) := ⟨rfl, rfl, rfl, by decide +kernel, rfl, by decide +kernel, by decide +kernel⟩
theorem ints_flat (ns : List Int) : (ns.map V.int).all flatV = true := by simp [flatV]
theorem ok_kernel (F : Fun K "_law_kernel" "_law_kernel" sKernel f fd) (T : RKit P w K mg base C) (B : BTxt mg) (GR : FnAt P w K mg base "_law_reduced" 37 ["_law_matrix", "_law_width"] (spReduced C)) : FnOk P w K mg base CX0 38 f fd ["_law_rows", "_law_width"] (spKernel C) := by
  refine F.ok scKernel (fun vs H Q E h => ?_) (fun cdv A outer s H vs Q E hr h => ?_)
  · obtain ⟨L, n, m, A', rfl, _⟩ := h
    rfl
  · obtain ⟨L, n, m, A', rfl, n5, m7, hL, hA, ret⟩ := h
    have h35 : Room 35 _ := hr.mono (by decide : 35 ≤ 37)
    have h36 : Room 36 _ := hr.mono (by decide : 36 ≤ 37)
    refine ⟨_, pss_cons (ps_asg (pe_fn GR hr (pa_cons (pv 0) (pa_cons (pv 1) pa_nil))) (pg_unl rfl (pgs_cons (pg_name (i := 2) scKernel.nd rfl (Or.inl rfl)) (pgs_cons (pg_name (i := 3) scKernel.nd rfl (Or.inl rfl)) pgs_nil))))
      (pss_cons (ps_set (i := 4) scKernel.nd rfl (Or.inl rfl) (pe_lst pa_nil))
      (pss_cons (ps_for PassesOwn.never rfl (pi_range1 rfl B.range (pa_cons (pv 1) pa_nil)) (pg_name (i := 5) scKernel.nd rfl (Or.inl rfl))
        (pss_one (ps_if (pt_cmpR op_notIn_seq (pv 5) (pv 3) (by rfl))
          (pss_cons (ps_setLc (i := 6) (own := [("_law_i", 8)]) (g := gName 8) (tt := tYes) rfl scKernel.nd rfl rfl (sw_true rfl rfl rfl (by decide +kernel)) (pi_range1 rfl B.range (pa_cons (pv 1) pa_nil)) (blkOk_by (N := nKer) (sc := defScope sKernel) (by decide +kernel))
            (fun _ _ _ _ _ => pg_name (i := 8) scKernel.nd rfl (Or.inl rfl)) (fun _ _ _ _ _ => pts_nil) (fun _ _ _ _ _ => pe_mk1 T h35 pe_int))
          (pss_cons (ps_asg (pe_mk1 T h35 pe_int) (pg_sub (pv 6) (pv 5) set_list))
          (pss_cons (ps_for PassesOwn.never rfl (pi_range1 rfl B.range (pa_cons (pe_callB1 call_lenS (by rfl) B.len PySem.boot_len (pv 3)) pa_nil)) (pg_name (i := 7) scKernel.nd rfl (Or.inl rfl))
            (pss_one (ps_asg (pe_un (un_negR T h36) (pe_ix ix_tup (pe_ix ix_tup (pv 2) (pv 7) (fun _ _ => rfl)) (pv 5) (fun _ _ => rfl))) (pg_sub (pv 6) (pe_ix ix_tup (pv 3) (pv 7) (fun _ _ => rfl)) set_list))))
          (pss_one (ps_expr (pe_bm PySem.F.plainAttrs_list PySem.F.slot_list_append PySem.F.type_list_append mt_append (pv 4) (pa_cons (pv 6) pa_nil))))))) pss_nil)))
      (pss_one (ps_ret (pv 4))))), ?_⟩
    refine ⟨_, rfl, _, rfl, L, n, m, A', rfl, n5, m7, hL, hA, fun r fm pv np F pvs H1 k1 hr1 hF hpv hnp hnp7 hq cF => ?_⟩
    refine ⟨r, _, rfl, SqL.of hr1, rfl, _, _, rfl, _, _, rfl, rfl, ?_⟩
    refine ⟨Nat.zero_le _, fun D hD => ?_⟩
    have kD : Kp [] H1 (upd H1 D (.lst [])) := .new hD
    have fD : H D = none := k1.free hD
    obtain ⟨D0, d1, d2, d3⟩ := cF
    refine ⟨_, rfl, ((n : Nat) : Int), rfl, by omega, by omega, ?_⟩
    rw [Int.toNat_natCast]
    refine for_range (lo := 0) (n := n) (fun j σ H' => ∃ (s5 s6 s7 : Option V) (xs : List V), σ = [some (.ref L), some (.int ((n : Nat) : Int)), some (.ref fm), some (.ref pv), some (.ref D), s5, s6, s7, none] ∧ Kp [] H1 H' ∧ H' D = some (.lst xs) ∧ xs.length ≤ j ∧
        ∀ x ∈ xs, ∃ f, Cd n 190 f ∧ VecR [D] H C n f x H') ⟨_, _, _, [], rfl, kD, upd_same, Nat.le_refl _, fun x hx => absurd hx (by simp)⟩ ?_ ?_
    · rintro j σ H' hj ⟨s5, s6, s7, xs, rfl, k, hDx, hxl, hxs⟩
      rw [Int.zero_add]
      have hpv' := k.all _ _ hpv
      refine ⟨_, rfl, _, rfl, pv, _, rfl, .inr (SqT.of hpv'), rfl, ints_flat pvs, _, rfl, ?_⟩
      refine ite2 (fun _ => ?_) (fun _ => ⟨_, _, _, xs, rfl, k, hDx, by omega, hxs⟩)
      -- vector
      refine ⟨_, rfl, ((n : Nat) : Int), rfl, by omega, by omega, fun Dv hDv => ?_⟩
      rw [Int.toNat_natCast]
      have fDv : H Dv = none := k1.free (k.free hDv)
      have nDv : Dv ≠ D := (ne_of_none hDx hDv).symm
      refine lcR_range (R := fun _ => RV C 0) (fun _ => RV.mono) hDv (sz12 (by omega)) (fun i H2 Q2 hi k2 q2 => ⟨rfl, 0, rfl, q2⟩) (gName_mono 8) (fun H2 k2 l2 => ?_)
      -- vector[j] = Ratio(1)
      refine ⟨1, rfl, fun v3 H3 k3 r3 => ?_⟩
      obtain ⟨zs, z1, z2, z3⟩ := l2
      refine ⟨_, rfl, _, rfl, Dv, zs, _, j, rfl, rfl, k3.all _ _ z1, ixN_nat (by omega), ?_⟩
      have l4 : LstR (fun i => RV C ((fun i => if i = j then 1 else 0) i)) n Dv (upd H3 Dv (.lst (zs.set j v3))) := LstR.put (fun _ => RV.mono) (k3.all _ _ z1) z2 (fun i y hy hne => by
        show RV C (if i = j then 1 else 0) y H3
        rw [if_neg hne]; exact RV.mono _ _ _ _ k3 (z3 i y hy)) (by
        show RV C (if j = j then 1 else 0) v3 H3
        rw [if_pos rfl]; exact r3)
      have K4 : Kp [] H' (upd H3 Dv (.lst (zs.set j v3))) := (k2.trans k3).fresh hDv
      generalize upd H3 Dv (.lst (zs.set j v3)) = H4 at l4 K4 ⊢
      have fr0 : Fr D0 (2 ^ 190) 0 := ⟨0, by grind, Nat.zero_le _⟩
      have fr1 : Fr D0 (2 ^ 190) 1 := ⟨D0, by grind, d2⟩
      -- for k in range(len(pivots))
      refine ⟨_, rfl, pv, _, rfl, .inr (SqT.of (K4.all _ _ hpv')), ((np : Nat) : Int), (by rw [List.length_map, hnp]), by omega, by omega, ?_⟩
      rw [Int.toNat_natCast]
      refine for_range (lo := 0) (n := np) (fun q σ H5 => ∃ (s7 : Option V) (g : Nat → Rat), σ = [some (.ref L), some (.int ((n : Nat) : Int)), some (.ref fm), some (.ref pv), some (.ref D), some (.int ((j : Nat) : Int)), some (.ref Dv), s7, none] ∧ Kp [] H' H5 ∧ LstR (fun i => RV C (g i)) n Dv H5 ∧ ∀ i, i < n → Fr D0 (2 ^ 190) (g i))
        ⟨_, _, rfl, K4, l4, fun i hi => by show Fr D0 (2 ^ 190) (if i = j then 1 else 0); split <;> assumption⟩ ?_ ?_
      · rintro q σ H5 hq' ⟨s7', g, rfl, k5, l5, hg⟩
        rw [Int.zero_add]
        have kk5 := k.trans k5
        obtain ⟨fa, ws, e, f1, f2, f3⟩ := MV.mono _ _ _ _ kk5 hF
        cases e
        obtain ⟨xq, hxq⟩ := get_of f2 hq'
        obtain ⟨ra, us, rfl, g1, g2, g3⟩ := f3 q xq hxq
        obtain ⟨xj, hxj⟩ := get_of g2 hj
        refine ⟨_, rfl, _, rfl, fm, ws, _, _, rfl, rfl, SqT.of f1, atI_nat hxq, _, rfl, ra, us, _, xj, rfl, rfl, SqT.of g1, atI_nat hxj, F q j, g3 j xj hxj, fun v6 H6 k6 r6 => ?_⟩
        have hpv6 := k6.all _ _ (k5.all _ _ hpv')
        have hql : q < (pvs.map V.int).length := by rw [List.length_map, hnp]; exact hq'
        have hge : (pvs.map V.int)[q]? = some (.int pvs[q]) := by rw [List.getElem?_map, List.getElem?_eq_getElem (by omega)]; rfl
        obtain ⟨h0, h1⟩ := hq pvs[q] (List.getElem_mem _)
        obtain ⟨z, hz⟩ : ∃ z : Nat, pvs[q] = (z : Int) := ⟨pvs[q].toNat, by omega⟩
        obtain ⟨ys, y1, y2, y3⟩ := l5
        refine ⟨_, rfl, _, rfl, _, rfl, pv, _, _, _, rfl, rfl, SqT.of hpv6, atI_nat hge, Dv, ys, _, z, rfl, rfl, k6.all _ _ y1, (by rw [hz]; exact ixN_nat (by omega)), ?_⟩
        refine ⟨_, fun i => if i = z then -F q j else g i, rfl, (k5.trans k6).fresh hDv, LstR.put (fun _ => RV.mono) (k6.all _ _ y1) y2 (fun i y hy hne => ?_) ?_, fun i hi => ?_⟩
        · show RV C (if i = z then -F q j else g i) y H6
          rw [if_neg hne]; exact RV.mono _ _ _ _ k6 (y3 i y hy)
        · show RV C (if z = z then -F q j else g z) v6 H6
          rw [if_pos rfl]; exact r6
        · show Fr D0 (2 ^ 190) (if i = z then -F q j else g i)
          split
          · exact (d3 q j hq' hj).neg
          · exact hg i hi
      · rintro σ H5 ⟨s7', g, rfl, k5, l5, hg⟩
        have hD5 := k5.all _ _ hDx
        refine ⟨_, rfl, .inl ⟨rfl, _, SqL.of hD5⟩, _, rfl, D, xs, _, rfl, rfl, hD5, Nat.lt_of_le_of_lt hxl (sz12 (by omega)), ?_⟩
        have k6 : Kp [D] H5 (upd H5 D (.lst (xs ++ [.ref Dv]))) := .set hD5 rfl (by simp)
        refine ⟨_, _, _, xs ++ [.ref Dv], rfl, (k.trans k5).fresh hD, upd_same, (by rw [List.length_append, List.length_singleton]; omega), fun x hx => ?_⟩
        refine (List.mem_append.mp hx).elim (fun hx => ?_) fun hx => ?_
        · obtain ⟨f', c, v⟩ := hxs x hx
          exact ⟨f', c, (v.keep k5 (by simp)).keep k6 (by simp)⟩
        · have e := List.mem_singleton.mp hx
          subst e
          obtain ⟨ys, y1, y2, y3⟩ := l5
          exact ⟨g, ⟨D0, d1, d2, hg⟩, VecR.keep ⟨Dv, ys, rfl, by simpa using nDv, fDv, y1, y2, y3⟩ k6 (by simp)⟩
    · rintro σ H' ⟨s5, s6, s7, xs, rfl, k, hDx, hxl, hxs⟩
      refine ⟨_, rfl, ret D xs H' (k1.trans k) fD hDx (by omega) fun x hx => ?_⟩
      obtain ⟨f', c, b, vs, e, _, h0, h1, h2, h3⟩ := hxs x hx
      exact ⟨f', c, b, vs, e, by simp, h0, h1, h2, h3⟩
end
end PN

/-! The law's own net. -/
namespace PN
open PySem L2 PyProof.Rows
theorem Kp.drop {S S' : List Addr} {H H' : Hp} (k : Kp S' H H') (h : ∀ s ∈ S', s ∈ S ∨ H s = none) : Kp S H H' :=
  ⟨fun a o n e => k.out a o (fun z => (h a z).elim n fun q => by rw [q] at e; cases e) e, k.imm⟩
theorem StAt.free {st dl : Addr} {H H' : Hp} {x : Addr} (h : StAt st dl H') (k : Kp [st] H H') (hx : H' x = none) : H x = none := by
  cases e : H x with
  | none => rfl
  | some o =>
    by_cases q : x = st
    · subst q
      obtain ⟨_, _, _, z, _⟩ := h
      rw [hx] at z; cases z
    · rw [k.out x o (by simpa using q) e] at hx; cases hx
theorem NetAt.x0c {C CN p dx lp lr : Addr} {n : Nat} {x0 y0 : Nat → Rat} {M P : Nat → Nat → Rat} {r : Nat → Rat} {tt : Rat} {H : Hp} (h : NetAt C CN p dx lp lr n x0 M P r tt H) (e : ∀ j, j < n → x0 j = y0 j) : NetAt C CN p dx lp lr n y0 M P r tt H :=
  let ⟨ap, nm, iv, rt, tv, h0, h1, h2, h3, h4, h5, h6⟩ := h.ex; ⟨ap, nm, iv, rt, tv, h0, h1, h2.congr e, h3, h4, h5, h6⟩
theorem RdsAt.snoc {C CR : Addr} {n m : Nat} {Ts : Nat → Tm} {V' W : Nat → Rat} {lr : Addr} {H : Hp} {T : Tm} {v w : Rat} {x : V} {rvs : List V} (h1 : H lr = some (.lst rvs)) (h2 : rvs.length = m) (h3 : ∀ t x, rvs[t]? = some x → RdR C CR (Ts t) (V' t) (W t) t x H)
    (ok : ∀ t, t < m → TmOk n (Ts t) ∧ C1 19 (V' t) ∧ WOk (W t)) (hx : RdR C CR T v w m x H) (hT : TmOk n T) (hv : C1 19 v) (hw : WOk w) :
    (∀ t y, (rvs ++ [x])[t]? = some y → RdR C CR (if t = m then T else Ts t) (if t = m then v else V' t) (if t = m then w else W t) t y H) ∧
    (∀ t, t < m + 1 → TmOk n (if t = m then T else Ts t) ∧ C1 19 (if t = m then v else V' t) ∧ WOk (if t = m then w else W t)) := by
  refine ⟨fun t y hy => ?_, fun t ht => ?_⟩
  · by_cases q : t < rvs.length
    · rw [List.getElem?_append_left q] at hy
      have e : t ≠ m := by omega
      rw [if_neg e, if_neg e, if_neg e]
      exact h3 t y hy
    · have hb := (List.getElem?_eq_some_iff.mp hy).1
      rw [List.length_append] at hb
      have e : t = rvs.length := by simp at hb; omega
      rw [e, List.getElem?_append_right (Nat.le_refl _)] at hy
      simp at hy
      have e' : t = m := by omega
      subst e'
      rw [if_pos rfl, if_pos rfl, if_pos rfl, ← hy]
      exact hx
  · by_cases e : t = m
    · rw [if_pos e, if_pos e, if_pos e]; exact ⟨hT, hv, hw⟩
    · rw [if_neg e, if_neg e, if_neg e]; exact ok t (by omega)
theorem Kp.free' {S : List Addr} {H H' : Hp} {x : Addr} (k : Kp S H H') (hx : H' x = none) (hn : x ∉ S) : H x = none := by
  cases e : H x with
  | none => rfl
  | some o => rw [k.out x o hn e] at hx; cases hx
theorem Sz.zero {n : Nat} {x0 : Nat → Rat} (n5 : n ≤ 5) (c : Cd n (19 * n) x0) : Sz n 0 x0 zM zM zV 0 :=
  ⟨n5, c.up (by omega), fun i j _ _ => ⟨0, by show (0 : Rat) * _ = _; grind, by decide⟩, Cdm.zero n n, Cd.zero n, C1.int (z := 0) (by decide)⟩
def spLNet (C CR CN : Addr) : Sp := fun vs H Q _ => ∃ st dl, vs = [.ref st, .int 5, .int 8] ∧ StAt st dl H ∧ ∀ r p dx lp lr ln lq n m x0 Ts V W M P' rr tt H', Kp [st] H H' → H' r = some (.lst [.ref p, .ref ln, .ref lq]) → 1 ≤ n → n ≤ 5 → m ≤ 7 →
  NetAt C CN p dx lp lr n x0 M P' rr tt H' → H' ln = some (.lst (pts n)) → RdsAt C CR n m Ts V W lq H' → Adj n m x0 (fun t => rowF (Ts t)) V W M P' rr → Sz n m x0 M P' rr tt → StAt st dl H' → p ≠ st → lp ≠ st → ln ≠ st → lq ≠ st → Q (.ref r) H'
section
variable {P : Program} {w : World} {K : PySem.W.Frag} {mg : Str → Option Value} {base : Heap} {f C CR CN : Addr} {fd : FuncData}
abbrev nLN : List Str := ["_law_state_here", "_law_most", "_law_many", "_law_names_here", "_law_net_here", "_law_name", "_law_readings", "_law_k"]
theorem scLNet : FnScope nLN ["_law_state_here", "_law_most", "_law_many"] (defScope sLNet) := ⟨rfl, rfl, rfl, by decide +kernel, rfl, by decide +kernel, by decide +kernel⟩
theorem ok_lnet {fN : Addr} {fdN : FuncData} (F : Fun K "_law_net" "_law_net" sLNet f fd) (B : BTxt mg) (N : NTxt K mg CR CN) (M : Mk K CN fN) (GN : FnOk P w K mg base CX0 36 fN fdN ["self"] (spNInit C CN)) (bN : Binds K fdN ["self"] [])
    (GM : FnAt P w K mg base "_law_names" 2 ["_law_state_here", "_law_most"] spNames) (GR : FnAt P w K mg base "_law_ratio" 36 ["_law_state_here"] (spRatio C)) (GD : FnAt P w K mg base "_law_draw" 1 ["_law_state_here", "_law_many"] spDraw)
    (GG : FnAt P w K mg base "_law_reading" 37 ["_law_state_here", "_law_names_here", "_law_count"] (spReading C CR))
    (GP : MtAt P w K mg base CN "add_point" 38 ["self", "name", "approximation"] (spAddPoint C CN)) (GA : MtAt P w K mg base CN "add" 42 ["self", "reading"] (spAddRd C CR CN)) :
    FnOk P w K mg base CX0 43 f fd ["_law_state_here", "_law_most", "_law_many"] (spLNet C CR CN) := by
  refine F.ok scLNet (fun vs H Q E h => ?_) (fun cdv A outer s H vs Q E hr h => ?_)
  · obtain ⟨st, dl, rfl, _⟩ := h
    rfl
  · obtain ⟨st, dl, rfl, hst, ret⟩ := h
    refine ⟨_, pss_cons (ps_set (i := 3) scLNet.nd rfl (Or.inl rfl) (pe_fn GM (hr.mono (by decide)) (pa_cons (pv 0) (pa_cons (pv 1) pa_nil))))
      (pss_cons (ps_set (i := 4) scLNet.nd rfl (Or.inl rfl) (pe_make0 M GN (hr.mono (by decide)) (by rfl) N.mgN bN .nil pass0))
      (pss_cons (ps_for PassesOwn.never rfl (pi_list (pv 3)) (pg_name (i := 5) scLNet.nd rfl (Or.inl rfl))
        (pss_one (ps_expr (pe_mt GP N.clN (hr.mono (by decide)) (pv 4) (pa_cons (pv 5) (pa_cons (pe_fn GR (hr.mono (by decide)) (pa_cons (pv 0) pa_nil)) pa_nil))))))
      (pss_cons (ps_set (i := 6) scLNet.nd rfl (Or.inl rfl) (pe_lst pa_nil))
      (pss_cons (ps_for PassesOwn.never rfl (pi_range1 rfl B.range (pa_cons (pe_fn GD (hr.mono (by decide)) (pa_cons (pv 0) (pa_cons (pv 2) pa_nil))) pa_nil)) (pg_name (i := 7) scLNet.nd rfl (Or.inl rfl))
        (pss_cons (ps_expr (pe_bm PySem.F.plainAttrs_list PySem.F.slot_list_append PySem.F.type_list_append mt_append (pv 6) (pa_cons (pe_fn GG (hr.mono (by decide)) (pa_cons (pv 0) (pa_cons (pv 3) (pa_cons (pv 7) pa_nil)))) pa_nil)))
        (pss_one (ps_expr (pe_mt GA N.clN hr (pv 4) (pa_cons (pe_ix ix_list (pv 6) (pe_un un_neg pe_int) (fun _ _ => rfl)) pa_nil))))))
      (pss_one (ps_ret (pe_lst (pa_cons (pv 4) (pa_cons (pv 3) (pa_cons (pv 6) pa_nil))))))))))
      , ?_⟩
    refine ⟨_, rfl, _, rfl, st, dl, 5, rfl, by decide, by decide, hst, fun ln n H1 n1 n5 hln fln nln k1 s1 => ?_⟩
    intro p dx np ndx nep
    have kx : Kp [] H1 (upd (upd H1 dx (.own p)) p (.ins CN dx [])) := (Kp.new ndx).new' (by rw [upd_ne nep.symm]; exact np)
    refine ⟨p, dx, rfl, upd_same, fun H2 lp lr k2 f1 f2 e1 e2 e3 net hlr => ⟨rfl, ?_⟩⟩
    have g1 : H1 lp = none := kx.free f1
    have g2 : H1 lr = none := kx.free f2
    have fp : H p = none := s1.free k1 np
    have flp : H lp = none := s1.free k1 g1
    have flr : H lr = none := s1.free k1 g2
    have q1 : st ≠ p ∧ dl ≠ p := s1.ne np
    have q2 : st ≠ lp ∧ dl ≠ lp := s1.ne g1
    have q3 : st ≠ lr ∧ dl ≠ lr := s1.ne g2
    have w1 : ln ≠ p := ne_of_none hln np
    have w2 : ln ≠ lp := ne_of_none hln g1
    have w3 : ln ≠ lr := ne_of_none hln g2
    have s2 : StAt st dl H2 := (s1.kp kx).keep k2 (by simpa using q1.1) (by simpa using q1.2)
    have hln2 : H2 ln = some (.lst (pts n)) := k2.out _ _ (by simpa using w1) (kx.all _ _ hln)
    have K2 : Kp [st, p, lp] H H2 := ((k1.mono (by simp)).trans kx.any).trans (k2.mono (by simp))
    refine ⟨_, rfl, ln, rfl, ⟨_, SqL.of hln2⟩, ?_⟩
    refine for_list (K := K) (a := ln) (xs := pts n) (fun i σ H' => ∃ (x : Option V) (x0 : Nat → Rat), σ = [some (.ref st), some (.int 5), some (.int 8), some (.ref ln), some (.ref p), x, none, none] ∧ Kp [st, p, lp] H H' ∧ StAt st dl H' ∧
        NetAt C CN p dx lp lr i x0 zM zM zV 0 H' ∧ Cd i (19 * i) x0 ∧ H' ln = some (.lst (pts n)) ∧ H' lr = some (.lst []))
      ⟨none, zV, rfl, K2, s2, net, Cd.zero 0, hln2, hlr⟩ (fun i σ H' _ ⟨_, _, _, _, _, _, _, e, _⟩ => SqL.of e) ?_ ?_
    · rintro i x σ H' hx ⟨y, x0, rfl, k, s, nt, cx, hl, hlr'⟩
      have hi : i < n := by have := (List.getElem?_eq_some_iff.mp hx).1; rw [pts_len] at this; exact this
      rw [pts_get hi] at hx
      cases hx
      obtain ⟨ap, nm, iv, rt, tv, h0, _⟩ := id nt.ex
      refine ⟨_, rfl, p, dx, _, rfl, h0, look_none (by decide +kernel), _, rfl, _, rfl, st, dl, rfl, s, fun va q H3 cq rq k3 s3 => ?_⟩
      have nt3 := nt.keep k3 (by simpa using q1.1.symm) (by simpa using q2.1.symm)
      refine ⟨p, dx, lp, lr, i, fun j => if j = i then q else x0 j, va, rfl, by omega, e1, nt3.x0c (fun j hj => by rw [if_neg (by omega)]), (by show RV C (if i = i then q else x0 i) va H3; rw [if_pos rfl]; exact rq), fun H4 k4 n4 => ?_⟩
      refine ⟨_, _, rfl, (k.trans (k3.mono (by simp))).trans (k4.mono (by simp)), s3.keep k4 (by simpa using ⟨q1.1, q2.1⟩) (by simpa using ⟨q1.2, q2.2⟩), n4, ?_, k4.out _ _ (by simpa using ⟨w1, w2⟩) (k3.out _ _ (by simpa using nln) hl), k4.out _ _ (by simpa using ⟨e2, e3.symm⟩) (k3.out _ _ (by simpa using q3.1.symm) hlr')⟩
      refine (Cd.snoc (cx.congr fun j hj => ?_) (b := 19) ?_).up (by omega)
      · rw [if_neg (by omega)]
      · rw [if_pos rfl]; exact cq
    · rintro σ H3 ⟨y, x0, rfl, k3, s3, nt3, cx, hl3, hlr3⟩
      rw [pts_len] at nt3 cx
      refine ⟨Nat.zero_le _, fun lq fq => ?_⟩
      have kq : Kp [] H3 (upd H3 lq (.lst [])) := .new fq
      obtain ⟨ap, nm, iv, rt, tv, h0, h1, _⟩ := id nt3.ex
      have v1 : st ≠ lq ∧ dl ≠ lq := s3.ne fq
      have v2 : p ≠ lq := ne_of_none h0 fq
      have v3 : lp ≠ lq := ne_of_none h1 fq
      have v4 : lr ≠ lq := ne_of_none hlr3 fq
      have v5 : ln ≠ lq := ne_of_none hl3 fq
      have flq : H lq = none := k3.free' fq (by simp; exact ⟨v1.1.symm, v2.symm, v3.symm⟩)
      refine ⟨_, rfl, _, rfl, st, dl, 8, rfl, by decide, s3.kp kq, fun d H5 d0 d1 k5 s5 => ?_⟩
      obtain ⟨m, rfl⟩ : ∃ m : Nat, d = (m : Int) := ⟨d.toNat, by omega⟩
      refine ⟨((m : Nat) : Int), rfl, by omega, by omega, ?_⟩
      rw [Int.toNat_natCast]
      refine for_range (lo := 0) (n := m) (fun t σ H' => ∃ (z : Option V) (Ts : Nat → Tm) (V' W : Nat → Rat) (M P' : Nat → Nat → Rat) (rr : Nat → Rat) (tt : Rat) (rvs : List V), σ = [some (.ref st), some (.int 5), some (.int 8), some (.ref ln), some (.ref p), y, some (.ref lq), z] ∧
          Kp [st, p, lp, lr, lq] H H' ∧ StAt st dl H' ∧ NetAt C CN p dx lp lr n x0 M P' rr tt H' ∧ Adj n t x0 (fun t => rowF (Ts t)) V' W M P' rr ∧ Sz n t x0 M P' rr tt ∧ H' ln = some (.lst (pts n)) ∧ H' lr = some (.lst rvs) ∧ H' lq = some (.lst rvs) ∧ rvs.length = t ∧
          (∀ t x, rvs[t]? = some x → RdR C CR (Ts t) (V' t) (W t) t x H') ∧ (∀ u, u < t → TmOk n (Ts u) ∧ C1 19 (V' u) ∧ WOk (W u)))
        ⟨none, fun _ => ⟨0, fun _ => 0, fun _ => 0⟩, zV, zV, zM, zM, zV, 0, [], rfl, ((k3.mono (by simp)).trans kq.any).trans (k5.mono (by simp)), s5, (nt3.kp kq).keep k5 (by simpa using q1.1.symm) (by simpa using q2.1.symm), Adj.zero (fun _ _ _ _ => rfl) (fun _ _ _ _ => rfl) (fun _ _ => rfl), Sz.zero n5 cx,
          k5.out _ _ (by simpa using nln) (kq.all _ _ hl3), k5.out _ _ (by simpa using q3.1.symm) (kq.all _ _ hlr3), k5.out _ _ (by simpa using v1.1.symm) upd_same, rfl, fun t x hx => by simp at hx, fun u hu => absurd hu (by omega)⟩ ?_ ?_
      · rintro t σ H' ht ⟨z, Ts, V', W, M, P', rr, tt, rvs, rfl, k, s, nt, adj, S, hl, hlr', hlq, hlen, hall, hok⟩
        refine ⟨_, rfl, .inl ⟨rfl, _, SqL.of hlq⟩, _, rfl, _, rfl, _, rfl, ?_⟩
        rw [Int.zero_add]
        refine ⟨st, dl, ln, n, t, rfl, n1, n5, by omega, hl, nln, s, fun x T v w' H6 rx hT cv hw k6 s6 => ?_⟩
        have hlq6 : H6 lq = some (.lst rvs) := k6.out _ _ (by simpa using v1.1.symm) hlq
        have hlr6 : H6 lr = some (.lst rvs) := k6.out _ _ (by simpa using q3.1.symm) hlr'
        have nt6 := nt.keep k6 (by simpa using q1.1.symm) (by simpa using q2.1.symm)
        refine ⟨lq, _, _, rfl, rfl, hlq6, (by rw [hlen]; exact sz12 (by omega)), ?_⟩
        have k7 : Kp [lq] H6 (upd H6 lq (.lst (rvs ++ [x]))) := .set hlq6 rfl (by simp)
        obtain ⟨a1, a2⟩ := RdsAt.snoc hlq6 hlen (fun t x hx => RdR.mono _ _ _ _ k6 (hall t x hx)) hok rx hT cv hw
        have nt7 := nt6.keep k7 (by simpa using v2) (by simpa using v3)
        have hlr7 : upd H6 lq (.lst (rvs ++ [x])) lr = some (.lst rvs) := k7.out _ _ (by simpa using v4) hlr6
        obtain ⟨ap, nm, iv, rt, tv, h0, _⟩ := id nt7.ex
        refine ⟨_, rfl, p, dx, _, rfl, h0, look_none (by decide +kernel), _, rfl, _, rfl, lq, _, _, _, rfl, rfl, SqL.of upd_same, atI_last _ _, ?_⟩
        refine ⟨p, dx, lp, lr, n, t, x0, fun u => rowF (if u = t then T else Ts u), fun u => if u = t then v else V' u, fun u => if u = t then w' else W u, M, P', rr, tt, T, x, rvs, rfl, e1, e2, e3, nt7, ?_, hT, ?_, ?_, ?_, ?_, S, by omega, hlr7, hlen, ?_, fun H8 M8 P8 r8 t8 k8 n8 hl8 a8 S8 => ?_⟩
        · show RdR C CR T (if t = t then v else V' t) (if t = t then w' else W t) t x _
          rw [if_pos rfl, if_pos rfl]; exact RdR.mono _ _ _ _ k7 rx
        · show rowF (if t = t then T else Ts t) = rowF T
          rw [if_pos rfl]
        · show WOk (if t = t then w' else W t)
          rw [if_pos rfl]; exact hw
        · show C1 19 (if t = t then v else V' t)
          rw [if_pos rfl]; exact cv
        · exact adj.congr (fun u hu => by rw [if_neg (by omega)]) (fun u hu => by rw [if_neg (by omega)]) (fun u hu => by rw [if_neg (by omega)])
        · exact fun u y hy => ⟨_, _, _, RdR.mono _ _ _ _ k7 (RdR.mono _ _ _ _ k6 (hall u y hy))⟩
        · refine ⟨_, _, _, _, M8, P8, r8, t8, rvs ++ [x], rfl, ((k.trans (k6.mono (by simp))).trans (k7.mono (by simp))).trans (k8.mono (by simp)), ?_, n8, a8, S8, ?_, hl8, ?_, ?_, fun u y hy => RdR.mono _ _ _ _ k8 (RdR.mono _ _ _ _ k7 (a1 u y hy)), a2⟩
          · exact (s6.keep k7 (by simpa using v1.1) (by simpa using v1.2)).keep k8 (by simpa using ⟨q1.1, q3.1⟩) (by simpa using ⟨q1.2, q3.2⟩)
          · exact k8.out _ _ (by simpa using ⟨w1, w3⟩) (k7.out _ _ (by simpa using v5) (k6.out _ _ (by simpa using nln) hl))
          · exact k8.out _ _ (by simp; exact ⟨v2.symm, v4.symm⟩) upd_same
          · rw [List.length_append, hlen]; rfl
      · rintro σ H' ⟨z, Ts, V', W, M, P', rr, tt, rvs, rfl, k, s, nt, adj, S, hl, hlr', hlq, hlen, hall, hok⟩
        refine ⟨_, rfl, _, rfl, _, rfl, ?_⟩
        refine ⟨(by show 3 ≤ sizeLine; decide), fun r fr => ?_⟩
        have kr : Kp [] H' (upd H' r (.lst [.ref p, .ref ln, .ref lq])) := .new fr
        refine ret r p dx lp lr ln lq n m x0 Ts V' W M P' rr tt _ ?_ upd_same n1 n5 (by omega) (nt.kp kr) (kr.all _ _ hl) (RdsAt.keep ⟨⟨rvs, hlq, hlen, hall⟩, hok⟩ kr (by simp)) adj S (s.kp kr) q1.1.symm q2.1.symm nln v1.1.symm
        refine (k.trans kr.any).drop fun x hx => ?_
        simp at hx
        rcases hx with e | e | e | e | e
        · exact .inl (by simp [e])
        · exact .inr (e ▸ fp)
        · exact .inr (e ▸ flp)
        · exact .inr (e ▸ flr)
        · exact .inr (e ▸ flq)
end
end PN

/-! The law. -/
namespace PN
open PySem L2 PyProof.Rows
theorem pe_ixTK (K : PySem.W.Frag) {X : Cx} {a b : Expr} {ta tb : TE} {pos : Pos} (ha : PE X a ta) (hb : PE X b tb) (hs : PlainIx b) (hK : X.K = K := by rfl) : PE X (.Subscript a b pos) (tOp (rIxT K) ta tb) := by
  subst hK
  exact pe_ix ix_tup ha hb hs
theorem via {t u : TS} {D E : Ends} {σ : L2.St} {H : Hp} {i : Nat} {v : V} (hE : E.nx = tSeq t u D) (Post : L2.St → Hp → Prop) (h1 : ∀ D' : Ends, (∀ σ' H', Post σ' H' → D'.nx σ' H') → t D' (σ.set i (some v)) H) (h2 : ∀ σ' H', Post σ' H' → u D σ' H') :
    (fun x H1 => gName i x σ H1 E.nx) v H := by
  show E.nx _ _
  rw [hE]
  exact h1 _ h2
theorem sqs_c1 {n m k : Nat} {Ts : Nat → Tm} {V W h : Nat → Rat} (hok : ∀ t, t < m → TmOk n (Ts t) ∧ C1 19 (V t) ∧ WOk (W t)) (ch : Cd n k h) (n5 : n ≤ 5) (m7 : m ≤ 7) : C1 (14 * k + 490) (sqs n m (fun t => rowF (Ts t)) V W h) := by
  have cm : ∀ t, t < m → C1 (4 + k + n + 19 + 1) (dot n (rowF (Ts t)) h - V t) := fun t ht => C1.sub ((rowF_ok (hok t ht).1).cd.dot ch) (hok t ht).2.1
  have cwm : ∀ t, t < m → C1 (11 + (4 + k + n + 19 + 1)) (W t * (dot n (rowF (Ts t)) h - V t)) := fun t ht => C1.mul (hok t ht).2.2.c1 (cm t ht)
  have cwmm : ∀ t, t < m → C1 (2 * k + 69) (W t * (dot n (rowF (Ts t)) h - V t) * (dot n (rowF (Ts t)) h - V t)) := fun t ht => (C1.mul (cwm t ht) (cm t ht)).up (by omega)
  exact (sum_c1 cwmm).up (Nat.le_trans (Nat.mul_le_mul_right _ m7) (by omega))
theorem dist_c1 {n ka kb : Nat} {f g : Nat → Rat} (ca : Cd n ka f) (cb : Cd n kb g) (n5 : n ≤ 5) : C1 (10 * ka + 10 * kb + 15) (dist n f g) := by
  have cd : ∀ i, i < n → C1 (ka + kb + 1) (f i - g i) := fun i hi => C1.sub (ca.at hi) (cb.at hi)
  have cdd : ∀ i, i < n → C1 (2 * (ka + kb + 1)) ((f i - g i) * (f i - g i)) := fun i hi => (C1.mul (cd i hi) (cd i hi)).up (by omega)
  exact (sum_c1 cdd).up (Nat.le_trans (Nat.mul_le_mul_right _ n5) (by omega))
theorem h_cd {n m : Nat} {x0 r : Nat → Rat} {M P : Nat → Nat → Rat} {tt : Rat} (S : Sz n m x0 M P r tt) (m7 : m ≤ 7) : Cd n 3907281 (hOf n x0 r P) := by
  have n5 := S.n5
  have hf := fP_le m m7
  exact (Cd.add S.x (Cdm.mulV S.P S.r)).up (by omega)
/-- one place more -/
theorem Cd.one {n k a : Nat} {o : Nat → Rat} {q : Rat} (h : Cd n k o) (c : C1 19 q) : Cd n (k + 210) (fun i => if i = a then o a + q else o i) := by
  obtain ⟨D, d0, d1, d2⟩ := c
  have z : Cd n 19 (fun i => if i = a then q else 0) := ⟨D, d0, d1, fun i _ => by
    show Fr D (2 ^ 19) (if i = a then q else 0)
    by_cases e : i = a
    · rw [if_pos e]; exact d2
    · rw [if_neg e]; exact ⟨0, by show (0 : Rat) * _ = _; grind, by decide⟩⟩
  refine ((Cd.add h z).congr fun i hi => ?_).up (by omega)
  show o i + (if i = a then q else 0) = if i = a then o a + q else o i
  by_cases e : i = a
  · rw [if_pos e, if_pos e, e]
  · rw [if_neg e, if_neg e]; grind
theorem LstR.ixL {K : PySem.W.Frag} {C : Addr} {n i : Nat} {f : Nat → Rat} {D : Addr} {H : Hp} {Q : VK} (h : LstR (fun i => RV C (f i)) n D H) (hi : i < n) (q : ∀ x, RV C (f i) x H → Q x H) : rIxL K (.ref D) (.int (i : Int)) H Q := by
  obtain ⟨vs, h1, h2, h3⟩ := h
  obtain ⟨x, hx⟩ := get_of h2 hi
  exact ⟨D, vs, _, x, rfl, rfl, SqL.of h1, atI_nat hx, q x (h3 i x hx)⟩
theorem VecR.ixL {K : PySem.W.Frag} {Z : List Addr} {H0 : Hp} {C : Addr} {n i : Nat} {f : Nat → Rat} {v : V} {H : Hp} {Q : VK} (h : VecR Z H0 C n f v H) (hi : i < n) (q : ∀ x, RV C (f i) x H → Q x H) : rIxL K v (.int (i : Int)) H Q := by
  obtain ⟨b, vs, rfl, hb, h0, h1, h2, h3⟩ := h
  obtain ⟨x, hx⟩ := get_of h2 hi
  exact ⟨b, vs, _, x, rfl, rfl, SqL.of h1, atI_nat hx, q x (h3 i x hx)⟩
theorem TV.ixT {K : PySem.W.Frag} {C : Addr} {n i : Nat} {f : Nat → Rat} {v : V} {H : Hp} {Q : VK} (h : TV C n f v H) (hi : i < n) (q : ∀ x, RV C (f i) x H → Q x H) : rIxT K v (.int (i : Int)) H Q := by
  obtain ⟨b, vs, rfl, h1, h2, h3⟩ := h
  obtain ⟨x, hx⟩ := get_of h2 hi
  exact ⟨b, vs, _, x, rfl, rfl, SqT.of h1, atI_nat hx, q x (h3 i x hx)⟩
def spLaw (K : PySem.W.Frag) : Sp := fun us H Q _ => ∃ (a : Addr) (ns : List Int), us = [.ref a] ∧ SqL K H a (ns.map V.int) ∧ ns.length ≤ 63 ∧ ∀ H', Q (.bl true) H'
section
variable {P : Program} {w : World} {K : PySem.W.Frag} {mg : Str → Option Value} {base : Heap} {f C CR CN : Addr} {fd : FuncData}
abbrev nLaw : List Str := ["_law_script", "_law_state_here", "_law_net_here", "_law_names_here", "_law_readings", "_law_start", "_law_heights", "_law_rows", "_law_other", "_law_vector", "_law_factor", "_law_k", "_law_at", "_law_still", "_law_moved", "_law_j", "_law_row_here", "_law_least", "_law_more", "_law_near", "_law_far", "_law_reading_here"]
theorem scLaw : FnScope nLaw ["_law_script"] (defScope sLaw) := ⟨rfl, rfl, rfl, by decide +kernel, rfl, by decide +kernel, by decide +kernel⟩
theorem ok_law (F : Fun K "law" "law" sLaw f fd) (T : RKit P w K mg base C) (B : BTxt mg) (N : NTxt K mg CR CN)
    (GS : FnAt P w K mg base "_law_state" 1 ["_law_script"] (spState K)) (GN : FnAt P w K mg base "_law_net" 43 ["_law_state_here", "_law_most", "_law_many"] (spLNet C CR CN)) (GH : MtAt P w K mg base CN "heights" 39 ["self"] (spHeights C CN))
    (GR : FnAt P w K mg base "_law_row" 37 ["_law_names_here", "_law_reading_here"] (spLRow C CR)) (GD : FnAt P w K mg base "_law_draw" 1 ["_law_state_here", "_law_many"] spDraw) (GK : FnAt P w K mg base "_law_kernel" 38 ["_law_rows", "_law_width"] (spKernel C))
    (GQ : FnAt P w K mg base "_law_ratio" 36 ["_law_state_here"] (spRatio C)) (GT : FnAt P w K mg base "_law_dot" 37 ["_law_first", "_law_second"] (spLDot C)) (GU : FnAt P w K mg base "_law_squares" 38 ["_law_names_here", "_law_readings", "_law_heights"] (spSquares C CR))
    (GE : FnAt P w K mg base "_law_same" 1 ["_law_first", "_law_second"] (spSame C)) (GF : FnAt P w K mg base "_law_distance" 37 ["_law_first", "_law_second"] (spDistance C)) :
    FnOk P w K mg base CX0 44 f fd ["_law_script"] (spLaw K) := by
  refine F.ok scLaw (fun vs H Q E h => ?_) (fun cdv A outer s H vs Q E hr h => ?_)
  · obtain ⟨a, ns, rfl, _⟩ := h
    rfl
  · obtain ⟨a, ns, rfl, hS, hlen, ret⟩ := h
    have h1 : Room 1 _ := hr.mono (by decide : 1 ≤ 43)
    have h36 : Room 36 _ := hr.mono (by decide : 36 ≤ 43)
    have h37 : Room 37 _ := hr.mono (by decide : 37 ≤ 43)
    have h38 : Room 38 _ := hr.mono (by decide : 38 ≤ 43)
    refine ⟨_, pss_cons (ps_set (i := 1) scLaw.nd rfl (Or.inl rfl) (pe_fn GS h1 (pa_cons (pv 0) pa_nil)))
      (pss_cons (ps_asg (pe_fn GN hr (pa_cons (pv 1) (pa_cons pe_int (pa_cons pe_int pa_nil)))) (pg_unl rfl (pgs_cons (pg_name (i := 2) scLaw.nd rfl (Or.inl rfl)) (pgs_cons (pg_name (i := 3) scLaw.nd rfl (Or.inr rfl)) (pgs_cons (pg_name (i := 4) scLaw.nd rfl (Or.inl rfl)) pgs_nil)))))
      (pss_cons (ps_set (i := 5) scLaw.nd rfl (Or.inl rfl) (pe_fld (pv 2) rfl))
      (pss_cons (ps_set (i := 6) scLaw.nd rfl (Or.inr rfl) (pe_mt0 GH N.clN (hr.mono (by decide)) (pv 2)))
      (pss_cons (ps_setLc (i := 7) (own := [("_law_reading_here", 21)]) (g := gName 21) (tt := tYes) rfl scLaw.nd rfl rfl (sw_true rfl rfl rfl (by decide +kernel)) (pi_list (pv 4)) (blkOk_by (N := nLaw) (sc := defScope sLaw) (by decide +kernel))
        (fun _ _ _ _ _ => pg_name (i := 21) scLaw.nd rfl (Or.inl rfl)) (fun _ _ _ _ _ => pts_nil) (fun _ _ _ _ _ => pe_fn GR h37 (pa_cons (pv 3) (pa_cons (pv 21) pa_nil))))
      (pss_cons (ps_set (i := 8) scLaw.nd rfl (Or.inr rfl) (pe_callTy1 (r := rLstOf K) call_lstK (by rfl) B.list boot_list' (pv 6)))
      (pss_cons (ps_if (pt_cmpR op_eq (pe_fn GD h1 (pa_cons (pv 1) (pa_cons pe_int pa_nil))) pe_int (nomark _))
        (pss_one (ps_for PassesOwn.never rfl (pi_list (pe_fn GK h38 (pa_cons (pv 7) (pa_cons (pe_callB1 call_lenS (by rfl) B.len PySem.boot_len (pv 3)) pa_nil)))) (pg_name (i := 9) scLaw.nd rfl (Or.inr rfl))
          (pss_cons (ps_set (i := 10) scLaw.nd rfl (Or.inr rfl) (pe_fn GQ h36 (pa_cons (pv 1) pa_nil)))
          (pss_one (ps_set (i := 8) scLaw.nd rfl (Or.inr rfl) (pe_lc (own := [("_law_j", 15)]) (g := gName 15) (tt := tYes) rfl scLaw.nd (pi_range1 (by rfl) B.range (pa_cons (pe_callB1 call_lenS (by rfl) B.len PySem.boot_len (pv 8)) pa_nil))
            (blkOk_by (N := nLaw) (sc := defScope sLaw) (by decide +kernel)) (fun _ _ _ _ _ => pg_name (i := 15) scLaw.nd rfl (Or.inl rfl)) (fun _ _ _ _ _ => pts_nil)
            (fun _ _ _ _ _ => pe_op (op_addR T h36) (pe_ixK K (pv 8) (pv 15) (fun _ _ => rfl)) (pe_op (op_mulR T h36) (pv 10) (pe_ixK K (pv 9) (pv 15) (fun _ _ => rfl))))))))))
        (pss_one (ps_for PassesOwn.never rfl (pi_range1 (by rfl) B.range (pa_cons (pe_fn GD h1 (pa_cons (pv 1) (pa_cons pe_int pa_nil))) pa_nil)) (pg_name (i := 11) scLaw.nd rfl (Or.inl rfl))
          (pss_cons (ps_set (i := 12) scLaw.nd rfl (Or.inl rfl) (pe_fn GD h1 (pa_cons (pv 1) (pa_cons (pe_callB1 call_lenS (by rfl) B.len PySem.boot_len (pv 8)) pa_nil))))
          (pss_one (ps_asg (pe_op (op_addR T h36) (pe_ix ix_list (pv 8) (pv 12) (fun _ _ => rfl)) (pe_fn GQ h36 (pa_cons (pv 1) pa_nil))) (pg_sub (pv 8) (pv 12) set_list)))))))
      (pss_cons (ps_set (i := 13) scLaw.nd rfl (Or.inl rfl) pe_bl)
      (pss_cons (ps_set (i := 14) scLaw.nd rfl (Or.inl rfl) pe_bl)
      (pss_cons (ps_for PassesOwn.never rfl (pi_range1 (by rfl) B.range (pa_cons (pe_callB1 call_lenS (by rfl) B.len PySem.boot_len (pv 8)) pa_nil)) (pg_name (i := 15) scLaw.nd rfl (Or.inl rfl))
        (pss_one (ps_set (i := 14) scLaw.nd rfl (Or.inl rfl) (pe_or (pv 14) (pe_one (pe_cmpR op_ne (pe_fld (pe_op (op_subR T h36) (pe_ix ix_list (pv 8) (pv 15) (fun _ _ => rfl)) (pe_ix ix_tup (pv 6) (pv 15) (fun _ _ => rfl))) rfl) pe_int (nomark _)))))))
      (pss_cons (ps_for PassesOwn.never rfl (pi_list (pv 7)) (pg_name (i := 16) scLaw.nd rfl (Or.inl rfl))
        (pss_one (ps_if (pt_cmpR op_ne (pe_fld (pe_fn GT h37 (pa_cons (pv 16) (pa_cons (pe_lc (own := [("_law_j", 15)]) (g := gName 15) (tt := tYes) rfl scLaw.nd (pi_range1 (by rfl) B.range (pa_cons (pe_callB1 call_lenS (by rfl) B.len PySem.boot_len (pv 8)) pa_nil))
            (blkOk_by (N := nLaw) (sc := defScope sLaw) (by decide +kernel)) (fun _ _ _ _ _ => pg_name (i := 15) scLaw.nd rfl (Or.inl rfl)) (fun _ _ _ _ _ => pts_nil)
            (fun _ _ _ _ _ => pe_op (op_subR T h36) (pe_ixK K (pv 8) (pv 15) (fun _ _ => rfl)) (pe_ixTK K (pv 6) (pv 15) (fun _ _ => rfl)))) pa_nil))) rfl) pe_int (nomark _))
          (pss_one (ps_set (i := 13) scLaw.nd rfl (Or.inl rfl) pe_bl)) pss_nil)))
      (pss_cons (ps_set (i := 17) scLaw.nd rfl (Or.inl rfl) (pe_fn GU h38 (pa_cons (pv 3) (pa_cons (pv 4) (pa_cons (pv 6) pa_nil)))))
      (pss_cons (ps_set (i := 18) scLaw.nd rfl (Or.inl rfl) (pe_fn GU h38 (pa_cons (pv 3) (pa_cons (pv 4) (pa_cons (pv 8) pa_nil)))))
      (pss_cons (ps_if (pt_not (pt_val (pv 13))) (pss_one (ps_ret (pe_cmpR (op_ltR T h36) (pv 17) (pv 18) (nomark _)))) pss_nil)
      (pss_cons (ps_if (pt_not (pt_val (pe_fn GE h1 (pa_cons (pv 17) (pa_cons (pv 18) pa_nil))))) (pss_one (ps_ret pe_bl)) pss_nil)
      (pss_cons (ps_set (i := 19) scLaw.nd rfl (Or.inl rfl) (pe_fn GF h37 (pa_cons (pv 6) (pa_cons (pv 5) pa_nil))))
      (pss_cons (ps_set (i := 20) scLaw.nd rfl (Or.inl rfl) (pe_fn GF h37 (pa_cons (pv 8) (pa_cons (pv 5) pa_nil))))
      (pss_cons (ps_if (pt_val (pv 14)) (pss_one (ps_ret (pe_cmpR (op_ltR T h36) (pv 19) (pv 20) (nomark _)))) pss_nil)
      (pss_one (ps_ret (pe_fn GE h1 (pa_cons (pv 19) (pa_cons (pv 20) pa_nil))))))))))))))))))))))
      , ?_⟩
    refine ⟨_, rfl, a, ns, rfl, hS, hlen, fun st dl H1 k1 s1 => ?_⟩
    refine ⟨_, rfl, st, dl, rfl, s1, fun r p dx lp lr ln lq n m x0 Ts V' W M P' rr tt H2 k2 hr2 n1 n5 m7 net hln rds adj S s2 ps lps lns lqs => ?_⟩
    refine ⟨r, _, rfl, SqL.of hr2, rfl, _, _, rfl, _, _, rfl, _, _, rfl, rfl, ?_⟩
    obtain ⟨ap, nm, iv, rt, tv, h0, -, tap, -⟩ := id net.ex
    refine ⟨_, rfl, p, CN, dx, _, _, rfl, h0, N.clN, N.net _ (by decide +kernel), net_look (i := 1) (v := ap), ?_⟩
    refine ⟨_, rfl, p, dx, _, rfl, h0, look_none (by decide +kernel), p, dx, lp, lr, n, x0, M, P', rr, tt, m, rfl, net, m7, S, fun vh H3 k3 th => ?_⟩
    have ch := h_cd S m7
    have hok := rds.ok
    obtain ⟨rvs, hlq, hll, hall⟩ := (rds.keep k3 (by simp)).ex
    have s3 := s2.kp k3
    have hln3 := k3.all _ _ hln
    -- rows
    refine ⟨_, rfl, lq, rfl, ⟨_, SqL.of hlq⟩, fun L hL => ?_⟩
    refine lcR_list (R := fun t => TV C n (rowF (Ts t))) (fun _ => TV.mono) hL hlq (by rw [hll]; exact sz12 (by omega)) (fun t x H' Q' hx k' q' => ?_) (gName_mono 21) (fun H4 k4 l4 => ?_)
    · refine ⟨rfl, _, rfl, _, rfl, ln, n, x, Ts t, V' t, W t, t, rfl, n5, k'.all _ _ hln3, RdR.mono _ _ _ _ k' (hall t x hx), (hok t (by have := (List.getElem?_eq_some_iff.mp hx).1; omega)).1, q'⟩
    rw [hll] at l4
    have s4 := s3.kp k4
    have nL : L ≠ st := (s3.ne hL).1.symm
    have th4 := TV.mono _ _ _ _ k4 th
    have tap4 := TV.mono _ _ _ _ (k3.trans k4) tap
    have hln4 := k4.all _ _ hln3
    have rds4 : RdsAt C CR n m Ts V' W lq H4 := rds.keep (k3.trans k4) (by simp)
    -- other
    obtain ⟨ah, vs, rfl, hah, hlh, hih⟩ := id th4
    refine ⟨_, rfl, ah, vs, rfl, .inr (SqT.of hah), fun D0 hD0 => ?_⟩
    have kD0 : Kp [] H4 (upd H4 D0 (.lst vs)) := .new hD0
    have nD0 : D0 ≠ st := (s4.ne hD0).1.symm
    refine via (by dsimp only) (fun σ' H' => ∃ (s9 s10 s11 s12 : Option V) (D : Addr) (o : Nat → Rat), σ' = [some (.ref a), some (.ref st), some (.ref p), some (.ref ln), some (.ref lq), some ap, some (.ref ah), some (.ref L), some (.ref D), s9, s10, s11, s12, none, none, none, none, none, none, none, none, none] ∧
        Kp [st] H4 H' ∧ LstR (fun i => RV C (o i)) n D H' ∧ Cd n 3908400 o) (fun D' post => ?_) ?_
    · refine ⟨_, rfl, st, dl, 2, rfl, by decide, s4.kp kD0, fun d H6 d0 d1 k6 s6 => ⟨rfl, _, rfl, ?_⟩⟩
      have l6 : LstR (fun i => RV C (hOf n x0 rr P' i)) n D0 H6 := LstR.mono (fun _ => RV.mono) k6 (by simpa using nD0) ⟨vs, upd_same, hlh, fun i x hx => RV.mono _ _ _ _ kD0 (hih i x hx)⟩
      have k46 : Kp [st] H4 H6 := kD0.any.trans k6
      refine ite2 (fun _ => ?_) fun _ => ?_
      · refine ⟨_, rfl, _, rfl, ln, _, rfl, .inl (SqL.of (k46.out _ _ (by simpa using lns) hln4)), ?_⟩
        refine ⟨L, n, m, fun t => rowF (Ts t), (by rw [pts_len]; rfl), n5, m7, LstR.mono (fun _ => TV.mono) k46 (by simpa using nL) l4, fun t ht => rowF_ok (hok t ht).1, fun Dk xs H7 k7 fk hDk hxl hxs => ⟨Dk, rfl, ⟨_, SqL.of hDk⟩, ?_⟩⟩
        have nDk : Dk ≠ st := (s6.ne fk).1.symm
        have hxs' : ∀ x ∈ xs, ∃ f, Cd n 190 f ∧ VecR [st] H6 C n f x H7 := fun x hx => by
          obtain ⟨f, cf, b, vs, e, _, g0, g1, g2, g3⟩ := hxs x hx
          exact ⟨f, cf, b, vs, e, by simpa using (s6.ne g0).1.symm, g0, g1, g2, g3⟩
        refine for_list (K := K) (a := Dk) (xs := xs) (fun t σ H' => ∃ (s9 s10 : Option V) (D : Addr) (o : Nat → Rat), σ = [some (.ref a), some (.ref st), some (.ref p), some (.ref ln), some (.ref lq), some ap, some (.ref ah), some (.ref L), some (.ref D), s9, s10, none, none, none, none, none, none, none, none, none, none, none] ∧
            Kp [st] H4 H' ∧ Kp [st] H7 H' ∧ StAt st dl H' ∧ LstR (fun i => RV C (o i)) n D H' ∧ D ≠ st ∧ Cd n (3907281 + 210 * t) o)
          ⟨none, none, D0, _, rfl, k46.trans k7.any, Kp.refl _ _, s6.kp k7, LstR.mono (fun _ => RV.mono) k7 (by simp) l6, nD0, ch⟩ (fun t σ H' _ ⟨_, _, _, _, _, _, k, _⟩ => SqL.of (k.out _ _ (by simpa using nDk) hDk)) ?_ ?_
        · rintro t x σ H' hx ⟨s9, s10, D, o, rfl, k, kk, s, lD, nD, co⟩
          have ht : t < xs.length := (List.getElem?_eq_some_iff.mp hx).1
          obtain ⟨f, cf, vx⟩ := hxs' x (List.mem_of_getElem? hx)
          refine ⟨_, rfl, st, dl, rfl, s, fun vq q H8 cq rq k8 s8 => ?_⟩
          have lD8 := LstR.mono (fun _ => RV.mono) k8 (by simpa using nD) lD
          have vx8 := vx.keep (kk.trans k8) (fun _ h => h)
          refine ⟨_, rfl, lD8.sv.len ?_⟩
          refine ⟨((n : Nat) : Int), rfl, by omega, by omega, fun Dn hDn => ?_⟩
          rw [Int.toNat_natCast]
          have cqf : Cd n 209 (fun i => q * f i) := Cd.scale cq cf
          refine lcR_range (R := fun i => RV C (o i + q * f i)) (fun _ => RV.mono) hDn (sz12 (by omega)) (fun i H9 Q9 hi k9 q9 => ⟨rfl, ?_⟩) (gName_mono 15) (fun H9 k9 l9 => ?_)
          · refine ⟨_, rfl, _, rfl, ?_⟩
            rw [Int.zero_add]
            refine LstR.ixL (LstR.mono (fun _ => RV.mono) k9 (by simp) lD8) hi fun y hy => ⟨_, rfl, _, rfl, _, rfl, VecR.ixL (vx8.keep k9 (by simp)) hi fun z hz => ?_⟩
            refine ⟨q, f i, RV.mono _ _ _ _ k9 rq, hz, cq.big (by omega), cf.big (by omega) hi, fun v1 H10 k10 r10 => ?_⟩
            refine ⟨o i, q * f i, RV.mono _ _ _ _ k10 hy, r10, co.big (by omega) hi, cqf.big (by omega) hi, fun v2 H11 k11 r11 => q9 v2 H11 (k10.trans k11) r11⟩
          · refine ⟨_, _, Dn, _, rfl, (k.trans k8).trans k9.any, (kk.trans k8).trans k9.any, s8.kp k9, l9, (s8.ne hDn).1.symm, (Cd.add co cqf).up (by omega)⟩
        · rintro σ H' ⟨s9, s10, D, o, rfl, k, kk, s, lD, nD, co⟩
          exact post _ _ ⟨s9, s10, none, none, D, o, rfl, k, lD, co.up (by omega)⟩
      · refine ⟨_, rfl, st, dl, 5, rfl, by decide, s6, fun d H7 d0 d1 k7 s7 => ?_⟩
        obtain ⟨e, rfl⟩ : ∃ e : Nat, d = (e : Int) := ⟨d.toNat, by omega⟩
        refine ⟨((e : Nat) : Int), rfl, by omega, by omega, ?_⟩
        rw [Int.toNat_natCast]
        refine for_range (lo := 0) (n := e) (fun t σ H' => ∃ (s11 s12 : Option V) (o : Nat → Rat), σ = [some (.ref a), some (.ref st), some (.ref p), some (.ref ln), some (.ref lq), some ap, some (.ref ah), some (.ref L), some (.ref D0), none, none, s11, s12, none, none, none, none, none, none, none, none, none] ∧
            Kp [st] H4 H' ∧ StAt st dl H' ∧ LstR (fun i => RV C (o i)) n D0 H' ∧ Cd n (3907281 + 210 * t) o)
          ⟨none, none, _, rfl, k46.trans k7, s7, LstR.mono (fun _ => RV.mono) k7 (by simpa using nD0) l6, ch⟩ ?_ ?_
        · rintro t σ H' ht ⟨s11, s12, o, rfl, k, s, lD, co⟩
          refine ⟨_, rfl, _, rfl, lD.sv.len ?_⟩
          refine ⟨st, dl, ((n : Nat) : Int), rfl, by omega, s, fun d2 H8 e0 e1 k8 s8 => ?_⟩
          obtain ⟨g, rfl⟩ : ∃ g : Nat, d2 = (g : Int) := ⟨d2.toNat, by omega⟩
          have hg : g < n := by omega
          have lD8 := LstR.mono (fun _ => RV.mono) k8 (by simpa using nD0) lD
          refine ⟨_, rfl, _, rfl, lD8.ixL hg fun y hy => ⟨_, rfl, st, dl, rfl, s8, fun vq q H9 cq rq k9 s9 => ?_⟩⟩
          refine ⟨o g, q, RV.mono _ _ _ _ k9 hy, rq, co.big (by omega) hg, cq.big (by omega), fun v H10 k10 r10 => ?_⟩
          obtain ⟨zs, z1, z2, z3⟩ := LstR.mono (fun _ => RV.mono) k10 (by simp) (LstR.mono (fun _ => RV.mono) k9 (by simpa using nD0) lD8)
          refine ⟨_, rfl, _, rfl, D0, zs, _, g, rfl, rfl, z1, ixN_nat (by rw [z2]; exact hg), ?_⟩
          have kw : Kp [D0] H10 (upd H10 D0 (.lst (zs.set g v))) := .set z1 rfl (by simp)
          have s10 := s9.kp k10
          refine ⟨_, _, fun i => if i = g then o g + q else o i, rfl, (((k.trans k8).trans k9).trans k10.any).fresh hD0, s10.keep kw (by simpa using nD0.symm) (by simpa using (s4.ne hD0).2), LstR.put (fun _ => RV.mono) z1 z2 (fun i y hy hne => ?_) ?_, co.one cq⟩
          · show RV C (if i = g then o g + q else o i) y H10
            rw [if_neg hne]; exact z3 i y hy
          · show RV C (if g = g then o g + q else o g) v H10
            rw [if_pos rfl]; exact r10
        · rintro σ H' ⟨s11, s12, o, rfl, k, s, lD, co⟩
          exact post _ _ ⟨none, none, s11, s12, D0, o, rfl, k, lD, co.up (by omega)⟩
    · rintro σ H5 ⟨s9, s10, s11, s12, D, o, rfl, k5, lD, cD⟩
      obtain ⟨ls, hLs, hLl, hLi⟩ := LstR.mono (fun _ => TV.mono) k5 (by simpa using nL) l4
      have th5 := TV.mono _ _ _ _ k5 th4
      have tap5 := TV.mono _ _ _ _ k5 tap4
      have hln5 := k5.out _ _ (by simpa using lns) hln4
      have rds5 := rds4.keep k5 (by simpa using lqs)
      -- moved
      refine ⟨_, rfl, lD.sv.len ?_⟩
      refine ⟨((n : Nat) : Int), rfl, by omega, by omega, ?_⟩
      rw [Int.toNat_natCast]
      refine for_range (lo := 0) (n := n) (fun j σ H' => ∃ (b : Bool) (y : Option V), σ = [some (.ref a), some (.ref st), some (.ref p), some (.ref ln), some (.ref lq), some ap, some (.ref ah), some (.ref L), some (.ref D), s9, s10, s11, s12, some (.bl true), some (.bl b), y, none, none, none, none, none, none] ∧
          Kp [] H5 H' ∧ (b = true ↔ ∃ k, k < j ∧ o k - hOf n x0 rr P' k ≠ 0))
        ⟨false, none, rfl, Kp.refl _ _, ⟨fun e => (by cases e), fun ⟨k, hk, _⟩ => absurd hk (by omega)⟩⟩ ?_ ?_
      · rintro j σ H' hj ⟨b, y, rfl, k, hb⟩
        refine ⟨_, rfl, b, rfl, ?_⟩
        cases b with
        | true =>
          refine iteT ⟨true, _, rfl, k, ⟨fun _ => ?_, fun _ => rfl⟩⟩
          obtain ⟨i, hi, hn⟩ := hb.mp rfl
          exact ⟨i, by omega, hn⟩
        | false =>
          refine iteF ⟨_, rfl, _, rfl, ?_⟩
          rw [Int.zero_add]
          refine LstR.ixL (LstR.mono (fun _ => RV.mono) k (by simp) lD) hj fun x hx => ⟨_, rfl, _, rfl, TV.ixT (TV.mono _ _ _ _ k th5) hj fun z hz => ?_⟩
          refine ⟨o j, hOf n x0 rr P' j, hx, hz, cD.big (by omega) hj, ch.big (by omega) hj, fun v H6 k6 r6 => ?_⟩
          obtain ⟨q, dq, rfl, hq⟩ := r6
          refine ⟨q, C, dq, _, _, rfl, hq, T.T.cl, T.T.nT, rfs_top _, rfl, ?_⟩
          refine ⟨_, _, rfl, k.trans k6, ?_⟩
          by_cases h0 : o j - hOf n x0 rr P' j = 0
          · rw [show (!decide (V.int (o j - hOf n x0 rr P' j).num = V.int 0)) = false by rw [h0]; rfl]
            refine ⟨fun e => (by cases e), fun ⟨i, hi, hn⟩ => ?_⟩
            by_cases e : i = j
            · exact absurd h0 (e ▸ hn)
            · exact hb.mpr ⟨i, by omega, hn⟩
          · rw [show (!decide (V.int (o j - hOf n x0 rr P' j).num = V.int 0)) = true by rw [decide_eq_false (fun q => num_ne h0 (V.int.inj q))]; rfl]
            exact ⟨fun _ => ⟨j, by omega, h0⟩, fun _ => rfl⟩
      · rintro σ H6 ⟨mv, y, rfl, k6, hmv⟩
        have cdif : Cd n 7815690 (fun i => o i - hOf n x0 rr P' i) := (Cd.sub cD ch).up (by omega)
        refine ⟨_, rfl, L, rfl, ⟨_, SqL.of (k6.all _ _ hLs)⟩, ?_⟩
        refine for_list (K := K) (a := L) (xs := ls) (fun t σ H' => ∃ (b : Bool) (x : Option V), σ = [some (.ref a), some (.ref st), some (.ref p), some (.ref ln), some (.ref lq), some ap, some (.ref ah), some (.ref L), some (.ref D), s9, s10, s11, s12, some (.bl b), some (.bl mv), y, x, none, none, none, none, none] ∧
            Kp [] H5 H' ∧ (b = true ↔ ∀ u, u < t → dot n (rowF (Ts u)) (fun i => o i - hOf n x0 rr P' i) = 0))
          ⟨true, none, rfl, k6, ⟨fun _ u hu => absurd hu (by omega), fun _ => rfl⟩⟩ (fun t σ H' _ ⟨_, _, _, k, _⟩ => SqL.of (k.all _ _ hLs)) ?_ ?_
        · rintro t x σ H' hx ⟨b, y', rfl, k, hb⟩
          have ht : t < m := by have := (List.getElem?_eq_some_iff.mp hx).1; omega
          have lDk := LstR.mono (fun _ => RV.mono) k (by simp) lD
          refine ⟨_, rfl, _, rfl, lDk.sv.len ?_⟩
          refine ⟨((n : Nat) : Int), rfl, by omega, by omega, fun Dn hDn => ?_⟩
          rw [Int.toNat_natCast]
          refine lcR_range (R := fun i => RV C (o i - hOf n x0 rr P' i)) (fun _ => RV.mono) hDn (sz12 (by omega)) (fun i H9 Q9 hi k9 q9 => ⟨rfl, ?_⟩) (gName_mono 15) (fun H9 k9 l9 => ?_)
          · refine ⟨_, rfl, _, rfl, ?_⟩
            rw [Int.zero_add]
            refine LstR.ixL (LstR.mono (fun _ => RV.mono) k9 (by simp) lDk) hi fun y hy => ⟨_, rfl, _, rfl, TV.ixT (TV.mono _ _ _ _ (k.trans k9) th5) hi fun z hz => ?_⟩
            exact ⟨o i, hOf n x0 rr P' i, hy, hz, cD.big (by omega) hi, ch.big (by omega) hi, q9⟩
          · refine ⟨x, .ref Dn, n, rowF (Ts t), fun i => o i - hOf n x0 rr P' i, 4, 7815690, rfl, by omega, (TV.mono _ _ _ _ (k.trans k9) (hLi t x hx)).sv, l9.sv, (rowF_ok (hok t ht).1).cd, cdif, by omega, fun v H10 k10 r10 => ?_⟩
            obtain ⟨q, dq, rfl, hq⟩ := r10
            refine ⟨q, C, dq, _, _, rfl, hq, T.T.cl, T.T.nT, rfs_top _, rfl, _, rfl, ?_⟩
            have kk := (k.trans k9).trans k10
            by_cases h0 : dot n (rowF (Ts t)) (fun i => o i - hOf n x0 rr P' i) = 0
            · rw [show (!decide (V.int (dot n (rowF (Ts t)) (fun i => o i - hOf n x0 rr P' i)).num = V.int 0)) = false by rw [h0]; rfl]
              refine iteF ⟨b, _, rfl, kk, ⟨fun e u hu => ?_, fun h => hb.mpr fun u hu => h u (by omega)⟩⟩
              by_cases e' : u = t
              · rw [e']; exact h0
              · exact hb.mp e u (by omega)
            · rw [show (!decide (V.int (dot n (rowF (Ts t)) (fun i => o i - hOf n x0 rr P' i)).num = V.int 0)) = true by rw [decide_eq_false (fun q => num_ne h0 (V.int.inj q))]; rfl]
              exact iteT ⟨false, _, rfl, kk, ⟨fun e => (by cases e), fun h => absurd (h t (by omega)) h0⟩⟩
        · rintro σ H7 ⟨b, y', rfl, k7, hb⟩
          rw [hLl] at hb
          refine ⟨_, rfl, _, rfl, _, rfl, ln, lq, .ref ah, n, m, Ts, V', W, hOf n x0 rr P', 3907281, rfl, n5, m7, k7.all _ _ hln5, rds5.keep k7 (by simp), (TV.mono _ _ _ _ k7 th5).sv, ch, by omega, fun v1 H8 k8 r8 => ?_⟩
          have k78 := k7.trans k8
          refine ⟨_, rfl, _, rfl, _, rfl, ln, lq, .ref D, n, m, Ts, V', W, o, 3908400, rfl, n5, m7, k78.all _ _ hln5, rds5.keep k78 (by simp), (lD.sv).kp k78, cD, by omega, fun v2 H9 k9 r9 => ?_⟩
          have k79 := k78.trans k9
          have r8' := RV.mono _ _ _ _ k9 r8
          refine ⟨_, rfl, b, rfl, ?_⟩
          cases b with
          | false =>
            have hex : ∃ t, t < m ∧ dot n (rowF (Ts t)) (fun i => o i - hOf n x0 rr P' i) ≠ 0 := Classical.byContradiction fun hne => by
              have := hb.mpr fun u hu => Classical.byContradiction fun q => hne ⟨u, hu, q⟩
              cases this
            obtain ⟨t, ht, hd⟩ := hex
            refine iteT ⟨_, rfl, _, rfl, _, _, r8', r9, (sqs_c1 hok ch n5 m7).big (by omega), (sqs_c1 hok cD n5 m7).big (by omega), ?_⟩
            rw [decide_eq_true (adj.least ht hd)]
            exact ret _
          | true =>
            have hd := hb.mp rfl
            refine iteF ⟨_, rfl, _, rfl, v1, v2, _, _, rfl, r8', r9, _, rfl, ?_⟩
            rw [decide_eq_true (adj.still hd).symm]
            refine iteF ⟨_, rfl, _, rfl, .ref ah, ap, n, hOf n x0 rr P', x0, 3907281, 95, rfl, n5, (TV.mono _ _ _ _ k79 th5).sv, (TV.mono _ _ _ _ k79 tap5).sv, ch, S.x, by omega, fun v3 H10 k10 r10 => ?_⟩
            have k70 := k79.trans k10
            refine ⟨_, rfl, _, rfl, .ref D, ap, n, o, x0, 3908400, 95, rfl, n5, (lD.sv).kp k70, (TV.mono _ _ _ _ k70 tap5).sv, cD, S.x, by omega, fun v4 H11 k11 r11 => ?_⟩
            have r10' := RV.mono _ _ _ _ k11 r10
            refine ⟨_, rfl, mv, rfl, ?_⟩
            cases mv with
            | true =>
              obtain ⟨k, hk, hm⟩ := hmv.mp rfl
              refine iteT ⟨_, rfl, _, rfl, _, _, r10', r11, (dist_c1 ch S.x n5).big (by omega), (dist_c1 cD S.x n5).big (by omega), ?_⟩
              rw [decide_eq_true (adj.near hd hk hm)]
              exact ret _
            | false =>
              have hm : ∀ k, k < n → o k - hOf n x0 rr P' k = 0 := fun k hk => Classical.byContradiction fun q => by
                have := hmv.mpr ⟨k, hk, q⟩
                cases this
              refine iteF ⟨_, rfl, _, rfl, v3, v4, _, _, rfl, r10', r11, ?_⟩
              rw [decide_eq_true (adj.same hm).symm]
              exact ret _
end
end PN

/-! The end: a run of the law from a claim's caller, where the base also knows that nobody watches long divisions. -/
namespace PN
open PySem PySem.Spec L2 PyProof.Rows
abbrev scObj (d : Array Value) : Obj := { cls := .type "list", data := .seq d }
/-- a heap of which at most the script, at a, is followed -/
structure Seen (h : Heap) (H : Hp) (a : Addr) (d : Array Value) : Prop where
  sc : h.get? a = some (scObj d)
  one : ∀ b, b ≠ a → H b = none
section
variable {P : Program} {w : World} {K : PySem.W.Frag} {mg mb : Str → Option Value} {h : Heap} {H : Hp} {a : Addr} {d : Array Value}
theorem Seen.off {b : Addr} {o : Obj} (S : Seen h H a d) (e : h.get? b = some o) (n : o ≠ scObj d) : (hidT h H).get? b = some o :=
  hidT_get e (S.one b fun q => n (by subst q; exact Option.some.inj (e.symm.trans S.sc)))
theorem Seen.ns {b : Addr} {m : Str → Option Value} (S : Seen h H a d) (x : h.Ns b m) : (hidT h H).Ns b m := by
  obtain ⟨o, es, ep, e, dd, r⟩ := x
  refine ⟨o, es, ep, S.off e (fun q => ?_), dd, r⟩
  rw [q] at dd
  exact nomatch dd
theorem Seen.seer (S : Seen h H a d) (N : h.NoSeer) : (hidT h H).NoSeer := by
  obtain ⟨m1, x1, y1⟩ := N.statics
  obtain ⟨m2, x2, y2⟩ := N.mods
  obtain ⟨m3, x3, y3⟩ := N.imp
  obtain ⟨m4, bm, ob, x4, y4, z4, c4, d4⟩ := N.main
  refine ⟨⟨m1, S.ns x1, y1⟩, ⟨m2, S.ns x2, y2⟩, ⟨m3, S.ns x3, y3⟩, ⟨m4, bm, ob, S.ns x4, y4, S.off z4 (fun q => ?_), c4, d4⟩⟩
  rw [q] at c4
  injection c4 with c5
  exact absurd c5 (by decide)
theorem Seen.kin (S : Seen h H a d) (X : K.In h) (hk : H a ≠ none → K.lookup a = none) : K.In (hidT h H) := fun b o e => hidT_get (X b o e) (by
  by_cases q : b = a
  · subst q
    cases z : H b with
    | none => rfl
    | some u => rw [hk (by rw [z]; intro y; cases y)] at e; cases e
  · exact S.one b q)
/-- one run -/
theorem Seen.run {k : Nat} {fa : Addr} {fd : FuncData} {x : Str} {sp : Sp} {s : Shared} (S : Seen s.heap H a d) (X : K.In s.heap) (hk : H a ≠ none → K.lookup a = none) (g : s.heap.Ns mainGlobals mg) (b : s.heap.Ns builtinsNs mb)
    (hb : ∀ x : Str, x ≠ "__name__" → mb x = bootBuiltins x) (nl : s.heap.NoLimit) (N : s.heap.NoSeer) (hg : s.gens = #[]) (hr : Room k callerA)
    (F : ∀ base : Heap, K.In base → base.Ns mainGlobals mg → base.NoSeer → FnOk P w K mg base CX0 k fa fd [x] sp) (bind : ∀ (s : Shared) (u : Value), BindsTo s fd ⟨[u], []⟩ [(x, u)])
    (hok : HOk P w H s.heap) (hf : ∀ b u, H b = some u → ∃ o xs, u = .frz o xs) (hsp : sp [.ref a] H (fun v _ => v = .bl true) fun _ _ _ => False) :
    codeAny (model P w) callerA (.call (.ref fa) ⟨[.ref a], []⟩) (fun r s' => r = .ok (.ret (.bool true)) ∧ OldK s.heap s'.heap ∧ s'.os = s.os ∧ AllBare s'.gens) s := by
  have kb := S.kin X hk
  obtain ⟨mc, n1, n2⟩ := nl
  have md : Mod K mg (hidT s.heap H) := { kin := kb, glob := S.ns g, blt := ⟨mb, S.ns b, hb⟩, nolimit := ⟨mc, S.ns n1, n2⟩ }
  have env : Env0 P w K mg (hidT s.heap H) callerA [] s H :=
    { frames := rfl, mod := md, bs := fun _ _ e => of_hidT e, bsz := Nat.le_of_eq (hidT_size _ _), funs := trivial, frf := fun c hc => absurd (show c ∈ ([] : List Addr) from hc) (by simp), hok := hok, bare := .of_eq hg }
  have run := (F _ kb (S.ns g) (S.seer N)).run callerA [] s H ⟨[.ref a], []⟩ [.ref a] [.ref a] _ _ hr env (bind s (.ref a)) (.cons rfl .nil) hsp
  refine codeAny_mono run fun r s' q => ?_
  match r, q with
  | .ok (.ret u), q =>
    obtain ⟨v, H', os, bare, un, hok', rv, rfl⟩ := q
    have eu : u = Value.bool true := rv
    refine ⟨by rw [eu], OldK.of_keep fun c o e => ?_, os, bare⟩
    cases z : H c with
    | none => exact un.keep c o e z (fun y => absurd (show c ∈ ([] : List Addr) from y) (by simp)) (by simp)
    | some u =>
      obtain ⟨o2, xs, rfl⟩ := hf c u z
      have q1 := (hok c _ z).1
      have q2 := (hok' c _ (un.frzs c o2 xs z)).1
      rw [q1] at e
      cases e
      exact q2
  | .ok .next, q => exact False.elim q
  | .ok .brk, q => exact False.elim q
  | .ok .cont, q => exact False.elim q
  | .error _, q => exact False.elim q
/-- from the claim's caller: the script followed, or one of the module's own objects -/
theorem call_law {k : Nat} {fa : Addr} {fd : FuncData} {x : Str} {s : Shared} {vs : List Value} {ns : List Int} (X : K.In s.heap) (g : s.heap.Ns mainGlobals mg) (b : s.heap.Ns builtinsNs mb) (hb : ∀ x : Str, x ≠ "__name__" → mb x = bootBuiltins x)
    (nl : s.heap.NoLimit) (N : s.heap.NoSeer) (hg : s.gens = #[]) (sc : s.heap.get? a = some (scObj vs.toArray)) (iv : IntsAre vs ns) (l63 : ns.length ≤ 63) (hr : Room k callerA)
    (F : ∀ base : Heap, K.In base → base.Ns mainGlobals mg → base.NoSeer → FnOk P w K mg base CX0 k fa fd [x] (spLaw K)) (bind : ∀ (s : Shared) (u : Value), BindsTo s fd ⟨[u], []⟩ [(x, u)]) :
    codeAny (model P w) callerA (.call (.ref fa) ⟨[.ref a], []⟩) (fun r s' => r = .ok (.ret (.bool true)) ∧ OldK s.heap s'.heap ∧ s'.os = s.os ∧ AllBare s'.gens) s := by
  have rv := vals_ints iv
  have small : ns.length ≤ sizeLine := Nat.le_trans l63 (by decide)
  by_cases hk : K.lookup a = none
  · let H : Hp := fun b => if b = a then some (.frz (scObj vs.toArray) (.lst (ns.map V.int))) else none
    have Ha : H a = some (.frz (scObj vs.toArray) (.lst (ns.map V.int))) := if_pos rfl
    have Hn : ∀ b, b ≠ a → H b = none := fun b n => if_neg n
    have Hi : ∀ b u, H b = some u → b = a ∧ u = .frz (scObj vs.toArray) (.lst (ns.map V.int)) := fun b u e => by
      by_cases q : b = a
      · subst q
        exact ⟨rfl, Option.some.inj (e.symm.trans Ha)⟩
      · rw [Hn b q] at e; cases e
    refine Seen.run ⟨sc, Hn⟩ X (fun _ => hk) g b hb nl N hg hr F bind (fun b u e => ?_) (fun b u e => ⟨_, _, (Hi b u e).2⟩) ⟨a, ns, rfl, .inl (.inr ⟨_, Ha⟩), l63, fun _ => rfl⟩
    obtain ⟨rfl, rfl⟩ := Hi b u e
    exact ⟨sc, by rw [List.length_map]; exact small, vs, _, rv, sc⟩
  · obtain ⟨o, ho⟩ : ∃ o, K.lookup a = some o := by
      cases z : K.lookup a with
      | none => exact absurd z hk
      | some o => exact ⟨o, rfl⟩
    have eo : o = scObj vs.toArray := Option.some.inj ((X a o ho).symm.trans sc)
    subst eo
    refine Seen.run (H := fun _ => none) ⟨sc, fun _ _ => rfl⟩ X (fun z => absurd rfl z) g b hb nl N hg hr F bind (fun b u e => (by cases e)) (fun b u e => (by cases e)) ⟨a, ns, rfl, .inr ⟨_, vs.toArray, _, ho, rfl, rfl, rfl, ?_, ?_⟩, l63, fun _ => rfl⟩
    · rw [List.size_toArray, iv.length]; exact small
    · simpa using rv
end
theorem walk {l : PySem.W.OpenLaw} {q : Program} {loose : List Str} {XP : (Str → Option Value) → Heap → Prop} {YP : World → Heap → Prop} {d : DefRec} {K : Params → PySem.W.Frag} {x : Str} (hn : l.most = some 63) (hdf : d.params.defaults = []) (hs : importsNone q = true)
    (hY : ∀ (w : World) (h : Heap), YP w h → (K w.params).In h) (F : ∀ (w : World) (mg : Str → Option Value) (fa : Addr) (h : Heap), (K w.params).In h → h.Ns mainGlobals mg → mg d.name = some (.ref fa) →
      ∃ fd : FuncData, (∀ (s : Shared) (u : Value), BindsTo s fd ⟨[u], []⟩ [(x, u)]) ∧ ∀ base : Heap, (K w.params).In base → base.Ns mainGlobals mg → base.NoSeer → FnOk l.prog w (K w.params) mg base CX0 44 fa fd [x] (spLaw (K w.params))) : PySem.W.WalkO q loose XP YP l.row.toRowW d [] (fun f vs => PySem.call f vs) :=
  Att.attach_call hn hdf fun w s₀ s₁ mg mb fa o pm cd doc a vs ns G Y _ _ _ hmg sc iv len hg => by
    have X := hY w _ Y
    have T := G.T
    obtain ⟨fd, bind, run⟩ := F w mg fa _ X T.g hmg
    exact call_law X T.g T.b T.builtins T.nolimit (T.seer hs) hg sc iv len ⟨rfl, by decide, by decide⟩ run bind
end PN

/-! What the top has written, put together (printed by gen_all.py). -/
namespace PN
open PySem L2 PyProof.Rows
theorem all_mk {l : PySem.W.OpenLaw} {w : World} {K : PySem.W.Frag} {h : Heap} {mg : Str → Option Value} {fa C CR CN f_RI f_Radd f_Rsub f_Rmul f_Rneg f_Rlt f_Rover f_RdI f_NI f_dot f_scale f_plus f_minus f_is_zero f_apply f_outer f_sum_of f_scaled f_add_term f_with_added f_widened f_Nadd_point f_Nrow f_Ntally f_Nput f_Nadd f_Nheights f__law_state f__law_draw f__law_whole f__law_ratio f__law_same f__law_dot f__law_reduced f__law_terms f__law_weight f__law_reading f__law_names f__law_row f__law_net f__law_squares f__law_kernel f__law_distance f_law dT : Addr} {tkP tkR tkD nT : Nat} {oT : Value} {oD : Option Addr} {slT : Array (Option Value)}
    {od_RI an_RI od_Radd an_Radd od_Rsub an_Rsub od_Rmul an_Rmul od_Rneg an_Rneg od_Rlt an_Rlt od_Rover an_Rover od_RdI an_RdI od_NI an_NI od_dot an_dot od_scale an_scale od_plus an_plus od_minus an_minus od_is_zero an_is_zero od_apply an_apply od_outer an_outer od_sum_of an_sum_of od_scaled an_scaled od_add_term an_add_term od_with_added an_with_added od_widened an_widened od_Nadd_point an_Nadd_point od_Nrow an_Nrow od_Ntally an_Ntally od_Nput an_Nput od_Nadd an_Nadd od_Nheights an_Nheights od__law_state an__law_state od__law_draw an__law_draw od__law_whole an__law_whole od__law_ratio an__law_ratio od__law_same an__law_same od__law_dot an__law_dot od__law_reduced an__law_reduced od__law_terms an__law_terms od__law_weight an__law_weight od__law_reading an__law_reading od__law_names an__law_names od__law_row an__law_row od__law_net an__law_net od__law_squares an__law_squares od__law_kernel an__law_kernel od__law_distance an__law_distance od_law an_law : Option Addr} {sl_RI sl_Radd sl_Rsub sl_Rmul sl_Rneg sl_Rlt sl_Rover sl_RdI sl_NI sl_dot sl_scale sl_plus sl_minus sl_is_zero sl_apply sl_outer sl_sum_of sl_scaled sl_add_term sl_with_added sl_widened sl_Nadd_point sl_Nrow sl_Ntally sl_Nput sl_Nadd sl_Nheights sl__law_state sl__law_draw sl__law_whole sl__law_ratio sl__law_same sl__law_dot sl__law_reduced sl__law_terms sl__law_weight sl__law_reading sl__law_names sl__law_row sl__law_net sl__law_squares sl__law_kernel sl__law_distance sl_law : Array (Option Value)} {oc_RI kV_RI dc_RI pm_RI cd_RI ct_RI oc_Radd kV_Radd dc_Radd pm_Radd cd_Radd ct_Radd oc_Rsub kV_Rsub dc_Rsub pm_Rsub cd_Rsub ct_Rsub oc_Rmul kV_Rmul dc_Rmul pm_Rmul cd_Rmul ct_Rmul oc_Rneg kV_Rneg dc_Rneg pm_Rneg cd_Rneg ct_Rneg oc_Rlt kV_Rlt dc_Rlt pm_Rlt cd_Rlt ct_Rlt oc_Rover kV_Rover dc_Rover pm_Rover cd_Rover ct_Rover oc_RdI kV_RdI dc_RdI pm_RdI cd_RdI ct_RdI oc_NI kV_NI dc_NI pm_NI cd_NI ct_NI oc_dot kV_dot dc_dot pm_dot cd_dot ct_dot oc_scale kV_scale dc_scale pm_scale cd_scale ct_scale oc_plus kV_plus dc_plus pm_plus cd_plus ct_plus oc_minus kV_minus dc_minus pm_minus cd_minus ct_minus oc_is_zero kV_is_zero dc_is_zero pm_is_zero cd_is_zero ct_is_zero oc_apply kV_apply dc_apply pm_apply cd_apply ct_apply oc_outer kV_outer dc_outer pm_outer cd_outer ct_outer oc_sum_of kV_sum_of dc_sum_of pm_sum_of cd_sum_of ct_sum_of oc_scaled kV_scaled dc_scaled pm_scaled cd_scaled ct_scaled oc_add_term kV_add_term dc_add_term pm_add_term cd_add_term ct_add_term oc_with_added kV_with_added dc_with_added pm_with_added cd_with_added ct_with_added oc_widened kV_widened dc_widened pm_widened cd_widened ct_widened oc_Nadd_point kV_Nadd_point dc_Nadd_point pm_Nadd_point cd_Nadd_point ct_Nadd_point oc_Nrow kV_Nrow dc_Nrow pm_Nrow cd_Nrow ct_Nrow oc_Ntally kV_Ntally dc_Ntally pm_Ntally cd_Ntally ct_Ntally oc_Nput kV_Nput dc_Nput pm_Nput cd_Nput ct_Nput oc_Nadd kV_Nadd dc_Nadd pm_Nadd cd_Nadd ct_Nadd oc_Nheights kV_Nheights dc_Nheights pm_Nheights cd_Nheights ct_Nheights oc__law_state kV__law_state dc__law_state pm__law_state cd__law_state ct__law_state oc__law_draw kV__law_draw dc__law_draw pm__law_draw cd__law_draw ct__law_draw oc__law_whole kV__law_whole dc__law_whole pm__law_whole cd__law_whole ct__law_whole oc__law_ratio kV__law_ratio dc__law_ratio pm__law_ratio cd__law_ratio ct__law_ratio oc__law_same kV__law_same dc__law_same pm__law_same cd__law_same ct__law_same oc__law_dot kV__law_dot dc__law_dot pm__law_dot cd__law_dot ct__law_dot oc__law_reduced kV__law_reduced dc__law_reduced pm__law_reduced cd__law_reduced ct__law_reduced oc__law_terms kV__law_terms dc__law_terms pm__law_terms cd__law_terms ct__law_terms oc__law_weight kV__law_weight dc__law_weight pm__law_weight cd__law_weight ct__law_weight oc__law_reading kV__law_reading dc__law_reading pm__law_reading cd__law_reading ct__law_reading oc__law_names kV__law_names dc__law_names pm__law_names cd__law_names ct__law_names oc__law_row kV__law_row dc__law_row pm__law_row cd__law_row ct__law_row oc__law_net kV__law_net dc__law_net pm__law_net cd__law_net ct__law_net oc__law_squares kV__law_squares dc__law_squares pm__law_squares cd__law_squares ct__law_squares oc__law_kernel kV__law_kernel dc__law_kernel pm__law_kernel cd__law_kernel ct__law_kernel oc__law_distance kV__law_distance dc__law_distance pm__law_distance cd__law_distance ct__law_distance oc_law kV_law dc_law pm_law cd_law ct_law : Value}
    (X : K.In h) (G : h.Ns mainGlobals mg) (hP : l.prog.given.tree = none) (hfa : mg "law" = some (.ref fa))
    (aC : PySem.W.nsIn K mainGlobals "Ratio" = some (some (.ref C)))
    (pgC : PySem.W.plainGet K C Str.empty = true)
    (hdC : PySem.W.hasDictIn K C = true)
    (poC : PySem.W.plainOver K C = true)
    (saC : PySem.W.findIn K (.ref C) "__setattr__" = some (some (.builtin "object.__setattr__")))
    (mkC : PySem.W.makesIn K C = true)
    (kcC : PySem.W.keepIn K (.ref C) = true)
    (aCR : PySem.W.nsIn K mainGlobals "Reading" = some (some (.ref CR)))
    (pgCR : PySem.W.plainGet K CR Str.empty = true)
    (hdCR : PySem.W.hasDictIn K CR = true)
    (poCR : PySem.W.plainOver K CR = true)
    (saCR : PySem.W.findIn K (.ref CR) "__setattr__" = some (some (.builtin "object.__setattr__")))
    (mkCR : PySem.W.makesIn K CR = true)
    (kcCR : PySem.W.keepIn K (.ref CR) = true)
    (aCN : PySem.W.nsIn K mainGlobals "Net" = some (some (.ref CN)))
    (pgCN : PySem.W.plainGet K CN Str.empty = true)
    (hdCN : PySem.W.hasDictIn K CN = true)
    (poCN : PySem.W.plainOver K CN = true)
    (saCN : PySem.W.findIn K (.ref CN) "__setattr__" = some (some (.builtin "object.__setattr__")))
    (mkCN : PySem.W.makesIn K CN = true)
    (kcCN : PySem.W.keepIn K (.ref CN) = true)
    (nC_top : PySem.W.findIn K (.ref C) "top" = some none)
    (nC_bottom : PySem.W.findIn K (.ref C) "bottom" = some none)
    (nCR_name : PySem.W.findIn K (.ref CR) "name" = some none)
    (nCR_terms : PySem.W.findIn K (.ref CR) "terms" = some none)
    (nCR_value : PySem.W.findIn K (.ref CR) "value" = some none)
    (nCR_weight : PySem.W.findIn K (.ref CR) "weight" = some none)
    (nCN_points : PySem.W.findIn K (.ref CN) "points" = some none)
    (nCN_approximations : PySem.W.findIn K (.ref CN) "approximations" = some none)
    (nCN_readings : PySem.W.findIn K (.ref CN) "readings" = some none)
    (nCN_normal : PySem.W.findIn K (.ref CN) "normal" = some none)
    (nCN_inverse : PySem.W.findIn K (.ref CN) "inverse" = some none)
    (nCN_right : PySem.W.findIn K (.ref CN) "right" = some none)
    (nCN_total : PySem.W.findIn K (.ref CN) "total" = some none)
    (sf : PySem.W.selfFirst K C = true)
    (z1 : PySem.W.findIn K (.ref C) "__class__" = some (some (.builtin "object.__class__")))
    (z2 : PySem.W.specialIn K (.builtin "object.__class__") "__get__" = some (some (.builtin "getset_descriptor.__get__")))
    (z3 : PySem.W.takesIn K (.builtin "object.__class__") = some true)
    (z4 : PySem.W.mroIn K C (.type "object") = some true)
    (b_tuple : PySem.W.nsIn K mainGlobals "tuple" = some none)
    (b_zip : PySem.W.nsIn K mainGlobals "zip" = some none)
    (b_len : PySem.W.nsIn K mainGlobals "len" = some none)
    (b_list : PySem.W.nsIn K mainGlobals "list" = some none)
    (b_range : PySem.W.nsIn K mainGlobals "range" = some none)
    (b_int : PySem.W.nsIn K mainGlobals "int" = some none)
    (b_str : PySem.W.nsIn K mainGlobals "str" = some none)
    (b_abs : PySem.W.nsIn K mainGlobals "abs" = some none)
    (b_isinstance : PySem.W.nsIn K mainGlobals "isinstance" = some none)
    (gG : PySem.W.nsIn K mainGlobals "gcd" = some (some (.builtin "math.gcd")))
    (cP : PySem.W.nsIn K mainGlobals "MOST_POINTS" = some (some (.int 12 tkP)))
    (cR : PySem.W.nsIn K mainGlobals "MOST_READINGS" = some (some (.int 24 tkR)))
    (a_RI : PySem.W.findIn K (.ref C) "__init__" = some (some (.ref f_RI)))
    (i_RI : PySem.W.isFn K (.ref f_RI) = true)
    (l_RI : K.lookup f_RI = some ⟨oc_RI, od_RI, .func (PySem.W.fnOf "__init__" "Ratio.__init__" (defArgs sRInit) (defBody sRInit) (defScope sRInit) (.ref dT) kV_RI dc_RI pm_RI an_RI cd_RI ct_RI), sl_RI⟩)
    (c_RI : PySem.W.codeIn K cd_RI "Ratio.__init__" = true)
    (k_RI : PySem.W.keepIn K (.ref f_RI) = true)
    (dl : K.lookup dT = some ⟨oT, oD, .seq #[.int 1 tkD] nT, slT⟩)
    (a_Radd : PySem.W.findIn K (.ref C) "__add__" = some (some (.ref f_Radd)))
    (i_Radd : PySem.W.isFn K (.ref f_Radd) = true)
    (l_Radd : K.lookup f_Radd = some ⟨oc_Radd, od_Radd, .func (PySem.W.fnOf "__add__" "Ratio.__add__" (defArgs sRAdd) (defBody sRAdd) (defScope sRAdd) .none kV_Radd dc_Radd pm_Radd an_Radd cd_Radd ct_Radd), sl_Radd⟩)
    (c_Radd : PySem.W.codeIn K cd_Radd "Ratio.__add__" = true)
    (k_Radd : PySem.W.keepIn K (.ref f_Radd) = true)
    (a_Rsub : PySem.W.findIn K (.ref C) "__sub__" = some (some (.ref f_Rsub)))
    (i_Rsub : PySem.W.isFn K (.ref f_Rsub) = true)
    (l_Rsub : K.lookup f_Rsub = some ⟨oc_Rsub, od_Rsub, .func (PySem.W.fnOf "__sub__" "Ratio.__sub__" (defArgs sRSub) (defBody sRSub) (defScope sRSub) .none kV_Rsub dc_Rsub pm_Rsub an_Rsub cd_Rsub ct_Rsub), sl_Rsub⟩)
    (c_Rsub : PySem.W.codeIn K cd_Rsub "Ratio.__sub__" = true)
    (k_Rsub : PySem.W.keepIn K (.ref f_Rsub) = true)
    (a_Rmul : PySem.W.findIn K (.ref C) "__mul__" = some (some (.ref f_Rmul)))
    (i_Rmul : PySem.W.isFn K (.ref f_Rmul) = true)
    (l_Rmul : K.lookup f_Rmul = some ⟨oc_Rmul, od_Rmul, .func (PySem.W.fnOf "__mul__" "Ratio.__mul__" (defArgs sRMul) (defBody sRMul) (defScope sRMul) .none kV_Rmul dc_Rmul pm_Rmul an_Rmul cd_Rmul ct_Rmul), sl_Rmul⟩)
    (c_Rmul : PySem.W.codeIn K cd_Rmul "Ratio.__mul__" = true)
    (k_Rmul : PySem.W.keepIn K (.ref f_Rmul) = true)
    (a_Rneg : PySem.W.findIn K (.ref C) "__neg__" = some (some (.ref f_Rneg)))
    (i_Rneg : PySem.W.isFn K (.ref f_Rneg) = true)
    (l_Rneg : K.lookup f_Rneg = some ⟨oc_Rneg, od_Rneg, .func (PySem.W.fnOf "__neg__" "Ratio.__neg__" (defArgs sRNeg) (defBody sRNeg) (defScope sRNeg) .none kV_Rneg dc_Rneg pm_Rneg an_Rneg cd_Rneg ct_Rneg), sl_Rneg⟩)
    (c_Rneg : PySem.W.codeIn K cd_Rneg "Ratio.__neg__" = true)
    (k_Rneg : PySem.W.keepIn K (.ref f_Rneg) = true)
    (a_Rlt : PySem.W.findIn K (.ref C) "__lt__" = some (some (.ref f_Rlt)))
    (i_Rlt : PySem.W.isFn K (.ref f_Rlt) = true)
    (l_Rlt : K.lookup f_Rlt = some ⟨oc_Rlt, od_Rlt, .func (PySem.W.fnOf "__lt__" "Ratio.__lt__" (defArgs sRLt) (defBody sRLt) (defScope sRLt) .none kV_Rlt dc_Rlt pm_Rlt an_Rlt cd_Rlt ct_Rlt), sl_Rlt⟩)
    (c_Rlt : PySem.W.codeIn K cd_Rlt "Ratio.__lt__" = true)
    (k_Rlt : PySem.W.keepIn K (.ref f_Rlt) = true)
    (a_Rover : PySem.W.findIn K (.ref C) "over" = some (some (.ref f_Rover)))
    (i_Rover : PySem.W.isFn K (.ref f_Rover) = true)
    (l_Rover : K.lookup f_Rover = some ⟨oc_Rover, od_Rover, .func (PySem.W.fnOf "over" "Ratio.over" (defArgs sROver) (defBody sROver) (defScope sROver) .none kV_Rover dc_Rover pm_Rover an_Rover cd_Rover ct_Rover), sl_Rover⟩)
    (c_Rover : PySem.W.codeIn K cd_Rover "Ratio.over" = true)
    (k_Rover : PySem.W.keepIn K (.ref f_Rover) = true)
    (a_RdI : PySem.W.findIn K (.ref CR) "__init__" = some (some (.ref f_RdI)))
    (i_RdI : PySem.W.isFn K (.ref f_RdI) = true)
    (l_RdI : K.lookup f_RdI = some ⟨oc_RdI, od_RdI, .func (PySem.W.fnOf "__init__" "Reading.__init__" (defArgs sRdInit) (defBody sRdInit) (defScope sRdInit) .none kV_RdI dc_RdI pm_RdI an_RdI cd_RdI ct_RdI), sl_RdI⟩)
    (c_RdI : PySem.W.codeIn K cd_RdI "Reading.__init__" = true)
    (k_RdI : PySem.W.keepIn K (.ref f_RdI) = true)
    (a_NI : PySem.W.findIn K (.ref CN) "__init__" = some (some (.ref f_NI)))
    (i_NI : PySem.W.isFn K (.ref f_NI) = true)
    (l_NI : K.lookup f_NI = some ⟨oc_NI, od_NI, .func (PySem.W.fnOf "__init__" "Net.__init__" (defArgs sNInit) (defBody sNInit) (defScope sNInit) .none kV_NI dc_NI pm_NI an_NI cd_NI ct_NI), sl_NI⟩)
    (c_NI : PySem.W.codeIn K cd_NI "Net.__init__" = true)
    (k_NI : PySem.W.keepIn K (.ref f_NI) = true)
    (a_dot : PySem.W.nsIn K mainGlobals "dot" = some (some (.ref f_dot)))
    (l_dot : K.lookup f_dot = some ⟨oc_dot, od_dot, .func (PySem.W.fnOf "dot" "dot" (defArgs sDot) (defBody sDot) (defScope sDot) .none kV_dot dc_dot pm_dot an_dot cd_dot ct_dot), sl_dot⟩)
    (c_dot : PySem.W.codeIn K cd_dot "dot" = true)
    (k_dot : PySem.W.keepIn K (.ref f_dot) = true)
    (a_scale : PySem.W.nsIn K mainGlobals "scale" = some (some (.ref f_scale)))
    (l_scale : K.lookup f_scale = some ⟨oc_scale, od_scale, .func (PySem.W.fnOf "scale" "scale" (defArgs sScale) (defBody sScale) (defScope sScale) .none kV_scale dc_scale pm_scale an_scale cd_scale ct_scale), sl_scale⟩)
    (c_scale : PySem.W.codeIn K cd_scale "scale" = true)
    (k_scale : PySem.W.keepIn K (.ref f_scale) = true)
    (a_plus : PySem.W.nsIn K mainGlobals "plus" = some (some (.ref f_plus)))
    (l_plus : K.lookup f_plus = some ⟨oc_plus, od_plus, .func (PySem.W.fnOf "plus" "plus" (defArgs sPlus) (defBody sPlus) (defScope sPlus) .none kV_plus dc_plus pm_plus an_plus cd_plus ct_plus), sl_plus⟩)
    (c_plus : PySem.W.codeIn K cd_plus "plus" = true)
    (k_plus : PySem.W.keepIn K (.ref f_plus) = true)
    (a_minus : PySem.W.nsIn K mainGlobals "minus" = some (some (.ref f_minus)))
    (l_minus : K.lookup f_minus = some ⟨oc_minus, od_minus, .func (PySem.W.fnOf "minus" "minus" (defArgs sMinus) (defBody sMinus) (defScope sMinus) .none kV_minus dc_minus pm_minus an_minus cd_minus ct_minus), sl_minus⟩)
    (c_minus : PySem.W.codeIn K cd_minus "minus" = true)
    (k_minus : PySem.W.keepIn K (.ref f_minus) = true)
    (a_is_zero : PySem.W.nsIn K mainGlobals "is_zero" = some (some (.ref f_is_zero)))
    (l_is_zero : K.lookup f_is_zero = some ⟨oc_is_zero, od_is_zero, .func (PySem.W.fnOf "is_zero" "is_zero" (defArgs sIsZero) (defBody sIsZero) (defScope sIsZero) .none kV_is_zero dc_is_zero pm_is_zero an_is_zero cd_is_zero ct_is_zero), sl_is_zero⟩)
    (c_is_zero : PySem.W.codeIn K cd_is_zero "is_zero" = true)
    (k_is_zero : PySem.W.keepIn K (.ref f_is_zero) = true)
    (a_apply : PySem.W.nsIn K mainGlobals "apply" = some (some (.ref f_apply)))
    (l_apply : K.lookup f_apply = some ⟨oc_apply, od_apply, .func (PySem.W.fnOf "apply" "apply" (defArgs sApply) (defBody sApply) (defScope sApply) .none kV_apply dc_apply pm_apply an_apply cd_apply ct_apply), sl_apply⟩)
    (c_apply : PySem.W.codeIn K cd_apply "apply" = true)
    (k_apply : PySem.W.keepIn K (.ref f_apply) = true)
    (a_outer : PySem.W.nsIn K mainGlobals "outer" = some (some (.ref f_outer)))
    (l_outer : K.lookup f_outer = some ⟨oc_outer, od_outer, .func (PySem.W.fnOf "outer" "outer" (defArgs sOuter) (defBody sOuter) (defScope sOuter) .none kV_outer dc_outer pm_outer an_outer cd_outer ct_outer), sl_outer⟩)
    (c_outer : PySem.W.codeIn K cd_outer "outer" = true)
    (k_outer : PySem.W.keepIn K (.ref f_outer) = true)
    (a_sum_of : PySem.W.nsIn K mainGlobals "sum_of" = some (some (.ref f_sum_of)))
    (l_sum_of : K.lookup f_sum_of = some ⟨oc_sum_of, od_sum_of, .func (PySem.W.fnOf "sum_of" "sum_of" (defArgs sSumOf) (defBody sSumOf) (defScope sSumOf) .none kV_sum_of dc_sum_of pm_sum_of an_sum_of cd_sum_of ct_sum_of), sl_sum_of⟩)
    (c_sum_of : PySem.W.codeIn K cd_sum_of "sum_of" = true)
    (k_sum_of : PySem.W.keepIn K (.ref f_sum_of) = true)
    (a_scaled : PySem.W.nsIn K mainGlobals "scaled" = some (some (.ref f_scaled)))
    (l_scaled : K.lookup f_scaled = some ⟨oc_scaled, od_scaled, .func (PySem.W.fnOf "scaled" "scaled" (defArgs sScaled) (defBody sScaled) (defScope sScaled) .none kV_scaled dc_scaled pm_scaled an_scaled cd_scaled ct_scaled), sl_scaled⟩)
    (c_scaled : PySem.W.codeIn K cd_scaled "scaled" = true)
    (k_scaled : PySem.W.keepIn K (.ref f_scaled) = true)
    (a_add_term : PySem.W.nsIn K mainGlobals "add_term" = some (some (.ref f_add_term)))
    (l_add_term : K.lookup f_add_term = some ⟨oc_add_term, od_add_term, .func (PySem.W.fnOf "add_term" "add_term" (defArgs sAddTerm) (defBody sAddTerm) (defScope sAddTerm) .none kV_add_term dc_add_term pm_add_term an_add_term cd_add_term ct_add_term), sl_add_term⟩)
    (c_add_term : PySem.W.codeIn K cd_add_term "add_term" = true)
    (k_add_term : PySem.W.keepIn K (.ref f_add_term) = true)
    (a_with_added : PySem.W.nsIn K mainGlobals "with_added" = some (some (.ref f_with_added)))
    (l_with_added : K.lookup f_with_added = some ⟨oc_with_added, od_with_added, .func (PySem.W.fnOf "with_added" "with_added" (defArgs sWithAdded) (defBody sWithAdded) (defScope sWithAdded) .none kV_with_added dc_with_added pm_with_added an_with_added cd_with_added ct_with_added), sl_with_added⟩)
    (c_with_added : PySem.W.codeIn K cd_with_added "with_added" = true)
    (k_with_added : PySem.W.keepIn K (.ref f_with_added) = true)
    (a_widened : PySem.W.nsIn K mainGlobals "widened" = some (some (.ref f_widened)))
    (l_widened : K.lookup f_widened = some ⟨oc_widened, od_widened, .func (PySem.W.fnOf "widened" "widened" (defArgs sWidened) (defBody sWidened) (defScope sWidened) .none kV_widened dc_widened pm_widened an_widened cd_widened ct_widened), sl_widened⟩)
    (c_widened : PySem.W.codeIn K cd_widened "widened" = true)
    (k_widened : PySem.W.keepIn K (.ref f_widened) = true)
    (a_Nadd_point : PySem.W.findIn K (.ref CN) "add_point" = some (some (.ref f_Nadd_point)))
    (i_Nadd_point : PySem.W.isFn K (.ref f_Nadd_point) = true)
    (l_Nadd_point : K.lookup f_Nadd_point = some ⟨oc_Nadd_point, od_Nadd_point, .func (PySem.W.fnOf "add_point" "Net.add_point" (defArgs sNAddPoint) (defBody sNAddPoint) (defScope sNAddPoint) .none kV_Nadd_point dc_Nadd_point pm_Nadd_point an_Nadd_point cd_Nadd_point ct_Nadd_point), sl_Nadd_point⟩)
    (c_Nadd_point : PySem.W.codeIn K cd_Nadd_point "Net.add_point" = true)
    (k_Nadd_point : PySem.W.keepIn K (.ref f_Nadd_point) = true)
    (a_Nrow : PySem.W.findIn K (.ref CN) "row" = some (some (.ref f_Nrow)))
    (i_Nrow : PySem.W.isFn K (.ref f_Nrow) = true)
    (l_Nrow : K.lookup f_Nrow = some ⟨oc_Nrow, od_Nrow, .func (PySem.W.fnOf "row" "Net.row" (defArgs sNRow) (defBody sNRow) (defScope sNRow) .none kV_Nrow dc_Nrow pm_Nrow an_Nrow cd_Nrow ct_Nrow), sl_Nrow⟩)
    (c_Nrow : PySem.W.codeIn K cd_Nrow "Net.row" = true)
    (k_Nrow : PySem.W.keepIn K (.ref f_Nrow) = true)
    (a_Ntally : PySem.W.findIn K (.ref CN) "tally" = some (some (.ref f_Ntally)))
    (i_Ntally : PySem.W.isFn K (.ref f_Ntally) = true)
    (l_Ntally : K.lookup f_Ntally = some ⟨oc_Ntally, od_Ntally, .func (PySem.W.fnOf "tally" "Net.tally" (defArgs sNTally) (defBody sNTally) (defScope sNTally) .none kV_Ntally dc_Ntally pm_Ntally an_Ntally cd_Ntally ct_Ntally), sl_Ntally⟩)
    (c_Ntally : PySem.W.codeIn K cd_Ntally "Net.tally" = true)
    (k_Ntally : PySem.W.keepIn K (.ref f_Ntally) = true)
    (a_Nput : PySem.W.findIn K (.ref CN) "put" = some (some (.ref f_Nput)))
    (i_Nput : PySem.W.isFn K (.ref f_Nput) = true)
    (l_Nput : K.lookup f_Nput = some ⟨oc_Nput, od_Nput, .func (PySem.W.fnOf "put" "Net.put" (defArgs sNPut) (defBody sNPut) (defScope sNPut) .none kV_Nput dc_Nput pm_Nput an_Nput cd_Nput ct_Nput), sl_Nput⟩)
    (c_Nput : PySem.W.codeIn K cd_Nput "Net.put" = true)
    (k_Nput : PySem.W.keepIn K (.ref f_Nput) = true)
    (a_Nadd : PySem.W.findIn K (.ref CN) "add" = some (some (.ref f_Nadd)))
    (i_Nadd : PySem.W.isFn K (.ref f_Nadd) = true)
    (l_Nadd : K.lookup f_Nadd = some ⟨oc_Nadd, od_Nadd, .func (PySem.W.fnOf "add" "Net.add" (defArgs sNAdd) (defBody sNAdd) (defScope sNAdd) .none kV_Nadd dc_Nadd pm_Nadd an_Nadd cd_Nadd ct_Nadd), sl_Nadd⟩)
    (c_Nadd : PySem.W.codeIn K cd_Nadd "Net.add" = true)
    (k_Nadd : PySem.W.keepIn K (.ref f_Nadd) = true)
    (a_Nheights : PySem.W.findIn K (.ref CN) "heights" = some (some (.ref f_Nheights)))
    (i_Nheights : PySem.W.isFn K (.ref f_Nheights) = true)
    (l_Nheights : K.lookup f_Nheights = some ⟨oc_Nheights, od_Nheights, .func (PySem.W.fnOf "heights" "Net.heights" (defArgs sNHeights) (defBody sNHeights) (defScope sNHeights) .none kV_Nheights dc_Nheights pm_Nheights an_Nheights cd_Nheights ct_Nheights), sl_Nheights⟩)
    (c_Nheights : PySem.W.codeIn K cd_Nheights "Net.heights" = true)
    (k_Nheights : PySem.W.keepIn K (.ref f_Nheights) = true)
    (a__law_state : PySem.W.nsIn K mainGlobals "_law_state" = some (some (.ref f__law_state)))
    (l__law_state : K.lookup f__law_state = some ⟨oc__law_state, od__law_state, .func (PySem.W.fnOf "_law_state" "_law_state" (defArgs sState) (defBody sState) (defScope sState) .none kV__law_state dc__law_state pm__law_state an__law_state cd__law_state ct__law_state), sl__law_state⟩)
    (c__law_state : PySem.W.codeIn K cd__law_state "_law_state" = true)
    (k__law_state : PySem.W.keepIn K (.ref f__law_state) = true)
    (a__law_draw : PySem.W.nsIn K mainGlobals "_law_draw" = some (some (.ref f__law_draw)))
    (l__law_draw : K.lookup f__law_draw = some ⟨oc__law_draw, od__law_draw, .func (PySem.W.fnOf "_law_draw" "_law_draw" (defArgs sDraw) (defBody sDraw) (defScope sDraw) .none kV__law_draw dc__law_draw pm__law_draw an__law_draw cd__law_draw ct__law_draw), sl__law_draw⟩)
    (c__law_draw : PySem.W.codeIn K cd__law_draw "_law_draw" = true)
    (k__law_draw : PySem.W.keepIn K (.ref f__law_draw) = true)
    (a__law_whole : PySem.W.nsIn K mainGlobals "_law_whole" = some (some (.ref f__law_whole)))
    (l__law_whole : K.lookup f__law_whole = some ⟨oc__law_whole, od__law_whole, .func (PySem.W.fnOf "_law_whole" "_law_whole" (defArgs sWhole) (defBody sWhole) (defScope sWhole) .none kV__law_whole dc__law_whole pm__law_whole an__law_whole cd__law_whole ct__law_whole), sl__law_whole⟩)
    (c__law_whole : PySem.W.codeIn K cd__law_whole "_law_whole" = true)
    (k__law_whole : PySem.W.keepIn K (.ref f__law_whole) = true)
    (a__law_ratio : PySem.W.nsIn K mainGlobals "_law_ratio" = some (some (.ref f__law_ratio)))
    (l__law_ratio : K.lookup f__law_ratio = some ⟨oc__law_ratio, od__law_ratio, .func (PySem.W.fnOf "_law_ratio" "_law_ratio" (defArgs sRatio) (defBody sRatio) (defScope sRatio) .none kV__law_ratio dc__law_ratio pm__law_ratio an__law_ratio cd__law_ratio ct__law_ratio), sl__law_ratio⟩)
    (c__law_ratio : PySem.W.codeIn K cd__law_ratio "_law_ratio" = true)
    (k__law_ratio : PySem.W.keepIn K (.ref f__law_ratio) = true)
    (a__law_same : PySem.W.nsIn K mainGlobals "_law_same" = some (some (.ref f__law_same)))
    (l__law_same : K.lookup f__law_same = some ⟨oc__law_same, od__law_same, .func (PySem.W.fnOf "_law_same" "_law_same" (defArgs sSame) (defBody sSame) (defScope sSame) .none kV__law_same dc__law_same pm__law_same an__law_same cd__law_same ct__law_same), sl__law_same⟩)
    (c__law_same : PySem.W.codeIn K cd__law_same "_law_same" = true)
    (k__law_same : PySem.W.keepIn K (.ref f__law_same) = true)
    (a__law_dot : PySem.W.nsIn K mainGlobals "_law_dot" = some (some (.ref f__law_dot)))
    (l__law_dot : K.lookup f__law_dot = some ⟨oc__law_dot, od__law_dot, .func (PySem.W.fnOf "_law_dot" "_law_dot" (defArgs sLDot) (defBody sLDot) (defScope sLDot) .none kV__law_dot dc__law_dot pm__law_dot an__law_dot cd__law_dot ct__law_dot), sl__law_dot⟩)
    (c__law_dot : PySem.W.codeIn K cd__law_dot "_law_dot" = true)
    (k__law_dot : PySem.W.keepIn K (.ref f__law_dot) = true)
    (a__law_reduced : PySem.W.nsIn K mainGlobals "_law_reduced" = some (some (.ref f__law_reduced)))
    (l__law_reduced : K.lookup f__law_reduced = some ⟨oc__law_reduced, od__law_reduced, .func (PySem.W.fnOf "_law_reduced" "_law_reduced" (defArgs sReduced) (defBody sReduced) (defScope sReduced) .none kV__law_reduced dc__law_reduced pm__law_reduced an__law_reduced cd__law_reduced ct__law_reduced), sl__law_reduced⟩)
    (c__law_reduced : PySem.W.codeIn K cd__law_reduced "_law_reduced" = true)
    (k__law_reduced : PySem.W.keepIn K (.ref f__law_reduced) = true)
    (a__law_terms : PySem.W.nsIn K mainGlobals "_law_terms" = some (some (.ref f__law_terms)))
    (l__law_terms : K.lookup f__law_terms = some ⟨oc__law_terms, od__law_terms, .func (PySem.W.fnOf "_law_terms" "_law_terms" (defArgs sTerms) (defBody sTerms) (defScope sTerms) .none kV__law_terms dc__law_terms pm__law_terms an__law_terms cd__law_terms ct__law_terms), sl__law_terms⟩)
    (c__law_terms : PySem.W.codeIn K cd__law_terms "_law_terms" = true)
    (k__law_terms : PySem.W.keepIn K (.ref f__law_terms) = true)
    (a__law_weight : PySem.W.nsIn K mainGlobals "_law_weight" = some (some (.ref f__law_weight)))
    (l__law_weight : K.lookup f__law_weight = some ⟨oc__law_weight, od__law_weight, .func (PySem.W.fnOf "_law_weight" "_law_weight" (defArgs sWeight) (defBody sWeight) (defScope sWeight) .none kV__law_weight dc__law_weight pm__law_weight an__law_weight cd__law_weight ct__law_weight), sl__law_weight⟩)
    (c__law_weight : PySem.W.codeIn K cd__law_weight "_law_weight" = true)
    (k__law_weight : PySem.W.keepIn K (.ref f__law_weight) = true)
    (a__law_reading : PySem.W.nsIn K mainGlobals "_law_reading" = some (some (.ref f__law_reading)))
    (l__law_reading : K.lookup f__law_reading = some ⟨oc__law_reading, od__law_reading, .func (PySem.W.fnOf "_law_reading" "_law_reading" (defArgs sReading) (defBody sReading) (defScope sReading) .none kV__law_reading dc__law_reading pm__law_reading an__law_reading cd__law_reading ct__law_reading), sl__law_reading⟩)
    (c__law_reading : PySem.W.codeIn K cd__law_reading "_law_reading" = true)
    (k__law_reading : PySem.W.keepIn K (.ref f__law_reading) = true)
    (a__law_names : PySem.W.nsIn K mainGlobals "_law_names" = some (some (.ref f__law_names)))
    (l__law_names : K.lookup f__law_names = some ⟨oc__law_names, od__law_names, .func (PySem.W.fnOf "_law_names" "_law_names" (defArgs sNames) (defBody sNames) (defScope sNames) .none kV__law_names dc__law_names pm__law_names an__law_names cd__law_names ct__law_names), sl__law_names⟩)
    (c__law_names : PySem.W.codeIn K cd__law_names "_law_names" = true)
    (k__law_names : PySem.W.keepIn K (.ref f__law_names) = true)
    (a__law_row : PySem.W.nsIn K mainGlobals "_law_row" = some (some (.ref f__law_row)))
    (l__law_row : K.lookup f__law_row = some ⟨oc__law_row, od__law_row, .func (PySem.W.fnOf "_law_row" "_law_row" (defArgs sLRow) (defBody sLRow) (defScope sLRow) .none kV__law_row dc__law_row pm__law_row an__law_row cd__law_row ct__law_row), sl__law_row⟩)
    (c__law_row : PySem.W.codeIn K cd__law_row "_law_row" = true)
    (k__law_row : PySem.W.keepIn K (.ref f__law_row) = true)
    (a__law_net : PySem.W.nsIn K mainGlobals "_law_net" = some (some (.ref f__law_net)))
    (l__law_net : K.lookup f__law_net = some ⟨oc__law_net, od__law_net, .func (PySem.W.fnOf "_law_net" "_law_net" (defArgs sLNet) (defBody sLNet) (defScope sLNet) .none kV__law_net dc__law_net pm__law_net an__law_net cd__law_net ct__law_net), sl__law_net⟩)
    (c__law_net : PySem.W.codeIn K cd__law_net "_law_net" = true)
    (k__law_net : PySem.W.keepIn K (.ref f__law_net) = true)
    (a__law_squares : PySem.W.nsIn K mainGlobals "_law_squares" = some (some (.ref f__law_squares)))
    (l__law_squares : K.lookup f__law_squares = some ⟨oc__law_squares, od__law_squares, .func (PySem.W.fnOf "_law_squares" "_law_squares" (defArgs sSquares) (defBody sSquares) (defScope sSquares) .none kV__law_squares dc__law_squares pm__law_squares an__law_squares cd__law_squares ct__law_squares), sl__law_squares⟩)
    (c__law_squares : PySem.W.codeIn K cd__law_squares "_law_squares" = true)
    (k__law_squares : PySem.W.keepIn K (.ref f__law_squares) = true)
    (a__law_kernel : PySem.W.nsIn K mainGlobals "_law_kernel" = some (some (.ref f__law_kernel)))
    (l__law_kernel : K.lookup f__law_kernel = some ⟨oc__law_kernel, od__law_kernel, .func (PySem.W.fnOf "_law_kernel" "_law_kernel" (defArgs sKernel) (defBody sKernel) (defScope sKernel) .none kV__law_kernel dc__law_kernel pm__law_kernel an__law_kernel cd__law_kernel ct__law_kernel), sl__law_kernel⟩)
    (c__law_kernel : PySem.W.codeIn K cd__law_kernel "_law_kernel" = true)
    (k__law_kernel : PySem.W.keepIn K (.ref f__law_kernel) = true)
    (a__law_distance : PySem.W.nsIn K mainGlobals "_law_distance" = some (some (.ref f__law_distance)))
    (l__law_distance : K.lookup f__law_distance = some ⟨oc__law_distance, od__law_distance, .func (PySem.W.fnOf "_law_distance" "_law_distance" (defArgs sDistance) (defBody sDistance) (defScope sDistance) .none kV__law_distance dc__law_distance pm__law_distance an__law_distance cd__law_distance ct__law_distance), sl__law_distance⟩)
    (c__law_distance : PySem.W.codeIn K cd__law_distance "_law_distance" = true)
    (k__law_distance : PySem.W.keepIn K (.ref f__law_distance) = true)
    (a_law : PySem.W.nsIn K mainGlobals "law" = some (some (.ref f_law)))
    (l_law : K.lookup f_law = some ⟨oc_law, od_law, .func (PySem.W.fnOf "law" "law" (defArgs sLaw) (defBody sLaw) (defScope sLaw) .none kV_law dc_law pm_law an_law cd_law ct_law), sl_law⟩)
    (c_law : PySem.W.codeIn K cd_law "law" = true)
    (k_law : PySem.W.keepIn K (.ref f_law) = true)
    : ∃ fd : FuncData, (∀ (s : Shared) (u : Value), BindsTo s fd ⟨[u], []⟩ [("_law_script", u)]) ∧ ∀ base : Heap, K.In base → base.Ns mainGlobals mg → base.NoSeer → FnOk l.prog w K mg base CX0 44 fa fd ["_law_script"] (spLaw K) := by
  have e := hfa.symm.trans (PySem.W.mg_of X G a_law)
  cases e
  have T : RTxt K mg C := ⟨⟨pgC, hdC, poC, saC⟩, nC_top, nC_bottom, PySem.W.mg_of X G aC, sf⟩
  have rd : ∀ x ∈ rN, NoAttr K CR x := by
    intro x hx
    simp only [List.mem_cons, List.not_mem_nil, or_false] at hx; rcases hx with rfl | rfl | rfl | rfl
    · exact nCR_name
    · exact nCR_terms
    · exact nCR_value
    · exact nCR_weight
  have nn : ∀ x ∈ nN, NoAttr K CN x := by
    intro x hx
    simp only [List.mem_cons, List.not_mem_nil, or_false] at hx; rcases hx with rfl | rfl | rfl | rfl | rfl | rfl | rfl
    · exact nCN_points
    · exact nCN_approximations
    · exact nCN_readings
    · exact nCN_normal
    · exact nCN_inverse
    · exact nCN_right
    · exact nCN_total
  have N : NTxt K mg CR CN := ⟨⟨pgCR, hdCR, poCR, saCR⟩, ⟨pgCN, hdCN, poCN, saCN⟩, rd, nn, PySem.W.mg_of X G aCR, PySem.W.mg_of X G aCN⟩
  have B : BTxt mg := ⟨PySem.W.mg_none_of X G b_tuple, PySem.W.mg_none_of X G b_zip, PySem.W.mg_none_of X G b_len, PySem.W.mg_none_of X G b_list, PySem.W.mg_none_of X G b_range, PySem.W.mg_none_of X G b_int, PySem.W.mg_none_of X G b_str, PySem.W.mg_none_of X G b_abs, PySem.W.mg_none_of X G b_isinstance⟩
  have Z : IsK K C := ⟨z1, z2, z3, z4⟩
  have mP := PySem.W.mg_of X G cP
  have mR := PySem.W.mg_of X G cR
  have FI : FunD K "__init__" "Ratio.__init__" (defArgs sRInit) (defBody sRInit) (defScope sRInit) [V.int 1] [] f_RI _ := ⟨⟨oc_RI, od_RI, .ref dT, kV_RI, dc_RI, pm_RI, an_RI, cd_RI, ct_RI, sl_RI, rfl, l_RI, c_RI, .inr ⟨by simp, dT, _, [.int 1 tkD], nT, rfl, dl, rfl, .cons ⟨tkD, rfl⟩ .nil⟩, .inl rfl⟩, k_RI⟩
  have MI : Mk K C f_RI := ⟨mkC, a_RI, i_RI, kcC⟩
  have MR : Mk K CR f_RdI := ⟨mkCR, a_RdI, i_RdI, kcCR⟩
  have MN : Mk K CN f_NI := ⟨mkCN, a_NI, i_NI, kcCN⟩
  obtain ⟨ds3, v3, b3⟩ := FI.binds1 (ps := ["self", "top", "bottom"]) 3 1 (by simp) rfl (fun _ _ _ _ _ _ _ us its hu hi => match us, its, hu, hi with | [_, _, _], [_], _, _ => ⟨_, rfl, rfl⟩)
  cases v3
  obtain ⟨ds2, v2, b2⟩ := FI.binds1 (ps := ["self", "top", "bottom"]) 2 0 (by simp) rfl (fun _ _ _ _ _ _ _ us its hu hi => match us, its, hu, hi with | [_, _], [_], _, _ => ⟨_, rfl, rfl⟩)
  obtain ⟨d, r2, rfl⟩ : ∃ d, RelV (.int 1) d ∧ ds2 = [d] := by
    cases v2 with
    | cons r t => cases t; exact ⟨_, r, rfl⟩
  have F_Radd := fun_mk (st := sRAdd) l_Radd c_Radd k_Radd
  have b_Radd' := F_Radd.binds (ps := ["self", "other"]) fun _ _ _ _ _ _ us hl => match us, hl with | [_, _], _ => rfl
  have F_Rsub := fun_mk (st := sRSub) l_Rsub c_Rsub k_Rsub
  have b_Rsub' := F_Rsub.binds (ps := ["self", "other"]) fun _ _ _ _ _ _ us hl => match us, hl with | [_, _], _ => rfl
  have F_Rmul := fun_mk (st := sRMul) l_Rmul c_Rmul k_Rmul
  have b_Rmul' := F_Rmul.binds (ps := ["self", "other"]) fun _ _ _ _ _ _ us hl => match us, hl with | [_, _], _ => rfl
  have F_Rneg := fun_mk (st := sRNeg) l_Rneg c_Rneg k_Rneg
  have b_Rneg' := F_Rneg.binds (ps := ["self"]) fun _ _ _ _ _ _ us hl => match us, hl with | [_], _ => rfl
  have F_Rlt := fun_mk (st := sRLt) l_Rlt c_Rlt k_Rlt
  have b_Rlt' := F_Rlt.binds (ps := ["self", "other"]) fun _ _ _ _ _ _ us hl => match us, hl with | [_, _], _ => rfl
  have F_Rover := fun_mk (st := sROver) l_Rover c_Rover k_Rover
  have b_Rover' := F_Rover.binds (ps := ["self", "other"]) fun _ _ _ _ _ _ us hl => match us, hl with | [_, _], _ => rfl
  have F_RdI := fun_mk (st := sRdInit) l_RdI c_RdI k_RdI
  have b_RdI' := F_RdI.binds (ps := ["self", "name", "terms", "value", "weight"]) fun _ _ _ _ _ _ us hl => match us, hl with | [_, _, _, _, _], _ => rfl
  have F_NI := fun_mk (st := sNInit) l_NI c_NI k_NI
  have b_NI' := F_NI.binds (ps := ["self"]) fun _ _ _ _ _ _ us hl => match us, hl with | [_], _ => rfl
  have F_dot := fun_mk (st := sDot) l_dot c_dot k_dot
  have b_dot' := F_dot.binds (ps := ["a", "b"]) fun _ _ _ _ _ _ us hl => match us, hl with | [_, _], _ => rfl
  have F_scale := fun_mk (st := sScale) l_scale c_scale k_scale
  have b_scale' := F_scale.binds (ps := ["factor", "a"]) fun _ _ _ _ _ _ us hl => match us, hl with | [_, _], _ => rfl
  have F_plus := fun_mk (st := sPlus) l_plus c_plus k_plus
  have b_plus' := F_plus.binds (ps := ["a", "b"]) fun _ _ _ _ _ _ us hl => match us, hl with | [_, _], _ => rfl
  have F_minus := fun_mk (st := sMinus) l_minus c_minus k_minus
  have b_minus' := F_minus.binds (ps := ["a", "b"]) fun _ _ _ _ _ _ us hl => match us, hl with | [_, _], _ => rfl
  have F_is_zero := fun_mk (st := sIsZero) l_is_zero c_is_zero k_is_zero
  have b_is_zero' := F_is_zero.binds (ps := ["a"]) fun _ _ _ _ _ _ us hl => match us, hl with | [_], _ => rfl
  have F_apply := fun_mk (st := sApply) l_apply c_apply k_apply
  have b_apply' := F_apply.binds (ps := ["matrix", "vector"]) fun _ _ _ _ _ _ us hl => match us, hl with | [_, _], _ => rfl
  have F_outer := fun_mk (st := sOuter) l_outer c_outer k_outer
  have b_outer' := F_outer.binds (ps := ["a", "b"]) fun _ _ _ _ _ _ us hl => match us, hl with | [_, _], _ => rfl
  have F_sum_of := fun_mk (st := sSumOf) l_sum_of c_sum_of k_sum_of
  have b_sum_of' := F_sum_of.binds (ps := ["first", "second"]) fun _ _ _ _ _ _ us hl => match us, hl with | [_, _], _ => rfl
  have F_scaled := fun_mk (st := sScaled) l_scaled c_scaled k_scaled
  have b_scaled' := F_scaled.binds (ps := ["factor", "matrix"]) fun _ _ _ _ _ _ us hl => match us, hl with | [_, _], _ => rfl
  have F_add_term := fun_mk (st := sAddTerm) l_add_term c_add_term k_add_term
  have b_add_term' := F_add_term.binds (ps := ["matrix", "row", "weight"]) fun _ _ _ _ _ _ us hl => match us, hl with | [_, _, _], _ => rfl
  have F_with_added := fun_mk (st := sWithAdded) l_with_added c_with_added k_with_added
  have b_with_added' := F_with_added.binds (ps := ["matrix", "inverse", "row", "weight"]) fun _ _ _ _ _ _ us hl => match us, hl with | [_, _, _, _], _ => rfl
  have F_widened := fun_mk (st := sWidened) l_widened c_widened k_widened
  have b_widened' := F_widened.binds (ps := ["matrix"]) fun _ _ _ _ _ _ us hl => match us, hl with | [_], _ => rfl
  have F_Nadd_point := fun_mk (st := sNAddPoint) l_Nadd_point c_Nadd_point k_Nadd_point
  have b_Nadd_point' := F_Nadd_point.binds (ps := ["self", "name", "approximation"]) fun _ _ _ _ _ _ us hl => match us, hl with | [_, _, _], _ => rfl
  have F_Nrow := fun_mk (st := sNRow) l_Nrow c_Nrow k_Nrow
  have b_Nrow' := F_Nrow.binds (ps := ["self", "reading"]) fun _ _ _ _ _ _ us hl => match us, hl with | [_, _], _ => rfl
  have F_Ntally := fun_mk (st := sNTally) l_Ntally c_Ntally k_Ntally
  have b_Ntally' := F_Ntally.binds (ps := ["self", "reading", "weight"]) fun _ _ _ _ _ _ us hl => match us, hl with | [_, _, _], _ => rfl
  have F_Nput := fun_mk (st := sNPut) l_Nput c_Nput k_Nput
  have b_Nput' := F_Nput.binds (ps := ["self", "reading"]) fun _ _ _ _ _ _ us hl => match us, hl with | [_, _], _ => rfl
  have F_Nadd := fun_mk (st := sNAdd) l_Nadd c_Nadd k_Nadd
  have b_Nadd' := F_Nadd.binds (ps := ["self", "reading"]) fun _ _ _ _ _ _ us hl => match us, hl with | [_, _], _ => rfl
  have F_Nheights := fun_mk (st := sNHeights) l_Nheights c_Nheights k_Nheights
  have b_Nheights' := F_Nheights.binds (ps := ["self"]) fun _ _ _ _ _ _ us hl => match us, hl with | [_], _ => rfl
  have F__law_state := fun_mk (st := sState) l__law_state c__law_state k__law_state
  have b__law_state' := F__law_state.binds (ps := ["_law_script"]) fun _ _ _ _ _ _ us hl => match us, hl with | [_], _ => rfl
  have F__law_draw := fun_mk (st := sDraw) l__law_draw c__law_draw k__law_draw
  have b__law_draw' := F__law_draw.binds (ps := ["_law_state_here", "_law_many"]) fun _ _ _ _ _ _ us hl => match us, hl with | [_, _], _ => rfl
  have F__law_whole := fun_mk (st := sWhole) l__law_whole c__law_whole k__law_whole
  have b__law_whole' := F__law_whole.binds (ps := ["_law_state_here"]) fun _ _ _ _ _ _ us hl => match us, hl with | [_], _ => rfl
  have F__law_ratio := fun_mk (st := sRatio) l__law_ratio c__law_ratio k__law_ratio
  have b__law_ratio' := F__law_ratio.binds (ps := ["_law_state_here"]) fun _ _ _ _ _ _ us hl => match us, hl with | [_], _ => rfl
  have F__law_same := fun_mk (st := sSame) l__law_same c__law_same k__law_same
  have b__law_same' := F__law_same.binds (ps := ["_law_first", "_law_second"]) fun _ _ _ _ _ _ us hl => match us, hl with | [_, _], _ => rfl
  have F__law_dot := fun_mk (st := sLDot) l__law_dot c__law_dot k__law_dot
  have b__law_dot' := F__law_dot.binds (ps := ["_law_first", "_law_second"]) fun _ _ _ _ _ _ us hl => match us, hl with | [_, _], _ => rfl
  have F__law_reduced := fun_mk (st := sReduced) l__law_reduced c__law_reduced k__law_reduced
  have b__law_reduced' := F__law_reduced.binds (ps := ["_law_matrix", "_law_width"]) fun _ _ _ _ _ _ us hl => match us, hl with | [_, _], _ => rfl
  have F__law_terms := fun_mk (st := sTerms) l__law_terms c__law_terms k__law_terms
  have b__law_terms' := F__law_terms.binds (ps := ["_law_state_here", "_law_names_here"]) fun _ _ _ _ _ _ us hl => match us, hl with | [_, _], _ => rfl
  have F__law_weight := fun_mk (st := sWeight) l__law_weight c__law_weight k__law_weight
  have b__law_weight' := F__law_weight.binds (ps := ["_law_state_here"]) fun _ _ _ _ _ _ us hl => match us, hl with | [_], _ => rfl
  have F__law_reading := fun_mk (st := sReading) l__law_reading c__law_reading k__law_reading
  have b__law_reading' := F__law_reading.binds (ps := ["_law_state_here", "_law_names_here", "_law_count"]) fun _ _ _ _ _ _ us hl => match us, hl with | [_, _, _], _ => rfl
  have F__law_names := fun_mk (st := sNames) l__law_names c__law_names k__law_names
  have b__law_names' := F__law_names.binds (ps := ["_law_state_here", "_law_most"]) fun _ _ _ _ _ _ us hl => match us, hl with | [_, _], _ => rfl
  have F__law_row := fun_mk (st := sLRow) l__law_row c__law_row k__law_row
  have b__law_row' := F__law_row.binds (ps := ["_law_names_here", "_law_reading_here"]) fun _ _ _ _ _ _ us hl => match us, hl with | [_, _], _ => rfl
  have F__law_net := fun_mk (st := sLNet) l__law_net c__law_net k__law_net
  have b__law_net' := F__law_net.binds (ps := ["_law_state_here", "_law_most", "_law_many"]) fun _ _ _ _ _ _ us hl => match us, hl with | [_, _, _], _ => rfl
  have F__law_squares := fun_mk (st := sSquares) l__law_squares c__law_squares k__law_squares
  have b__law_squares' := F__law_squares.binds (ps := ["_law_names_here", "_law_readings", "_law_heights"]) fun _ _ _ _ _ _ us hl => match us, hl with | [_, _, _], _ => rfl
  have F__law_kernel := fun_mk (st := sKernel) l__law_kernel c__law_kernel k__law_kernel
  have b__law_kernel' := F__law_kernel.binds (ps := ["_law_rows", "_law_width"]) fun _ _ _ _ _ _ us hl => match us, hl with | [_, _], _ => rfl
  have F__law_distance := fun_mk (st := sDistance) l__law_distance c__law_distance k__law_distance
  have b__law_distance' := F__law_distance.binds (ps := ["_law_first", "_law_second"]) fun _ _ _ _ _ _ us hl => match us, hl with | [_, _], _ => rfl
  have F_law := fun_mk (st := sLaw) l_law c_law k_law
  refine ⟨PySem.W.fnOf "law" "law" (defArgs sLaw) (defBody sLaw) (defScope sLaw) .none kV_law dc_law pm_law an_law cd_law ct_law, fun s v => .of_eq rfl, fun base _ _ hN => ?_⟩
  have GI := ok_rinit (P := l.prog) (w := w) FI T (PySem.W.mg_of X G gG) hN hP
  have RK : RKit l.prog w K mg base C := ⟨T, ⟨f_RI, _, d, MI, GI, b3, r2, b2⟩,
    ⟨f_Radd, _, a_Radd, i_Radd, ok_radd F_Radd T MI GI b3, b_Radd'⟩,
    ⟨f_Rsub, _, a_Rsub, i_Rsub, ok_rsub F_Rsub T MI GI b3, b_Rsub'⟩,
    ⟨f_Rmul, _, a_Rmul, i_Rmul, ok_rmul F_Rmul T MI GI b3, b_Rmul'⟩,
    ⟨f_Rneg, _, a_Rneg, i_Rneg, ok_rneg F_Rneg T MI GI b3, b_Rneg'⟩,
    ⟨f_Rlt, _, a_Rlt, i_Rlt, ok_rlt F_Rlt T, b_Rlt'⟩,
    ⟨f_Rover, _, ⟨a_Rover, i_Rover, k_Rover⟩, ok_rover F_Rover T MI GI b3, b_Rover'⟩⟩
  have GRI := ok_rdInit (P := l.prog) (w := w) (base := base) (C := C) F_RdI N
  have GNI := ok_ninit F_NI RK N
  have bR := b_RdI'
  have bN := b_NI'
  have G_dot : FnAt l.prog w K mg base "dot" 37 ["a", "b"] (spDot C) := ⟨f_dot, _, PySem.W.mg_of X G a_dot, k_dot, b_dot', ok_dot F_dot RK B⟩
  have G_scale : FnAt l.prog w K mg base "scale" 37 ["factor", "a"] (spScale C) := ⟨f_scale, _, PySem.W.mg_of X G a_scale, k_scale, b_scale', ok_scale F_scale RK B⟩
  have G_plus : FnAt l.prog w K mg base "plus" 37 ["a", "b"] (spZip C (· + ·)) := ⟨f_plus, _, PySem.W.mg_of X G a_plus, k_plus, b_plus', ok_plus F_plus RK B⟩
  have G_minus : FnAt l.prog w K mg base "minus" 37 ["a", "b"] (spZip C (· - ·)) := ⟨f_minus, _, PySem.W.mg_of X G a_minus, k_minus, b_minus', ok_minus F_minus RK B⟩
  have G_is_zero : FnAt l.prog w K mg base "is_zero" 37 ["a"] (spIsZero C) := ⟨f_is_zero, _, PySem.W.mg_of X G a_is_zero, k_is_zero, b_is_zero', ok_isZero F_is_zero RK⟩
  have G_apply : FnAt l.prog w K mg base "apply" 38 ["matrix", "vector"] (spApply C) := ⟨f_apply, _, PySem.W.mg_of X G a_apply, k_apply, b_apply', ok_apply F_apply B G_dot⟩
  have G_outer : FnAt l.prog w K mg base "outer" 38 ["a", "b"] (spOuter C) := ⟨f_outer, _, PySem.W.mg_of X G a_outer, k_outer, b_outer', ok_outer F_outer B G_scale⟩
  have G_sum_of : FnAt l.prog w K mg base "sum_of" 38 ["first", "second"] (spSumOf C) := ⟨f_sum_of, _, PySem.W.mg_of X G a_sum_of, k_sum_of, b_sum_of', ok_sumOf F_sum_of B G_plus⟩
  have G_scaled : FnAt l.prog w K mg base "scaled" 38 ["factor", "matrix"] (spScaled C) := ⟨f_scaled, _, PySem.W.mg_of X G a_scaled, k_scaled, b_scaled', ok_scaled F_scaled B G_scale⟩
  have G_add_term : FnAt l.prog w K mg base "add_term" 39 ["matrix", "row", "weight"] (spAddTerm C) := ⟨f_add_term, _, PySem.W.mg_of X G a_add_term, k_add_term, b_add_term', ok_addTerm F_add_term G_sum_of G_scaled G_outer⟩
  have G_with_added : FnAt l.prog w K mg base "with_added" 39 ["matrix", "inverse", "row", "weight"] (spWith C) := ⟨f_with_added, _, PySem.W.mg_of X G a_with_added, k_with_added, b_with_added', ok_with F_with_added RK G_apply G_minus G_dot G_is_zero G_scale G_sum_of G_scaled G_outer⟩
  have G_widened : FnAt l.prog w K mg base "widened" 37 ["matrix"] (spWidened C) := ⟨f_widened, _, PySem.W.mg_of X G a_widened, k_widened, b_widened', ok_widened F_widened RK B⟩
  have G_Nadd_point : MtAt l.prog w K mg base CN "add_point" 38 ["self", "name", "approximation"] (spAddPoint C CN) := ⟨f_Nadd_point, _, ⟨a_Nadd_point, i_Nadd_point, k_Nadd_point⟩, b_Nadd_point', ok_addPoint F_Nadd_point RK B N mP G_widened⟩
  have G_Nrow : MtAt l.prog w K mg base CN "row" 37 ["self", "reading"] (spRow C CR CN) := ⟨f_Nrow, _, ⟨a_Nrow, i_Nrow, k_Nrow⟩, b_Nrow', ok_row F_Nrow RK B N⟩
  have G_Ntally : MtAt l.prog w K mg base CN "tally" 40 ["self", "reading", "weight"] (spTally C CR CN) := ⟨f_Ntally, _, ⟨a_Ntally, i_Ntally, k_Ntally⟩, b_Ntally', ok_tally F_Ntally RK N G_Nrow G_dot G_add_term G_plus G_scale⟩
  have G_Nput : MtAt l.prog w K mg base CN "put" 41 ["self", "reading"] (spPut C CR CN) := ⟨f_Nput, _, ⟨a_Nput, i_Nput, k_Nput⟩, b_Nput', ok_put F_Nput N G_Nrow G_with_added G_Ntally⟩
  have G_Nadd : MtAt l.prog w K mg base CN "add" 42 ["self", "reading"] (spAddRd C CR CN) := ⟨f_Nadd, _, ⟨a_Nadd, i_Nadd, k_Nadd⟩, b_Nadd', ok_nadd F_Nadd B N mR G_Nput⟩
  have G_Nheights : MtAt l.prog w K mg base CN "heights" 39 ["self"] (spHeights C CN) := ⟨f_Nheights, _, ⟨a_Nheights, i_Nheights, k_Nheights⟩, b_Nheights', ok_heights F_Nheights N G_plus G_apply⟩
  have G__law_state : FnAt l.prog w K mg base "_law_state" 1 ["_law_script"] (spState K) := ⟨f__law_state, _, PySem.W.mg_of X G a__law_state, k__law_state, b__law_state', ok_state F__law_state B⟩
  have G__law_draw : FnAt l.prog w K mg base "_law_draw" 1 ["_law_state_here", "_law_many"] (spDraw) := ⟨f__law_draw, _, PySem.W.mg_of X G a__law_draw, k__law_draw, b__law_draw', ok_draw F__law_draw B⟩
  have G__law_whole : FnAt l.prog w K mg base "_law_whole" 2 ["_law_state_here"] (spWhole) := ⟨f__law_whole, _, PySem.W.mg_of X G a__law_whole, k__law_whole, b__law_whole', ok_whole F__law_whole G__law_draw⟩
  have G__law_ratio : FnAt l.prog w K mg base "_law_ratio" 36 ["_law_state_here"] (spRatio C) := ⟨f__law_ratio, _, PySem.W.mg_of X G a__law_ratio, k__law_ratio, b__law_ratio', ok_ratio F__law_ratio RK G__law_draw G__law_whole⟩
  have G__law_same : FnAt l.prog w K mg base "_law_same" 1 ["_law_first", "_law_second"] (spSame C) := ⟨f__law_same, _, PySem.W.mg_of X G a__law_same, k__law_same, b__law_same', ok_same F__law_same RK B Z⟩
  have G__law_dot : FnAt l.prog w K mg base "_law_dot" 37 ["_law_first", "_law_second"] (spLDot C) := ⟨f__law_dot, _, PySem.W.mg_of X G a__law_dot, k__law_dot, b__law_dot', ok_ldot F__law_dot RK B⟩
  have G__law_reduced : FnAt l.prog w K mg base "_law_reduced" 37 ["_law_matrix", "_law_width"] (spReduced C) := ⟨f__law_reduced, _, PySem.W.mg_of X G a__law_reduced, k__law_reduced, b__law_reduced', ok_reduced F__law_reduced RK B⟩
  have G__law_terms : FnAt l.prog w K mg base "_law_terms" 2 ["_law_state_here", "_law_names_here"] (spTerms) := ⟨f__law_terms, _, PySem.W.mg_of X G a__law_terms, k__law_terms, b__law_terms', ok_terms F__law_terms B G__law_draw⟩
  have G__law_weight : FnAt l.prog w K mg base "_law_weight" 36 ["_law_state_here"] (spWeight C) := ⟨f__law_weight, _, PySem.W.mg_of X G a__law_weight, k__law_weight, b__law_weight', ok_weight F__law_weight RK G__law_draw⟩
  have G__law_reading : FnAt l.prog w K mg base "_law_reading" 37 ["_law_state_here", "_law_names_here", "_law_count"] (spReading C CR) := ⟨f__law_reading, _, PySem.W.mg_of X G a__law_reading, k__law_reading, b__law_reading', ok_reading F__law_reading B N MR GRI bR G__law_terms G__law_ratio G__law_weight⟩
  have G__law_names : FnAt l.prog w K mg base "_law_names" 2 ["_law_state_here", "_law_most"] (spNames) := ⟨f__law_names, _, PySem.W.mg_of X G a__law_names, k__law_names, b__law_names', ok_names F__law_names B G__law_draw⟩
  have G__law_row : FnAt l.prog w K mg base "_law_row" 37 ["_law_names_here", "_law_reading_here"] (spLRow C CR) := ⟨f__law_row, _, PySem.W.mg_of X G a__law_row, k__law_row, b__law_row', ok_lrow F__law_row RK B N⟩
  have G__law_net : FnAt l.prog w K mg base "_law_net" 43 ["_law_state_here", "_law_most", "_law_many"] (spLNet C CR CN) := ⟨f__law_net, _, PySem.W.mg_of X G a__law_net, k__law_net, b__law_net', ok_lnet F__law_net B N MN GNI bN G__law_names G__law_ratio G__law_draw G__law_reading G_Nadd_point G_Nadd⟩
  have G__law_squares : FnAt l.prog w K mg base "_law_squares" 38 ["_law_names_here", "_law_readings", "_law_heights"] (spSquares C CR) := ⟨f__law_squares, _, PySem.W.mg_of X G a__law_squares, k__law_squares, b__law_squares', ok_squares F__law_squares RK N G__law_row G__law_dot⟩
  have G__law_kernel : FnAt l.prog w K mg base "_law_kernel" 38 ["_law_rows", "_law_width"] (spKernel C) := ⟨f__law_kernel, _, PySem.W.mg_of X G a__law_kernel, k__law_kernel, b__law_kernel', ok_kernel F__law_kernel RK B G__law_reduced⟩
  have G__law_distance : FnAt l.prog w K mg base "_law_distance" 37 ["_law_first", "_law_second"] (spDistance C) := ⟨f__law_distance, _, PySem.W.mg_of X G a__law_distance, k__law_distance, b__law_distance', ok_distance F__law_distance RK B⟩
  exact ok_law F_law RK B N G__law_state G__law_net G_Nheights G__law_row G__law_draw G__law_kernel G__law_ratio G__law_dot G__law_squares G__law_same G__law_distance
end PN

set_option maxHeartbeats 0
open PySem PySem.W
open PyProof.Rows
theorem PySem.Challenge.cw_plumbnet_k36_whole_least_of_all_points_holds : PySem.Challenge.rw_plumbnet_k36_whole_least_of_all_points.Holds := by
  w_on; o_law; k_head
  (case hw => w_witness2)
  k_fill
  refine PN.walk (x := "_law_script") (l := PySem.Challenge.rw_plumbnet_k36_whole_least_of_all_points) rfl rfl (by decide +kernel) (fun w h Y => PySem.W.kIn_of Y) ?F
  case F =>
    intro w mg fa h KX G hmg
    refine' PN.all_mk KX G rfl hmg ?aC ?pgC ?hdC ?poC ?saC ?mkC ?kcC ?aCR ?pgCR ?hdCR ?poCR ?saCR ?mkCR ?kcCR ?aCN ?pgCN ?hdCN ?poCN ?saCN ?mkCN ?kcCN ?nC_top ?nC_bottom ?nCR_name ?nCR_terms ?nCR_value ?nCR_weight ?nCN_points ?nCN_approximations ?nCN_readings ?nCN_normal ?nCN_inverse ?nCN_right ?nCN_total ?sf ?z1 ?z2 ?z3 ?z4 ?b_tuple ?b_zip ?b_len ?b_list ?b_range ?b_int ?b_str ?b_abs ?b_isinstance ?gG ?cP ?cR ?a_RI ?i_RI ?l_RI ?c_RI ?k_RI ?dl ?a_Radd ?i_Radd ?l_Radd ?c_Radd ?k_Radd ?a_Rsub ?i_Rsub ?l_Rsub ?c_Rsub ?k_Rsub ?a_Rmul ?i_Rmul ?l_Rmul ?c_Rmul ?k_Rmul ?a_Rneg ?i_Rneg ?l_Rneg ?c_Rneg ?k_Rneg ?a_Rlt ?i_Rlt ?l_Rlt ?c_Rlt ?k_Rlt ?a_Rover ?i_Rover ?l_Rover ?c_Rover ?k_Rover ?a_RdI ?i_RdI ?l_RdI ?c_RdI ?k_RdI ?a_NI ?i_NI ?l_NI ?c_NI ?k_NI ?a_dot ?l_dot ?c_dot ?k_dot ?a_scale ?l_scale ?c_scale ?k_scale ?a_plus ?l_plus ?c_plus ?k_plus ?a_minus ?l_minus ?c_minus ?k_minus ?a_is_zero ?l_is_zero ?c_is_zero ?k_is_zero ?a_apply ?l_apply ?c_apply ?k_apply ?a_outer ?l_outer ?c_outer ?k_outer ?a_sum_of ?l_sum_of ?c_sum_of ?k_sum_of ?a_scaled ?l_scaled ?c_scaled ?k_scaled ?a_add_term ?l_add_term ?c_add_term ?k_add_term ?a_with_added ?l_with_added ?c_with_added ?k_with_added ?a_widened ?l_widened ?c_widened ?k_widened ?a_Nadd_point ?i_Nadd_point ?l_Nadd_point ?c_Nadd_point ?k_Nadd_point ?a_Nrow ?i_Nrow ?l_Nrow ?c_Nrow ?k_Nrow ?a_Ntally ?i_Ntally ?l_Ntally ?c_Ntally ?k_Ntally ?a_Nput ?i_Nput ?l_Nput ?c_Nput ?k_Nput ?a_Nadd ?i_Nadd ?l_Nadd ?c_Nadd ?k_Nadd ?a_Nheights ?i_Nheights ?l_Nheights ?c_Nheights ?k_Nheights ?a__law_state ?l__law_state ?c__law_state ?k__law_state ?a__law_draw ?l__law_draw ?c__law_draw ?k__law_draw ?a__law_whole ?l__law_whole ?c__law_whole ?k__law_whole ?a__law_ratio ?l__law_ratio ?c__law_ratio ?k__law_ratio ?a__law_same ?l__law_same ?c__law_same ?k__law_same ?a__law_dot ?l__law_dot ?c__law_dot ?k__law_dot ?a__law_reduced ?l__law_reduced ?c__law_reduced ?k__law_reduced ?a__law_terms ?l__law_terms ?c__law_terms ?k__law_terms ?a__law_weight ?l__law_weight ?c__law_weight ?k__law_weight ?a__law_reading ?l__law_reading ?c__law_reading ?k__law_reading ?a__law_names ?l__law_names ?c__law_names ?k__law_names ?a__law_row ?l__law_row ?c__law_row ?k__law_row ?a__law_net ?l__law_net ?c__law_net ?k__law_net ?a__law_squares ?l__law_squares ?c__law_squares ?k__law_squares ?a__law_kernel ?l__law_kernel ?c__law_kernel ?k__law_kernel ?a__law_distance ?l__law_distance ?c__law_distance ?k__law_distance ?a_law ?l_law ?c_law ?k_law
    (case aC => k_is)
    (case pgC => k_is)
    (case hdC => k_is)
    (case poC => k_is)
    (case saC => k_is)
    (case mkC => k_is)
    (case kcC => k_is)
    (case aCR => k_is)
    (case pgCR => k_is)
    (case hdCR => k_is)
    (case poCR => k_is)
    (case saCR => k_is)
    (case mkCR => k_is)
    (case kcCR => k_is)
    (case aCN => k_is)
    (case pgCN => k_is)
    (case hdCN => k_is)
    (case poCN => k_is)
    (case saCN => k_is)
    (case mkCN => k_is)
    (case kcCN => k_is)
    (case nC_top => k_is)
    (case nC_bottom => k_is)
    (case nCR_name => k_is)
    (case nCR_terms => k_is)
    (case nCR_value => k_is)
    (case nCR_weight => k_is)
    (case nCN_points => k_is)
    (case nCN_approximations => k_is)
    (case nCN_readings => k_is)
    (case nCN_normal => k_is)
    (case nCN_inverse => k_is)
    (case nCN_right => k_is)
    (case nCN_total => k_is)
    (case sf => k_is)
    (case z1 => k_is)
    (case z2 => k_is)
    (case z3 => k_is)
    (case z4 => k_is)
    (case b_tuple => k_is)
    (case b_zip => k_is)
    (case b_len => k_is)
    (case b_list => k_is)
    (case b_range => k_is)
    (case b_int => k_is)
    (case b_str => k_is)
    (case b_abs => k_is)
    (case b_isinstance => k_is)
    (case gG => k_is)
    (case cP => k_is)
    (case cR => k_is)
    (case a_RI => k_is)
    (case i_RI => k_is)
    (case l_RI => k_is)
    (case c_RI => k_is)
    (case k_RI => k_is)
    (case dl => k_is)
    (case a_Radd => k_is)
    (case i_Radd => k_is)
    (case l_Radd => k_is)
    (case c_Radd => k_is)
    (case k_Radd => k_is)
    (case a_Rsub => k_is)
    (case i_Rsub => k_is)
    (case l_Rsub => k_is)
    (case c_Rsub => k_is)
    (case k_Rsub => k_is)
    (case a_Rmul => k_is)
    (case i_Rmul => k_is)
    (case l_Rmul => k_is)
    (case c_Rmul => k_is)
    (case k_Rmul => k_is)
    (case a_Rneg => k_is)
    (case i_Rneg => k_is)
    (case l_Rneg => k_is)
    (case c_Rneg => k_is)
    (case k_Rneg => k_is)
    (case a_Rlt => k_is)
    (case i_Rlt => k_is)
    (case l_Rlt => k_is)
    (case c_Rlt => k_is)
    (case k_Rlt => k_is)
    (case a_Rover => k_is)
    (case i_Rover => k_is)
    (case l_Rover => k_is)
    (case c_Rover => k_is)
    (case k_Rover => k_is)
    (case a_RdI => k_is)
    (case i_RdI => k_is)
    (case l_RdI => k_is)
    (case c_RdI => k_is)
    (case k_RdI => k_is)
    (case a_NI => k_is)
    (case i_NI => k_is)
    (case l_NI => k_is)
    (case c_NI => k_is)
    (case k_NI => k_is)
    (case a_dot => k_is)
    (case l_dot => k_is)
    (case c_dot => k_is)
    (case k_dot => k_is)
    (case a_scale => k_is)
    (case l_scale => k_is)
    (case c_scale => k_is)
    (case k_scale => k_is)
    (case a_plus => k_is)
    (case l_plus => k_is)
    (case c_plus => k_is)
    (case k_plus => k_is)
    (case a_minus => k_is)
    (case l_minus => k_is)
    (case c_minus => k_is)
    (case k_minus => k_is)
    (case a_is_zero => k_is)
    (case l_is_zero => k_is)
    (case c_is_zero => k_is)
    (case k_is_zero => k_is)
    (case a_apply => k_is)
    (case l_apply => k_is)
    (case c_apply => k_is)
    (case k_apply => k_is)
    (case a_outer => k_is)
    (case l_outer => k_is)
    (case c_outer => k_is)
    (case k_outer => k_is)
    (case a_sum_of => k_is)
    (case l_sum_of => k_is)
    (case c_sum_of => k_is)
    (case k_sum_of => k_is)
    (case a_scaled => k_is)
    (case l_scaled => k_is)
    (case c_scaled => k_is)
    (case k_scaled => k_is)
    (case a_add_term => k_is)
    (case l_add_term => k_is)
    (case c_add_term => k_is)
    (case k_add_term => k_is)
    (case a_with_added => k_is)
    (case l_with_added => k_is)
    (case c_with_added => k_is)
    (case k_with_added => k_is)
    (case a_widened => k_is)
    (case l_widened => k_is)
    (case c_widened => k_is)
    (case k_widened => k_is)
    (case a_Nadd_point => k_is)
    (case i_Nadd_point => k_is)
    (case l_Nadd_point => k_is)
    (case c_Nadd_point => k_is)
    (case k_Nadd_point => k_is)
    (case a_Nrow => k_is)
    (case i_Nrow => k_is)
    (case l_Nrow => k_is)
    (case c_Nrow => k_is)
    (case k_Nrow => k_is)
    (case a_Ntally => k_is)
    (case i_Ntally => k_is)
    (case l_Ntally => k_is)
    (case c_Ntally => k_is)
    (case k_Ntally => k_is)
    (case a_Nput => k_is)
    (case i_Nput => k_is)
    (case l_Nput => k_is)
    (case c_Nput => k_is)
    (case k_Nput => k_is)
    (case a_Nadd => k_is)
    (case i_Nadd => k_is)
    (case l_Nadd => k_is)
    (case c_Nadd => k_is)
    (case k_Nadd => k_is)
    (case a_Nheights => k_is)
    (case i_Nheights => k_is)
    (case l_Nheights => k_is)
    (case c_Nheights => k_is)
    (case k_Nheights => k_is)
    (case a__law_state => k_is)
    (case l__law_state => k_is)
    (case c__law_state => k_is)
    (case k__law_state => k_is)
    (case a__law_draw => k_is)
    (case l__law_draw => k_is)
    (case c__law_draw => k_is)
    (case k__law_draw => k_is)
    (case a__law_whole => k_is)
    (case l__law_whole => k_is)
    (case c__law_whole => k_is)
    (case k__law_whole => k_is)
    (case a__law_ratio => k_is)
    (case l__law_ratio => k_is)
    (case c__law_ratio => k_is)
    (case k__law_ratio => k_is)
    (case a__law_same => k_is)
    (case l__law_same => k_is)
    (case c__law_same => k_is)
    (case k__law_same => k_is)
    (case a__law_dot => k_is)
    (case l__law_dot => k_is)
    (case c__law_dot => k_is)
    (case k__law_dot => k_is)
    (case a__law_reduced => k_is)
    (case l__law_reduced => k_is)
    (case c__law_reduced => k_is)
    (case k__law_reduced => k_is)
    (case a__law_terms => k_is)
    (case l__law_terms => k_is)
    (case c__law_terms => k_is)
    (case k__law_terms => k_is)
    (case a__law_weight => k_is)
    (case l__law_weight => k_is)
    (case c__law_weight => k_is)
    (case k__law_weight => k_is)
    (case a__law_reading => k_is)
    (case l__law_reading => k_is)
    (case c__law_reading => k_is)
    (case k__law_reading => k_is)
    (case a__law_names => k_is)
    (case l__law_names => k_is)
    (case c__law_names => k_is)
    (case k__law_names => k_is)
    (case a__law_row => k_is)
    (case l__law_row => k_is)
    (case c__law_row => k_is)
    (case k__law_row => k_is)
    (case a__law_net => k_is)
    (case l__law_net => k_is)
    (case c__law_net => k_is)
    (case k__law_net => k_is)
    (case a__law_squares => k_is)
    (case l__law_squares => k_is)
    (case c__law_squares => k_is)
    (case k__law_squares => k_is)
    (case a__law_kernel => k_is)
    (case l__law_kernel => k_is)
    (case c__law_kernel => k_is)
    (case k__law_kernel => k_is)
    (case a__law_distance => k_is)
    (case l__law_distance => k_is)
    (case c__law_distance => k_is)
    (case k__law_distance => k_is)
    (case a_law => k_is)
    (case l_law => k_is)
    (case c_law => k_is)
    (case k_law => k_is)


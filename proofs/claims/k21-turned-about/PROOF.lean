import PyProof.Rows.All
import Wide.All
import OpenK.AllK
import Wide.FinOn
import KE.KStateDown
import KE.GoesEnum
import KE.GoesZip
import KE.GoesMore
import HandS.ForMost
import HandS.Zip
import HandS.Walk
import PyProof.MaxThree
import PyProof.InstNe
import HandS.ForExc
import HandS.TupMul
import HandS.ClsMeth
import HandS.ExcInit
import HandS.OwnEq
import HandS.Defaults
import HandS.IsInst
import HandS.Codes
import HandS.Star
import HandS.TryMany
import HandS.Flow
import HandS.Wide
import HandS.HeadHook1
import HandS.HeadHook2
import HandS.ExcField
import PySem.Challenge.RW_sparedproducts_k21_whole_programs_turned
import HandS.MakeKwOnly
import HandS.Head0
import HandS.Head1
import HandS.Head2
import HandS.HeadEnd
set_option Elab.async false
set_option linter.all false
set_option autoImplicit false
namespace K21
open Lean.Grind
/-! ## sums over lists -/
section
variable {ι κ : Type} {α : Type} [CommRing α]
def S (f : ι → α) : List ι → α
  | [] => 0
  | x :: xs => f x + S f xs
theorem S_nil (f : ι → α) : S f [] = 0 := rfl
theorem S_cons (f : ι → α) (x : ι) (xs : List ι) : S f (x :: xs) = f x + S f xs := rfl
theorem S_append (f : ι → α) (xs ys : List ι) : S f (xs ++ ys) = S f xs + S f ys := by
  induction xs with
  | nil => rw [List.nil_append, S_nil]; grind
  | cons x xs ih => rw [List.cons_append, S_cons, S_cons, ih]; grind
theorem S_snoc (f : ι → α) (xs : List ι) (x : ι) : S f (xs ++ [x]) = S f xs + f x := by
  rw [S_append, S_cons, S_nil]; grind
theorem S_congr {f g : ι → α} {xs : List ι} (h : ∀ x ∈ xs, f x = g x) : S f xs = S g xs := by
  induction xs with
  | nil => rfl
  | cons x xs ih =>
    rw [S_cons, S_cons, h x List.mem_cons_self, ih fun y hy => h y (List.mem_cons_of_mem _ hy)]
theorem S_add (f g : ι → α) (xs : List ι) : S (fun x => f x + g x) xs = S f xs + S g xs := by
  induction xs with
  | nil => rw [S_nil, S_nil, S_nil]; grind
  | cons x xs ih => rw [S_cons, S_cons, S_cons, ih]; grind
theorem S_mul (a : α) (f : ι → α) (xs : List ι) : S (fun x => a * f x) xs = a * S f xs := by
  induction xs with
  | nil => rw [S_nil, S_nil]; grind
  | cons x xs ih => rw [S_cons, S_cons, ih]; grind
theorem S_mulr (a : α) (f : ι → α) (xs : List ι) : S (fun x => f x * a) xs = S f xs * a := by
  induction xs with
  | nil => rw [S_nil, S_nil]; grind
  | cons x xs ih => rw [S_cons, S_cons, ih]; grind
theorem S_zero (xs : List ι) : S (fun _ => (0 : α)) xs = 0 := by
  induction xs with
  | nil => rfl
  | cons x xs ih => rw [S_cons, ih]; grind
theorem S_swap (f : ι → κ → α) (xs : List ι) (ys : List κ) : S (fun x => S (fun y => f x y) ys) xs = S (fun y => S (fun x => f x y) xs) ys := by
  induction xs with
  | nil => rw [S_nil]; exact (S_zero ys).symm
  | cons x xs ih =>
    rw [S_cons, ih, ← S_add]
    rfl
theorem S_map (f : κ → α) (g : ι → κ) (xs : List ι) : S f (xs.map g) = S (fun x => f (g x)) xs := by
  induction xs with
  | nil => rfl
  | cons x xs ih => rw [List.map_cons, S_cons, S_cons, ih]
/-- the sum of products of two rows -/
def dot (xs ys : List α) : α := S (fun p => p.1 * p.2) (xs.zip ys)
theorem getD_at {β : Type} {xs : List β} {i : Nat} (h : i < xs.length) (d : β) : xs.getD i d = xs[i] := by
  rw [List.getD_eq_getElem?_getD, List.getElem?_eq_getElem h]
  rfl
theorem zip_range {β : Type} {xs ys : List β} (d : β) {n : Nat} (hx : xs.length = n) (hy : ys.length = n) : xs.zip ys = (List.range n).map fun i => (xs.getD i d, ys.getD i d) := by
  apply List.ext_getElem
  · rw [List.length_zip, List.length_map, List.length_range, hx, hy, Nat.min_self]
  · intro i h1 h2
    have h3 : i < n := by rw [List.length_map, List.length_range] at h2; exact h2
    rw [List.getElem_zip, List.getElem_map, List.getElem_range]
    rw [getD_at (by omega), getD_at (by omega)]
theorem dot_range {xs ys : List α} {n : Nat} (hx : xs.length = n) (hy : ys.length = n) : dot xs ys = S (fun i => xs.getD i 0 * ys.getD i 0) (List.range n) := by
  unfold dot
  rw [zip_range 0 hx hy, S_map]
theorem getD_map_range {β : Type} (f : Nat → β) (d : β) {n i : Nat} (h : i < n) : ((List.range n).map f).getD i d = f i := by
  rw [getD_at (by rw [List.length_map, List.length_range]; exact h), List.getElem_map, List.getElem_range]
/-! ## programs -/
structure Pr (α : Type) where
  u : List α
  v : List α
  c : α
  d : α
/-- every product has rows left and columns right numbers -/
def Pok (P : List (Pr α)) (R C : Nat) : Prop := ∀ q ∈ P, q.u.length = R ∧ q.v.length = C
/-- a cell of the first (second) table -/
def cell (P : List (Pr α)) (w : Pr α → α) (i j : Nat) : α := S (fun q => w q * q.u.getD i 0 * q.v.getD j 0) P
def table (P : List (Pr α)) (w : Pr α → α) (R C : Nat) : List (List α) := (List.range R).map fun i => (List.range C).map fun j => cell P w i j
/-- both tables by two taps -/
def mixc (P : List (Pr α)) (z0 z1 : α) (i j : Nat) : α := z0 * cell P (·.c) i j + z1 * cell P (·.d) i j
/-- the results by the right letters' places ("y"), by the left ones' ("x") -/
def turnY (P : List (Pr α)) (C : Nat) (z0 z1 : α) (xs : List α) : List α :=
  (List.range C).map fun j => S (fun q => (q.c * z0 + q.d * z1) * dot q.u xs * q.v.getD j 0) P
def turnX (P : List (Pr α)) (R : Nat) (z0 z1 : α) (ys : List α) : List α :=
  (List.range R).map fun i => S (fun q => (q.c * z0 + q.d * z1) * dot q.v ys * q.u.getD i 0) P
theorem turnY_at {P : List (Pr α)} {R C : Nat} (ok : Pok P R C) (z0 z1 : α) {xs : List α} (hx : xs.length = R) (j : Nat) :
    S (fun q => (q.c * z0 + q.d * z1) * dot q.u xs * q.v.getD j 0) P = S (fun i => mixc P z0 z1 i j * xs.getD i 0) (List.range R) := by
  have e1 : S (fun q => (q.c * z0 + q.d * z1) * dot q.u xs * q.v.getD j 0) P = S (fun q => S (fun i => (q.c * z0 + q.d * z1) * (q.u.getD i 0 * xs.getD i 0) * q.v.getD j 0) (List.range R)) P := by
    refine S_congr fun q hq => ?_
    rw [dot_range (ok q hq).1 hx, S_mulr, S_mul]
  rw [e1, S_swap]
  refine S_congr fun i _ => ?_
  unfold mixc cell
  rw [← S_mul, ← S_mul, ← S_add, ← S_mulr]
  refine S_congr fun q _ => ?_
  grind
theorem turnX_at {P : List (Pr α)} {R C : Nat} (ok : Pok P R C) (z0 z1 : α) {ys : List α} (hy : ys.length = C) (i : Nat) :
    S (fun q => (q.c * z0 + q.d * z1) * dot q.v ys * q.u.getD i 0) P = S (fun j => mixc P z0 z1 i j * ys.getD j 0) (List.range C) := by
  have e1 : S (fun q => (q.c * z0 + q.d * z1) * dot q.v ys * q.u.getD i 0) P = S (fun q => S (fun j => (q.c * z0 + q.d * z1) * (q.v.getD j 0 * ys.getD j 0) * q.u.getD i 0) (List.range C)) P := by
    refine S_congr fun q hq => ?_
    rw [dot_range (ok q hq).2 hy, S_mulr, S_mul]
  rw [e1, S_swap]
  refine S_congr fun j _ => ?_
  unfold mixc cell
  rw [← S_mul, ← S_mul, ← S_add, ← S_mulr]
  refine S_congr fun q _ => ?_
  grind
/-- the law's own reckoning: the mixed table, then a dot by its columns (rows) -/
def mixT (P : List (Pr α)) (R C : Nat) (z0 z1 : α) : List (List α) := (List.range R).map fun i => (List.range C).map fun j => mixc P z0 z1 i j
theorem lawY {P : List (Pr α)} {R C : Nat} (ok : Pok P R C) (z0 z1 : α) {xs : List α} (hx : xs.length = R) :
    ((List.range C).map fun j => dot ((List.range R).map fun i => mixc P z0 z1 i j) xs) = turnY P C z0 z1 xs := by
  unfold turnY
  apply List.map_congr_left
  intro j _
  rw [turnY_at ok z0 z1 hx j, dot_range (by rw [List.length_map, List.length_range]) hx]
  refine S_congr fun i hi => ?_
  rw [getD_map_range _ _ (List.mem_range.mp hi)]
theorem lawX {P : List (Pr α)} {R C : Nat} (ok : Pok P R C) (z0 z1 : α) {ys : List α} (hy : ys.length = C) :
    ((List.range R).map fun i => dot ((List.range C).map fun j => mixc P z0 z1 i j) ys) = turnX P R z0 z1 ys := by
  unfold turnX
  apply List.map_congr_left
  intro i _
  rw [turnX_at ok z0 z1 hy i, dot_range (by rw [List.length_map, List.length_range]) hy]
  refine S_congr fun j hj => ?_
  rw [getD_map_range _ _ (List.mem_range.mp hj)]
/-- about_plain's reckoning -/
theorem plainY {P : List (Pr α)} {R C : Nat} (ok : Pok P R C) (z0 z1 : α) {xs : List α} (hx : xs.length = R) :
    ((List.range C).map fun j => z0 * dot ((List.range R).map fun i => cell P (·.c) i j) xs + z1 * dot ((List.range R).map fun i => cell P (·.d) i j) xs) = turnY P C z0 z1 xs := by
  unfold turnY
  apply List.map_congr_left
  intro j _
  rw [turnY_at ok z0 z1 hx j, dot_range (by rw [List.length_map, List.length_range]) hx, dot_range (by rw [List.length_map, List.length_range]) hx, ← S_mul, ← S_mul, ← S_add]
  refine S_congr fun i hi => ?_
  rw [getD_map_range _ _ (List.mem_range.mp hi), getD_map_range _ _ (List.mem_range.mp hi)]
  unfold mixc
  grind
theorem plainX {P : List (Pr α)} {R C : Nat} (ok : Pok P R C) (z0 z1 : α) {ys : List α} (hy : ys.length = C) :
    ((List.range R).map fun i => z0 * dot ((List.range C).map fun j => cell P (·.c) i j) ys + z1 * dot ((List.range C).map fun j => cell P (·.d) i j) ys) = turnX P R z0 z1 ys := by
  unfold turnX
  apply List.map_congr_left
  intro i _
  rw [turnX_at ok z0 z1 hy i, dot_range (by rw [List.length_map, List.length_range]) hy, dot_range (by rw [List.length_map, List.length_range]) hy, ← S_mul, ← S_mul, ← S_add]
  refine S_congr fun j hj => ?_
  rw [getD_map_range _ _ (List.mem_range.mp hj), getD_map_range _ _ (List.mem_range.mp hj)]
  unfold mixc
  grind
/-- run -/
def runC (P : List (Pr α)) (w : Pr α → α) (xs ys : List α) : α := S (fun q => w q * (dot q.u xs * dot q.v ys)) P
theorem threeY {P : List (Pr α)} {R C : Nat} (ok : Pok P R C) (z0 z1 : α) {xs ys : List α} (hx : xs.length = R) (hy : ys.length = C) :
    dot ys (turnY P C z0 z1 xs) = dot [z0, z1] [runC P (·.c) xs ys, runC P (·.d) xs ys] := by
  have e0 : dot [z0, z1] [runC P (·.c) xs ys, runC P (·.d) xs ys] = z0 * runC P (·.c) xs ys + z1 * runC P (·.d) xs ys := by
    show z0 * _ + (z1 * _ + 0) = _
    grind
  rw [e0, dot_range hy (by unfold turnY; rw [List.length_map, List.length_range])]
  unfold runC
  rw [← S_mul, ← S_mul, ← S_add]
  have e1 : S (fun j => ys.getD j 0 * (turnY P C z0 z1 xs).getD j 0) (List.range C) = S (fun j => S (fun q => ys.getD j 0 * ((q.c * z0 + q.d * z1) * dot q.u xs * q.v.getD j 0)) P) (List.range C) := by
    refine S_congr fun j hj => ?_
    unfold turnY
    rw [getD_map_range _ _ (List.mem_range.mp hj), S_mul]
  rw [e1, S_swap]
  refine S_congr fun q hq => ?_
  rw [dot_range (ok q hq).2 hy, ← S_mul, ← S_mul, ← S_mul, ← S_mul, ← S_mul, ← S_add]
  refine S_congr fun j _ => ?_
  grind
theorem threeX {P : List (Pr α)} {R C : Nat} (ok : Pok P R C) (z0 z1 : α) {xs ys : List α} (hx : xs.length = R) (hy : ys.length = C) :
    dot xs (turnX P R z0 z1 ys) = dot [z0, z1] [runC P (·.c) xs ys, runC P (·.d) xs ys] := by
  have e0 : dot [z0, z1] [runC P (·.c) xs ys, runC P (·.d) xs ys] = z0 * runC P (·.c) xs ys + z1 * runC P (·.d) xs ys := by
    show z0 * _ + (z1 * _ + 0) = _
    grind
  rw [e0, dot_range hx (by unfold turnX; rw [List.length_map, List.length_range])]
  unfold runC
  rw [← S_mul, ← S_mul, ← S_add]
  have e1 : S (fun i => xs.getD i 0 * (turnX P R z0 z1 ys).getD i 0) (List.range R) = S (fun i => S (fun q => xs.getD i 0 * ((q.c * z0 + q.d * z1) * dot q.v ys * q.u.getD i 0)) P) (List.range R) := by
    refine S_congr fun i hi => ?_
    unfold turnX
    rw [getD_map_range _ _ (List.mem_range.mp hi), S_mul]
  rw [e1, S_swap]
  refine S_congr fun q hq => ?_
  rw [dot_range (ok q hq).1 hx]
  have e2 : ∀ w : α, w * (S (fun i => q.u.getD i 0 * xs.getD i 0) (List.range R) * dot q.v ys) = S (fun i => w * (q.u.getD i 0 * xs.getD i 0 * dot q.v ys)) (List.range R) := by
    intro w
    rw [S_mul, S_mulr]
  rw [e2, e2, ← S_mul, ← S_mul, ← S_add]
  refine S_congr fun i _ => ?_
  grind
end
end K21
set_option autoImplicit false
namespace K21
open Lean.Grind
/-! ## the numbers: fractions (prime 0), rests by a prime -/
def Car : Nat → Type
  | 0 => Rat
  | n + 1 => Fin (n + 1)
instance instCar : (p : Nat) → CommRing (Car p)
  | 0 => inferInstanceAs (CommRing Rat)
  | n + 1 => inferInstanceAs (CommRing (Fin (n + 1)))
instance decCar : (p : Nat) → DecidableEq (Car p)
  | 0 => inferInstanceAs (DecidableEq Rat)
  | n + 1 => inferInstanceAs (DecidableEq (Fin (n + 1)))
/-- the size of a number -/
def Sz : (p : Nat) → Nat → Car p → Prop
  | 0, n, (x : Rat) => x.num.natAbs < 2 ^ n ∧ x.den < 2 ^ n
  | _ + 1, _, _ => True
theorem Sz.mono : ∀ {p : Nat} {n m : Nat} {x : Car p}, Sz p n x → n ≤ m → Sz p m x
  | 0, n, m, x, h, l => ⟨Nat.lt_of_lt_of_le h.1 (Nat.pow_le_pow_right (by decide) l), Nat.lt_of_lt_of_le h.2 (Nat.pow_le_pow_right (by decide) l)⟩
  | _ + 1, _, _, _, _, _ => True.intro
/-! ### ratios in lowest terms -/
theorem den_pos (x : Rat) : 0 < x.den := Nat.pos_of_ne_zero x.den_nz
/-- top over bottom -/
theorem norm_num {t : Int} {b : Nat} (hb : b ≠ 0) : (Rat.normalize t b hb).num = t / ((t.natAbs.gcd b : Nat) : Int) := by
  rw [Rat.normalize_eq]
theorem norm_den {t : Int} {b : Nat} (hb : b ≠ 0) : (Rat.normalize t b hb).den = b / t.natAbs.gcd b := by
  rw [Rat.normalize_eq]
theorem add_same {a b : Rat} (h : a.den = b.den) : a + b = Rat.normalize (a.num + b.num) a.den a.den_nz := by
  rw [Rat.add_def]
  have e : a.num * (b.den : Int) + b.num * (a.den : Int) = (a.num + b.num) * (a.den : Int) := by rw [← h]; grind
  have e2 : a.den * b.den = a.den * a.den := by rw [← h]
  have q := Rat.normalize_mul_right (n := a.num + b.num) (d := a.den) (a := a.den) a.den_nz a.den_nz
  rw [← q]
  congr 1
theorem natAbs_add_lt {a b : Int} {n m : Nat} (h : a.natAbs < 2 ^ n) (k : b.natAbs < 2 ^ m) : (a + b).natAbs < 2 ^ (max n m + 1) := by
  have h1 : 2 ^ n ≤ 2 ^ max n m := Nat.pow_le_pow_right (by decide) (Nat.le_max_left _ _)
  have h2 : 2 ^ m ≤ 2 ^ max n m := Nat.pow_le_pow_right (by decide) (Nat.le_max_right _ _)
  rw [Nat.pow_succ]
  omega
theorem mul_lt_pow {a b n m : Nat} (h : a < 2 ^ n) (k : b < 2 ^ m) : a * b < 2 ^ (n + m) := by
  rw [Nat.pow_add]
  rcases Nat.eq_zero_or_pos b with e | e
  · rw [e, Nat.mul_zero]
    exact Nat.mul_pos (Nat.pow_pos (by decide)) (Nat.pow_pos (by decide))
  · exact Nat.lt_of_le_of_lt (Nat.mul_le_mul_right b (Nat.le_of_lt h)) (Nat.mul_lt_mul_of_pos_left k (Nat.pow_pos (by decide)))
theorem norm_sz {t : Int} {b n : Nat} (hb : b ≠ 0) (h1 : t.natAbs < 2 ^ n) (h2 : b < 2 ^ n) : Sz 0 n (Rat.normalize t b hb) := by
  refine ⟨?_, ?_⟩
  · rw [norm_num]
    exact Nat.lt_of_le_of_lt (Int.natAbs_ediv_le_natAbs _ _) h1
  · rw [norm_den]
    exact Nat.lt_of_le_of_lt (Nat.div_le_self _ _) h2
theorem rat_add_sz {n m : Nat} {x y : Rat} (h : Sz 0 n x) (k : Sz 0 m y) : Sz 0 (n + m + 1) (x + y : Rat) := by
  rw [Rat.add_def]
  refine norm_sz _ ?_ ?_
  · have a := mul_lt_pow h.1 k.2
    have b := mul_lt_pow k.1 h.2
    have e1 : (x.num * (y.den : Int)).natAbs < 2 ^ (n + m) := by rw [Int.natAbs_mul, Int.natAbs_natCast]; exact a
    have e2 : (y.num * (x.den : Int)).natAbs < 2 ^ (n + m) := by rw [Int.natAbs_mul, Int.natAbs_natCast, Nat.add_comm n m]; exact b
    have := natAbs_add_lt e1 e2
    rw [Nat.max_self] at this
    exact this
  · exact Nat.lt_trans (mul_lt_pow h.2 k.2) (Nat.pow_lt_pow_right (by decide) (Nat.lt_succ_self _))
theorem rat_mul_sz {n m : Nat} {x y : Rat} (h : Sz 0 n x) (k : Sz 0 m y) : Sz 0 (n + m) (x * y : Rat) := by
  rw [Rat.mul_def]
  refine norm_sz _ ?_ (mul_lt_pow h.2 k.2)
  rw [Int.natAbs_mul]
  exact mul_lt_pow h.1 k.1
theorem Sz.add : ∀ {p : Nat} {n m : Nat} {x y : Car p}, Sz p n x → Sz p m y → Sz p (n + m + 1) (x + y)
  | 0, _, _, _, _, h, k => rat_add_sz h k
  | _ + 1, _, _, _, _, _, _ => True.intro
theorem Sz.mul : ∀ {p : Nat} {n m : Nat} {x y : Car p}, Sz p n x → Sz p m y → Sz p (n + m) (x * y)
  | 0, _, _, _, _, h, k => rat_mul_sz h k
  | _ + 1, _, _, _, _, _, _ => True.intro
theorem Sz.zero : ∀ {p : Nat}, Sz p 1 (0 : Car p)
  | 0 => ⟨by decide, by decide⟩
  | _ + 1 => True.intro
theorem Sz.one : ∀ {p : Nat}, Sz p 1 (1 : Car p)
  | 0 => ⟨by decide, by decide⟩
  | _ + 1 => True.intro
/-- a sum of m numbers of size n -/
theorem Sz.sum {ι : Type} {p : Nat} {n : Nat} {f : ι → Car p} : ∀ {xs : List ι}, (∀ x ∈ xs, Sz p n (f x)) → Sz p (xs.length * (n + 1) + 1) (S f xs)
  | [], _ => by
    rw [S_nil, List.length_nil, Nat.zero_mul]
    exact Sz.zero
  | x :: xs, h => by
    rw [S_cons, List.length_cons]
    refine (Sz.add (h x List.mem_cons_self) (Sz.sum fun y hy => h y (List.mem_cons_of_mem _ hy))).mono ?_
    rw [Nat.succ_mul]
    omega
/-! ### Euclid -/
theorem gcd_step (a b : Nat) : Nat.gcd a b = Nat.gcd b (a % b) := by
  rw [Nat.gcd_comm b, ← Nat.gcd_rec, Nat.gcd_comm]
/-- from the second turn on the product of both halves -/
theorem euclid_halves {a b : Nat} (h : b ≤ a) (hb : 0 < b) : 2 * (b * (a % b)) ≤ a * b := by
  have h1 : a % b < b := Nat.mod_lt _ hb
  have h2 : 2 * (a % b) ≤ a := by
    have h3 := Nat.div_add_mod a b
    have h4 : 1 ≤ a / b := (Nat.le_div_iff_mul_le hb).mpr (by rw [Nat.one_mul]; exact h)
    have h5 : b * 1 ≤ b * (a / b) := Nat.mul_le_mul_left b h4
    rw [Nat.mul_one] at h5
    omega
  calc 2 * (b * (a % b)) = b * (2 * (a % b)) := by rw [Nat.mul_left_comm]
    _ ≤ b * a := Nat.mul_le_mul_left b h2
    _ = a * b := Nat.mul_comm b a
end K21
set_option autoImplicit true
set_option maxRecDepth 100000
set_option maxHeartbeats 4000000
namespace K21
open PySem PySem.Spec PyProof.Rows L2
/-! ## sequences of either kind: a list (false), a tuple (true) -/
def SqB (k : Bool) (K : PySem.W.Frag) (H : Hp) (a : Addr) (xs : List V) : Prop := match k with
  | true => SqT K H a xs
  | false => SqL K H a xs
def IsIt (k : Bool) (h : Heap) (it a : Addr) (i : Nat) : Prop := match k with
  | true => h.IsTupleIter it a i
  | false => h.IsListIter it a i
def IsSq (k : Bool) (h : Heap) (a : Addr) (items : Array Value) : Prop := match k with
  | true => h.IsTuple a items
  | false => h.IsList a items
theorem IsIt.keep {k : Bool} {h h' : Heap} {it a : Addr} {i : Nat} (x : IsIt k h it a i) (q : ∀ o, h.get? it = some o → h'.get? it = some o) : IsIt k h' it a i := by
  cases k with
  | true => obtain ⟨o, e, r⟩ := (x : h.IsTupleIter it a i); exact (⟨o, q o e, r⟩ : h'.IsTupleIter it a i)
  | false => obtain ⟨o, e, r⟩ := (x : h.IsListIter it a i); exact (⟨o, q o e, r⟩ : h'.IsListIter it a i)
theorem IsIt.rec_ {k : Bool} {h : Heap} {it a : Addr} {i : Nat} (x : IsIt k h it a i) : ∃ o, h.get? it = some o ∧ ∀ v, o.data ≠ .cell v := by
  cases k with
  | true => obtain ⟨o, e, _, d⟩ := (x : h.IsTupleIter it a i); exact ⟨o, e, fun v q => by rw [d] at q; cases q⟩
  | false => obtain ⟨o, e, _, d⟩ := (x : h.IsListIter it a i); exact ⟨o, e, fun v q => by rw [d] at q; cases q⟩
theorem draws_sq {prog : Program} {w : World} {A : Around} (k : Bool) (hh : A.handled = none) (it a : Addr) (hne : a ≠ it) (items : Array Value) :
    Draws prog w A it [it, a] items.size (fun i v => items[i]? = some v) (fun i h => IsIt k h it a i ∧ IsSq k h a items) := by
  cases k with
  | true => exact Draws.tuple hh it a hne items
  | false => exact Draws.list hh it a hne items
def itO (k : Bool) (a : Addr) : Obj := match k with
  | true => { cls := .type "tuple_iterator", data := .fields #[.ref a, .int 0 0] }
  | false => { cls := .type "list_iterator", data := .fields #[.ref a, .int 0 0] }
theorem begins_sq (k : Bool) (a : Addr) (items : Array Value) : Begins (.ref a) (itO k a) (fun h => IsSq k h a items) := by
  cases k with
  | true => exact begins_tuple a items
  | false => exact begins_list a items
theorem isIt_new {k : Bool} {h : Heap} {it a : Addr} (e : h.get? it = some (itO k a)) : IsIt k h it a 0 := by
  cases k with
  | true => exact (⟨_, e, rfl, rfl⟩ : h.IsTupleIter it a 0)
  | false => exact (⟨_, e, rfl, rfl⟩ : h.IsListIter it a 0)
section
variable {X : Cx} {pins : List (Addr × Obj)} {σ : L2.St} {H : Hp} {s : Shared} {a : Addr} {xs ys : List V} {k : Bool}
theorem sq_inv (I : Inv X pins σ H s) (h : SqB k X.K H a xs) : ∃ its : List Value, Vals xs its ∧ IsSq k s.heap a its.toArray ∧ a < s.heap.objs.size ∧ xs.length ≤ sizeLine := by
  cases k with
  | true =>
    obtain ⟨its, r, p, z⟩ := I.tuple h
    obtain ⟨o, ho, _⟩ := id p
    exact ⟨its, r, p, Heap.lt_size ho, z⟩
  | false =>
    obtain ⟨its, r, p, z⟩ := I.list h
    exact ⟨its, r, p.isList, p.lt, z⟩
theorem sq_inj (I : Inv X pins σ H s) (h : SqB k X.K H a xs) (h' : SqB k X.K H a ys) : xs = ys := by
  cases k with
  | true => exact I.tuple_inj h h'
  | false => exact I.list_inj h h'
end
/-! ## zip over two of them -/
def Itz2 (k1 k2 : Bool) (K : PySem.W.Frag) (a b : Addr) : It :=
  ⟨fun i H => ∃ (xs ys : List V) (x y : V), SqB k1 K H a xs ∧ SqB k2 K H b ys ∧ xs[i]? = some x ∧ ys[i]? = some y,
    fun i H v H' => ∃ T x y, v = V.ref T ∧ H T = none ∧ H' = upd H T (HO.tup [x, y]) ∧ (∀ xs, SqB k1 K H a xs → xs[i]? = some x) ∧ (∀ ys, SqB k2 K H b ys → ys[i]? = some y),
    fun i H => ∃ xs ys : List V, SqB k1 K H a xs ∧ SqB k2 K H b ys ∧ i ≤ xs.length ∧ i ≤ ys.length ∧ (i = xs.length ∨ i = ys.length)⟩
theorem turn_zip2 {P : Program} {w : World} {K : PySem.W.Frag} {elts : List Expr} {kk : Nat} {tpos : Pos} {k1 k2 : Bool} {a b z TI TO i1 i2 : Addr} (S : ZipSep2 z TI TO i1 i2 [i1, a] [i2, b]) (na : a ≠ i1) (nb : b ≠ i2) :
    Turn P w K (.Tuple elts kk tpos) (Itz2 k1 k2 K a b) [z, TI, TO, i1, i2] z
      (fun i h => IsZip h z TI TO .none ∧ IsTupOf2 h TI (.ref i1) (.ref i2) ∧ (∃ x y, IsTupOf2 h TO x y) ∧ IsIt k1 h i1 a i ∧ IsIt k2 h i2 b i) where
  mem := by simp
  obj := fun i h st c hc => by
    obtain ⟨hz, hTI, ⟨x, y, hTO⟩, h1, h2⟩ := st
    simp only [List.mem_cons, List.not_mem_nil, or_false] at hc
    rcases hc with q | q | q | q | q <;> subst q
    · exact ⟨_, hz, fun v q => nomatch q⟩
    · exact ⟨_, hTI, fun v q => nomatch q⟩
    · exact ⟨_, hTO, fun v q => nomatch q⟩
    · exact h1.rec_
    · exact h2.rec_
  keep := fun i h h' st k => by
    obtain ⟨hz, hTI, ⟨x, y, hTO⟩, h1, h2⟩ := st
    exact ⟨k z (by simp) _ hz, k TI (by simp) _ hTI, ⟨x, y, k TO (by simp) _ hTO⟩, h1.keep (k i1 (by simp)), h2.keep (k i2 (by simp))⟩
  item := by
    intro X hP hw hK hc i pins s σ H E I hf st hg
    subst hP hw hK
    obtain ⟨hz, hTI, ⟨x0, y0, hTO⟩, h1, h2⟩ := st
    obtain ⟨xs, ys, x, y, hqx, hqy, hx, hy⟩ := hg
    obtain ⟨its, rv, p, la, _⟩ := sq_inv I hqx
    obtain ⟨its2, rv2, p2, lb, _⟩ := sq_inv I hqy
    have hh : X.A.in1.handled = none := I.ok.hd hc
    obtain ⟨u, hu, ru⟩ := rv.get hx
    obtain ⟨u2, hu2, ru2⟩ := rv2.get hy
    have hzl : z < s.heap.objs.size := Heap.lt_size hz
    have b1 : i < its.length := (List.getElem?_eq_some_iff.mp hu).1
    have b2 : i < its2.length := (List.getElem?_eq_some_iff.mp hu2).1
    refine wpAny_pyNext_zipD2_item (i := i) S (draws_sq k1 hh i1 a na its.toArray) (draws_sq k2 hh i2 b nb its2.toArray) hz hTI hTO ⟨h1, p⟩ ⟨h2, p2⟩ (by simpa using b1) (by simpa using b2) fun v1 v2 h' tk e1 e2 z' TO' st1 st2 hT hsz hk => ?_
    have e1' : v1 = u := by
      have q : its.toArray[i]? = some v1 := e1
      rw [List.getElem?_toArray, hu] at q
      exact (Option.some.inj q).symm
    have e2' : v2 = u2 := by
      have q : its2.toArray[i]? = some v2 := e2
      rw [List.getElem?_toArray, hu2] at q
      exact (Option.some.inj q).symm
    subst e1' e2'
    refine ⟨_, rfl, wpAny_letOwnedTupleGo_zip (s := { s with heap := h', toks := tk }) z' fun h'' z'' sb => ?_⟩
    have hT2 : h''.get? s.heap.objs.size = some { cls := .type "tuple", data := .seq #[v1, v2] } := (sb.2 _ (Nat.ne_of_gt hzl)).trans hT
    have new : ObjOk X.prog X.w (upd H s.heap.objs.size (.tup [x, y])) h'' s.heap.objs.size (.tup [x, y]) :=
      ⟨by show 2 ≤ sizeLine; decide, [v1, v2], .cons ru (.cons ru2 .nil), ⟨_, hT2, rfl, _, rfl⟩⟩
    have J : Inv X pins σ (upd H s.heap.objs.size (.tup [x, y])) { s with heap := h'', toks := tk } :=
      I.turnedNew (t' := tk) (ch := [z, TI, TO, i1, i2]) (fun c o hb q => by
        simp only [List.mem_cons, List.not_mem_nil, or_false, not_or] at hb
        exact (sb.2 c hb.1).trans (hk c o hb.1 hb.2.2.1 hb.2.2.2.1 hb.2.2.2.2 q)) hf (Nat.le_refl _) new
    refine ⟨.ref s.heap.objs.size, _, J, rfl, ⟨_, x, y, rfl, I.hok.fresh (Nat.le_refl _), rfl, fun l hl => by rw [sq_inj I hl hqx]; exact hx, fun l hl => by rw [sq_inj I hl hqy]; exact hy⟩, ⟨z'', ?_, ⟨v1, v2, ?_⟩, ?_, ?_⟩, fun c hcm => ?_⟩
    · exact (sb.2 _ S.TIz).trans (hk _ _ S.TIz S.TITO S.TIi1 S.TIi2 hTI)
    · exact (sb.2 _ S.TOz).trans TO'
    · exact st1.1.keep fun o q => (sb.2 _ (Ne.symm S.zi1)).trans q
    · exact st2.1.keep fun o q => (sb.2 _ (Ne.symm S.zi2)).trans q
    · have hlt : c < s.heap.objs.size := by
        simp only [List.mem_cons, List.not_mem_nil, or_false] at hcm
        rcases hcm with q | q | q | q | q <;> subst q
        · exact hzl
        · exact Heap.lt_size hTI
        · exact Heap.lt_size hTO
        · obtain ⟨_, q, _⟩ := h1.rec_; exact Heap.lt_size q
        · obtain ⟨_, q, _⟩ := h2.rec_; exact Heap.lt_size q
      rw [upd_ne (Nat.ne_of_lt hlt)]
      exact (hf c hcm).1
  done := by
    intro X hP hw hK hc i pins s σ H E I hf st hg
    subst hP hw hK
    obtain ⟨hz, hTI, ⟨x0, y0, hTO⟩, h1, h2⟩ := st
    obtain ⟨xs, ys, hqx, hqy, l1, l2, hend⟩ := hg
    obtain ⟨its, rv, p, la, _⟩ := sq_inv I hqx
    obtain ⟨its2, rv2, p2, lb, _⟩ := sq_inv I hqy
    have hh : X.A.in1.handled = none := I.ok.hd hc
    have e1 := rv.length
    have e2 := rv2.length
    refine wpAny_pyNext_zipD2_end (i := i) S (draws_sq k1 hh i1 a na its.toArray) (draws_sq k2 hh i2 b nb its2.toArray) hz hTI hTO ⟨h1, p⟩ ⟨h2, p2⟩ (by simp; omega) (by simp; omega) (by simp; omega) fun h' tk hk => ?_
    exact ⟨rfl, I.turnedL (t' := tk) (ch := [z, TI, TO, i1, i2]) (fun c o hb q => by
        simp only [List.mem_cons, List.not_mem_nil, or_false, not_or] at hb
        exact hk c o hb.1 hb.2.2.1 hb.2.2.2.1 hb.2.2.2.2 q) hf⟩
  self := fun A i s Q E st h => wpAny_pyIter_zip st.1 h
def iZip2 (K : PySem.W.Frag) (ta : TA) : TI := fun σ H R => ta σ H fun vs H1 => ∃ (k1 k2 : Bool) (a b : Addr) (xs ys : List V), vs = [.ref a, .ref b] ∧ SqB k1 K H1 a xs ∧ SqB k2 K H1 b ys ∧ R (Itz2 k1 k2 K a b) H1
theorem pi_zip2 {X : Cx} {e e2 : Expr} {ta : TA} {p pos tpos : Pos} {elts : List Expr} {kk : Nat} (hg : Gl X "zip") (hm : X.mg "zip" = none) (ha : PA X [e, e2] ta)
    (hs : starEach [e, e2] X.env = (false, eval e X.env) :: starEach [e2] X.env := by rfl) (hpl : (backTo pos (starEach [e2] X.env)).any (·.1) = false := by rfl) :
    PI X (.Tuple elts kk tpos) (.Call (.Name "zip" p) [e, e2] [] pos) (iZip2 X.K ta) := by
  refine ⟨fun pins s σ H R I h => ?_⟩
  refine Call_ (ld_blt I hg hm PyProof.Rows.boot_zip (PyProof.Rows.callWith_type1 (thn (ha.run pos pins s σ H _ I h) fun us s1 ⟨vs, H1, I1, r1, q1⟩ => ?_) hs hpl))
  obtain ⟨k1, k2, a, b, xs, ys, ex, hqx, hqy, q⟩ := q1
  subst ex
  cases r1 with
  | cons r rr =>
    cases rr with
    | cons r' rr =>
      cases rr
      cases r
      cases r'
      obtain ⟨its, rv, p1, la, _⟩ := sq_inv I1 hqx
      obtain ⟨its2, rv2, p2, lb, _⟩ := sq_inv I1 hqy
      refine zip_begins2 (begins_sq k1 a its.toArray) (begins_sq k2 b its2.toArray) p1 p2 fun h' hz hTI hTO h1 h2 hsz hk => wpAny_pyIter_zip hz ?_
      have I2 : Inv X pins σ H1 { s1 with heap := h' } := I1.kept (t' := s1.toks) hk
      have S := zip_sep2 (N := s1.heap.objs.size) (fp1 := [a]) (fp2 := [b]) (fun c hc => by rw [List.mem_singleton.mp hc]; exact la) (fun c hc => by rw [List.mem_singleton.mp hc]; exact lb)
      refine ⟨s1.heap.objs.size + 4, _, _, _, H1, rfl, I2, turn_zip2 S (Nat.ne_of_lt la) (Nat.ne_of_lt (Nat.lt_succ_of_lt lb)), ⟨hz, hTI, ⟨_, _, hTO⟩, isIt_new h1, isIt_new h2⟩, fun c hcm => ?_, q⟩
      have hle : s1.heap.objs.size ≤ c := by
        simp only [List.mem_cons, List.not_mem_nil, or_false] at hcm
        rcases hcm with q | q | q | q | q <;> subst q
        · exact Nat.le_add_right _ _
        · exact Nat.le_add_right _ _
        · exact Nat.le_add_right _ _
        · exact Nat.le_refl _
        · exact Nat.le_add_right _ _
      exact I1.fpOk hle (I1.hok.fresh hle)
theorem walk_zip2 {k1 k2 : Bool} {K : PySem.W.Frag} {a b : Addr} {xs ys : List V} {n : Nat} (hx : xs.length = n) (hy : ys.length = n) :
    Walk (Itz2 k1 k2 K a b) n (fun H => SqB k1 K H a xs ∧ SqB k2 K H b ys) (YPair (fun i => xs[i]?) (fun i => ys[i]?)) :=
  ⟨fun i H hi q => ⟨xs, ys, xs[i]'(by omega), ys[i]'(by omega), q.1, q.2, List.getElem?_eq_getElem _, List.getElem?_eq_getElem _⟩,
    fun H q => ⟨xs, ys, q.1, q.2, by omega, by omega, .inl hx.symm⟩,
    fun i H x H' hi q y => by
      obtain ⟨T, u, v, e1, e2, e3, e4, e5⟩ := y
      exact ⟨T, u, v, e1, e2, e3, e4 xs q.1, e5 ys q.2⟩⟩
/-! ## enumerate over one of them -/
theorem enum_new (k : Bool) (a : Addr) (items : Array Value) :
    Meets (Builtin.«enumerate.__new__» ⟨[.type "enumerate", .ref a], []⟩) (fun _ R s => IsSq k s.heap a items ∧
      R (.ok (.ret (.ref (s.heap.push (itO k a)).objs.size)))
        { s with heap := (s.heap.push (itO k a)).push { cls := .type "enumerate", data := .fields #[.none, .bool false, .ref s.heap.objs.size, rawInt 0, .none, .none] } }) :=
  .of_wp fun prog w A R s h => by
    obtain ⟨hp, g, d, tk, os⟩ := s
    obtain ⟨hl, h⟩ := h
    have hsub := sub_enumerate
    have B := begins_sq k a items
    have q1 : ∀ {A' : Around} {E : Value → Shared → Prop} {Q : Value → Shared → Prop}, Q (.ref hp.objs.size) ⟨hp.push (itO k a), g, d, tk, os⟩ → wpAny (model prog w) A' (pyIter (.ref a)) Q E ⟨hp, g, d, tk, os⟩ :=
      fun q => B.iter prog w _ _ ⟨hp, g, d, tk, os⟩ _ hl q
    wp_walk using q1
    refine wpAny_stack_any fun st => wpAny_pure ?_
    split
    · rename_i c _ _ _ _ _
      cases (c == Value.type "enumerate")
      · wp_walk using q1
        exact ⟨_, rfl, h⟩
      · wp_walk using q1
        exact ⟨_, rfl, h⟩
    · wp_walk using q1
      exact ⟨_, rfl, h⟩
def iteO (N : Nat) : Obj := { cls := .type "enumerate", data := .fields #[.none, .bool false, .ref N, rawInt 0, .none, .none] }
theorem call_enum {prog : Program} {w : World} {A : Around} {E : Value → Shared → Prop} {s : Shared} (k : Bool) {a : Addr} {items : Array Value} {Q : Value → Shared → Prop} (hl : IsSq k s.heap a items)
    (h : ∀ h', IsEnum h' (s.heap.objs.size + 1) s.heap.objs.size 0 .none → IsIt k h' s.heap.objs.size a 0 → (∀ b o, s.heap.get? b = some o → h'.get? b = some o) → Q (.ref (s.heap.objs.size + 1)) { s with heap := h' }) :
    wpAny (model prog w) A (call (.type "enumerate") [.ref a]) Q E s := by
  refine callType_new F.called_enumerate (by decide) (F.typeCall_enumerate_1 _) (F.newCall_enumerate_1 _) (fun obj => F.args_object_init_2 obj _) F.entry_enumerate_new (enum_new k a items) ⟨hl, ?_⟩
  have hz : (s.heap.push (itO k a)).objs.size = s.heap.objs.size + 1 := Heap.size_push ..
  have hf : (itO k a).isFreed = false := by cases k <;> rfl
  have g0 : ((s.heap.push (itO k a)).push (iteO s.heap.objs.size)).get? s.heap.objs.size = some (itO k a) := Heap.get?_push_of_some _ (Heap.get?_push_size _ hf)
  have g1 : ((s.heap.push (itO k a)).push (iteO s.heap.objs.size)).get? (s.heap.objs.size + 1) = some (iteO s.heap.objs.size) := by
    have q := Heap.get?_push_size (s.heap.push (itO k a)) (o := iteO s.heap.objs.size) rfl
    rw [hz] at q
    exact q
  show _ ∧ _
  rw [hz]
  exact ⟨⟨_, g1, rfl⟩, h _ g1 (isIt_new g0) fun b o e => Heap.get?_push_of_some _ (Heap.get?_push_of_some _ e)⟩
def Ite2 (k : Bool) (K : PySem.W.Frag) (a : Addr) : It :=
  ⟨fun i H => ∃ (xs : List V) (x : V), SqB k K H a xs ∧ xs[i]? = some x,
    fun i H v H' => ∃ T x, v = V.ref T ∧ H T = none ∧ H' = upd H T (HO.tup [.int (i : Nat), x]) ∧ ∀ xs, SqB k K H a xs → xs[i]? = some x,
    fun i H => ∃ xs : List V, SqB k K H a xs ∧ i = xs.length⟩
theorem turn_enum2 {P : Program} {w : World} {K : PySem.W.Frag} {elts : List Expr} {kk : Nat} {tpos : Pos} {k : Bool} {a e it : Addr} (na : a ≠ it) (ne : e ≠ it) (nea : e ≠ a) :
    Turn P w K (.Tuple elts kk tpos) (Ite2 k K a) [e, it] e (fun i h => (∃ old, IsEnum h e it ((i : Nat) : Int) old) ∧ IsIt k h it a i) where
  mem := by simp
  obj := fun i h st c hc => by
    obtain ⟨⟨old, he⟩, h1⟩ := st
    simp only [List.mem_cons, List.not_mem_nil, or_false] at hc
    rcases hc with q | q <;> subst q
    · exact ⟨_, he, fun v q => nomatch q⟩
    · exact h1.rec_
  keep := fun i h h' st k => by
    obtain ⟨⟨old, he⟩, h1⟩ := st
    exact ⟨⟨old, k e (by simp) _ he⟩, h1.keep (k it (by simp))⟩
  item := by
    intro X hP hw hK hc i pins s σ H E I hf st hg
    subst hP hw hK
    obtain ⟨⟨old, he⟩, h1⟩ := st
    obtain ⟨xs, x, hqx, hx⟩ := hg
    obtain ⟨its, rv, p, la, _⟩ := sq_inv I hqx
    have hh : X.A.in1.handled = none := I.ok.hd hc
    obtain ⟨u, hu, ru⟩ := rv.get hx
    have hel : e < s.heap.objs.size := Heap.lt_size he
    have b1 : i < its.length := (List.getElem?_eq_some_iff.mp hu).1
    refine wpAny_pyNext_enum_itemC (i := i) (c := ((i : Nat) : Int)) (draws_sq k hh it a na its.toArray) he ⟨h1, p⟩ (by simpa using b1) ne (by simp [ne, nea]) fun v1 h' tk e1 ho st1 hT hsz hk => ?_
    have e1' : v1 = u := by
      have q : its.toArray[i]? = some v1 := e1
      rw [List.getElem?_toArray, hu] at q
      exact (Option.some.inj q).symm
    subst e1'
    refine ⟨_, rfl, wpAny_letOwnedTupleGo_enum (s := { s with heap := h', toks := tk + 1 }) ho fun h'' he' sb => ?_⟩
    have hT2 : h''.get? s.heap.objs.size = some { cls := .type "tuple", data := .seq #[.int ((i : Nat) : Int) tk, v1] } := (sb.2 _ (Nat.ne_of_gt hel)).trans hT
    have new : ObjOk X.prog X.w (upd H s.heap.objs.size (.tup [.int (i : Nat), x])) h'' s.heap.objs.size (.tup [.int (i : Nat), x]) :=
      ⟨by show 2 ≤ sizeLine; decide, [.int ((i : Nat) : Int) tk, v1], .cons ⟨_, rfl⟩ (.cons ru .nil), ⟨_, hT2, rfl, _, rfl⟩⟩
    have J : Inv X pins σ (upd H s.heap.objs.size (.tup [.int (i : Nat), x])) { s with heap := h'', toks := tk + 1 } :=
      I.turnedNew (t' := tk + 1) (ch := [e, it]) (fun c o hb q => by
        simp only [List.mem_cons, List.not_mem_nil, or_false, not_or] at hb
        exact (sb.2 c hb.1).trans (hk c o hb.1 hb.2 q)) hf (Nat.le_refl _) new
    refine ⟨.ref s.heap.objs.size, _, J, rfl, ⟨_, x, rfl, I.hok.fresh (Nat.le_refl _), rfl, fun l hl => by rw [sq_inj I hl hqx]; exact hx⟩, ⟨⟨v1, ?_⟩, ?_⟩, fun c hcm => ?_⟩
    · have e1 : ((i + 1 : Nat) : Int) = (i : Int) + 1 := by omega
      rw [e1]
      exact he'
    · exact st1.1.keep fun o q => (sb.2 _ (Ne.symm ne)).trans q
    · have hlt : c < s.heap.objs.size := by
        simp only [List.mem_cons, List.not_mem_nil, or_false] at hcm
        rcases hcm with q | q <;> subst q
        · exact hel
        · obtain ⟨_, q, _⟩ := h1.rec_; exact Heap.lt_size q
      rw [upd_ne (Nat.ne_of_lt hlt)]
      exact (hf c hcm).1
  done := by
    intro X hP hw hK hc i pins s σ H E I hf st hg
    subst hP hw hK
    obtain ⟨⟨old, he⟩, h1⟩ := st
    obtain ⟨xs, hqx, hend⟩ := hg
    obtain ⟨its, rv, p, la, _⟩ := sq_inv I hqx
    have hh : X.A.in1.handled = none := I.ok.hd hc
    have e1 := rv.length
    have hn : i = its.toArray.size := by simp; omega
    subst hn
    refine wpAny_pyNext_enum_endD (draws_sq k hh it a na its.toArray) he ⟨h1, p⟩ fun h' hk => ?_
    exact ⟨rfl, I.turnedL (t' := s.toks) (ch := [e, it]) (fun c o hb q => by
        simp only [List.mem_cons, List.not_mem_nil, or_false, not_or] at hb
        exact hk c o hb.2 q) hf⟩
  self := fun A i s Q E st h => by
    obtain ⟨⟨_, he⟩, _⟩ := st
    exact wpAny_pyIter_enum he h
def iEnum2 (K : PySem.W.Frag) (ta : TA) : TI := fun σ H R => ta σ H fun vs H1 => ∃ (k : Bool) (a : Addr) (xs : List V), vs = [.ref a] ∧ SqB k K H1 a xs ∧ R (Ite2 k K a) H1
theorem pi_enum2 {X : Cx} {e : Expr} {ta : TA} {p pos tpos : Pos} {elts : List Expr} {kk : Nat} (hg : Gl X "enumerate") (hm : X.mg "enumerate" = none) (ha : PA X [e] ta)
    (hs : starEach [e] X.env = [(false, eval e X.env)] := by rfl) : PI X (.Tuple elts kk tpos) (.Call (.Name "enumerate" p) [e] [] pos) (iEnum2 X.K ta) := by
  refine ⟨fun pins s σ H R I h => ?_⟩
  refine Call_ (ld_blt I hg hm boot_enumerate (PyProof.Rows.callWith_type1 (thn (ha.run pos pins s σ H _ I h) fun us s1 ⟨vs, H1, I1, r1, q1⟩ => ?_) hs rfl))
  obtain ⟨k, a, xs, ex, hq, q⟩ := q1
  subst ex
  cases r1 with
  | cons r rr =>
    cases rr
    cases r
    obtain ⟨its, rv, p', la, _⟩ := sq_inv I1 hq
    refine call_enum k p' fun h' he hit hk => wpAny_pyIter_enum he ?_
    have I2 : Inv X pins σ H1 { s1 with heap := h' } := I1.kept (t' := s1.toks) hk
    refine ⟨s1.heap.objs.size + 1, [s1.heap.objs.size + 1, s1.heap.objs.size], _, _, H1, rfl, I2, turn_enum2 (Nat.ne_of_lt la) (Nat.succ_ne_self _) (Nat.ne_of_gt (Nat.lt_succ_of_lt la)), ⟨⟨.none, he⟩, hit⟩, fun b hb => ?_, q⟩
    have hle : s1.heap.objs.size ≤ b := by
      simp only [List.mem_cons, List.not_mem_nil, or_false] at hb
      rcases hb with q | q <;> subst q
      · exact Nat.le_add_right _ _
      · exact Nat.le_refl _
    exact I1.fpOk hle (I1.hok.fresh hle)
theorem walk_enum2 {k : Bool} {K : PySem.W.Frag} {a : Addr} {xs : List V} : Walk (Ite2 k K a) xs.length (fun H => SqB k K H a xs) (YPair (fun i => some (.int (i : Nat))) (fun i => xs[i]?)) :=
  ⟨fun i H hi q => ⟨xs, xs[i], q, List.getElem?_eq_getElem _⟩, fun H q => ⟨xs, q, rfl⟩,
    fun i H x H' hi q y => by
      obtain ⟨T, u, e1, e2, e3, e4⟩ := y
      exact ⟨T, _, u, e1, e2, e3, rfl, e4 xs q⟩⟩
end K21
set_option maxRecDepth 100000
set_option maxHeartbeats 4000000
namespace K21
open PySem PySem.Spec PyProof.Rows L2
/-! ## t * 1 is t itself -/
theorem tuple_mul1 (l : Addr) (items : Array Value) (n : Nat) (dd : Option Addr) (sl : Array (Option Value)) (u : Tok) :
    Meets (Builtin.«tuple.__mul__» ⟨[.ref l, .int 1 u], []⟩) (fun _ R s => s.heap.get? l = some { cls := .type "tuple", dict := dd, data := .seq items n, slots := sl } ∧ R (.ok (.ret (Value.ref l))) s) :=
  .of_wp fun prog w A R s h => by
    obtain ⟨hp, g, d, tk, os⟩ := s
    obtain ⟨hl, h⟩ := h
    have f1 := AutoSeq1.idx_int
    have c0 : (decide ((1 : Int) < -(2 ^ 63)) || decide ((1 : Int) ≥ 2 ^ 63)) = false := by decide
    have c1 : (items.isEmpty || (1 : Int) == 1) = true := by rw [Bool.or_eq_true]; exact .inr rfl
    wp_walk using AutoSeq1.wpAny_loadPart' hl
    repeat (first
      | (refine wpAny_ite_false (decide_eq_false (by rw [c0]; exact Bool.false_ne_true)) ?_; wp_walk using AutoSeq1.wpAny_loadPart' hl)
      | (refine wpAny_ite_true (decide_eq_true c1) ?_; wp_walk using AutoSeq1.wpAny_loadPart' hl))
    exact ⟨_, rfl, h⟩
def rRep1 (K : PySem.W.Frag) : R2 := fun x y H Q => ∃ (l : Addr) (xs : List V), x = .ref l ∧ y = .int 1 ∧ SqT K H l xs ∧ Q (.ref l) H
theorem op_rep1 {X : Cx} : OpR X (binaryOp .Mult) (rRep1 X.K) := by
  intro pins s σ H x y v u Q I rx ry h
  obtain ⟨l, xs, rfl, rfl, hT, q⟩ := h
  cases rx
  obtain ⟨t, rfl⟩ := ry
  obtain ⟨its, r, ⟨⟨cls, dd, data, sl⟩, ho, hc, n, hd⟩, hs⟩ := I.tuple hT
  simp only at hc hd
  subst hc hd
  exact wpAny_binaryOp_repeat_ref (T := "tuple") (U := "int") (by decide) ⟨_, ho, rfl⟩ (fun s' => typeIs_int s' 1 t) noFill_tuple_mul F.fills_int_mul F.slot_int_rmul repeat_tuple F.slot_int_index.lookup
    (call_meets F.slot_int_rmul (typeIs_int s 1 t) F.entry_int_rmul (F.args_int_rmul_2 _ _) (int_rmul_tuple 1 t l its.toArray n dd sl)
      ⟨ho, rfl, ⟨_, ho, rfl⟩, call_meets F.slot_tuple_mul ⟨_, ho, rfl⟩ F.entry_tuple_mul (F.args_tuple_mul_2 _ _) (tuple_mul1 l its.toArray n dd sl t) ⟨ho, .ref l, H, I, rfl, q⟩⟩)
/-- t * k, 1 ≤ k -/
def rRepA (K : PySem.W.Frag) : R2 := fun x y H Q => rRep1 K x y H Q ∨ rRepT K x y H Q
theorem op_repA {X : Cx} : OpR X (binaryOp .Mult) (rRepA X.K) := OpR.or op_rep1 op_repT
/-! ## min of three ints -/
theorem call_min3 {X : Cx} (hc : X.calm = true) : CallR X (.builtin "min") (fun xs H Q => ∃ i j k, xs = [.int i, .int j, .int k] ∧ ∀ m, (m ≤ i ∧ m ≤ j ∧ m ≤ k ∧ (m = i ∨ m = j ∨ m = k)) → Q (.int m) H) := by
  intro pins s σ H xs us Q I r h
  obtain ⟨i, j, k, rfl, q⟩ := h
  cases r with
  | cons r1 r =>
    cases r with
    | cons r2 r =>
      cases r with
      | cons r3 r =>
        cases r
        obtain ⟨t1, rfl⟩ := r1
        obtain ⟨t2, rfl⟩ := r2
        obtain ⟨t3, rfl⟩ := r3
        refine min_three_ints (I.ok.hd hc) fun h' tk kp => ?_
        by_cases c1 : j < i
        · rw [if_pos c1]
          by_cases c2 : k < j
          · rw [if_pos c2]
            exact ⟨.int k, H, I.kept kp, ⟨_, rfl⟩, q k (by omega)⟩
          · rw [if_neg c2]
            exact ⟨.int j, H, I.kept kp, ⟨_, rfl⟩, q j (by omega)⟩
        · rw [if_neg c1]
          by_cases c2 : k < i
          · rw [if_pos c2]
            exact ⟨.int k, H, I.kept kp, ⟨_, rfl⟩, q k (by omega)⟩
          · rw [if_neg c2]
            exact ⟨.int i, H, I.kept kp, ⟨_, rfl⟩, q i (by omega)⟩
/-! ## == and != by an own __eq__ -/
section
variable {X : Cx} {CX : CXT} {n : Nat} {C f : Addr} {fd : FuncData} {ps : List Str} {sp : Sp}
def rEqI (C : Addr) (sp : Sp) (g : Bool → Bool) : R2 := fun x y H Q => ∃ a b dx dy fs gs, x = .ref a ∧ y = .ref b ∧ H a = some (.ins C dx fs) ∧ H b = some (.ins C dy gs) ∧
  sp [.ref a, .ref b] H (fun v H' => ∃ k, v = .bl k ∧ Q (.bl (g k)) H') E0
theorem eqs_run {A : Around} {pins : List (Addr × Obj)} {σ : L2.St} {H : Hp} {s : Shared} {a b : Addr} {Q : VK} (F : FnOk X.prog X.w X.K X.mg X.base CX0 n f fd ps sp) (hb : Binds X.K fd ps []) (hr : Room n A) (hfr : A.frames = X.A.frames) (I : Inv X pins σ H s)
    (h : sp [.ref a, .ref b] H Q E0) {R : Value → Shared → Prop} (hR : ∀ v u H' s', Inv X pins σ H' s' → RelV v u → Q v H' → R u s') :
    wpAny (model X.prog X.w) A (call (.ref f) [.ref a, .ref b]) R X.xe s := by
  have e0 : Env0 X.prog X.w X.K X.mg X.base A X.stack s H := by
    have e := I.env0
    exact ⟨by rw [hfr]; exact e.frames, e.mod, e.bs, e.bsz, e.funs, e.frf, e.hok, e.bare⟩
  have hl := F.len _ _ _ _ h
  have r2 : Vals [V.ref a, V.ref b] [Value.ref a, Value.ref b] := .cons rfl (.cons rfl .nil)
  refine wpAny_call (codeAny_mono (F.run A X.stack s H ⟨[.ref a, .ref b], []⟩ [.ref a, .ref b] [.ref a, .ref b] _ E0 hr e0 (by
    have := hb s [.ref a, .ref b] I.kIn (by simpa using hl)
    simpa using this) r2 h) fun r s' hq => ?_)
  cases r with
  | error e => exact hq.elim
  | ok fl =>
    cases fl with
    | ret w =>
      obtain ⟨z, H', I', rz, ez⟩ := I.after hq
      exact hR z w H' s' I' rz ez
    | next => exact False.elim hq
    | brk => exact False.elim hq
    | cont => exact False.elim hq
theorem op_eqI (F : FnOk X.prog X.w X.K X.mg X.base CX0 n f fd ps sp) (hs : PySem.W.findIn X.K (.ref C) "__eq__" = some (some (.ref f))) (hf : PySem.W.isFn X.K (.ref f) = true) (hb : Binds X.K fd ps []) (hr : Room n X.A) :
    OpR X (compareOp .Eq) (rEqI C sp fun k => k) := by
  intro pins s σ H x y v u Q I rx ry h
  obtain ⟨a, b, dx, dy, fs, gs, rfl, rfl, ha, hb', hq⟩ := h
  cases rx
  cases ry
  obtain ⟨mA, J, _⟩ := ins_get I.hok ha
  obtain ⟨mB, J', _⟩ := ins_get I.hok hb'
  obtain ⟨od, J, _⟩ := J.look
  obtain ⟨od', J', _⟩ := J'.look
  obtain ⟨m, hF⟩ := I.fr
  show wpAny (model X.prog X.w) X.A (richCompare .Eq (.ref a) (.ref b)) _ _ _
  refine PySem.W.cmp_K (op := .Eq) (tb := .ref C) hr.units0 hF I.ok.mod.kin J J'.type (by simp [PySem.W.notFirst]) hs hf ?_
  refine eqs_run F hb hr rfl I hq fun v u H' s' I' r' q => ?_
  obtain ⟨k, rfl, q⟩ := q
  cases r'
  exact ⟨.bl k, H', I', rfl, q⟩
end
section
open PySem.W
variable {prog : Program} {w : World} {A : Around} {E : Value → Shared → Prop} {s : Shared} {K : Frag} {x y C f : Addr} {ox : Obj} {od : Option Obj}
theorem ne_body (X : K.In s.heap) (I : InstAt s.heap x ox C od) (heq : findIn K (.ref C) "__eq__" = some (some (.ref f))) (hf : isFn K (.ref f) = true) (hu : A.units < cLine) {Q : Fin → Shared → Prop}
    (h : wpAny (model prog w) A (call (.ref f) [.ref x, .ref y]) (fun v s' => ∃ b, v = .bool b ∧ Q (.done (.ret (.bool (!b)))) s') E s) :
    wpAny (model prog w) A (Builtin.«object.__ne__» ⟨[.ref x, .ref y], []⟩) Q E s := by
  obtain ⟨hp, g, d, t, os⟩ := s
  unfold Builtin.«object.__ne__»
  repeat (first
    | with_reducible refine wpAny_cRoomFor hu ?_
    | (refine wpAny_bind (m := callSpecialIfBound? (.ref x) (Str.ofString "__eq__") [.ref y])
        (ifBound_K X I heq hf (wpAny_mono h (fun r s' hr => by
          obtain ⟨b, rfl, hq⟩ := hr
          repeat (first | exact hq | exact wpAny_pure hq | exact wpAny_truthy_bool hq | (refine wpAny_bind (m := truthy (.bool _)) (wpAny_truthy_bool ?_)) | wp_step)) fun _ _ e => e)))
    | wp_step)
theorem ne_K (X : K.In s.heap) (I : InstAt s.heap x ox C od) (hy : Looks (model prog w) s.heap (typeOf (.ref y)) (.ref C)) (hne : findIn K (.ref C) "__ne__" = some (some (.builtin "object.__ne__")))
    (heq : findIn K (.ref C) "__eq__" = some (some (.ref f))) (hf : isFn K (.ref f) = true) (hob : mroIn K C (.type "object") = some true) (hu : A.units + 2 < cLine) {Q : Value → Shared → Prop}
    (h : wpAny (model prog w) A.in1 (call (.ref f) [.ref x, .ref y]) (fun v s' => ∃ b, v = .bool b ∧ Q (.bool (!b)) s') E s) :
    wpAny (model prog w) A (richCompare .NotEq (.ref x) (.ref y)) Q E s := by
  have FB := PySem.F.cmp_object
  have sub : Looks (model prog w) s.heap (isInstance (.ref x) (.type "object")) true := I.type.andThen (looks_mroIn X hob)
  have one : wpAny (model prog w) A (tryCompare (.ref x) "__ne__" (.ref y)) (fun r s' => ∃ v, r = some v ∧ Q v s') E s := by
    unfold tryCompare
    simp only [callSpecialIfBound?, bindSpecialIfBound?]
    have fin : wpAny (model prog w) A (call (.builtin "object.__ne__") [.ref x, .ref y]) (fun v s' => ∃ b, v = .bool b ∧ Q v s') E s := by
      refine wpAny_call (codeAny_call_builtin FB.ne.plain PySem.F.cmpEntry_ne (@PySem.W.check_slot (model prog w) _ _ s "object.__ne__" "object" "__ne__" (.ref x) [.ref y] [] _ PySem.F.cmpKind_ne PySem.F.cmpSplit_ne sub (PySem.F.cmpArgs_ne _ _) ?_))
      refine ne_body X I heq hf (show A.units + 1 < cLine by omega) (wpAny_mono h (fun v s' hv => ?_) fun _ _ e => e)
      obtain ⟨b, rfl, hq⟩ := hv
      exact ⟨b, rfl, _, rfl, hq⟩
    have fin2 : wpAny (model prog w) A (call (.builtin "object.__ne__") ([.ref x] ++ [.ref y]) >>= fun v => pure (some v)) (fun r s' => ∃ b, r = some (Value.bool b) ∧ Q (.bool b) s') E s :=
      wpAny_bind (wpAny_mono fin (fun v s' ⟨b, e, q⟩ => wpAny_pure ⟨b, by rw [e], by rw [← e]; exact q⟩) fun _ _ e => e)
    refine wpAny_bind (wpAny_mono (Q := fun r s' => ∃ b, r = some (Value.bool b) ∧ Q (.bool b) s') ?_ (fun r s' hr => ?_) fun _ _ e => e)
    · refine wpAny_holding (wpAny_bind (wpAny_bind (wpAny_bind (I.type.here ((looks_findIn X hne).here ?_)))))
      simp only [FB.ne.bind]
      refine wpAny_bind (wpAny_askSetting (wpAny_ite ?_))
      split
      · exact wpAny_bind (wpAny_pure (wpAny_pure fin2))
      · exact wpAny_tryCatch (wpAny_bind (wpAny_pure (wpAny_pure fin2)))
    · obtain ⟨b, rfl, hq⟩ := hr
      exact wpAny_pure ⟨_, rfl, hq⟩
  unfold richCompare
  simp only [oneThing_ref]
  refine wpAny_holding (wpAny_bind (wpAny_cRoomFor (by omega) ?_))
  refine wpAny_bind (I.type.here (wpAny_bind (hy.here ?_)))
  rw [show (Value.ref C != Value.ref C) = false from by simp]
  simp only [Bool.false_eq_true, if_false]
  refine wpAny_bind (wpAny_pure ?_)
  simp only [Bool.false_eq_true, if_false]
  refine wpAny_bind (wpAny_mono one (fun r s' z => ?_) fun _ _ e => e)
  obtain ⟨v, rfl, hq⟩ := z
  exact wpAny_pure hq
end
section
variable {X : Cx} {n : Nat} {C f : Addr} {fd : FuncData} {ps : List Str} {sp : Sp}
theorem op_neI (F : FnOk X.prog X.w X.K X.mg X.base CX0 n f fd ps sp) (hs : PySem.W.findIn X.K (.ref C) "__eq__" = some (some (.ref f))) (hf : PySem.W.isFn X.K (.ref f) = true) (hb : Binds X.K fd ps []) (hr : Room (n + 1) X.A)
    (hne : PySem.W.findIn X.K (.ref C) "__ne__" = some (some (.builtin "object.__ne__"))) (hob : PySem.W.mroIn X.K C (.type "object") = some true) : OpR X (compareOp .NotEq) (rEqI C sp fun k => !k) := by
  intro pins s σ H x y v u Q I rx ry h
  obtain ⟨a, b, dx, dy, fs, gs, rfl, rfl, ha, hb', hq⟩ := h
  cases rx
  cases ry
  obtain ⟨mA, J, _⟩ := ins_get I.hok ha
  obtain ⟨mB, J', _⟩ := ins_get I.hok hb'
  obtain ⟨od, J, _⟩ := J.look
  obtain ⟨od', J', _⟩ := J'.look
  show wpAny (model X.prog X.w) X.A (richCompare .NotEq (.ref a) (.ref b)) _ _ _
  refine ne_K I.kIn J J'.type hne hs hf hob (by have := hr.units; omega) ?_
  refine eqs_run F hb hr.in1 rfl I hq fun v u H' s' I' r' q => ?_
  obtain ⟨k, rfl, q⟩ := q
  cases r'
  exact ⟨k, rfl, .bl (!k), H', I', rfl, q⟩
end
/-! ## the package's error classes: PairError.__init__(self, ..), a class without an argument -/
section
variable {X : Cx} {e : Expr} {es : List Expr} {ta : TA} {p p1 p2 pos : Pos} {B : Addr} {bn : Str}
theorem pe_binit {pl : Sem Bool} (hg : Gl X bn) (hm : X.mg bn = some (.ref B)) (hdb : (bn == ("__debug__" : Str)) = false) (r : ClX.CRead X.K B (.type "type"))
    (at_ : PySem.W.findCls X.K (.ref B) (.type "type") "__init__" = some (.val (.builtin "ValueError.__init__"))) (ha : PA X (e :: es) ta)
    (hc : eval (.Call (.Attribute (.Name bn p1) "__init__" p2) (e :: es) [] pos) X.env = (do
      let ov ← eval (.Name bn p1) X.env
      standAt p2.atName
      let (f, first) ← holding [ov] (getMethod ov "__init__" pl)
      callWith pos f first (backTo pos (starEach (e :: es) X.env)) (backToKw pos (keywordEach [] X.env))) := by rfl)
    (he : starEach (e :: es) X.env = (false, eval e X.env) :: starEach es X.env := by rfl) (hpl : (backTo pos (starEach es X.env)).any (·.1) = false := by rfl) :
    PE X (.Call (.Attribute (.Name bn p1) "__init__" p2) (e :: es) [] pos) (tVeI X.K ta) := by
  refine ⟨fun pins s σ H Q I h => ?_⟩
  refine PySem.W.methodCall_KW (ld_glob I hg hm ?_ hdb) hc
  refine PySem.W.method_cls I.kIn r.ga (PySem.W.cls_value I.kIn r.rd at_ rfl ?_)
  show wpAny _ _ (callWith pos (Value.builtin "ValueError.__init__") [] (backTo pos (starEach (e :: es) X.env)) []) _ _ _
  refine PyProof.Rows.callWith_method1 (thn (ha.run pos pins _ σ H _ (I.tok _) h) fun us s1 ⟨vs, H1, I1, r1, a, C, ws, ev, hl, T, ea, q⟩ => ?_) he hpl
  subst ev
  cases r1 with
  | @cons _ u0 _ ur ra rw' =>
    obtain rfl : u0 = Value.ref a := ra
    have hlen : ur.length ≤ sizeLine := by
      rw [← Paired.length rw', sizeLine_eq]
      omega
    exact oinit_ok T I1 ea hlen fun s' J => ⟨.non, H1, J, rfl, q⟩
/-- C(): its own __init__ keeps sp and leaves the exception without a field -/
def tMk0 (C : Addr) (sp : Sp) : L2.St → Hp → XK → Prop := fun _ H Q => ∀ a, H a = none → sp [.ref a] (upd H a (exo a C none)) (fun v H2 => v = .non ∧ H2 = upd H a (exo a C none) ∧ Q (.ref C) none H) fun _ _ _ => False
theorem pmk_oex0 {CX : CXT} {x : Str} {C fI : Addr} {k : Nat} {fd : FuncData} {ps : List Str} {sp : Sp} (T : OexC X.K C) (iC : PySem.W.findIn X.K (.ref C) "__init__" = some (some (.ref fI))) (tI : PySem.W.typeIn X.K (.ref fI) = some (.type "function"))
    (F1 : FnOk X.prog X.w X.K X.mg X.base CX k fI fd ps sp) (hr : Room (k + 1) X.A) (hb : Binds X.K fd ps []) (hx : Passes CX X (fun _ _ _ => False)) (hg : Gl X x) (hm : X.mg x = some (.ref C)) (hdb : (x == ("__debug__" : Str)) = false := by decide) :
    PMk X (.Call (.Name x p) [] [] pos) (tMk0 C sp) := by
  intro pins s σ H Q I h
  obtain ⟨nm, q, N, bs, bm, sn, sub, ab, col, dd, k0, k1, k2, k3, k5, hC, hbm⟩ := T.cls
  refine wpAny_Call_Name_kw (ld_glob I hg hm ?_ hdb)
  refine PySem.W.callWith_K0 I.kIn T.kC ?_
  show wpAny _ _ (call (.ref C) []) _ _ _
  obtain ⟨hp, g, dr, tk, os⟩ := s
  have hsz : hp.objs.size ≤ hp.objs.size + 1 := Nat.le_succ _
  have hn : H (hp.objs.size + 1) = none := I.hok.fresh hsz
  have hq := h (hp.objs.size + 1) hn
  have kk : ∀ b o, hp.get? b = some o → ((hp.push (PySem.W.kdv_tup [])).push (PySem.HandSPX.excO C hp.objs.size)).get? b = some o := fun b o e => Heap.get?_push_of_some _ (Heap.get?_push_of_some _ e)
  have hget : ((hp.push (PySem.W.kdv_tup [])).push (PySem.HandSPX.excO C hp.objs.size)).get? (hp.objs.size + 1) = some (PySem.HandSPX.excO C hp.objs.size) := by heap_get
  have I2 : Inv X pins σ (upd H (hp.objs.size + 1) (exo (hp.objs.size + 1) C none)) ⟨(hp.push (PySem.W.kdv_tup [])).push (PySem.HandSPX.excO C hp.objs.size), g, dr, tk, os⟩ :=
    I.laid (t' := tk) (a := hp.objs.size + 1) (o := exo (hp.objs.size + 1) C none) (h' := (hp.push (PySem.W.kdv_tup [])).push (PySem.HandSPX.excO C hp.objs.size)) kk hsz (exo_ok hget)
  have hl : ([Value.ref (hp.objs.size + 1)] ++ ([] : List Value)).length = ps.length := by
    have e := F1.len _ _ _ _ hq
    simpa using e
  refine wpAny_call (PySem.HandSPX.call_own F.excBase_ValueError (fun Y => PySem.HandSPX.refsVE_contains Y bm hbm) (I.kIn _ _ hC) (PySem.W.looks_findIn I.kIn iC) (fun self => PySem.W.bind_fn I.kIn self tI) (Nat.zero_le _)
    (codeAny_mono (F1.run _ X.stack _ _ ⟨[Value.ref (hp.objs.size + 1)], []⟩ [Value.ref (hp.objs.size + 1)] _ _ (fun _ _ _ => False) (hr.make C [] []) (I2.env0.make C [] []) (by simpa using hb _ [Value.ref (hp.objs.size + 1)] I2.kIn (by simpa using hl)) (.cons (show L2.RelV (V.ref (hp.objs.size + 1)) (Value.ref (hp.objs.size + 1)) from rfl) .nil) hq) fun r s' hq' => ?_))
  cases r with
  | error er => exact hx pins σ _ _ er s' I2 hq'
  | ok fl =>
    cases fl with
    | ret u =>
      obtain ⟨v, H2, os2, bare2, un2, hok2, rv, ev, eH, q2⟩ := hq'
      subst ev eH
      obtain ⟨h2, g2, d2, t2, os'⟩ := s'
      refine ⟨rv, ?_⟩
      have ea : (upd H (hp.objs.size + 1) (exo (hp.objs.size + 1) C none)) (hp.objs.size + 1) = some (exo (hp.objs.size + 1) C none) := upd_same
      obtain ⟨t0, hoe⟩ := exo_at hok2 ea
      obtain ⟨G, g1', g2'⟩ := restrict h2 fun b => decide (b ≠ hp.objs.size + 1)
      have gk : ∀ b, b ≠ hp.objs.size + 1 → G.get? b = h2.get? b := fun b hb => g1' b (decide_eq_true hb)
      have ge : G.get? (hp.objs.size + 1) = none := g2' _ (by simp)
      have nha : ∀ {b : Addr} {o : Obj}, hp.get? b = some o → b ≠ hp.objs.size + 1 := fun {b o} z => Nat.ne_of_lt (Nat.lt_of_lt_of_le (Heap.lt_size z) hsz)
      have up : ∀ {b : Addr}, b ≠ hp.objs.size + 1 → H b = none → upd H (hp.objs.size + 1) (exo (hp.objs.size + 1) C none) b = none := fun {b} hb n => by rw [upd_ne hb]; exact n
      have U : Un (frs X.stack) [] H H hp G := {
        keep := fun b o z n hf hx => by
          rw [gk b (nha z)]
          exact un2.keep b o (kk b o z) (up (nha z) n) hf hx
        slot := fun b o z n hf hx => by
          rw [gk b (nha z)]
          exact un2.slot b o (kk b o z) (up (nha z) n) hf hx
        free := fun b o z n hx => n
        there := fun b o z hx => by
          rw [gk b (nha z)]
          exact un2.there b o (kk b o z) hx
        tups := fun b xs z => z
        frzs := fun b o v z => z
        tbls := fun b ps z => ⟨#[], by rw [z]; simp⟩ }
      have hok3 : HOk X.prog X.w H G := fun b o z => by
        have hba : b ≠ hp.objs.size + 1 := ne_of_none z hn
        have noa : ∀ {c : Addr} {u : HO}, H c = some u → c ≠ hp.objs.size + 1 := fun {c u} hc => ne_of_none hc hn
        have zz : upd H (hp.objs.size + 1) (exo (hp.objs.size + 1) C none) b = some o := by rw [upd_ne hba]; exact z
        exact (hok2 b o zz).stay (fun c v hc y => by
            have hca : c ≠ hp.objs.size + 1 := by
              rcases hc with hc | hc
              · rw [hc]
                exact hba
              · exact at_ne ea hc exo_own
            rw [gk c hca]
            exact y)
          (fun c hc => by
            have hca : c ≠ hp.objs.size + 1 := at_ne ea hc exo_own
            rw [upd_ne hca] at hc
            exact hc)
          (fun c xs hc => by
            have hca : c ≠ hp.objs.size + 1 := at_ne ea hc exo_tup
            rw [upd_ne hca] at hc
            exact hc)
      have os3 : os' = os := os2
      have J : Inv X pins σ H ⟨G, g2, d2, t2, os'⟩ := I.call' (ch := []) os3 U hok3 bare2 (fun b z => absurd z (by simp))
      refine ⟨hp.objs.size + 1, _, _, ⟨G, g2, d2, t2, os'⟩, H, .ref C, none, rfl, J, fun b o z => ?_, ge, hoe, ⟨rfl, rfl⟩, rfl, rfl, hn, rfl, bare2, raises_own T.exC T.tyC, q2⟩
      by_cases hba : b = hp.objs.size + 1
      · rw [hba, ge] at z
        cases z
      · exact (gk b hba).symm.trans z
    | next => exact False.elim hq'
    | brk => exact False.elim hq'
    | cont => exact False.elim hq'
end
end K21
set_option maxRecDepth 100000
set_option maxHeartbeats 4000000
namespace K21
open PySem PySem.Spec PyProof.Rows L2
/-! ## defs in short: what a caller needs of one, in one word -/
section
variable {P : Program} {w : World} {K : PySem.W.Frag} {mg : Str → Option Value} {base : Heap}
/-- the module's def x keeps sp; dvs: the values of its parameters that the caller leaves out -/
def Hs (P : Program) (w : World) (K : PySem.W.Frag) (mg : Str → Option Value) (base : Heap) (k : Nat) (x : Str) (ps : List Str) (dvs : List V) (sp : Sp) : Prop :=
  ∃ (f : Addr) (fd : FuncData) (ds : List Value), mg x = some (.ref f) ∧ PySem.W.keepIn K (.ref f) = true ∧ FnOk P w K mg base (L2.CX P w) k f fd ps sp ∧ Binds K fd ps ds ∧ Vals dvs ds
/-- the method m of the class at C -/
def HsM (P : Program) (w : World) (K : PySem.W.Frag) (mg : Str → Option Value) (base : Heap) (k : Nat) (C : Addr) (m : Str) (ps : List Str) (sp : Sp) : Prop :=
  ∃ (f : Addr) (fd : FuncData), Cls K C ∧ Meth K C m f ∧ FnOk P w K mg base (L2.CX P w) k f fd ps sp ∧ Binds K fd ps []
/-- the class x at C, made by its __init__ -/
def HsC (P : Program) (w : World) (K : PySem.W.Frag) (mg : Str → Option Value) (base : Heap) (k : Nat) (x : Str) (C : Addr) (ps : List Str) (sp : Sp) : Prop :=
  ∃ (f : Addr) (fd : FuncData), Mk K C f ∧ mg x = some (.ref C) ∧ FnOk P w K mg base (L2.CX P w) k f fd ps sp ∧ Binds K fd ps []
/-- a def of the text and its body; nothing leaves it -/
theorem okN {x qual : Str} {st : Stmt} {dvs : List V} {kws : List (Str × V)} {f : Addr} {fd : FuncData} {N ps : List Str} {k : Nat} {sp : Sp} (F : FunD K x qual (defArgs st) (defBody st) (defScope st) dvs kws f fd) (S : FnScope N ps (defScope st)) (len : ∀ vs H Q E, sp vs H Q E → vs.length = ps.length)
    (hbody : ∀ (cdv : Value) (A : Around) (outer : List Env) (s : Shared) (H : Hp) (vs : List V) (Q : VK) (E : XK), Room k (A.deeper (envOfC qual (defScope st) s.heap.objs.size f cdv)) → sp vs H Q E →
      ∃ t, PSs (cxOf (L2.CX P w) P w K mg base N qual (defScope st) f cdv A outer s H E).nox (defBody st) t ∧ t { nx := fun _ H' => Q .non H', rt := Q } (start N vs) H) : FnOk P w K mg base (L2.CX P w) (k + 1) f fd ps sp := by
  refine F.ok S len fun cdv A outer s H vs Q E hr hsp => ?_
  obtain ⟨t, h, q⟩ := hbody cdv A outer s H vs Q E hr hsp
  exact ⟨t, h.nox, q⟩
/-- .. that may raise -/
theorem okX {x qual : Str} {st : Stmt} {dvs : List V} {kws : List (Str × V)} {f : Addr} {fd : FuncData} {N ps : List Str} {k : Nat} {sp : Sp} (F : FunD K x qual (defArgs st) (defBody st) (defScope st) dvs kws f fd) (S : FnScope N ps (defScope st)) (len : ∀ vs H Q E, sp vs H Q E → vs.length = ps.length)
    (hbody : ∀ (cdv : Value) (A : Around) (outer : List Env) (s : Shared) (H : Hp) (vs : List V) (Q : VK) (E : XK), Room k (A.deeper (envOfC qual (defScope st) s.heap.objs.size f cdv)) → sp vs H Q E →
      ∃ t, PSs (cxOf (L2.CX P w) P w K mg base N qual (defScope st) f cdv A outer s H E) (defBody st) t ∧ t { nx := fun _ H' => Q .non H', rt := Q } (start N vs) H) : FnOk P w K mg base (L2.CX P w) (k + 1) f fd ps sp :=
  F.ok S len fun cdv A outer s H vs Q E hr hsp => hbody cdv A outer s H vs Q E hr hsp
end
section
variable {X : Cx} {k : Nat} {x m : Str} {ps : List Str} {dvs : List V} {sp : Sp} {E : XK} {e o fe : Expr} {es : List Expr} {ta tf : TE} {t : TA} {p apos pos : Pos} {C : Addr}
theorem pe_callH (h : Hs X.prog X.w X.K X.mg X.base k x ps dvs sp) (hr : Room k X.A) (hx : Passes (L2.CX X.prog X.w) X E) (ha : PA X (e :: es) t) (hg : Gl X x := by rfl) (hdb : (x == ("__debug__" : Str)) = false := by decide)
    (he : starEach (e :: es) X.env = (false, eval e X.env) :: starEach es X.env := by rfl) (hpl : (backTo pos (starEach es X.env)).any (·.1) = false := by rfl) :
    PE X (.Call (.Name x p) (e :: es) [] pos) (tCall sp dvs E t) := by
  obtain ⟨f, fd, ds, hm, hk, F, hb, hd⟩ := h
  exact pe_call F hr hg hm hk hb hd hx ha hdb he hpl
theorem pe_methH {pl : Sem Bool} (ho : PE X o ta) (h : HsM X.prog X.w X.K X.mg X.base k C m ps sp) (hr : Room k X.A) (hx : Passes (L2.CX X.prog X.w) X E) (ha : PA X (e :: es) t)
    (he : starEach (e :: es) X.env = (false, eval e X.env) :: starEach es X.env := by rfl) (hpl : (backTo pos (starEach es X.env)).any (·.1) = false := by rfl)
    (hc : eval (.Call (.Attribute o m apos) (e :: es) [] pos) X.env = (do
      let ov ← eval o X.env
      standAt apos.atName
      let (f, first) ← holding [ov] (getMethod ov m pl)
      callWith pos f first (backTo pos (starEach (e :: es) X.env)) (backToKw pos (keywordEach [] X.env))) := by rfl) :
    PE X (.Call (.Attribute o m apos) (e :: es) [] pos) (tMeth C m sp [] E ta t) := by
  obtain ⟨f, fd, c, hm, F, hb⟩ := h
  exact pe_meth ho c hm F hr hb .nil hx ha he hpl hc
theorem pe_makeH (h : HsC X.prog X.w X.K X.mg X.base k x C ps sp) (hr : Room (k + 1) X.A) (hx : Passes (L2.CX X.prog X.w) X E) (ha : PA X (e :: es) t) (hg : Gl X x := by rfl) (hdb : (x == ("__debug__" : Str)) = false := by decide)
    (he : starEach (e :: es) X.env = (false, eval e X.env) :: starEach es X.env := by rfl) (hpl : (backTo pos (starEach es X.env)).any (·.1) = false := by rfl) :
    PE X (.Call (.Name x p) (e :: es) [] pos) (tMake C sp [] E t) := by
  obtain ⟨f, fd, M, hm, F, hb⟩ := h
  exact pe_make M F hr hg hm hb .nil hx ha hdb he hpl
end
end K21
set_option maxRecDepth 100000
set_option maxHeartbeats 4000000
namespace K21
open PySem PySem.Spec PyProof.Rows L2
/-! ## the text by places -/
def top (i : Nat) : Stmt := PySem.Challenge.pw_sparedproducts_k21_whole_programs_turned.main.body.getD i (.Pass ⟨0, 0, 0, 0⟩)
abbrev s_is_whole : Stmt := top 12
abbrev N_is_whole : List Str := ["thing", "low", "high"]
theorem sc_is_whole : FnScope N_is_whole ["thing", "low", "high"] (defScope s_is_whole) := ⟨rfl, rfl, rfl, by decide +kernel, rfl, by decide +kernel, by decide +kernel⟩
abbrev s_is_sequence : Stmt := top 13
abbrev N_is_sequence : List Str := ["thing"]
theorem sc_is_sequence : FnScope N_is_sequence ["thing"] (defScope s_is_sequence) := ⟨rfl, rfl, rfl, by decide +kernel, rfl, by decide +kernel, by decide +kernel⟩
abbrev s_common_divisor : Stmt := top 14
abbrev N_common_divisor : List Str := ["one", "other", "low", "high"]
theorem sc_common_divisor : FnScope N_common_divisor ["one", "other"] (defScope s_common_divisor) := ⟨rfl, rfl, rfl, by decide +kernel, rfl, by decide +kernel, by decide +kernel⟩
abbrev s_is_ratio : Stmt := top 15
abbrev N_is_ratio : List Str := ["thing"]
theorem sc_is_ratio : FnScope N_is_ratio ["thing"] (defScope s_is_ratio) := ⟨rfl, rfl, rfl, by decide +kernel, rfl, by decide +kernel, by decide +kernel⟩
abbrev s_lowest_terms : Stmt := top 16
abbrev N_lowest_terms : List Str := ["top", "bottom", "common"]
theorem sc_lowest_terms : FnScope N_lowest_terms ["top", "bottom"] (defScope s_lowest_terms) := ⟨rfl, rfl, rfl, by decide +kernel, rfl, by decide +kernel, by decide +kernel⟩
abbrev s_ratio_plus : Stmt := top 17
abbrev N_ratio_plus : List Str := ["one", "other"]
theorem sc_ratio_plus : FnScope N_ratio_plus ["one", "other"] (defScope s_ratio_plus) := ⟨rfl, rfl, rfl, by decide +kernel, rfl, by decide +kernel, by decide +kernel⟩
abbrev s_ratio_times : Stmt := top 18
abbrev N_ratio_times : List Str := ["one", "other"]
theorem sc_ratio_times : FnScope N_ratio_times ["one", "other"] (defScope s_ratio_times) := ⟨rfl, rfl, rfl, by decide +kernel, rfl, by decide +kernel, by decide +kernel⟩
abbrev s_Figures_init : Stmt := inClass (top 23) 0
abbrev N_Figures_init : List Str := ["self", "prime"]
theorem sc_Figures_init : FnScope N_Figures_init ["self", "prime"] (defScope s_Figures_init) := ⟨rfl, rfl, rfl, by decide +kernel, rfl, by decide +kernel, by decide +kernel⟩
abbrev s_Figures_eq : Stmt := inClass (top 23) 1
abbrev N_Figures_eq : List Str := ["self", "other"]
theorem sc_Figures_eq : FnScope N_Figures_eq ["self", "other"] (defScope s_Figures_eq) := ⟨rfl, rfl, rfl, by decide +kernel, rfl, by decide +kernel, by decide +kernel⟩
abbrev s_Figures_plus : Stmt := inClass (top 23) 2
abbrev N_Figures_plus : List Str := ["self", "one", "other"]
theorem sc_Figures_plus : FnScope N_Figures_plus ["self", "one", "other"] (defScope s_Figures_plus) := ⟨rfl, rfl, rfl, by decide +kernel, rfl, by decide +kernel, by decide +kernel⟩
abbrev s_Figures_times : Stmt := inClass (top 23) 4
abbrev N_Figures_times : List Str := ["self", "one", "other"]
theorem sc_Figures_times : FnScope N_Figures_times ["self", "one", "other"] (defScope s_Figures_times) := ⟨rfl, rfl, rfl, by decide +kernel, rfl, by decide +kernel, by decide +kernel⟩
abbrev s_Figures_is_number : Stmt := inClass (top 23) 10
abbrev N_Figures_is_number : List Str := ["self", "thing"]
theorem sc_Figures_is_number : FnScope N_Figures_is_number ["self", "thing"] (defScope s_Figures_is_number) := ⟨rfl, rfl, rfl, by decide +kernel, rfl, by decide +kernel, by decide +kernel⟩
abbrev s_check_table : Stmt := top 35
abbrev N_check_table : List Str := ["figures", "table", "rows", "columns", "told", "width", "k", "row", "number"]
theorem sc_check_table : FnScope N_check_table ["figures", "table", "rows", "columns"] (defScope s_check_table) := ⟨rfl, rfl, rfl, by decide +kernel, rfl, by decide +kernel, by decide +kernel⟩
abbrev s_first_wrong : Stmt := top 36
abbrev N_first_wrong : List Str := ["figures", "numbers", "many", "k", "number"]
theorem sc_first_wrong : FnScope N_first_wrong ["figures", "numbers", "many"] (defScope s_first_wrong) := ⟨rfl, rfl, rfl, by decide +kernel, rfl, by decide +kernel, by decide +kernel⟩
abbrev s_check_letters : Stmt := top 37
abbrev N_check_letters : List Str := ["figures", "numbers", "many", "what", "place"]
theorem sc_check_letters : FnScope N_check_letters ["figures", "numbers", "many", "what"] (defScope s_check_letters) := ⟨rfl, rfl, rfl, by decide +kernel, rfl, by decide +kernel, by decide +kernel⟩
abbrev s_dot_of : Stmt := top 40
abbrev N_dot_of : List Str := ["figures", "one", "other", "total", "a", "b"]
theorem sc_dot_of : FnScope N_dot_of ["figures", "one", "other"] (defScope s_dot_of) := ⟨rfl, rfl, rfl, by decide +kernel, rfl, by decide +kernel, by decide +kernel⟩
abbrev s_Pair_init : Stmt := inClass (top 42) 0
abbrev N_Pair_init : List Str := ["self", "figures", "first", "second"]
theorem sc_Pair_init : FnScope N_Pair_init ["self", "figures", "first", "second"] (defScope s_Pair_init) := ⟨rfl, rfl, rfl, by decide +kernel, rfl, by decide +kernel, by decide +kernel⟩
abbrev s_check_side : Stmt := top 45
abbrev N_check_side : List Str := ["figures", "many", "what"]
theorem sc_check_side : FnScope N_check_side ["figures", "many", "what"] (defScope s_check_side) := ⟨rfl, rfl, rfl, by decide +kernel, rfl, by decide +kernel, by decide +kernel⟩
abbrev s_check_product : Stmt := top 46
abbrev N_check_product : List Str := ["figures", "rows", "columns", "product", "index", "left", "right", "one", "other"]
theorem sc_check_product : FnScope N_check_product ["figures", "rows", "columns", "product", "index"] (defScope s_check_product) := ⟨rfl, rfl, rfl, by decide +kernel, rfl, by decide +kernel, by decide +kernel⟩
abbrev s_scaled_row : Stmt := top 47
abbrev N_scaled_row : List Str := ["figures", "number", "row", "a"]
theorem sc_scaled_row : FnScope N_scaled_row ["figures", "number", "row"] (defScope s_scaled_row) := ⟨rfl, rfl, rfl, by decide +kernel, rfl, by decide +kernel, by decide +kernel⟩
abbrev s_Program_init : Stmt := inClass (top 49) 0
abbrev N_Program_init : List Str := ["self", "figures", "rows", "columns", "products", "told", "k", "product"]
theorem sc_Program_init : FnScope N_Program_init ["self", "figures", "rows", "columns", "products"] (defScope s_Program_init) := ⟨rfl, rfl, rfl, by decide +kernel, rfl, by decide +kernel, by decide +kernel⟩
abbrev s_Program_eq : Stmt := inClass (top 49) 1
abbrev N_Program_eq : List Str := ["self", "other"]
theorem sc_Program_eq : FnScope N_Program_eq ["self", "other"] (defScope s_Program_eq) := ⟨rfl, rfl, rfl, by decide +kernel, rfl, by decide +kernel, by decide +kernel⟩
abbrev s_Program_run : Stmt := inClass (top 49) 4
abbrev N_Program_run : List Str := ["self", "left", "right", "figures", "first", "second", "u", "v", "one", "other", "worth"]
theorem sc_Program_run : FnScope N_Program_run ["self", "left", "right"] (defScope s_Program_run) := ⟨rfl, rfl, rfl, by decide +kernel, rfl, by decide +kernel, by decide +kernel⟩
abbrev s_check_by : Stmt := top 51
abbrev N_check_by : List Str := ["by"]
theorem sc_check_by : FnScope N_check_by ["by"] (defScope s_check_by) := ⟨rfl, rfl, rfl, by decide +kernel, rfl, by decide +kernel, by decide +kernel⟩
abbrev s_summed_rows : Stmt := top 52
abbrev N_summed_rows : List Str := ["figures", "one", "other", "a", "b"]
theorem sc_summed_rows : FnScope N_summed_rows ["figures", "one", "other"] (defScope s_summed_rows) := ⟨rfl, rfl, rfl, by decide +kernel, rfl, by decide +kernel, by decide +kernel⟩
abbrev s_turned_about : Stmt := top 53
abbrev N_turned_about : List Str := ["program", "by", "told", "u", "v", "one", "other"]
theorem sc_turned_about : FnScope N_turned_about ["program", "by"] (defScope s_turned_about) := ⟨rfl, rfl, rfl, by decide +kernel, rfl, by decide +kernel, by decide +kernel⟩
abbrev s_about_plain : Stmt := top 54
abbrev N_about_plain : List Str := ["pair", "by", "taps", "letters", "figures", "told", "at", "total", "tap", "table", "line", "row"]
theorem sc_about_plain : FnScope N_about_plain ["pair", "by", "taps", "letters"] (defScope s_about_plain) := ⟨rfl, rfl, rfl, by decide +kernel, rfl, by decide +kernel, by decide +kernel⟩
abbrev s_About_init : Stmt := inClass (top 55) 0
abbrev N_About_init : List Str := ["self", "figures", "by", "letters", "results", "products"]
theorem sc_About_init : FnScope N_About_init ["self", "figures", "by", "letters", "results", "products"] (defScope s_About_init) := ⟨rfl, rfl, rfl, by decide +kernel, rfl, by decide +kernel, by decide +kernel⟩
abbrev s_About_call : Stmt := inClass (top 55) 1
abbrev N_About_call : List Str := ["self", "taps", "letters", "figures", "told", "couple", "side", "places", "worth"]
theorem sc_About_call : FnScope N_About_call ["self", "taps", "letters"] (defScope s_About_call) := ⟨rfl, rfl, rfl, by decide +kernel, rfl, by decide +kernel, by decide +kernel⟩
abbrev s_About_back : Stmt := inClass (top 55) 2
abbrev N_About_back : List Str := ["self", "told", "couple", "side", "places"]
theorem sc_About_back : FnScope N_About_back ["self"] (defScope s_About_back) := ⟨rfl, rfl, rfl, by decide +kernel, rfl, by decide +kernel, by decide +kernel⟩
abbrev s_BadLetters_init : Stmt := inClass (top 6) 0
abbrev N_BadLetters_init : List Str := ["self", "what", "index"]
theorem sc_BadLetters_init : FnScope N_BadLetters_init ["self", "what", "index"] (defScope s_BadLetters_init) := ⟨rfl, rfl, rfl, by decide +kernel, rfl, by decide +kernel, by decide +kernel⟩
abbrev s_BadSide_init : Stmt := inClass (top 10) 0
abbrev N_BadSide_init : List Str := ["self"]
theorem sc_BadSide_init : FnScope N_BadSide_init ["self"] (defScope s_BadSide_init) := ⟨rfl, rfl, rfl, by decide +kernel, rfl, by decide +kernel, by decide +kernel⟩
abbrev s__law_hand : Stmt := top 57
abbrev N__law_hand : List Str := ["_law_script", "_law_total", "_law_cells", "_law_cell"]
theorem sc__law_hand : FnScope N__law_hand ["_law_script"] (defScope s__law_hand) := ⟨rfl, rfl, rfl, by decide +kernel, rfl, by decide +kernel, by decide +kernel⟩
abbrev s__law_mixed : Stmt := top 58
abbrev N__law_mixed : List Str := ["_law_number_here", "_law_turn", "_law_once", "_law_twice"]
theorem sc__law_mixed : FnScope N__law_mixed ["_law_number_here", "_law_turn"] (defScope s__law_mixed) := ⟨rfl, rfl, rfl, by decide +kernel, rfl, by decide +kernel, by decide +kernel⟩
abbrev s__law_take : Stmt := top 59
abbrev N__law_take : List Str := ["_law_hand_here", "_law_many", "_law_cell", "_law_rest"]
theorem sc__law_take : FnScope N__law_take ["_law_hand_here", "_law_many"] (defScope s__law_take) := ⟨rfl, rfl, rfl, by decide +kernel, rfl, by decide +kernel, by decide +kernel⟩
abbrev s__law_num : Stmt := top 60
abbrev N__law_num : List Str := ["_law_p", "_law_many"]
theorem sc__law_num : FnScope N__law_num ["_law_p", "_law_many"] (defScope s__law_num) := ⟨rfl, rfl, rfl, by decide +kernel, rfl, by decide +kernel, by decide +kernel⟩
abbrev s__law_gcd : Stmt := top 61
abbrev N__law_gcd : List Str := ["_law_one", "_law_other", "_law_a", "_law_b", "_law_k", "_law_rest"]
theorem sc__law_gcd : FnScope N__law_gcd ["_law_one", "_law_other"] (defScope s__law_gcd) := ⟨rfl, rfl, rfl, by decide +kernel, rfl, by decide +kernel, by decide +kernel⟩
abbrev s__law_ratio : Stmt := top 62
abbrev N__law_ratio : List Str := ["_law_top", "_law_bottom", "_law_common"]
theorem sc__law_ratio : FnScope N__law_ratio ["_law_top", "_law_bottom"] (defScope s__law_ratio) := ⟨rfl, rfl, rfl, by decide +kernel, rfl, by decide +kernel, by decide +kernel⟩
abbrev s__law_plus : Stmt := top 63
abbrev N__law_plus : List Str := ["_law_p", "_law_one", "_law_other"]
theorem sc__law_plus : FnScope N__law_plus ["_law_p", "_law_one", "_law_other"] (defScope s__law_plus) := ⟨rfl, rfl, rfl, by decide +kernel, rfl, by decide +kernel, by decide +kernel⟩
abbrev s__law_times : Stmt := top 64
abbrev N__law_times : List Str := ["_law_p", "_law_one", "_law_other"]
theorem sc__law_times : FnScope N__law_times ["_law_p", "_law_one", "_law_other"] (defScope s__law_times) := ⟨rfl, rfl, rfl, by decide +kernel, rfl, by decide +kernel, by decide +kernel⟩
abbrev s__law_dot : Stmt := top 65
abbrev N__law_dot : List Str := ["_law_p", "_law_one", "_law_other", "_law_total", "_law_k"]
theorem sc__law_dot : FnScope N__law_dot ["_law_p", "_law_one", "_law_other"] (defScope s__law_dot) := ⟨rfl, rfl, rfl, by decide +kernel, rfl, by decide +kernel, by decide +kernel⟩
abbrev s__law_tuple : Stmt := top 66
abbrev N__law_tuple : List Str := ["_law_table", "_law_row"]
theorem sc__law_tuple : FnScope N__law_tuple ["_law_table"] (defScope s__law_tuple) := ⟨rfl, rfl, rfl, by decide +kernel, rfl, by decide +kernel, by decide +kernel⟩
abbrev s__law_blank : Stmt := top 67
abbrev N__law_blank : List Str := ["_law_p", "_law_rows", "_law_columns", "_law_i"]
theorem sc__law_blank : FnScope N__law_blank ["_law_p", "_law_rows", "_law_columns"] (defScope s__law_blank) := ⟨rfl, rfl, rfl, by decide +kernel, rfl, by decide +kernel, by decide +kernel⟩
abbrev s__law_summed : Stmt := top 68
abbrev N__law_summed : List Str := ["_law_p", "_law_rows", "_law_columns", "_law_products_here", "_law_at_here", "_law_told", "_law_product", "_law_i", "_law_share", "_law_j"]
theorem sc__law_summed : FnScope N__law_summed ["_law_p", "_law_rows", "_law_columns", "_law_products_here", "_law_at_here"] (defScope s__law_summed) := ⟨rfl, rfl, rfl, by decide +kernel, rfl, by decide +kernel, by decide +kernel⟩
abbrev s__law_figures : Stmt := top 69
abbrev N__law_figures : List Str := ["_law_hand_here"]
theorem sc__law_figures : FnScope N__law_figures ["_law_hand_here"] (defScope s__law_figures) := ⟨rfl, rfl, rfl, by decide +kernel, rfl, by decide +kernel, by decide +kernel⟩
abbrev s__law_number : Stmt := top 70
abbrev N__law_number : List Str := ["_law_hand_here", "_law_p", "_law_top"]
theorem sc__law_number : FnScope N__law_number ["_law_hand_here", "_law_p"] (defScope s__law_number) := ⟨rfl, rfl, rfl, by decide +kernel, rfl, by decide +kernel, by decide +kernel⟩
abbrev s__law_size : Stmt := top 71
abbrev N__law_size : List Str := ["_law_hand_here", "_law_p", "_law_most", "_law_great"]
theorem sc__law_size : FnScope N__law_size ["_law_hand_here", "_law_p", "_law_most"] (defScope s__law_size) := ⟨rfl, rfl, rfl, by decide +kernel, rfl, by decide +kernel, by decide +kernel⟩
abbrev s__law_numbers : Stmt := top 72
abbrev N__law_numbers : List Str := ["_law_hand_here", "_law_p", "_law_many", "_law_k"]
theorem sc__law_numbers : FnScope N__law_numbers ["_law_hand_here", "_law_p", "_law_many"] (defScope s__law_numbers) := ⟨rfl, rfl, rfl, by decide +kernel, rfl, by decide +kernel, by decide +kernel⟩
abbrev s__law_list : Stmt := top 73
abbrev N__law_list : List Str := ["_law_hand_here", "_law_items"]
theorem sc__law_list : FnScope N__law_list ["_law_hand_here", "_law_items"] (defScope s__law_list) := ⟨rfl, rfl, rfl, by decide +kernel, rfl, by decide +kernel, by decide +kernel⟩
abbrev s__law_exact : Stmt := top 74
abbrev N__law_exact : List Str := ["_law_told", "_law_due", "_law_k"]
theorem sc__law_exact : FnScope N__law_exact ["_law_told", "_law_due"] (defScope s__law_exact) := ⟨rfl, rfl, rfl, by decide +kernel, rfl, by decide +kernel, by decide +kernel⟩
abbrev s__law_none : Stmt := top 75
abbrev N__law_none : List Str := ["_law_p"]
theorem sc__law_none : FnScope N__law_none ["_law_p"] (defScope s__law_none) := ⟨rfl, rfl, rfl, by decide +kernel, rfl, by decide +kernel, by decide +kernel⟩
abbrev s__law_spoilt : Stmt := top 76
abbrev N__law_spoilt : List Str := ["_law_hand_here", "_law_p", "_law_many", "_law_row", "_law_way", "_law_place"]
theorem sc__law_spoilt : FnScope N__law_spoilt ["_law_hand_here", "_law_p", "_law_many"] (defScope s__law_spoilt) := ⟨rfl, rfl, rfl, by decide +kernel, rfl, by decide +kernel, by decide +kernel⟩
abbrev s__law_one_at : Stmt := top 77
abbrev N__law_one_at : List Str := ["_law_p", "_law_many", "_law_place", "_law_k"]
theorem sc__law_one_at : FnScope N__law_one_at ["_law_p", "_law_many", "_law_place"] (defScope s__law_one_at) := ⟨rfl, rfl, rfl, by decide +kernel, rfl, by decide +kernel, by decide +kernel⟩
abbrev s__law_at : Stmt := top 78
abbrev N__law_at : List Str := ["_law_p", "_law_first", "_law_second", "_law_one", "_law_other", "_law_told", "_law_i", "_law_row", "_law_j"]
theorem sc__law_at : FnScope N__law_at ["_law_p", "_law_first", "_law_second", "_law_one", "_law_other"] (defScope s__law_at) := ⟨rfl, rfl, rfl, by decide +kernel, rfl, by decide +kernel, by decide +kernel⟩
abbrev s__law_turned : Stmt := top 79
abbrev N__law_turned : List Str := ["_law_p", "_law_first", "_law_second", "_law_side_here", "_law_taps", "_law_letters", "_law_both", "_law_j", "_law_row"]
theorem sc__law_turned : FnScope N__law_turned ["_law_p", "_law_first", "_law_second", "_law_side_here", "_law_taps", "_law_letters"] (defScope s__law_turned) := ⟨rfl, rfl, rfl, by decide +kernel, rfl, by decide +kernel, by decide +kernel⟩
abbrev s__law_products : Stmt := top 80
abbrev N__law_products : List Str := ["_law_hand_here", "_law_p", "_law_rows", "_law_columns", "_law_many", "_law_told", "_law_k", "_law_u", "_law_v"]
theorem sc__law_products : FnScope N__law_products ["_law_hand_here", "_law_p", "_law_rows", "_law_columns", "_law_many"] (defScope s__law_products) := ⟨rfl, rfl, rfl, by decide +kernel, rfl, by decide +kernel, by decide +kernel⟩
abbrev s__law_call : Stmt := top 81
abbrev N__law_call : List Str := ["_law_about", "_law_taps", "_law_letters", "wrong"]
theorem sc__law_call : FnScope N__law_call ["_law_about", "_law_taps", "_law_letters"] (defScope s__law_call) := ⟨rfl, rfl, rfl, by decide +kernel, rfl, by decide +kernel, by decide +kernel⟩
abbrev s__law_plainly : Stmt := top 82
abbrev N__law_plainly : List Str := ["_law_pair", "_law_side_here", "_law_taps", "_law_letters", "wrong"]
theorem sc__law_plainly : FnScope N__law_plainly ["_law_pair", "_law_side_here", "_law_taps", "_law_letters"] (defScope s__law_plainly) := ⟨rfl, rfl, rfl, by decide +kernel, rfl, by decide +kernel, by decide +kernel⟩
abbrev s__law_sided : Stmt := top 83
abbrev N__law_sided : List Str := ["_law_program", "_law_side_here"]
theorem sc__law_sided : FnScope N__law_sided ["_law_program", "_law_side_here"] (defScope s__law_sided) := ⟨rfl, rfl, rfl, by decide +kernel, rfl, by decide +kernel, by decide +kernel⟩
abbrev s__law_asks : Stmt := top 84
abbrev N__law_asks : List Str := ["_law_hand_here", "_law_p", "_law_many", "_law_told", "_law_a", "_law_i", "_law_turn"]
theorem sc__law_asks : FnScope N__law_asks ["_law_hand_here", "_law_p", "_law_many"] (defScope s__law_asks) := ⟨rfl, rfl, rfl, by decide +kernel, rfl, by decide +kernel, by decide +kernel⟩
abbrev s__law_side : Stmt := top 85
abbrev N__law_side : List Str := ["_law_hand_here", "_law_p", "_law_program", "_law_pair", "_law_side_here", "_law_about", "_law_many", "_law_due", "_law_taps", "_law_letters", "_law_back", "_law_u", "_law_v", "_law_c", "_law_d"]
theorem sc__law_side : FnScope N__law_side ["_law_hand_here", "_law_p", "_law_program", "_law_pair", "_law_side_here"] (defScope s__law_side) := ⟨rfl, rfl, rfl, by decide +kernel, rfl, by decide +kernel, by decide +kernel⟩
abbrev s__law_three : Stmt := top 86
abbrev N__law_three : List Str := ["_law_hand_here", "_law_p", "_law_program", "_law_rows", "_law_columns", "_law_z", "_law_x", "_law_y", "_law_one", "_law_other"]
theorem sc__law_three : FnScope N__law_three ["_law_hand_here", "_law_p", "_law_program", "_law_rows", "_law_columns"] (defScope s__law_three) := ⟨rfl, rfl, rfl, by decide +kernel, rfl, by decide +kernel, by decide +kernel⟩
abbrev s__law_refusals : Stmt := top 87
abbrev N__law_refusals : List Str := ["_law_hand_here", "_law_p", "_law_program", "_law_pair", "_law_odd", "_law_side_here", "_law_many", "_law_about", "_law_taps", "_law_tap_at", "_law_letters", "_law_letter_at", "_law_good", "_law_fine", "_law_first", "_law_second", "_law_due"]
theorem sc__law_refusals : FnScope N__law_refusals ["_law_hand_here", "_law_p", "_law_program", "_law_pair"] (defScope s__law_refusals) := ⟨rfl, rfl, rfl, by decide +kernel, rfl, by decide +kernel, by decide +kernel⟩
abbrev s_law : Stmt := top 88
abbrev N_law : List Str := ["_law_script", "_law_hand_here", "_law_p", "_law_figures_here", "_law_rows", "_law_columns", "_law_products_here", "_law_program", "_law_first", "_law_pair", "_law_side_here"]
theorem sc_law : FnScope N_law ["_law_script"] (defScope s_law) := ⟨rfl, rfl, rfl, by decide +kernel, rfl, by decide +kernel, by decide +kernel⟩
/-! ## what the head tells -/
def d_is_whole : He.DefD := ⟨("is_whole", none), "is_whole", "is_whole", defArgs s_is_whole, defBody s_is_whole, defScope s_is_whole, [.non, .non], []⟩
def d_is_sequence : He.DefD := ⟨("is_sequence", none), "is_sequence", "is_sequence", defArgs s_is_sequence, defBody s_is_sequence, defScope s_is_sequence, [], []⟩
def d_common_divisor : He.DefD := ⟨("common_divisor", none), "common_divisor", "common_divisor", defArgs s_common_divisor, defBody s_common_divisor, defScope s_common_divisor, [], []⟩
def d_is_ratio : He.DefD := ⟨("is_ratio", none), "is_ratio", "is_ratio", defArgs s_is_ratio, defBody s_is_ratio, defScope s_is_ratio, [], []⟩
def d_lowest_terms : He.DefD := ⟨("lowest_terms", none), "lowest_terms", "lowest_terms", defArgs s_lowest_terms, defBody s_lowest_terms, defScope s_lowest_terms, [], []⟩
def d_ratio_plus : He.DefD := ⟨("ratio_plus", none), "ratio_plus", "ratio_plus", defArgs s_ratio_plus, defBody s_ratio_plus, defScope s_ratio_plus, [], []⟩
def d_ratio_times : He.DefD := ⟨("ratio_times", none), "ratio_times", "ratio_times", defArgs s_ratio_times, defBody s_ratio_times, defScope s_ratio_times, [], []⟩
def d_Figures_init : He.DefD := ⟨("Figures", some "__init__"), "__init__", "Figures.__init__", defArgs s_Figures_init, defBody s_Figures_init, defScope s_Figures_init, [], []⟩
def d_Figures_eq : He.DefD := ⟨("Figures", some "__eq__"), "__eq__", "Figures.__eq__", defArgs s_Figures_eq, defBody s_Figures_eq, defScope s_Figures_eq, [], []⟩
def d_Figures_plus : He.DefD := ⟨("Figures", some "plus"), "plus", "Figures.plus", defArgs s_Figures_plus, defBody s_Figures_plus, defScope s_Figures_plus, [], []⟩
def d_Figures_times : He.DefD := ⟨("Figures", some "times"), "times", "Figures.times", defArgs s_Figures_times, defBody s_Figures_times, defScope s_Figures_times, [], []⟩
def d_Figures_is_number : He.DefD := ⟨("Figures", some "is_number"), "is_number", "Figures.is_number", defArgs s_Figures_is_number, defBody s_Figures_is_number, defScope s_Figures_is_number, [], []⟩
def d_check_table : He.DefD := ⟨("check_table", none), "check_table", "check_table", defArgs s_check_table, defBody s_check_table, defScope s_check_table, [.non, .non], []⟩
def d_first_wrong : He.DefD := ⟨("first_wrong", none), "first_wrong", "first_wrong", defArgs s_first_wrong, defBody s_first_wrong, defScope s_first_wrong, [], []⟩
def d_check_letters : He.DefD := ⟨("check_letters", none), "check_letters", "check_letters", defArgs s_check_letters, defBody s_check_letters, defScope s_check_letters, [], []⟩
def d_dot_of : He.DefD := ⟨("dot_of", none), "dot_of", "dot_of", defArgs s_dot_of, defBody s_dot_of, defScope s_dot_of, [], []⟩
def d_Pair_init : He.DefD := ⟨("Pair", some "__init__"), "__init__", "Pair.__init__", defArgs s_Pair_init, defBody s_Pair_init, defScope s_Pair_init, [], []⟩
def d_check_side : He.DefD := ⟨("check_side", none), "check_side", "check_side", defArgs s_check_side, defBody s_check_side, defScope s_check_side, [], []⟩
def d_check_product : He.DefD := ⟨("check_product", none), "check_product", "check_product", defArgs s_check_product, defBody s_check_product, defScope s_check_product, [], []⟩
def d_scaled_row : He.DefD := ⟨("scaled_row", none), "scaled_row", "scaled_row", defArgs s_scaled_row, defBody s_scaled_row, defScope s_scaled_row, [], []⟩
def d_Program_init : He.DefD := ⟨("Program", some "__init__"), "__init__", "Program.__init__", defArgs s_Program_init, defBody s_Program_init, defScope s_Program_init, [], []⟩
def d_Program_eq : He.DefD := ⟨("Program", some "__eq__"), "__eq__", "Program.__eq__", defArgs s_Program_eq, defBody s_Program_eq, defScope s_Program_eq, [], []⟩
def d_Program_run : He.DefD := ⟨("Program", some "run"), "run", "Program.run", defArgs s_Program_run, defBody s_Program_run, defScope s_Program_run, [], []⟩
def d_check_by : He.DefD := ⟨("check_by", none), "check_by", "check_by", defArgs s_check_by, defBody s_check_by, defScope s_check_by, [], []⟩
def d_summed_rows : He.DefD := ⟨("summed_rows", none), "summed_rows", "summed_rows", defArgs s_summed_rows, defBody s_summed_rows, defScope s_summed_rows, [], []⟩
def d_turned_about : He.DefD := ⟨("turned_about", none), "turned_about", "turned_about", defArgs s_turned_about, defBody s_turned_about, defScope s_turned_about, [], [("by", .str "y")]⟩
def d_about_plain : He.DefD := ⟨("about_plain", none), "about_plain", "about_plain", defArgs s_about_plain, defBody s_about_plain, defScope s_about_plain, [], []⟩
def d_About_init : He.DefD := ⟨("About", some "__init__"), "__init__", "About.__init__", defArgs s_About_init, defBody s_About_init, defScope s_About_init, [], []⟩
def d_About_call : He.DefD := ⟨("About", some "__call__"), "__call__", "About.__call__", defArgs s_About_call, defBody s_About_call, defScope s_About_call, [], []⟩
def d_About_back : He.DefD := ⟨("About", some "back"), "back", "About.back", defArgs s_About_back, defBody s_About_back, defScope s_About_back, [], []⟩
def d_BadLetters_init : He.DefD := ⟨("BadLetters", some "__init__"), "__init__", "BadLetters.__init__", defArgs s_BadLetters_init, defBody s_BadLetters_init, defScope s_BadLetters_init, [], []⟩
def d_BadSide_init : He.DefD := ⟨("BadSide", some "__init__"), "__init__", "BadSide.__init__", defArgs s_BadSide_init, defBody s_BadSide_init, defScope s_BadSide_init, [], []⟩
def d__law_hand : He.DefD := ⟨("_law_hand", none), "_law_hand", "_law_hand", defArgs s__law_hand, defBody s__law_hand, defScope s__law_hand, [], []⟩
def d__law_mixed : He.DefD := ⟨("_law_mixed", none), "_law_mixed", "_law_mixed", defArgs s__law_mixed, defBody s__law_mixed, defScope s__law_mixed, [], []⟩
def d__law_take : He.DefD := ⟨("_law_take", none), "_law_take", "_law_take", defArgs s__law_take, defBody s__law_take, defScope s__law_take, [], []⟩
def d__law_num : He.DefD := ⟨("_law_num", none), "_law_num", "_law_num", defArgs s__law_num, defBody s__law_num, defScope s__law_num, [], []⟩
def d__law_gcd : He.DefD := ⟨("_law_gcd", none), "_law_gcd", "_law_gcd", defArgs s__law_gcd, defBody s__law_gcd, defScope s__law_gcd, [], []⟩
def d__law_ratio : He.DefD := ⟨("_law_ratio", none), "_law_ratio", "_law_ratio", defArgs s__law_ratio, defBody s__law_ratio, defScope s__law_ratio, [], []⟩
def d__law_plus : He.DefD := ⟨("_law_plus", none), "_law_plus", "_law_plus", defArgs s__law_plus, defBody s__law_plus, defScope s__law_plus, [], []⟩
def d__law_times : He.DefD := ⟨("_law_times", none), "_law_times", "_law_times", defArgs s__law_times, defBody s__law_times, defScope s__law_times, [], []⟩
def d__law_dot : He.DefD := ⟨("_law_dot", none), "_law_dot", "_law_dot", defArgs s__law_dot, defBody s__law_dot, defScope s__law_dot, [], []⟩
def d__law_tuple : He.DefD := ⟨("_law_tuple", none), "_law_tuple", "_law_tuple", defArgs s__law_tuple, defBody s__law_tuple, defScope s__law_tuple, [], []⟩
def d__law_blank : He.DefD := ⟨("_law_blank", none), "_law_blank", "_law_blank", defArgs s__law_blank, defBody s__law_blank, defScope s__law_blank, [], []⟩
def d__law_summed : He.DefD := ⟨("_law_summed", none), "_law_summed", "_law_summed", defArgs s__law_summed, defBody s__law_summed, defScope s__law_summed, [], []⟩
def d__law_figures : He.DefD := ⟨("_law_figures", none), "_law_figures", "_law_figures", defArgs s__law_figures, defBody s__law_figures, defScope s__law_figures, [], []⟩
def d__law_number : He.DefD := ⟨("_law_number", none), "_law_number", "_law_number", defArgs s__law_number, defBody s__law_number, defScope s__law_number, [], []⟩
def d__law_size : He.DefD := ⟨("_law_size", none), "_law_size", "_law_size", defArgs s__law_size, defBody s__law_size, defScope s__law_size, [], []⟩
def d__law_numbers : He.DefD := ⟨("_law_numbers", none), "_law_numbers", "_law_numbers", defArgs s__law_numbers, defBody s__law_numbers, defScope s__law_numbers, [], []⟩
def d__law_list : He.DefD := ⟨("_law_list", none), "_law_list", "_law_list", defArgs s__law_list, defBody s__law_list, defScope s__law_list, [], []⟩
def d__law_exact : He.DefD := ⟨("_law_exact", none), "_law_exact", "_law_exact", defArgs s__law_exact, defBody s__law_exact, defScope s__law_exact, [], []⟩
def d__law_none : He.DefD := ⟨("_law_none", none), "_law_none", "_law_none", defArgs s__law_none, defBody s__law_none, defScope s__law_none, [], []⟩
def d__law_spoilt : He.DefD := ⟨("_law_spoilt", none), "_law_spoilt", "_law_spoilt", defArgs s__law_spoilt, defBody s__law_spoilt, defScope s__law_spoilt, [], []⟩
def d__law_one_at : He.DefD := ⟨("_law_one_at", none), "_law_one_at", "_law_one_at", defArgs s__law_one_at, defBody s__law_one_at, defScope s__law_one_at, [], []⟩
def d__law_at : He.DefD := ⟨("_law_at", none), "_law_at", "_law_at", defArgs s__law_at, defBody s__law_at, defScope s__law_at, [], []⟩
def d__law_turned : He.DefD := ⟨("_law_turned", none), "_law_turned", "_law_turned", defArgs s__law_turned, defBody s__law_turned, defScope s__law_turned, [], []⟩
def d__law_products : He.DefD := ⟨("_law_products", none), "_law_products", "_law_products", defArgs s__law_products, defBody s__law_products, defScope s__law_products, [], []⟩
def d__law_call : He.DefD := ⟨("_law_call", none), "_law_call", "_law_call", defArgs s__law_call, defBody s__law_call, defScope s__law_call, [], []⟩
def d__law_plainly : He.DefD := ⟨("_law_plainly", none), "_law_plainly", "_law_plainly", defArgs s__law_plainly, defBody s__law_plainly, defScope s__law_plainly, [], []⟩
def d__law_sided : He.DefD := ⟨("_law_sided", none), "_law_sided", "_law_sided", defArgs s__law_sided, defBody s__law_sided, defScope s__law_sided, [], []⟩
def d__law_asks : He.DefD := ⟨("_law_asks", none), "_law_asks", "_law_asks", defArgs s__law_asks, defBody s__law_asks, defScope s__law_asks, [], []⟩
def d__law_side : He.DefD := ⟨("_law_side", none), "_law_side", "_law_side", defArgs s__law_side, defBody s__law_side, defScope s__law_side, [], []⟩
def d__law_three : He.DefD := ⟨("_law_three", none), "_law_three", "_law_three", defArgs s__law_three, defBody s__law_three, defScope s__law_three, [], []⟩
def d__law_refusals : He.DefD := ⟨("_law_refusals", none), "_law_refusals", "_law_refusals", defArgs s__law_refusals, defBody s__law_refusals, defScope s__law_refusals, [], []⟩
def d_law : He.DefD := ⟨("law", none), "law", "law", defArgs s_law, defBody s_law, defScope s_law, [], []⟩
def fn : List He.DefD := ([d_is_whole, d_is_sequence, d_common_divisor, d_is_ratio, d_lowest_terms, d_ratio_plus, d_ratio_times, d_Figures_init, d_Figures_eq, d_Figures_plus, d_Figures_times, d_Figures_is_number, d_check_table, d_first_wrong, d_check_letters, d_dot_of, d_Pair_init, d_check_side, d_check_product, d_scaled_row] : List He.DefD) ++ ([d_Program_init, d_Program_eq, d_Program_run, d_check_by, d_summed_rows, d_turned_about, d_about_plain, d_About_init, d_About_call, d_About_back, d_BadLetters_init, d_BadSide_init, d__law_hand, d__law_mixed, d__law_take, d__law_num, d__law_gcd, d__law_ratio, d__law_plus, d__law_times] : List He.DefD) ++ ([d__law_dot, d__law_tuple, d__law_blank, d__law_summed, d__law_figures, d__law_number, d__law_size, d__law_numbers, d__law_list, d__law_exact, d__law_none, d__law_spoilt, d__law_one_at, d__law_at, d__law_turned, d__law_products, d__law_call, d__law_plainly, d__law_sided, d__law_asks] : List He.DefD) ++ ([d__law_side, d__law_three, d__law_refusals, d_law] : List He.DefD)
def fa : List He.Fa := ([.glo "is_whole", .glo "is_sequence", .glo "common_divisor", .glo "is_ratio", .glo "lowest_terms", .glo "ratio_plus", .glo "ratio_times", .glo "check_table", .glo "first_wrong", .glo "check_letters", .glo "dot_of", .glo "check_side", .glo "check_product", .glo "scaled_row", .glo "check_by", .glo "summed_rows", .glo "turned_about", .glo "about_plain", .glo "_law_hand", .glo "_law_mixed", .glo "_law_take", .glo "_law_num", .glo "_law_gcd", .glo "_law_ratio", .glo "_law_plus"] : List He.Fa) ++ ([.glo "_law_times", .glo "_law_dot", .glo "_law_tuple", .glo "_law_blank", .glo "_law_summed", .glo "_law_figures", .glo "_law_number", .glo "_law_size", .glo "_law_numbers", .glo "_law_list", .glo "_law_exact", .glo "_law_none", .glo "_law_spoilt", .glo "_law_one_at", .glo "_law_at", .glo "_law_turned", .glo "_law_products", .glo "_law_call", .glo "_law_plainly", .glo "_law_sided", .glo "_law_asks", .glo "_law_side", .glo "_law_three", .glo "_law_refusals", .glo "law"] : List He.Fa) ++ ([.glo "Figures", .glo "Pair", .glo "Program", .glo "About", .glo "BadLetters", .glo "BadSide", .glo "PairError", .glo "KNOWN_PRIMES", .free "len", .free "abs", .free "isinstance", .free "int", .free "tuple", .free "list", .free "all", .free "range", .free "zip", .free "enumerate", .free "min", .free "bool", .free "str", .int "MOST_ROWS" 5, .int "MOST_PRODUCTS" 30, .cls "Figures", .mkr "Figures"] : List He.Fa) ++ ([.cls "Pair", .mkr "Pair", .cls "Program", .mkr "Program", .cls "About", .mkr "About", .noat "Figures" "prime", .noat "Figures" "zero", .noat "Figures" "one", .noat "Pair" "figures", .noat "Pair" "first", .noat "Pair" "second", .noat "Pair" "rows", .noat "Pair" "columns", .noat "Program" "figures", .noat "Program" "rows", .noat "Program" "columns", .noat "Program" "products", .noat "About" "figures", .noat "About" "by", .noat "About" "letters", .noat "About" "results", .noat "About" "products", .noat "BadLetters" "what", .noat "BadLetters" "index"] : List He.Fa) ++ ([.meth "Figures" "plus", .meth "Figures" "times", .meth "Figures" "is_number", .meth "Figures" "__eq__", .meth "Program" "run", .meth "Program" "__eq__", .meth "About" "back", .meth "About" "__call__", .exm "BadLetters" "BadLetters" true, .exm "BadSide" "BadSide" true, .exm "BadLetters" "BadSide" false, .exm "BadSide" "BadLetters" false] : List He.Fa)
/-- more of it, as one Bool -/
def oexB (K : PySem.W.Frag) (C : Addr) : Bool := (match K.lookup C with
  | some ⟨.type "type", _, .cls cd, sl⟩ => (match cd.mro, sl.toList with
    | .ref C' :: bm, [_, _, _, _, some (.builtin n), _] => C' == C && (n == "ValueError.__new__" && (!cd.hasDel && (cd.hasDict && PySem.HandSPX.refsVE bm)))
    | _, _ => false)
  | _ => false) && (He.eqO (PySem.W.findIn K (.ref C) "__setattr__") (some (some (.builtin "object.__setattr__"))) && (decide (PySem.W.subIn K (.ref C) (.type "BaseException") = some true) &&
  (decide (PySem.W.typeIn K (.ref C) = some (.type "type")) && PySem.W.keepIn K (.ref C))))
theorem oexB_ok {K : PySem.W.Frag} {C : Addr} (h : oexB K C = true) : OexC K C := by
  obtain ⟨h1, h⟩ := He.ba h
  obtain ⟨h2, h⟩ := He.ba h
  obtain ⟨h3, h⟩ := He.ba h
  obtain ⟨h4, h5⟩ := He.ba h
  refine ⟨?_, He.eqO_ok h2, of_decide_eq_true h3, of_decide_eq_true h4, h5⟩
  split at h1
  · rename_i dd cd sl ho
    split at h1
    · rename_i C' bm k0 k1 k2 k3 n k5 hm hs
      simp only [Bool.and_eq_true, beq_iff_eq, Bool.not_eq_true'] at h1
      obtain ⟨rfl, rfl, hdel, hdict, hv⟩ := h1
      obtain ⟨nm, bs, mro, ns, qn, hd, sn, sub, ab, col, del⟩ := cd
      dsimp only at hm hdel hdict
      subst hm hdel hdict
      have hsl : sl = #[k0, k1, k2, k3, some (.builtin "ValueError.__new__"), k5] := by
        obtain ⟨l⟩ := sl
        simp only at hs
        rw [hs]
      subst hsl
      exact ⟨_, _, _, _, _, _, _, _, _, _, _, _, _, _, _, ho, hv⟩
    · cases h1
  · cases h1
def initB (K : PySem.W.Frag) (C : Addr) : Bool := He.eqO (PySem.W.findIn K (.ref C) "__init__") (some (some (.ref (He.ma K C "__init__")))) && decide (PySem.W.typeIn K (.ref (He.ma K C "__init__")) = some (.type "function"))
theorem initB_ok {K : PySem.W.Frag} {C : Addr} (h : initB K C = true) : PySem.W.findIn K (.ref C) "__init__" = some (some (.ref (He.ma K C "__init__"))) ∧ PySem.W.typeIn K (.ref (He.ma K C "__init__")) = some (.type "function") :=
  ⟨He.eqO_ok (He.ba h).1, of_decide_eq_true (He.ba h).2⟩
def pbB (K : PySem.W.Frag) (C : Addr) : Bool := PySem.W.readsIn K C (.type "type") && (He.eqO (PySem.W.specialIn K (.ref C) "__getattribute__") (some (some (.builtin "type.__getattribute__"))) &&
  (match PySem.W.findCls K (.ref C) (.type "type") "__init__" with
  | some (.val (.builtin n)) => n == "ValueError.__init__"
  | _ => false))
theorem pbB_ok {K : PySem.W.Frag} {C : Addr} (h : pbB K C = true) : ClX.CRead K C (.type "type") ∧ PySem.W.findCls K (.ref C) (.type "type") "__init__" = some (.val (.builtin "ValueError.__init__")) := by
  obtain ⟨h1, h⟩ := He.ba h
  obtain ⟨h2, h3⟩ := He.ba h
  refine ⟨⟨h1, He.eqO_ok h2⟩, ?_⟩
  split at h3
  · rename_i n e
    rw [e, beq_iff_eq.mp h3]
  · cases h3
/-- an own class, as isinstance asks of it -/
def icB (K : PySem.W.Frag) (C : Addr) : Bool := He.eqO (PySem.W.findIn K (.ref C) "__class__") (some (some (.builtin "object.__class__"))) && (He.eqO (PySem.W.specialIn K (.builtin "object.__class__") "__get__") (some (some (.builtin "getset_descriptor.__get__"))) &&
  (decide (PySem.W.takesIn K (.builtin "object.__class__") = some true) && (decide (PySem.W.mroIn K C (.type "object") = some true) && decide (PySem.W.kitOne K (.ref C) (.ref C) = some true))))
theorem icB_ok {K : PySem.W.Frag} {C : Addr} (c : Cls K C) (h : icB K C = true) : C8.InsC K C := by
  obtain ⟨h1, h⟩ := He.ba h
  obtain ⟨h2, h⟩ := He.ba h
  obtain ⟨h3, h⟩ := He.ba h
  obtain ⟨h4, h5⟩ := He.ba h
  exact ⟨c, He.eqO_ok h1, He.eqO_ok h2, of_decide_eq_true h3, of_decide_eq_true h4, of_decide_eq_true h5⟩
def neB (K : PySem.W.Frag) (C : Addr) : Bool := He.eqO (PySem.W.findIn K (.ref C) "__ne__") (some (some (.builtin "object.__ne__"))) && decide (PySem.W.mroIn K C (.type "object") = some true)
def fnB (K : PySem.W.Frag) (C : Addr) (m : Str) : Bool := PySem.W.fnIn K (He.ma K C m)
def exL (K : PySem.W.Frag) : List Bool := [oexB K (He.ga K "BadLetters"), oexB K (He.ga K "BadSide"), initB K (He.ga K "BadLetters"), initB K (He.ga K "BadSide"), pbB K (He.ga K "PairError"), icB K (He.ga K "Figures"), icB K (He.ga K "Program"), neB K (He.ga K "Figures"),
  fnB K (He.ga K "About") "__call__", He.tupB K "KNOWN_PRIMES" [.int 0, .int 2, .int 3, .int 5, .int 7, .int 11, .int 13], xfB K (He.ga K "BadLetters")]
def ex (K : PySem.W.Frag) : Bool := (exL K).all id
/-- what is known of the text behind the top -/
structure Txt (K : PySem.W.Frag) (mg : Str → Option Value) : Prop where
  hp : ∃ h : Heap, K.In h ∧ h.Ns mainGlobals mg
  says : He.SaysD fa fn K
  more : ex K = true
section
variable {K : PySem.W.Frag} {mg : Str → Option Value}
theorem Txt.glo (T : Txt K mg) {x : Str} (c : (He.Fa.glo x).ok K = true) : mg x = some (.ref (He.ga K x)) := by
  obtain ⟨h, X, G⟩ := T.hp
  exact He.glo_ok X G c
theorem Txt.free (T : Txt K mg) {x : Str} (c : (He.Fa.free x).ok K = true) : mg x = none := by
  obtain ⟨h, X, G⟩ := T.hp
  exact He.free_ok X G c
theorem Txt.int (T : Txt K mg) {x : Str} {i : Int} (c : (He.Fa.int x i).ok K = true) : ∃ u, mg x = some u ∧ RelV (.int i) u := by
  obtain ⟨h, X, G⟩ := T.hp
  obtain ⟨t, e⟩ := He.int_ok X G c
  exact ⟨_, e, t, rfl⟩
theorem Txt.ex (T : Txt K mg) (i : Nat) {b : Bool} (h : (exL K)[i]? = some b) : b = true := by
  have q := List.all_eq_true.mp T.more b (List.mem_of_getElem? h)
  exact q
theorem g_is_whole (T : Txt K mg) : mg "is_whole" = some (.ref (He.ga K "is_whole")) := T.glo (T.says.fact 0 (f := .glo "is_whole") rfl)
theorem g_is_sequence (T : Txt K mg) : mg "is_sequence" = some (.ref (He.ga K "is_sequence")) := T.glo (T.says.fact 1 (f := .glo "is_sequence") rfl)
theorem g_common_divisor (T : Txt K mg) : mg "common_divisor" = some (.ref (He.ga K "common_divisor")) := T.glo (T.says.fact 2 (f := .glo "common_divisor") rfl)
theorem g_is_ratio (T : Txt K mg) : mg "is_ratio" = some (.ref (He.ga K "is_ratio")) := T.glo (T.says.fact 3 (f := .glo "is_ratio") rfl)
theorem g_lowest_terms (T : Txt K mg) : mg "lowest_terms" = some (.ref (He.ga K "lowest_terms")) := T.glo (T.says.fact 4 (f := .glo "lowest_terms") rfl)
theorem g_ratio_plus (T : Txt K mg) : mg "ratio_plus" = some (.ref (He.ga K "ratio_plus")) := T.glo (T.says.fact 5 (f := .glo "ratio_plus") rfl)
theorem g_ratio_times (T : Txt K mg) : mg "ratio_times" = some (.ref (He.ga K "ratio_times")) := T.glo (T.says.fact 6 (f := .glo "ratio_times") rfl)
theorem g_check_table (T : Txt K mg) : mg "check_table" = some (.ref (He.ga K "check_table")) := T.glo (T.says.fact 7 (f := .glo "check_table") rfl)
theorem g_first_wrong (T : Txt K mg) : mg "first_wrong" = some (.ref (He.ga K "first_wrong")) := T.glo (T.says.fact 8 (f := .glo "first_wrong") rfl)
theorem g_check_letters (T : Txt K mg) : mg "check_letters" = some (.ref (He.ga K "check_letters")) := T.glo (T.says.fact 9 (f := .glo "check_letters") rfl)
theorem g_dot_of (T : Txt K mg) : mg "dot_of" = some (.ref (He.ga K "dot_of")) := T.glo (T.says.fact 10 (f := .glo "dot_of") rfl)
theorem g_check_side (T : Txt K mg) : mg "check_side" = some (.ref (He.ga K "check_side")) := T.glo (T.says.fact 11 (f := .glo "check_side") rfl)
theorem g_check_product (T : Txt K mg) : mg "check_product" = some (.ref (He.ga K "check_product")) := T.glo (T.says.fact 12 (f := .glo "check_product") rfl)
theorem g_scaled_row (T : Txt K mg) : mg "scaled_row" = some (.ref (He.ga K "scaled_row")) := T.glo (T.says.fact 13 (f := .glo "scaled_row") rfl)
theorem g_check_by (T : Txt K mg) : mg "check_by" = some (.ref (He.ga K "check_by")) := T.glo (T.says.fact 14 (f := .glo "check_by") rfl)
theorem g_summed_rows (T : Txt K mg) : mg "summed_rows" = some (.ref (He.ga K "summed_rows")) := T.glo (T.says.fact 15 (f := .glo "summed_rows") rfl)
theorem g_turned_about (T : Txt K mg) : mg "turned_about" = some (.ref (He.ga K "turned_about")) := T.glo (T.says.fact 16 (f := .glo "turned_about") rfl)
theorem g_about_plain (T : Txt K mg) : mg "about_plain" = some (.ref (He.ga K "about_plain")) := T.glo (T.says.fact 17 (f := .glo "about_plain") rfl)
theorem g__law_hand (T : Txt K mg) : mg "_law_hand" = some (.ref (He.ga K "_law_hand")) := T.glo (T.says.fact 18 (f := .glo "_law_hand") rfl)
theorem g__law_mixed (T : Txt K mg) : mg "_law_mixed" = some (.ref (He.ga K "_law_mixed")) := T.glo (T.says.fact 19 (f := .glo "_law_mixed") rfl)
theorem g__law_take (T : Txt K mg) : mg "_law_take" = some (.ref (He.ga K "_law_take")) := T.glo (T.says.fact 20 (f := .glo "_law_take") rfl)
theorem g__law_num (T : Txt K mg) : mg "_law_num" = some (.ref (He.ga K "_law_num")) := T.glo (T.says.fact 21 (f := .glo "_law_num") rfl)
theorem g__law_gcd (T : Txt K mg) : mg "_law_gcd" = some (.ref (He.ga K "_law_gcd")) := T.glo (T.says.fact 22 (f := .glo "_law_gcd") rfl)
theorem g__law_ratio (T : Txt K mg) : mg "_law_ratio" = some (.ref (He.ga K "_law_ratio")) := T.glo (T.says.fact 23 (f := .glo "_law_ratio") rfl)
theorem g__law_plus (T : Txt K mg) : mg "_law_plus" = some (.ref (He.ga K "_law_plus")) := T.glo (T.says.fact 24 (f := .glo "_law_plus") rfl)
theorem g__law_times (T : Txt K mg) : mg "_law_times" = some (.ref (He.ga K "_law_times")) := T.glo (T.says.fact 25 (f := .glo "_law_times") rfl)
theorem g__law_dot (T : Txt K mg) : mg "_law_dot" = some (.ref (He.ga K "_law_dot")) := T.glo (T.says.fact 26 (f := .glo "_law_dot") rfl)
theorem g__law_tuple (T : Txt K mg) : mg "_law_tuple" = some (.ref (He.ga K "_law_tuple")) := T.glo (T.says.fact 27 (f := .glo "_law_tuple") rfl)
theorem g__law_blank (T : Txt K mg) : mg "_law_blank" = some (.ref (He.ga K "_law_blank")) := T.glo (T.says.fact 28 (f := .glo "_law_blank") rfl)
theorem g__law_summed (T : Txt K mg) : mg "_law_summed" = some (.ref (He.ga K "_law_summed")) := T.glo (T.says.fact 29 (f := .glo "_law_summed") rfl)
theorem g__law_figures (T : Txt K mg) : mg "_law_figures" = some (.ref (He.ga K "_law_figures")) := T.glo (T.says.fact 30 (f := .glo "_law_figures") rfl)
theorem g__law_number (T : Txt K mg) : mg "_law_number" = some (.ref (He.ga K "_law_number")) := T.glo (T.says.fact 31 (f := .glo "_law_number") rfl)
theorem g__law_size (T : Txt K mg) : mg "_law_size" = some (.ref (He.ga K "_law_size")) := T.glo (T.says.fact 32 (f := .glo "_law_size") rfl)
theorem g__law_numbers (T : Txt K mg) : mg "_law_numbers" = some (.ref (He.ga K "_law_numbers")) := T.glo (T.says.fact 33 (f := .glo "_law_numbers") rfl)
theorem g__law_list (T : Txt K mg) : mg "_law_list" = some (.ref (He.ga K "_law_list")) := T.glo (T.says.fact 34 (f := .glo "_law_list") rfl)
theorem g__law_exact (T : Txt K mg) : mg "_law_exact" = some (.ref (He.ga K "_law_exact")) := T.glo (T.says.fact 35 (f := .glo "_law_exact") rfl)
theorem g__law_none (T : Txt K mg) : mg "_law_none" = some (.ref (He.ga K "_law_none")) := T.glo (T.says.fact 36 (f := .glo "_law_none") rfl)
theorem g__law_spoilt (T : Txt K mg) : mg "_law_spoilt" = some (.ref (He.ga K "_law_spoilt")) := T.glo (T.says.fact 37 (f := .glo "_law_spoilt") rfl)
theorem g__law_one_at (T : Txt K mg) : mg "_law_one_at" = some (.ref (He.ga K "_law_one_at")) := T.glo (T.says.fact 38 (f := .glo "_law_one_at") rfl)
theorem g__law_at (T : Txt K mg) : mg "_law_at" = some (.ref (He.ga K "_law_at")) := T.glo (T.says.fact 39 (f := .glo "_law_at") rfl)
theorem g__law_turned (T : Txt K mg) : mg "_law_turned" = some (.ref (He.ga K "_law_turned")) := T.glo (T.says.fact 40 (f := .glo "_law_turned") rfl)
theorem g__law_products (T : Txt K mg) : mg "_law_products" = some (.ref (He.ga K "_law_products")) := T.glo (T.says.fact 41 (f := .glo "_law_products") rfl)
theorem g__law_call (T : Txt K mg) : mg "_law_call" = some (.ref (He.ga K "_law_call")) := T.glo (T.says.fact 42 (f := .glo "_law_call") rfl)
theorem g__law_plainly (T : Txt K mg) : mg "_law_plainly" = some (.ref (He.ga K "_law_plainly")) := T.glo (T.says.fact 43 (f := .glo "_law_plainly") rfl)
theorem g__law_sided (T : Txt K mg) : mg "_law_sided" = some (.ref (He.ga K "_law_sided")) := T.glo (T.says.fact 44 (f := .glo "_law_sided") rfl)
theorem g__law_asks (T : Txt K mg) : mg "_law_asks" = some (.ref (He.ga K "_law_asks")) := T.glo (T.says.fact 45 (f := .glo "_law_asks") rfl)
theorem g__law_side (T : Txt K mg) : mg "_law_side" = some (.ref (He.ga K "_law_side")) := T.glo (T.says.fact 46 (f := .glo "_law_side") rfl)
theorem g__law_three (T : Txt K mg) : mg "_law_three" = some (.ref (He.ga K "_law_three")) := T.glo (T.says.fact 47 (f := .glo "_law_three") rfl)
theorem g__law_refusals (T : Txt K mg) : mg "_law_refusals" = some (.ref (He.ga K "_law_refusals")) := T.glo (T.says.fact 48 (f := .glo "_law_refusals") rfl)
theorem g_law (T : Txt K mg) : mg "law" = some (.ref (He.ga K "law")) := T.glo (T.says.fact 49 (f := .glo "law") rfl)
theorem g_Figures (T : Txt K mg) : mg "Figures" = some (.ref (He.ga K "Figures")) := T.glo (T.says.fact 50 (f := .glo "Figures") rfl)
theorem g_Pair (T : Txt K mg) : mg "Pair" = some (.ref (He.ga K "Pair")) := T.glo (T.says.fact 51 (f := .glo "Pair") rfl)
theorem g_Program (T : Txt K mg) : mg "Program" = some (.ref (He.ga K "Program")) := T.glo (T.says.fact 52 (f := .glo "Program") rfl)
theorem g_About (T : Txt K mg) : mg "About" = some (.ref (He.ga K "About")) := T.glo (T.says.fact 53 (f := .glo "About") rfl)
theorem g_BadLetters (T : Txt K mg) : mg "BadLetters" = some (.ref (He.ga K "BadLetters")) := T.glo (T.says.fact 54 (f := .glo "BadLetters") rfl)
theorem g_BadSide (T : Txt K mg) : mg "BadSide" = some (.ref (He.ga K "BadSide")) := T.glo (T.says.fact 55 (f := .glo "BadSide") rfl)
theorem g_PairError (T : Txt K mg) : mg "PairError" = some (.ref (He.ga K "PairError")) := T.glo (T.says.fact 56 (f := .glo "PairError") rfl)
theorem g_KNOWN_PRIMES (T : Txt K mg) : mg "KNOWN_PRIMES" = some (.ref (He.ga K "KNOWN_PRIMES")) := T.glo (T.says.fact 57 (f := .glo "KNOWN_PRIMES") rfl)
theorem n_len (T : Txt K mg) : mg "len" = none := T.free (T.says.fact 58 (f := .free "len") rfl)
theorem n_abs (T : Txt K mg) : mg "abs" = none := T.free (T.says.fact 59 (f := .free "abs") rfl)
theorem n_isinstance (T : Txt K mg) : mg "isinstance" = none := T.free (T.says.fact 60 (f := .free "isinstance") rfl)
theorem n_int (T : Txt K mg) : mg "int" = none := T.free (T.says.fact 61 (f := .free "int") rfl)
theorem n_tuple (T : Txt K mg) : mg "tuple" = none := T.free (T.says.fact 62 (f := .free "tuple") rfl)
theorem n_list (T : Txt K mg) : mg "list" = none := T.free (T.says.fact 63 (f := .free "list") rfl)
theorem n_all (T : Txt K mg) : mg "all" = none := T.free (T.says.fact 64 (f := .free "all") rfl)
theorem n_range (T : Txt K mg) : mg "range" = none := T.free (T.says.fact 65 (f := .free "range") rfl)
theorem n_zip (T : Txt K mg) : mg "zip" = none := T.free (T.says.fact 66 (f := .free "zip") rfl)
theorem n_enumerate (T : Txt K mg) : mg "enumerate" = none := T.free (T.says.fact 67 (f := .free "enumerate") rfl)
theorem n_min (T : Txt K mg) : mg "min" = none := T.free (T.says.fact 68 (f := .free "min") rfl)
theorem n_bool (T : Txt K mg) : mg "bool" = none := T.free (T.says.fact 69 (f := .free "bool") rfl)
theorem n_str (T : Txt K mg) : mg "str" = none := T.free (T.says.fact 70 (f := .free "str") rfl)
theorem i_MOST_ROWS (T : Txt K mg) : ∃ u, mg "MOST_ROWS" = some u ∧ RelV (.int 5) u := T.int (T.says.fact 71 (f := .int "MOST_ROWS" 5) rfl)
theorem i_MOST_PRODUCTS (T : Txt K mg) : ∃ u, mg "MOST_PRODUCTS" = some u ∧ RelV (.int 30) u := T.int (T.says.fact 72 (f := .int "MOST_PRODUCTS" 30) rfl)
theorem cl_Figures (T : Txt K mg) : Cls K (He.ga K "Figures") := He.cls_ok (T.says.fact 73 (f := .cls "Figures") rfl)
theorem mk_Figures (T : Txt K mg) : Mk K (He.ga K "Figures") (He.ma K (He.ga K "Figures") "__init__") := He.mkr_ok (T.says.fact 74 (f := .mkr "Figures") rfl)
theorem cl_Pair (T : Txt K mg) : Cls K (He.ga K "Pair") := He.cls_ok (T.says.fact 75 (f := .cls "Pair") rfl)
theorem mk_Pair (T : Txt K mg) : Mk K (He.ga K "Pair") (He.ma K (He.ga K "Pair") "__init__") := He.mkr_ok (T.says.fact 76 (f := .mkr "Pair") rfl)
theorem cl_Program (T : Txt K mg) : Cls K (He.ga K "Program") := He.cls_ok (T.says.fact 77 (f := .cls "Program") rfl)
theorem mk_Program (T : Txt K mg) : Mk K (He.ga K "Program") (He.ma K (He.ga K "Program") "__init__") := He.mkr_ok (T.says.fact 78 (f := .mkr "Program") rfl)
theorem cl_About (T : Txt K mg) : Cls K (He.ga K "About") := He.cls_ok (T.says.fact 79 (f := .cls "About") rfl)
theorem mk_About (T : Txt K mg) : Mk K (He.ga K "About") (He.ma K (He.ga K "About") "__init__") := He.mkr_ok (T.says.fact 80 (f := .mkr "About") rfl)
theorem na_Figures_prime (T : Txt K mg) : NoAttr K (He.ga K "Figures") "prime" := He.noat_ok (T.says.fact 81 (f := .noat "Figures" "prime") rfl)
theorem na_Figures_zero (T : Txt K mg) : NoAttr K (He.ga K "Figures") "zero" := He.noat_ok (T.says.fact 82 (f := .noat "Figures" "zero") rfl)
theorem na_Figures_one (T : Txt K mg) : NoAttr K (He.ga K "Figures") "one" := He.noat_ok (T.says.fact 83 (f := .noat "Figures" "one") rfl)
theorem na_Pair_figures (T : Txt K mg) : NoAttr K (He.ga K "Pair") "figures" := He.noat_ok (T.says.fact 84 (f := .noat "Pair" "figures") rfl)
theorem na_Pair_first (T : Txt K mg) : NoAttr K (He.ga K "Pair") "first" := He.noat_ok (T.says.fact 85 (f := .noat "Pair" "first") rfl)
theorem na_Pair_second (T : Txt K mg) : NoAttr K (He.ga K "Pair") "second" := He.noat_ok (T.says.fact 86 (f := .noat "Pair" "second") rfl)
theorem na_Pair_rows (T : Txt K mg) : NoAttr K (He.ga K "Pair") "rows" := He.noat_ok (T.says.fact 87 (f := .noat "Pair" "rows") rfl)
theorem na_Pair_columns (T : Txt K mg) : NoAttr K (He.ga K "Pair") "columns" := He.noat_ok (T.says.fact 88 (f := .noat "Pair" "columns") rfl)
theorem na_Program_figures (T : Txt K mg) : NoAttr K (He.ga K "Program") "figures" := He.noat_ok (T.says.fact 89 (f := .noat "Program" "figures") rfl)
theorem na_Program_rows (T : Txt K mg) : NoAttr K (He.ga K "Program") "rows" := He.noat_ok (T.says.fact 90 (f := .noat "Program" "rows") rfl)
theorem na_Program_columns (T : Txt K mg) : NoAttr K (He.ga K "Program") "columns" := He.noat_ok (T.says.fact 91 (f := .noat "Program" "columns") rfl)
theorem na_Program_products (T : Txt K mg) : NoAttr K (He.ga K "Program") "products" := He.noat_ok (T.says.fact 92 (f := .noat "Program" "products") rfl)
theorem na_About_figures (T : Txt K mg) : NoAttr K (He.ga K "About") "figures" := He.noat_ok (T.says.fact 93 (f := .noat "About" "figures") rfl)
theorem na_About_by (T : Txt K mg) : NoAttr K (He.ga K "About") "by" := He.noat_ok (T.says.fact 94 (f := .noat "About" "by") rfl)
theorem na_About_letters (T : Txt K mg) : NoAttr K (He.ga K "About") "letters" := He.noat_ok (T.says.fact 95 (f := .noat "About" "letters") rfl)
theorem na_About_results (T : Txt K mg) : NoAttr K (He.ga K "About") "results" := He.noat_ok (T.says.fact 96 (f := .noat "About" "results") rfl)
theorem na_About_products (T : Txt K mg) : NoAttr K (He.ga K "About") "products" := He.noat_ok (T.says.fact 97 (f := .noat "About" "products") rfl)
theorem na_BadLetters_what (T : Txt K mg) : NoAttr K (He.ga K "BadLetters") "what" := He.noat_ok (T.says.fact 98 (f := .noat "BadLetters" "what") rfl)
theorem na_BadLetters_index (T : Txt K mg) : NoAttr K (He.ga K "BadLetters") "index" := He.noat_ok (T.says.fact 99 (f := .noat "BadLetters" "index") rfl)
theorem me_Figures_plus (T : Txt K mg) : Meth K (He.ga K "Figures") "plus" (He.ma K (He.ga K "Figures") "plus") := He.meth_ok (T.says.fact 100 (f := .meth "Figures" "plus") rfl)
theorem me_Figures_times (T : Txt K mg) : Meth K (He.ga K "Figures") "times" (He.ma K (He.ga K "Figures") "times") := He.meth_ok (T.says.fact 101 (f := .meth "Figures" "times") rfl)
theorem me_Figures_is_number (T : Txt K mg) : Meth K (He.ga K "Figures") "is_number" (He.ma K (He.ga K "Figures") "is_number") := He.meth_ok (T.says.fact 102 (f := .meth "Figures" "is_number") rfl)
theorem me_Figures_eq (T : Txt K mg) : Meth K (He.ga K "Figures") "__eq__" (He.ma K (He.ga K "Figures") "__eq__") := He.meth_ok (T.says.fact 103 (f := .meth "Figures" "__eq__") rfl)
theorem me_Program_run (T : Txt K mg) : Meth K (He.ga K "Program") "run" (He.ma K (He.ga K "Program") "run") := He.meth_ok (T.says.fact 104 (f := .meth "Program" "run") rfl)
theorem me_Program_eq (T : Txt K mg) : Meth K (He.ga K "Program") "__eq__" (He.ma K (He.ga K "Program") "__eq__") := He.meth_ok (T.says.fact 105 (f := .meth "Program" "__eq__") rfl)
theorem me_About_back (T : Txt K mg) : Meth K (He.ga K "About") "back" (He.ma K (He.ga K "About") "back") := He.meth_ok (T.says.fact 106 (f := .meth "About" "back") rfl)
theorem me_About_call (T : Txt K mg) : Meth K (He.ga K "About") "__call__" (He.ma K (He.ga K "About") "__call__") := He.meth_ok (T.says.fact 107 (f := .meth "About" "__call__") rfl)
theorem ex_BadLetters_BadLetters (T : Txt K mg) : PySem.W.exmOne K (.ref (He.ga K "BadLetters")) (.ref (He.ga K "BadLetters")) = some true := He.exm_ok (T.says.fact 108 (f := .exm "BadLetters" "BadLetters" true) rfl)
theorem ex_BadSide_BadSide (T : Txt K mg) : PySem.W.exmOne K (.ref (He.ga K "BadSide")) (.ref (He.ga K "BadSide")) = some true := He.exm_ok (T.says.fact 109 (f := .exm "BadSide" "BadSide" true) rfl)
theorem ex_BadLetters_BadSide (T : Txt K mg) : PySem.W.exmOne K (.ref (He.ga K "BadLetters")) (.ref (He.ga K "BadSide")) = some false := He.exm_ok (T.says.fact 110 (f := .exm "BadLetters" "BadSide" false) rfl)
theorem ex_BadSide_BadLetters (T : Txt K mg) : PySem.W.exmOne K (.ref (He.ga K "BadSide")) (.ref (He.ga K "BadLetters")) = some false := He.exm_ok (T.says.fact 111 (f := .exm "BadSide" "BadLetters" false) rfl)
theorem F_is_whole (T : Txt K mg) : ∃ fd, FunD K "is_whole" "is_whole" (defArgs s_is_whole) (defBody s_is_whole) (defScope s_is_whole) [.non, .non] [] (He.ga K "is_whole") fd := T.says.def_ 0 (d := d_is_whole) rfl
theorem F_is_sequence (T : Txt K mg) : ∃ fd, FunD K "is_sequence" "is_sequence" (defArgs s_is_sequence) (defBody s_is_sequence) (defScope s_is_sequence) [] [] (He.ga K "is_sequence") fd := T.says.def_ 1 (d := d_is_sequence) rfl
theorem F_common_divisor (T : Txt K mg) : ∃ fd, FunD K "common_divisor" "common_divisor" (defArgs s_common_divisor) (defBody s_common_divisor) (defScope s_common_divisor) [] [] (He.ga K "common_divisor") fd := T.says.def_ 2 (d := d_common_divisor) rfl
theorem F_is_ratio (T : Txt K mg) : ∃ fd, FunD K "is_ratio" "is_ratio" (defArgs s_is_ratio) (defBody s_is_ratio) (defScope s_is_ratio) [] [] (He.ga K "is_ratio") fd := T.says.def_ 3 (d := d_is_ratio) rfl
theorem F_lowest_terms (T : Txt K mg) : ∃ fd, FunD K "lowest_terms" "lowest_terms" (defArgs s_lowest_terms) (defBody s_lowest_terms) (defScope s_lowest_terms) [] [] (He.ga K "lowest_terms") fd := T.says.def_ 4 (d := d_lowest_terms) rfl
theorem F_ratio_plus (T : Txt K mg) : ∃ fd, FunD K "ratio_plus" "ratio_plus" (defArgs s_ratio_plus) (defBody s_ratio_plus) (defScope s_ratio_plus) [] [] (He.ga K "ratio_plus") fd := T.says.def_ 5 (d := d_ratio_plus) rfl
theorem F_ratio_times (T : Txt K mg) : ∃ fd, FunD K "ratio_times" "ratio_times" (defArgs s_ratio_times) (defBody s_ratio_times) (defScope s_ratio_times) [] [] (He.ga K "ratio_times") fd := T.says.def_ 6 (d := d_ratio_times) rfl
theorem F_Figures_init (T : Txt K mg) : ∃ fd, FunD K "__init__" "Figures.__init__" (defArgs s_Figures_init) (defBody s_Figures_init) (defScope s_Figures_init) [] [] (He.ma K (He.ga K "Figures") "__init__") fd := T.says.def_ 7 (d := d_Figures_init) rfl
theorem F_Figures_eq (T : Txt K mg) : ∃ fd, FunD K "__eq__" "Figures.__eq__" (defArgs s_Figures_eq) (defBody s_Figures_eq) (defScope s_Figures_eq) [] [] (He.ma K (He.ga K "Figures") "__eq__") fd := T.says.def_ 8 (d := d_Figures_eq) rfl
theorem F_Figures_plus (T : Txt K mg) : ∃ fd, FunD K "plus" "Figures.plus" (defArgs s_Figures_plus) (defBody s_Figures_plus) (defScope s_Figures_plus) [] [] (He.ma K (He.ga K "Figures") "plus") fd := T.says.def_ 9 (d := d_Figures_plus) rfl
theorem F_Figures_times (T : Txt K mg) : ∃ fd, FunD K "times" "Figures.times" (defArgs s_Figures_times) (defBody s_Figures_times) (defScope s_Figures_times) [] [] (He.ma K (He.ga K "Figures") "times") fd := T.says.def_ 10 (d := d_Figures_times) rfl
theorem F_Figures_is_number (T : Txt K mg) : ∃ fd, FunD K "is_number" "Figures.is_number" (defArgs s_Figures_is_number) (defBody s_Figures_is_number) (defScope s_Figures_is_number) [] [] (He.ma K (He.ga K "Figures") "is_number") fd := T.says.def_ 11 (d := d_Figures_is_number) rfl
theorem F_check_table (T : Txt K mg) : ∃ fd, FunD K "check_table" "check_table" (defArgs s_check_table) (defBody s_check_table) (defScope s_check_table) [.non, .non] [] (He.ga K "check_table") fd := T.says.def_ 12 (d := d_check_table) rfl
theorem F_first_wrong (T : Txt K mg) : ∃ fd, FunD K "first_wrong" "first_wrong" (defArgs s_first_wrong) (defBody s_first_wrong) (defScope s_first_wrong) [] [] (He.ga K "first_wrong") fd := T.says.def_ 13 (d := d_first_wrong) rfl
theorem F_check_letters (T : Txt K mg) : ∃ fd, FunD K "check_letters" "check_letters" (defArgs s_check_letters) (defBody s_check_letters) (defScope s_check_letters) [] [] (He.ga K "check_letters") fd := T.says.def_ 14 (d := d_check_letters) rfl
theorem F_dot_of (T : Txt K mg) : ∃ fd, FunD K "dot_of" "dot_of" (defArgs s_dot_of) (defBody s_dot_of) (defScope s_dot_of) [] [] (He.ga K "dot_of") fd := T.says.def_ 15 (d := d_dot_of) rfl
theorem F_Pair_init (T : Txt K mg) : ∃ fd, FunD K "__init__" "Pair.__init__" (defArgs s_Pair_init) (defBody s_Pair_init) (defScope s_Pair_init) [] [] (He.ma K (He.ga K "Pair") "__init__") fd := T.says.def_ 16 (d := d_Pair_init) rfl
theorem F_check_side (T : Txt K mg) : ∃ fd, FunD K "check_side" "check_side" (defArgs s_check_side) (defBody s_check_side) (defScope s_check_side) [] [] (He.ga K "check_side") fd := T.says.def_ 17 (d := d_check_side) rfl
theorem F_check_product (T : Txt K mg) : ∃ fd, FunD K "check_product" "check_product" (defArgs s_check_product) (defBody s_check_product) (defScope s_check_product) [] [] (He.ga K "check_product") fd := T.says.def_ 18 (d := d_check_product) rfl
theorem F_scaled_row (T : Txt K mg) : ∃ fd, FunD K "scaled_row" "scaled_row" (defArgs s_scaled_row) (defBody s_scaled_row) (defScope s_scaled_row) [] [] (He.ga K "scaled_row") fd := T.says.def_ 19 (d := d_scaled_row) rfl
theorem F_Program_init (T : Txt K mg) : ∃ fd, FunD K "__init__" "Program.__init__" (defArgs s_Program_init) (defBody s_Program_init) (defScope s_Program_init) [] [] (He.ma K (He.ga K "Program") "__init__") fd := T.says.def_ 20 (d := d_Program_init) rfl
theorem F_Program_eq (T : Txt K mg) : ∃ fd, FunD K "__eq__" "Program.__eq__" (defArgs s_Program_eq) (defBody s_Program_eq) (defScope s_Program_eq) [] [] (He.ma K (He.ga K "Program") "__eq__") fd := T.says.def_ 21 (d := d_Program_eq) rfl
theorem F_Program_run (T : Txt K mg) : ∃ fd, FunD K "run" "Program.run" (defArgs s_Program_run) (defBody s_Program_run) (defScope s_Program_run) [] [] (He.ma K (He.ga K "Program") "run") fd := T.says.def_ 22 (d := d_Program_run) rfl
theorem F_check_by (T : Txt K mg) : ∃ fd, FunD K "check_by" "check_by" (defArgs s_check_by) (defBody s_check_by) (defScope s_check_by) [] [] (He.ga K "check_by") fd := T.says.def_ 23 (d := d_check_by) rfl
theorem F_summed_rows (T : Txt K mg) : ∃ fd, FunD K "summed_rows" "summed_rows" (defArgs s_summed_rows) (defBody s_summed_rows) (defScope s_summed_rows) [] [] (He.ga K "summed_rows") fd := T.says.def_ 24 (d := d_summed_rows) rfl
theorem F_turned_about (T : Txt K mg) : ∃ fd, FunD K "turned_about" "turned_about" (defArgs s_turned_about) (defBody s_turned_about) (defScope s_turned_about) [] [("by", .str "y")] (He.ga K "turned_about") fd := T.says.def_ 25 (d := d_turned_about) rfl
theorem F_about_plain (T : Txt K mg) : ∃ fd, FunD K "about_plain" "about_plain" (defArgs s_about_plain) (defBody s_about_plain) (defScope s_about_plain) [] [] (He.ga K "about_plain") fd := T.says.def_ 26 (d := d_about_plain) rfl
theorem F_About_init (T : Txt K mg) : ∃ fd, FunD K "__init__" "About.__init__" (defArgs s_About_init) (defBody s_About_init) (defScope s_About_init) [] [] (He.ma K (He.ga K "About") "__init__") fd := T.says.def_ 27 (d := d_About_init) rfl
theorem F_About_call (T : Txt K mg) : ∃ fd, FunD K "__call__" "About.__call__" (defArgs s_About_call) (defBody s_About_call) (defScope s_About_call) [] [] (He.ma K (He.ga K "About") "__call__") fd := T.says.def_ 28 (d := d_About_call) rfl
theorem F_About_back (T : Txt K mg) : ∃ fd, FunD K "back" "About.back" (defArgs s_About_back) (defBody s_About_back) (defScope s_About_back) [] [] (He.ma K (He.ga K "About") "back") fd := T.says.def_ 29 (d := d_About_back) rfl
theorem F_BadLetters_init (T : Txt K mg) : ∃ fd, FunD K "__init__" "BadLetters.__init__" (defArgs s_BadLetters_init) (defBody s_BadLetters_init) (defScope s_BadLetters_init) [] [] (He.ma K (He.ga K "BadLetters") "__init__") fd := T.says.def_ 30 (d := d_BadLetters_init) rfl
theorem F_BadSide_init (T : Txt K mg) : ∃ fd, FunD K "__init__" "BadSide.__init__" (defArgs s_BadSide_init) (defBody s_BadSide_init) (defScope s_BadSide_init) [] [] (He.ma K (He.ga K "BadSide") "__init__") fd := T.says.def_ 31 (d := d_BadSide_init) rfl
theorem F__law_hand (T : Txt K mg) : ∃ fd, FunD K "_law_hand" "_law_hand" (defArgs s__law_hand) (defBody s__law_hand) (defScope s__law_hand) [] [] (He.ga K "_law_hand") fd := T.says.def_ 32 (d := d__law_hand) rfl
theorem F__law_mixed (T : Txt K mg) : ∃ fd, FunD K "_law_mixed" "_law_mixed" (defArgs s__law_mixed) (defBody s__law_mixed) (defScope s__law_mixed) [] [] (He.ga K "_law_mixed") fd := T.says.def_ 33 (d := d__law_mixed) rfl
theorem F__law_take (T : Txt K mg) : ∃ fd, FunD K "_law_take" "_law_take" (defArgs s__law_take) (defBody s__law_take) (defScope s__law_take) [] [] (He.ga K "_law_take") fd := T.says.def_ 34 (d := d__law_take) rfl
theorem F__law_num (T : Txt K mg) : ∃ fd, FunD K "_law_num" "_law_num" (defArgs s__law_num) (defBody s__law_num) (defScope s__law_num) [] [] (He.ga K "_law_num") fd := T.says.def_ 35 (d := d__law_num) rfl
theorem F__law_gcd (T : Txt K mg) : ∃ fd, FunD K "_law_gcd" "_law_gcd" (defArgs s__law_gcd) (defBody s__law_gcd) (defScope s__law_gcd) [] [] (He.ga K "_law_gcd") fd := T.says.def_ 36 (d := d__law_gcd) rfl
theorem F__law_ratio (T : Txt K mg) : ∃ fd, FunD K "_law_ratio" "_law_ratio" (defArgs s__law_ratio) (defBody s__law_ratio) (defScope s__law_ratio) [] [] (He.ga K "_law_ratio") fd := T.says.def_ 37 (d := d__law_ratio) rfl
theorem F__law_plus (T : Txt K mg) : ∃ fd, FunD K "_law_plus" "_law_plus" (defArgs s__law_plus) (defBody s__law_plus) (defScope s__law_plus) [] [] (He.ga K "_law_plus") fd := T.says.def_ 38 (d := d__law_plus) rfl
theorem F__law_times (T : Txt K mg) : ∃ fd, FunD K "_law_times" "_law_times" (defArgs s__law_times) (defBody s__law_times) (defScope s__law_times) [] [] (He.ga K "_law_times") fd := T.says.def_ 39 (d := d__law_times) rfl
theorem F__law_dot (T : Txt K mg) : ∃ fd, FunD K "_law_dot" "_law_dot" (defArgs s__law_dot) (defBody s__law_dot) (defScope s__law_dot) [] [] (He.ga K "_law_dot") fd := T.says.def_ 40 (d := d__law_dot) rfl
theorem F__law_tuple (T : Txt K mg) : ∃ fd, FunD K "_law_tuple" "_law_tuple" (defArgs s__law_tuple) (defBody s__law_tuple) (defScope s__law_tuple) [] [] (He.ga K "_law_tuple") fd := T.says.def_ 41 (d := d__law_tuple) rfl
theorem F__law_blank (T : Txt K mg) : ∃ fd, FunD K "_law_blank" "_law_blank" (defArgs s__law_blank) (defBody s__law_blank) (defScope s__law_blank) [] [] (He.ga K "_law_blank") fd := T.says.def_ 42 (d := d__law_blank) rfl
theorem F__law_summed (T : Txt K mg) : ∃ fd, FunD K "_law_summed" "_law_summed" (defArgs s__law_summed) (defBody s__law_summed) (defScope s__law_summed) [] [] (He.ga K "_law_summed") fd := T.says.def_ 43 (d := d__law_summed) rfl
theorem F__law_figures (T : Txt K mg) : ∃ fd, FunD K "_law_figures" "_law_figures" (defArgs s__law_figures) (defBody s__law_figures) (defScope s__law_figures) [] [] (He.ga K "_law_figures") fd := T.says.def_ 44 (d := d__law_figures) rfl
theorem F__law_number (T : Txt K mg) : ∃ fd, FunD K "_law_number" "_law_number" (defArgs s__law_number) (defBody s__law_number) (defScope s__law_number) [] [] (He.ga K "_law_number") fd := T.says.def_ 45 (d := d__law_number) rfl
theorem F__law_size (T : Txt K mg) : ∃ fd, FunD K "_law_size" "_law_size" (defArgs s__law_size) (defBody s__law_size) (defScope s__law_size) [] [] (He.ga K "_law_size") fd := T.says.def_ 46 (d := d__law_size) rfl
theorem F__law_numbers (T : Txt K mg) : ∃ fd, FunD K "_law_numbers" "_law_numbers" (defArgs s__law_numbers) (defBody s__law_numbers) (defScope s__law_numbers) [] [] (He.ga K "_law_numbers") fd := T.says.def_ 47 (d := d__law_numbers) rfl
theorem F__law_list (T : Txt K mg) : ∃ fd, FunD K "_law_list" "_law_list" (defArgs s__law_list) (defBody s__law_list) (defScope s__law_list) [] [] (He.ga K "_law_list") fd := T.says.def_ 48 (d := d__law_list) rfl
theorem F__law_exact (T : Txt K mg) : ∃ fd, FunD K "_law_exact" "_law_exact" (defArgs s__law_exact) (defBody s__law_exact) (defScope s__law_exact) [] [] (He.ga K "_law_exact") fd := T.says.def_ 49 (d := d__law_exact) rfl
theorem F__law_none (T : Txt K mg) : ∃ fd, FunD K "_law_none" "_law_none" (defArgs s__law_none) (defBody s__law_none) (defScope s__law_none) [] [] (He.ga K "_law_none") fd := T.says.def_ 50 (d := d__law_none) rfl
theorem F__law_spoilt (T : Txt K mg) : ∃ fd, FunD K "_law_spoilt" "_law_spoilt" (defArgs s__law_spoilt) (defBody s__law_spoilt) (defScope s__law_spoilt) [] [] (He.ga K "_law_spoilt") fd := T.says.def_ 51 (d := d__law_spoilt) rfl
theorem F__law_one_at (T : Txt K mg) : ∃ fd, FunD K "_law_one_at" "_law_one_at" (defArgs s__law_one_at) (defBody s__law_one_at) (defScope s__law_one_at) [] [] (He.ga K "_law_one_at") fd := T.says.def_ 52 (d := d__law_one_at) rfl
theorem F__law_at (T : Txt K mg) : ∃ fd, FunD K "_law_at" "_law_at" (defArgs s__law_at) (defBody s__law_at) (defScope s__law_at) [] [] (He.ga K "_law_at") fd := T.says.def_ 53 (d := d__law_at) rfl
theorem F__law_turned (T : Txt K mg) : ∃ fd, FunD K "_law_turned" "_law_turned" (defArgs s__law_turned) (defBody s__law_turned) (defScope s__law_turned) [] [] (He.ga K "_law_turned") fd := T.says.def_ 54 (d := d__law_turned) rfl
theorem F__law_products (T : Txt K mg) : ∃ fd, FunD K "_law_products" "_law_products" (defArgs s__law_products) (defBody s__law_products) (defScope s__law_products) [] [] (He.ga K "_law_products") fd := T.says.def_ 55 (d := d__law_products) rfl
theorem F__law_call (T : Txt K mg) : ∃ fd, FunD K "_law_call" "_law_call" (defArgs s__law_call) (defBody s__law_call) (defScope s__law_call) [] [] (He.ga K "_law_call") fd := T.says.def_ 56 (d := d__law_call) rfl
theorem F__law_plainly (T : Txt K mg) : ∃ fd, FunD K "_law_plainly" "_law_plainly" (defArgs s__law_plainly) (defBody s__law_plainly) (defScope s__law_plainly) [] [] (He.ga K "_law_plainly") fd := T.says.def_ 57 (d := d__law_plainly) rfl
theorem F__law_sided (T : Txt K mg) : ∃ fd, FunD K "_law_sided" "_law_sided" (defArgs s__law_sided) (defBody s__law_sided) (defScope s__law_sided) [] [] (He.ga K "_law_sided") fd := T.says.def_ 58 (d := d__law_sided) rfl
theorem F__law_asks (T : Txt K mg) : ∃ fd, FunD K "_law_asks" "_law_asks" (defArgs s__law_asks) (defBody s__law_asks) (defScope s__law_asks) [] [] (He.ga K "_law_asks") fd := T.says.def_ 59 (d := d__law_asks) rfl
theorem F__law_side (T : Txt K mg) : ∃ fd, FunD K "_law_side" "_law_side" (defArgs s__law_side) (defBody s__law_side) (defScope s__law_side) [] [] (He.ga K "_law_side") fd := T.says.def_ 60 (d := d__law_side) rfl
theorem F__law_three (T : Txt K mg) : ∃ fd, FunD K "_law_three" "_law_three" (defArgs s__law_three) (defBody s__law_three) (defScope s__law_three) [] [] (He.ga K "_law_three") fd := T.says.def_ 61 (d := d__law_three) rfl
theorem F__law_refusals (T : Txt K mg) : ∃ fd, FunD K "_law_refusals" "_law_refusals" (defArgs s__law_refusals) (defBody s__law_refusals) (defScope s__law_refusals) [] [] (He.ga K "_law_refusals") fd := T.says.def_ 62 (d := d__law_refusals) rfl
theorem F_law (T : Txt K mg) : ∃ fd, FunD K "law" "law" (defArgs s_law) (defBody s_law) (defScope s_law) [] [] (He.ga K "law") fd := T.says.def_ 63 (d := d_law) rfl
theorem oe_BadLetters (T : Txt K mg) : OexC K (He.ga K "BadLetters") := oexB_ok (T.ex 0 rfl)
theorem oe_BadSide (T : Txt K mg) : OexC K (He.ga K "BadSide") := oexB_ok (T.ex 1 rfl)
theorem ii_BadLetters (T : Txt K mg) : PySem.W.findIn K (.ref (He.ga K "BadLetters")) "__init__" = some (some (.ref (He.ma K (He.ga K "BadLetters") "__init__"))) ∧ PySem.W.typeIn K (.ref (He.ma K (He.ga K "BadLetters") "__init__")) = some (.type "function") := initB_ok (T.ex 2 rfl)
theorem ii_BadSide (T : Txt K mg) : PySem.W.findIn K (.ref (He.ga K "BadSide")) "__init__" = some (some (.ref (He.ma K (He.ga K "BadSide") "__init__"))) ∧ PySem.W.typeIn K (.ref (He.ma K (He.ga K "BadSide") "__init__")) = some (.type "function") := initB_ok (T.ex 3 rfl)
theorem cr_PairError (T : Txt K mg) : ClX.CRead K (He.ga K "PairError") (.type "type") := (pbB_ok (T.ex 4 rfl)).1
theorem in_PairError (T : Txt K mg) : PySem.W.findCls K (.ref (He.ga K "PairError")) (.type "type") "__init__" = some (.val (.builtin "ValueError.__init__")) := (pbB_ok (T.ex 4 rfl)).2
theorem ic_Figures (T : Txt K mg) : C8.InsC K (He.ga K "Figures") := icB_ok (cl_Figures T) (T.ex 5 rfl)
theorem ic_Program (T : Txt K mg) : C8.InsC K (He.ga K "Program") := icB_ok (cl_Program T) (T.ex 6 rfl)
theorem ne_Figures (T : Txt K mg) : PySem.W.findIn K (.ref (He.ga K "Figures")) "__ne__" = some (some (.builtin "object.__ne__")) ∧ PySem.W.mroIn K (He.ga K "Figures") (.type "object") = some true := by
  obtain ⟨h1, h2⟩ := He.ba (T.ex 7 rfl)
  exact ⟨He.eqO_ok h1, of_decide_eq_true h2⟩
theorem co_About (T : Txt K mg) : StX.CallO K (He.ga K "About") (He.ma K (He.ga K "About") "__call__") := ⟨(me_About_call T).at_, (me_About_call T).fn, T.ex 8 rfl⟩
theorem kp_tuple (T : Txt K mg) (H : Hp) : SqT K H (He.ga K "KNOWN_PRIMES") [.int 0, .int 2, .int 3, .int 5, .int 7, .int 11, .int 13] := He.tupB_ok (T.ex 9 rfl) H
theorem xf_BadLetters (T : Txt K mg) : XfC K (He.ga K "BadLetters") := xfB_ok (T.ex 10 rfl)
end
end K21
set_option maxRecDepth 100000
set_option maxHeartbeats 4000000
namespace K21
open PySem PySem.Spec PyProof.Rows L2
/-! ## data that stand in the heap -/
end K21
namespace L2
open PySem PySem.Spec PyProof.Rows K21
theorem Same.sqT {K : PySem.W.Frag} {H H' : Hp} {a : Addr} {xs : List V} (e : Same H H') (h : SqT K H a xs) : SqT K H' a xs := by
  rcases h with (h | ⟨o, h⟩) | h
  · exact .inl (.inl (e _ _ h))
  · exact .inl (.inr ⟨o, e _ _ h⟩)
  · exact .inr h
theorem Same.sqB {K : PySem.W.Frag} {H H' : Hp} {k : Bool} {a : Addr} {xs : List V} (e : Same H H') (h : SqB k K H a xs) : SqB k K H' a xs := by
  cases k with
  | true => exact Same.sqT e h
  | false => exact Same.seq e h
theorem Same.upd {H : Hp} {p : Addr} {o : HO} (h : H p = none) : Same H (upd H p o) := fun b x e => by
  rw [upd_ne (ne_of_none e h)]
  exact e
/-- an object that H does not know may change -/
theorem Same.put {H H' : Hp} {p : Addr} {o : HO} (e : Same H H') (h : H p = none) : Same H (L2.upd H' p o) := fun b x q => by
  rw [upd_ne (ne_of_none q h)]
  exact e b x q
section
variable {K : PySem.W.Frag} {H H' : Hp}
mutual
theorem Dp.by {v : V} {d : PyData} (eL : ∀ a xs, SqL K H a xs → SqL K H' a xs) (eT : ∀ a xs, SqT K H a xs → SqT K H' a xs) : Dp K H v d → Dp K H' v d
  | .non => .non
  | .bl b => .bl b
  | .int i => .int i
  | .str x => .str x
  | .lst h a => .lst (eL _ _ h) (DpAll.by eL eT a)
  | .tup h a => .tup (eT _ _ h) (DpAll.by eL eT a)
theorem DpAll.by {vs : List V} {ds : List PyData} (eL : ∀ a xs, SqL K H a xs → SqL K H' a xs) (eT : ∀ a xs, SqT K H a xs → SqT K H' a xs) : DpAll K H vs ds → DpAll K H' vs ds
  | .nil => .nil
  | .cons h a => .cons (Dp.by eL eT h) (DpAll.by eL eT a)
end
theorem Same.dp (e : Same H H') {v : V} {d : PyData} (h : Dp K H v d) : Dp K H' v d := Dp.by (fun _ _ => Same.seq e) (fun _ _ => Same.sqT e) h
theorem Same.dpAll (e : Same H H') {vs : List V} {ds : List PyData} (h : DpAll K H vs ds) : DpAll K H' vs ds := DpAll.by (fun _ _ => Same.seq e) (fun _ _ => Same.sqT e) h
theorem DpAll.len : ∀ {vs : List V} {ds : List PyData}, DpAll K H vs ds → vs.length = ds.length
  | _, _, .nil => rfl
  | _, _, .cons _ a => congrArg Nat.succ (DpAll.len a)
theorem DpAll.get : ∀ {vs : List V} {ds : List PyData} {i : Nat} {d : PyData}, DpAll K H vs ds → ds[i]? = some d → ∃ v, vs[i]? = some v ∧ Dp K H v d
  | _, _, _, _, .nil, e => by simp at e
  | _, _, 0, _, .cons h _, e => ⟨_, rfl, by
      have q := Option.some.inj e
      rw [← q]
      exact h⟩
  | _, _, i + 1, _, .cons _ a, e => DpAll.get (i := i) a e
theorem DpAll.of : ∀ {vs : List V} {ds : List PyData} {i : Nat} {v : V}, DpAll K H vs ds → vs[i]? = some v → ∃ d, ds[i]? = some d ∧ Dp K H v d
  | _, _, _, _, .nil, e => by simp at e
  | _, _, 0, _, .cons h _, e => ⟨_, rfl, by
      have q := Option.some.inj e
      rw [← q]
      exact h⟩
  | _, _, i + 1, _, .cons _ a, e => DpAll.of (i := i) a e
theorem DpAll.app : ∀ {vs ws : List V} {ds es : List PyData}, DpAll K H vs ds → DpAll K H ws es → DpAll K H (vs ++ ws) (ds ++ es)
  | _, _, _, _, .nil, b => b
  | _, _, _, _, .cons h a, b => .cons h (DpAll.app a b)
theorem DpAll.one {v : V} {d : PyData} (h : Dp K H v d) : DpAll K H [v] [d] := .cons h .nil
theorem DpAll.snoc {vs : List V} {ds : List PyData} {v : V} {d : PyData} (a : DpAll K H vs ds) (h : Dp K H v d) : DpAll K H (vs ++ [v]) (ds ++ [d]) := a.app (.one h)
theorem DpAll.take : ∀ {vs : List V} {ds : List PyData} (n : Nat), DpAll K H vs ds → DpAll K H (vs.take n) (ds.take n)
  | _, _, 0, _ => .nil
  | _, _, _ + 1, .nil => .nil
  | _, _, n + 1, .cons h a => .cons h (DpAll.take n a)
theorem DpAll.set : ∀ {vs : List V} {ds : List PyData} {v : V} {d : PyData} (n : Nat), DpAll K H vs ds → Dp K H v d → DpAll K H (vs.set n v) (ds.set n d)
  | _, _, _, _, _, .nil, _ => .nil
  | _, _, _, _, 0, .cons _ a, h => .cons h a
  | _, _, _, _, n + 1, .cons g a, h => .cons g (DpAll.set n a h)
theorem DpAll.rep {v : V} {d : PyData} (h : Dp K H v d) : ∀ n : Nat, DpAll K H (List.replicate n v) (List.replicate n d)
  | 0 => .nil
  | n + 1 => .cons h (DpAll.rep h n)
/-- a list (false), a tuple (true) of data -/
def seqD (k : Bool) (ds : List PyData) : PyData := match k with
  | true => .tuple ds
  | false => .list ds
theorem Dp.seq {k : Bool} {v : V} {ds : List PyData} (h : Dp K H v (seqD k ds)) : ∃ a vs, v = .ref a ∧ K21.SqB k K H a vs ∧ DpAll K H vs ds := by
  cases k with
  | true =>
    cases (show Dp K H v (.tuple ds) from h) with
    | tup hs ha => exact ⟨_, _, rfl, hs, ha⟩
  | false =>
    cases (show Dp K H v (.list ds) from h) with
    | lst hs ha => exact ⟨_, _, rfl, hs, ha⟩
theorem Dp.tup_inv {v : V} {ds : List PyData} (h : Dp K H v (.tuple ds)) : ∃ a vs, v = .ref a ∧ SqT K H a vs ∧ DpAll K H vs ds := Dp.seq (k := true) h
theorem Dp.of_seq {k : Bool} {a : Addr} {vs : List V} {ds : List PyData} (h : K21.SqB k K H a vs) (a' : DpAll K H vs ds) : Dp K H (.ref a) (seqD k ds) := by
  cases k with
  | true => exact Dp.tup h a'
  | false => exact Dp.lst h a'
theorem Dp.newT {a : Addr} {vs : List V} {ds : List PyData} (h : H a = some (.tup vs)) (a' : DpAll K H vs ds) : Dp K H (.ref a) (.tuple ds) := .tup (SqT.of h) a'
theorem Dp.newL {a : Addr} {vs : List V} {ds : List PyData} (h : H a = some (.lst vs)) (a' : DpAll K H vs ds) : Dp K H (.ref a) (.list ds) := .lst (SqL.of h) a'
theorem Dp.int_inv {v : V} {i : Int} (h : Dp K H v (.int i)) : v = .int i := by cases h; rfl
theorem Dp.str_inv {v : V} {x : Str} (h : Dp K H v (.str x)) : v = .str x := by cases h; rfl
theorem Dp.non_inv {v : V} (h : Dp K H v .none) : v = .non := by cases h; rfl
theorem DpAll.nil_inv {vs : List V} (h : DpAll K H vs []) : vs = [] := by cases h; rfl
theorem DpAll.cons_inv {vs : List V} {d : PyData} {ds : List PyData} (h : DpAll K H vs (d :: ds)) : ∃ v ws, vs = v :: ws ∧ Dp K H v d ∧ DpAll K H ws ds := by
  cases h with
  | cons h a => exact ⟨_, _, rfl, h, a⟩
/-- its built-in type -/
theorem tyT {a : Addr} {xs : List V} (h : SqT K H a xs) : TyX K H (.ref a) (.type "tuple") := by
  rcases h with (h | ⟨o, h⟩) | ⟨o, its, n, h, c, _⟩
  · exact .base (.tup h)
  · exact .fTuple h
  · exact .kTuple h c
theorem tyL {a : Addr} {xs : List V} (h : SqL K H a xs) : TyX K H (.ref a) (.type "list") := by
  rcases h with (h | ⟨o, h⟩) | ⟨o, its, n, h, c, _⟩
  · exact .base (.lst h)
  · exact .base (.frz h)
  · exact .kList h c
theorem sqT_len {a : Addr} {xs : List V} (h : SqT K H a xs) : LenV K (.ref a) H xs.length := .inr ⟨xs, h, rfl⟩
theorem sqL_len {a : Addr} {xs : List V} (h : SqL K H a xs) : LenV K (.ref a) H xs.length := .inl ⟨xs, h, rfl⟩
theorem sqB_len {k : Bool} {a : Addr} {xs : List V} (h : K21.SqB k K H a xs) : LenV K (.ref a) H xs.length := by
  cases k with
  | true => exact sqT_len h
  | false => exact sqL_len h
end
end L2
namespace K21
open PySem PySem.Spec PyProof.Rows L2
/-! ### numbers -/
def numD : {p : Nat} → Car p → PyData
  | 0, (x : Rat) => .tuple [.int x.num, .int (x.den : Int)]
  | _ + 1, (x : Fin _) => .int (x.val : Int)
def rowD {p : Nat} (k : Bool) (xs : List (Car p)) : PyData := seqD k (xs.map numD)
theorem num0 {K : PySem.W.Frag} {H : Hp} {v : V} {x : Car 0} (h : Dp K H v (numD x)) : ∃ a, v = .ref a ∧ SqT K H a [.int (Rat.num x), .int ((Rat.den x : Nat) : Int)] := by
  obtain ⟨a, vs, e, hT, hA⟩ := Dp.tup_inv (show Dp K H v (.tuple [.int (Rat.num x), .int ((Rat.den x : Nat) : Int)]) from h)
  obtain ⟨v1, w1, rfl, h1, hA⟩ := hA.cons_inv
  obtain ⟨v2, w2, rfl, h2, hA⟩ := hA.cons_inv
  obtain rfl := hA.nil_inv
  obtain rfl := h1.int_inv
  obtain rfl := h2.int_inv
  exact ⟨a, e, hT⟩
theorem numS {n : Nat} {K : PySem.W.Frag} {H : Hp} {v : V} {x : Car (n + 1)} (h : Dp K H v (numD x)) : v = .int ((Fin.val x : Nat) : Int) := Dp.int_inv h
theorem num0_mk {K : PySem.W.Frag} {H : Hp} {a : Addr} {x : Car 0} (h : H a = some (.tup [.int (Rat.num x), .int ((Rat.den x : Nat) : Int)])) : Dp K H (.ref a) (numD x) :=
  Dp.newT h (.cons (.int _) (.cons (.int _) .nil))
theorem numD_inj : ∀ {p : Nat} {x y : Car p}, PyData.eqv (numD x) (numD y) = decide (x = y)
  | 0, x, y => by
    have e : PyData.eqv (numD (p := 0) x) (numD (p := 0) y) = ((Rat.num x == Rat.num y) && ((((Rat.den x : Nat) : Int) == ((Rat.den y : Nat) : Int)) && true)) := by
      simp only [numD, PyData.eqv, PyData.eqvAll]
    rw [e]
    by_cases h : x = y
    · subst h
      rw [decide_eq_true rfl]
      simp
    · rw [decide_eq_false h]
      cases q : ((Rat.num x == Rat.num y) && ((((Rat.den x : Nat) : Int) == ((Rat.den y : Nat) : Int)) && true)) with
      | false => rfl
      | true =>
        simp only [Bool.and_eq_true, beq_iff_eq, Bool.and_true] at q
        exact absurd (Rat.ext q.1 (Int.ofNat_inj.mp q.2)) h
  | n + 1, x, y => by
    have e : PyData.eqv (numD (p := n + 1) x) (numD (p := n + 1) y) = (((Fin.val x : Nat) : Int) == ((Fin.val y : Nat) : Int)) := by
      simp only [numD, PyData.eqv]
    rw [e]
    by_cases h : x = y
    · subst h
      rw [decide_eq_true rfl]
      simp
    · rw [decide_eq_false h]
      exact beq_eq_false_iff_ne.mpr fun q => h (Fin.ext (Int.ofNat_inj.mp q))
/-! ### data of ints in tuples: their shape -/
/-- ints in tuples, n deep at most -/
def Tp : Nat → PyData → Prop
  | 0, d => ∃ i, d = .int i
  | n + 1, d => (∃ i, d = .int i) ∨ ∃ ds, d = .tuple ds ∧ ∀ e ∈ ds, Tp n e
theorem Tp.int {n : Nat} (i : Int) : Tp n (.int i) := by
  cases n with
  | zero => exact ⟨i, rfl⟩
  | succ n => exact .inl ⟨i, rfl⟩
theorem Tp.tup {n : Nat} {ds : List PyData} (h : ∀ e ∈ ds, Tp n e) : Tp (n + 1) (.tuple ds) := .inr ⟨ds, rfl, h⟩
theorem Tp.up : ∀ {n m : Nat} {d : PyData}, Tp n d → n ≤ m → Tp m d
  | 0, m, d, ⟨i, e⟩, _ => by rw [e]; exact Tp.int i
  | n + 1, m, d, .inl ⟨i, e⟩, _ => by rw [e]; exact Tp.int i
  | n + 1, m + 1, d, .inr ⟨ds, e, h⟩, l => .inr ⟨ds, e, fun x hx => Tp.up (h x hx) (Nat.le_of_succ_le_succ l)⟩
theorem canLay_all {ds : List PyData} (h : ∀ e ∈ ds, PyData.canLay0 e = true) : PyData.canLayAll0 ds = true := by
  induction ds with
  | nil => rfl
  | cons d ds ih =>
    rw [PyData.canLayAll0, h d List.mem_cons_self, ih fun e he => h e (List.mem_cons_of_mem _ he)]
    rfl
theorem depth_all {ds : List PyData} {n : Nat} (h : ∀ e ∈ ds, PyData.depth e ≤ n) : PyData.depthAll ds ≤ n := by
  induction ds with
  | nil => exact Nat.zero_le _
  | cons d ds ih =>
    rw [PyData.depthAll]
    exact Nat.max_le.mpr ⟨h d List.mem_cons_self, ih fun e he => h e (List.mem_cons_of_mem _ he)⟩
theorem Tp.lay : ∀ {n : Nat} {d : PyData}, Tp n d → PyData.canLay0 d = true ∧ PyData.depth d ≤ n
  | 0, d, ⟨i, e⟩ => by rw [e]; exact ⟨rfl, Nat.le_refl _⟩
  | n + 1, d, .inl ⟨i, e⟩ => by rw [e]; exact ⟨rfl, Nat.zero_le _⟩
  | n + 1, d, .inr ⟨ds, e, h⟩ => by
    rw [e]
    refine ⟨?_, ?_⟩
    · rw [PyData.canLay0]
      exact canLay_all fun x hx => (Tp.lay (h x hx)).1
    · rw [PyData.depth]
      exact Nat.succ_le_succ (depth_all fun x hx => (Tp.lay (h x hx)).2)
theorem Tp.shaped {n : Nat} {d : PyData} (h : Tp n d) (hn : n ≤ 64) : SeqAt.shaped d = true := by
  obtain ⟨h1, h2⟩ := h.lay
  unfold SeqAt.shaped
  rw [h1, decide_eq_true (Nat.le_trans h2 hn)]
  rfl
theorem Tp.refl {n : Nat} {d : PyData} (h : Tp n d) : PyData.eqv d d = true := SeqAt.eqv_refl d h.lay.1
theorem tp_num : ∀ {p : Nat} (x : Car p), Tp 1 (numD x)
  | 0, x => Tp.tup (n := 0) fun e he => by
    simp only [List.mem_cons, List.not_mem_nil, or_false] at he
    rcases he with he | he
    · exact ⟨_, he⟩
    · exact ⟨_, he⟩
  | n + 1, x => Tp.int _
theorem tp_row {p : Nat} (xs : List (Car p)) : Tp 2 (rowD true xs) := Tp.tup (n := 1) fun e he => by
  obtain ⟨x, _, e⟩ := List.mem_map.mp he
  rw [← e]
  exact tp_num x
/-- such data live in tuples alone -/
theorem Tp.dp : ∀ {n : Nat} {d : PyData} {K : PySem.W.Frag} {H H' : Hp} {v : V}, Tp n d → (∀ a xs, SqT K H a xs → SqT K H' a xs) → Dp K H v d → Dp K H' v d
  | 0, d, K, H, H', v, ⟨i, e⟩, _, h => by
    subst e
    cases h
    exact .int _
  | n + 1, d, K, H, H', v, .inl ⟨i, e⟩, _, h => by
    subst e
    cases h
    exact .int _
  | n + 1, d, K, H, H', v, .inr ⟨ds, e, ht⟩, eT, h => by
    subst e
    obtain ⟨a, vs, rfl, hT, hA⟩ := h.tup_inv
    refine .tup (eT _ _ hT) ?_
    clear hT h
    induction ds generalizing vs with
    | nil =>
      obtain rfl := hA.nil_inv
      exact .nil
    | cons d ds ih =>
      obtain ⟨v, ws, rfl, h1, h2⟩ := hA.cons_inv
      exact .cons (Tp.dp (ht d List.mem_cons_self) eT h1) (ih (fun e he => ht e (List.mem_cons_of_mem _ he)) ws h2)
end K21
set_option maxRecDepth 100000
set_option maxHeartbeats 4000000
namespace K21
open PySem PySem.Spec PyProof.Rows L2
section
variable {P : Program} {w : World} {K : PySem.W.Frag} {mg : Str → Option Value} {base : Heap}
/-! ## sparedproducts.ratios -/
def oV : Option Int → V
  | none => .non
  | some i => .int i
def spWhole (K : PySem.W.Frag) : Sp := fun vs H Q _ => ∃ (i : Int) (lo hi : Option Int) (c : Bool), vs = [.int i, oV lo, oV hi] ∧ c = decide ((∀ l, lo = some l → l ≤ i) ∧ (∀ h, hi = some h → i ≤ h)) ∧ Q (.bl c) H
theorem ok_is_whole (T : Txt K mg) {fd : FuncData} (F : FunD K "is_whole" "is_whole" (defArgs s_is_whole) (defBody s_is_whole) (defScope s_is_whole) [.non, .non] [] (He.ga K "is_whole") fd) :
    FnOk P w K mg base (L2.CX P w) 1 (He.ga K "is_whole") fd ["thing", "low", "high"] (spWhole K) := by
  refine okN F sc_is_whole (fun vs H Q E h => ?_) (fun cdv A outer s H vs Q E hr h => ?_)
  · obtain ⟨i, lo, hi, c, rfl, _⟩ := h
    rfl
  · obtain ⟨i, lo, hi, c0, rfl, rfl, q⟩ := h
    refine ⟨_, (pss_cons (ps_if (PW.pt (pw_or (pt_val (pe_callB call_isi rfl (n_isinstance T) (by decide +kernel) (pa_cons (pv 0) (pa_cons (pe_bltn (v := .ty "bool") rfl (n_bool T) (by decide +kernel) rfl) pa_nil)))) (pw_or1 (pt_not (pt_val (pe_callB call_isi rfl (n_isinstance T) (by decide +kernel) (pa_cons (pv 0) (pa_cons (pe_bltn (v := .ty "int") rfl (n_int T) (by decide +kernel) rfl) pa_nil))))))))
        (pss_one (ps_ret pe_bl))
        pss_nil)
      (pss_cons (ps_if (PW.pt (pw_and (pt_cmp (pc_notN (pv 1))) (pw_and1 (pt_cmp (pc_lt (pv 0) (pv 1))))))
        (pss_one (ps_ret pe_bl))
        pss_nil)
      (pss_one (ps_ret (pe_or (pe_cmp (pc_isN (pv 2))) (pe_one (pe_cmp (pc_le (pv 0) (pv 2))))))))), ?_⟩
    refine ⟨_, rfl, _, _, _, _, _, rfl, .ty _, .base (.int i), kit_ty (by decide +kernel), _, rfl, iteF ?_⟩
    refine ⟨_, rfl, _, _, _, _, _, rfl, .ty _, .base (.int i), kit_ty (r := true) (by decide +kernel), _, rfl, iteF ?_⟩
    have fin : ∀ c : Bool, c = decide ((∀ l, lo = some l → l ≤ i) ∧ (∀ h, hi = some h → i ≤ h)) → Q (.bl c) H := fun c e => by
      rw [e]
      exact q
    have last : (∀ l, lo = some l → l ≤ i) → (tRet (tOrV (tIsN (tVar 2)) (tLe (tVar 0) (tVar 2))) { nx := fun _ H' => Q .non H', rt := Q }) (start N_is_whole [.int i, oV lo, oV hi]) H := fun hl => by
      cases hi with
      | none => exact ⟨_, rfl, _, rfl, iteT (fin true (decide_eq_true ⟨hl, fun h e => nomatch e⟩).symm)⟩
      | some m =>
        refine ⟨_, rfl, _, rfl, iteF ⟨_, rfl, _, rfl, _, _, rfl, rfl, fin _ ?_⟩⟩
        show decide (i ≤ m) = _
        by_cases c : i ≤ m
        · rw [decide_eq_true c, decide_eq_true]
          exact ⟨hl, fun h e => by cases e; exact c⟩
        · rw [decide_eq_false c, decide_eq_false]
          exact fun z => c (z.2 m rfl)
    cases lo with
    | none => exact ⟨_, rfl, _, rfl, iteF (iteF (last fun l e => nomatch e))⟩
    | some l =>
      refine ⟨_, rfl, _, rfl, iteT ⟨_, rfl, _, rfl, _, _, rfl, rfl, _, rfl, ite2 (fun c => ?_) (fun c => ?_)⟩⟩
      · have c1 : i < l := of_decide_eq_true c
        refine fin false (decide_eq_false fun z => ?_).symm
        have := z.1 l rfl
        omega
      · have c1 : ¬ i < l := fun z => c (decide_eq_true z)
        exact last fun l' e => by cases e; omega
theorem whole_binds {fd : FuncData} (F : FunD K "is_whole" "is_whole" (defArgs s_is_whole) (defBody s_is_whole) (defScope s_is_whole) [.non, .non] [] (He.ga K "is_whole") fd) :
    (∃ ds, Vals [.non, .non] ds ∧ Binds K fd ["thing", "low", "high"] ds) ∧ (∃ ds, Vals [.non] ds ∧ Binds K fd ["thing", "low", "high"] ds) ∧ (∃ ds, Vals [] ds ∧ Binds K fd ["thing", "low", "high"] ds) := by
  refine ⟨?_, ?_, ?_⟩
  · exact F.binds1 1 0 (by simp) rfl fun _ _ _ _ _ _ _ us its h1 h2 => match us, its, h1, h2 with | [_], [_, _], _, _ => ⟨_, rfl, rfl⟩
  · exact F.binds1 2 1 (by simp) rfl fun _ _ _ _ _ _ _ us its h1 h2 => match us, its, h1, h2 with | [_, _], [_, _], _, _ => ⟨_, rfl, rfl⟩
  · exact F.binds1 3 2 (by simp) rfl fun _ _ _ _ _ _ _ us its h1 h2 => match us, its, h1, h2 with | [_, _, _], [_, _], _, _ => ⟨_, rfl, rfl⟩
theorem H_is_whole1 (T : Txt K mg) : Hs P w K mg base 1 "is_whole" ["thing", "low", "high"] [.non, .non] (spWhole K) := by
  obtain ⟨fd, F⟩ := F_is_whole T
  obtain ⟨⟨ds, r, b⟩, _, _⟩ := whole_binds F
  exact ⟨_, fd, ds, g_is_whole T, F.kp, ok_is_whole T F, b, r⟩
theorem H_is_whole2 (T : Txt K mg) : Hs P w K mg base 1 "is_whole" ["thing", "low", "high"] [.non] (spWhole K) := by
  obtain ⟨fd, F⟩ := F_is_whole T
  obtain ⟨_, ⟨ds, r, b⟩, _⟩ := whole_binds F
  exact ⟨_, fd, ds, g_is_whole T, F.kp, ok_is_whole T F, b, r⟩
theorem H_is_whole3 (T : Txt K mg) : Hs P w K mg base 1 "is_whole" ["thing", "low", "high"] [] (spWhole K) := by
  obtain ⟨fd, F⟩ := F_is_whole T
  obtain ⟨_, _, ⟨ds, r, b⟩⟩ := whole_binds F
  exact ⟨_, fd, ds, g_is_whole T, F.kp, ok_is_whole T F, b, r⟩
theorem kit_tup (K : PySem.W.Frag) : PySem.W.kitAny K (.type "tuple") [.type "list", .type "tuple"] = some true :=
  kitAny_cons (kit_ty (r := false) (by decide +kernel)) (fun _ => kitAny_cons (kit_ty (r := true) (by decide +kernel)) (fun z => nomatch z) fun _ => rfl) (fun z => nomatch z)
theorem kit_lst (K : PySem.W.Frag) : PySem.W.kitAny K (.type "list") [.type "list", .type "tuple"] = some true :=
  kitAny_cons (kit_ty (r := true) (by decide +kernel)) (fun z => nomatch z) fun _ => rfl
theorem kit_non (K : PySem.W.Frag) : PySem.W.kitAny K (.type "NoneType") [.type "list", .type "tuple"] = some false :=
  kitAny_cons (kit_ty (r := false) (by decide +kernel)) (fun _ => kitAny_cons (kit_ty (r := false) (by decide +kernel)) (fun _ => rfl) (fun z => nomatch z)) (fun z => nomatch z)
/-- a list or a tuple; nothing else but None is asked for -/
def spSequence (K : PySem.W.Frag) : Sp := fun vs H Q _ => (∃ (k : Bool) (a : Addr) (xs : List V), vs = [.ref a] ∧ SqB k K H a xs ∧ ∀ H', Same H H' → Q (.bl true) H') ∨ (vs = [.non] ∧ ∀ H', Same H H' → Q (.bl false) H')
theorem H_is_sequence (T : Txt K mg) : Hs P w K mg base 1 "is_sequence" ["thing"] [] (spSequence K) := by
  obtain ⟨fd, F⟩ := F_is_sequence T
  refine ⟨_, fd, [], g_is_sequence T, F.kp, okN F sc_is_sequence (fun vs H Q E h => ?_) (fun cdv A outer s H vs Q E hr h => ?_), F.bindsN fun _ _ _ _ _ _ us hl => match us, hl with | [_], _ => rfl, .nil⟩
  · rcases h with ⟨k, a, xs, rfl, _⟩ | ⟨rfl, _⟩ <;> rfl
  · refine ⟨_, (pss_one (ps_ret (pe_callB call_isiT rfl (n_isinstance T) (by decide +kernel) (pa_cons (pv 0) (pa_cons (pe_tup (pa_cons (pe_bltn (v := .ty "list") rfl (n_list T) (by decide +kernel) rfl) (pa_cons (pe_bltn (v := .ty "tuple") rfl (n_tuple T) (by decide +kernel) rfl) pa_nil))) pa_nil))))), ?_⟩
    rcases h with ⟨k, a, xs, rfl, hS, q⟩ | ⟨rfl, q⟩
    · refine ⟨_, rfl, by show 2 ≤ sizeLine; decide, fun tp ht => ?_⟩
      cases k with
      | true =>
        refine ⟨_, _, _, _, _, true, rfl, upd_same, .cons (.ty _) (.cons (.ty _) .nil), tyT (Same.sqT (Same.upd ht) hS), kit_tup _, q _ (Same.upd ht)⟩
      | false =>
        refine ⟨_, _, _, _, _, true, rfl, upd_same, .cons (.ty _) (.cons (.ty _) .nil), tyL (Same.seq (Same.upd ht) hS), kit_lst _, q _ (Same.upd ht)⟩
    · refine ⟨_, rfl, by show 2 ≤ sizeLine; decide, fun tp ht => ?_⟩
      refine ⟨_, _, _, _, _, false, rfl, upd_same, .cons (.ty _) (.cons (.ty _) .nil), .base .non, kit_non _, q _ (Same.upd ht)⟩
def spGcd : Sp := fun vs H Q _ => ∃ a b : Int, vs = [.int a, .int b] ∧ Q (.int ((Nat.gcd a.natAbs b.natAbs : Nat) : Int)) H
theorem abs_nat (a : Int) : (if a < 0 then -a else a) = ((a.natAbs : Nat) : Int) := by
  by_cases h : a < 0
  · rw [if_pos h]
    omega
  · rw [if_neg h]
    omega
theorem H_common_divisor (T : Txt K mg) : Hs P w K mg base 1 "common_divisor" ["one", "other"] [] spGcd := by
  obtain ⟨fd, F⟩ := F_common_divisor T
  refine ⟨_, fd, [], g_common_divisor T, F.kp, okN F sc_common_divisor (fun vs H Q E h => ?_) (fun cdv A outer s H vs Q E hr h => ?_), F.bindsN fun _ _ _ _ _ _ us hl => match us, hl with | [_, _], _ => rfl, .nil⟩
  · obtain ⟨a, b, rfl, _⟩ := h
    rfl
  · obtain ⟨a, b, rfl, q⟩ := h
    refine ⟨_, (pss_cons (ps_set (i := 2) sc_common_divisor.nd rfl (Or.inl rfl) (pe_callB call_abs rfl (n_abs T) (by decide +kernel) (pa_cons (pv 0) pa_nil)))
      (pss_cons (ps_set (i := 3) sc_common_divisor.nd rfl (Or.inl rfl) (pe_callB call_abs rfl (n_abs T) (by decide +kernel) (pa_cons (pv 1) pa_nil)))
      (pss_cons (ps_while PassesOwn.never (pt_cmp (pc_neI (pv 2) pe_int))
        (pss_one (ps_par (i := 2) (j := 3) (by rfl) sc_common_divisor.nd rfl rfl (by decide) rfl rfl (pa_cons (pe_op op_mod (pv 3) (pv 2)) (pa_cons (pv 2) pa_nil)) (by rfl))))
      (pss_one (ps_ret (pv 3)))))), ?_⟩
    refine ⟨_, rfl, _, rfl, _, rfl, _, rfl, fun m σ H' => ∃ lo hi : Nat, σ = [some (.int a), some (.int b), some (.int lo), some (.int hi)] ∧ Nat.gcd lo hi = Nat.gcd a.natAbs b.natAbs ∧ m = lo ∧ H' = H, ⟨a.natAbs, a.natAbs, b.natAbs, ?_, rfl, rfl, rfl⟩, ?_⟩
    · rw [abs_nat, abs_nat]
      rfl
    · rintro m σ H' ⟨lo, hi, rfl, eg, em, rfl⟩
      refine ⟨_, rfl, (lo : Int), 0, rfl, rfl, _, rfl, ?_⟩
      by_cases c : lo = 0
      · subst c
        refine iteF ⟨_, rfl, ?_⟩
        have e : hi = Nat.gcd a.natAbs b.natAbs := by rw [← eg, Nat.gcd_zero_left]
        rw [e]
        exact q
      · have c1 : (!decide ((lo : Int) = 0)) = true := by
          rw [decide_eq_false (by omega)]
          rfl
        show if (!decide ((lo : Int) = 0)) = true then _ else _
        rw [if_pos c1]
        have e0 : ((hi : Int) % (lo : Int)) = ((hi % lo : Nat) : Int) := (Int.natCast_emod hi lo).symm
        refine ⟨fun σ' H'' => σ' = [some (.int a), some (.int b), some (.int ((hi % lo : Nat) : Int)), some (.int lo)] ∧ H'' = H', fun σ' H'' hN => ⟨hi % lo, by rw [em]; exact Nat.mod_lt _ (by omega), hi % lo, lo, hN.1, ?_, rfl, hN.2⟩, ?_⟩
        · rw [← eg, Nat.gcd_comm, ← gcd_step, Nat.gcd_comm]
        · refine ⟨_, rfl, _, rfl, _, _, rfl, rfl, (by omega), _, rfl, _, _, rfl, ?_⟩
          refine ⟨?_, rfl⟩
          show [some (V.int a), some (V.int b), some (V.int ((hi : Int) % (lo : Int))), some (V.int lo)] = _
          rw [e0]
/-- an int, or a ratio -/
def spIsRatio (K : PySem.W.Frag) : Sp := fun vs H Q _ => (∃ i : Int, vs = [.int i] ∧ Q (.bl false) H) ∨ (∃ (a : Addr) (x : Rat), vs = [.ref a] ∧ SqT K H a [.int x.num, .int (x.den : Int)] ∧ Q (.bl true) H)
theorem H_is_ratio (T : Txt K mg) : Hs P w K mg base 2 "is_ratio" ["thing"] [] (spIsRatio K) := by
  obtain ⟨fd, F⟩ := F_is_ratio T
  refine ⟨_, fd, [], g_is_ratio T, F.kp, okN F sc_is_ratio (fun vs H Q E h => ?_) (fun cdv A outer s H vs Q E hr h => ?_), F.bindsN fun _ _ _ _ _ _ us hl => match us, hl with | [_], _ => rfl, .nil⟩
  · rcases h with ⟨i, rfl, _⟩ | ⟨a, x, rfl, _⟩ <;> rfl
  · refine ⟨_, (pss_cons (ps_if (PW.pt (pw_or (pt_not (pt_val (pe_callB call_isi rfl (n_isinstance T) (by decide +kernel) (pa_cons (pv 0) (pa_cons (pe_bltn (v := .ty "tuple") rfl (n_tuple T) (by decide +kernel) rfl) pa_nil))))) (pw_or1 (pt_cmp (pc_neI (pe_callB call_len rfl (n_len T) PySem.boot_len (pa_cons (pv 0) pa_nil)) pe_int)))))
        (pss_one (ps_ret pe_bl))
        pss_nil)
      (pss_cons (ps_if (PW.pt (pw_or (pt_not (pt_val (pe_callH (H_is_whole1 T) (hr.mono (by decide)) passL (pa_cons (pe_ix ix_tup (pv 0) pe_int (fun _ _ => rfl)) pa_nil)))) (pw_or1 (pt_not (pt_val (pe_callH (H_is_whole2 T) (hr.mono (by decide)) passL (pa_cons (pe_ix ix_tup (pv 0) pe_int (fun _ _ => rfl)) (pa_cons pe_int pa_nil))))))))
        (pss_one (ps_ret pe_bl))
        pss_nil)
      (pss_one (ps_ret (pe_cmp (pc_eqI (pe_callH (H_common_divisor T) (hr.mono (by decide)) passL (pa_cons (pe_ix ix_tup (pv 0) pe_int (fun _ _ => rfl)) (pa_cons (pe_ix ix_tup (pv 0) pe_int (fun _ _ => rfl)) pa_nil))) pe_int)))))), ?_⟩
    rcases h with ⟨i, rfl, q⟩ | ⟨a, x, rfl, hT, q⟩
    · exact ⟨_, rfl, _, _, _, _, _, rfl, .ty _, .base (.int i), kit_ty (r := false) (by decide +kernel), _, rfl, iteT (iteT q)⟩
    · refine ⟨_, rfl, _, _, _, _, _, rfl, .ty _, tyT hT, kit_ty (r := true) (by decide +kernel), _, rfl, iteF ?_⟩
      refine ⟨_, rfl, _, _, rfl, sqT_len hT, _, _, rfl, rfl, _, rfl, iteF ?_⟩
      refine ⟨_, rfl, _, _, _, _, rfl, rfl, hT, atI_nat (j := 0) rfl, x.num, none, none, true, rfl, (decide_eq_true ⟨fun l e => (nomatch e), fun l e => (nomatch e)⟩).symm, _, rfl, iteF ?_⟩
      have hd := den_pos x
      refine ⟨_, rfl, _, _, _, _, rfl, rfl, hT, atI_nat (j := 1) rfl, x.den, some 1, none, true, rfl, (decide_eq_true ⟨fun l e => (by cases e; omega), fun l e => (nomatch e)⟩).symm, _, rfl, iteF ?_⟩
      refine ⟨_, rfl, _, _, _, _, rfl, rfl, hT, atI_nat (j := 0) rfl, _, rfl, _, _, _, _, rfl, rfl, hT, atI_nat (j := 1) rfl, x.num, x.den, rfl, _, _, rfl, rfl, ?_⟩
      have e : Nat.gcd x.num.natAbs (x.den : Int).natAbs = 1 := x.reduced
      show Q (.bl (decide (((Nat.gcd x.num.natAbs (x.den : Int).natAbs : Nat) : Int) = 1))) H
      rw [e]
      exact q
/-- top over bottom, bottom not 0 -/
def spLow : Sp := fun vs H Q _ => ∃ (t : Int) (b : Nat) (hb : b ≠ 0), vs = [.int t, .int (b : Int)] ∧ b < 2 ^ 9000 ∧ ∀ p, H p = none → Q (.ref p) (upd H p (.tup [.int (Rat.normalize t b hb).num, .int ((Rat.normalize t b hb).den : Int)]))
theorem H_lowest_terms (T : Txt K mg) : Hs P w K mg base 2 "lowest_terms" ["top", "bottom"] [] spLow := by
  obtain ⟨fd, F⟩ := F_lowest_terms T
  refine ⟨_, fd, [], g_lowest_terms T, F.kp, okN F sc_lowest_terms (fun vs H Q E h => ?_) (fun cdv A outer s H vs Q E hr h => ?_), F.bindsN fun _ _ _ _ _ _ us hl => match us, hl with | [_, _], _ => rfl, .nil⟩
  · obtain ⟨t, b, hb, rfl, _⟩ := h
    rfl
  · obtain ⟨t, b, hb, rfl, hz, q⟩ := h
    refine ⟨_, (pss_cons (ps_if (pt_cmp (pc_eqI (pv 1) pe_int))
        (pss_one (ps_ret (pe_tup (pa_cons (pv 0) (pa_cons pe_int pa_nil)))))
        pss_nil)
      (pss_cons (ps_set (i := 2) sc_lowest_terms.nd rfl (Or.inl rfl) (pe_callH (H_common_divisor T) (hr.mono (by decide)) passL (pa_cons (pv 0) (pa_cons (pv 1) pa_nil))))
      (pss_cons (ps_if (pt_cmp (pc_lt (pv 1) pe_int))
        (pss_one (ps_set (i := 2) sc_lowest_terms.nd rfl (Or.inl rfl) (pe_un un_neg (pv 2))))
        pss_nil)
      (pss_one (ps_ret (pe_tup (pa_cons (pe_op op_fdivW (pv 0) (pv 2)) (pa_cons (pe_op op_fdivW (pv 1) (pv 2)) pa_nil)))))))), ?_⟩
    refine ⟨_, rfl, _, _, rfl, rfl, _, rfl, ite2 (fun c => ?_) (fun c => ?_)⟩
    · have c1 : (b : Int) = 1 := of_decide_eq_true c
      have c2 : b = 1 := by omega
      subst c2
      have e1 : (Rat.normalize t 1 hb).num = t := by rw [norm_num, Nat.gcd_one_right]; exact Int.ediv_one t
      have e2 : (Rat.normalize t 1 hb).den = 1 := by rw [norm_den, Nat.gcd_one_right]
      refine ⟨_, rfl, by show 2 ≤ sizeLine; decide, fun p hp => ?_⟩
      have := q p hp
      rw [e1, e2] at this
      exact this
    · have hg : 0 < Nat.gcd t.natAbs (b : Int).natAbs := Nat.gcd_pos_of_pos_right _ (by omega)
      have hle : Nat.gcd t.natAbs (b : Int).natAbs ≤ b := Nat.gcd_le_right _ (by omega)
      have hw : CDivW t ((Nat.gcd t.natAbs (b : Int).natAbs : Nat) : Int) := wide_div (b := 9000) (by omega) (Nat.lt_of_le_of_lt (by rw [Int.natAbs_natCast]; exact hle) hz) (by decide) (Nat.le_refl _)
      refine ⟨_, rfl, _, rfl, t, (b : Int), rfl, ?_⟩
      refine ⟨_, rfl, _, _, rfl, rfl, _, rfl, ?_⟩
      have nb : ¬ ((b : Int) < 0) := by omega
      show if (decide ((b : Int) < 0)) = true then _ else _
      rw [decide_eq_false nb]
      refine iteF ?_
      refine ⟨_, rfl, _, rfl, _, _, rfl, rfl, hw, _, rfl, _, rfl, _, _, rfl, rfl, hw, by show 2 ≤ sizeLine; decide, fun p hp => ?_⟩
      have := q p hp
      rw [norm_num, norm_den] at this
      show Q (.ref p) (upd H p (.tup [.int (t / ((Nat.gcd t.natAbs b : Nat) : Int)), .int ((b : Int) / ((Nat.gcd t.natAbs b : Nat) : Int))]))
      rw [← Int.natCast_ediv]
      exact this
end
end K21
set_option maxRecDepth 100000
set_option maxHeartbeats 4000000
namespace K21
open PySem PySem.Spec PyProof.Rows L2
/-! ### the ring's operations, as the program reckons them -/
theorem car_add_val {n : Nat} (x y : Car (n + 1)) : ((Fin.val (x + y) : Nat) : Int) = (((Fin.val x : Nat) : Int) + ((Fin.val y : Nat) : Int)) % ((n + 1 : Nat) : Int) := by
  have e : Fin.val (x + y) = (Fin.val x + Fin.val y) % (n + 1) := rfl
  rw [e, Int.natCast_emod, Int.natCast_add]
theorem car_mul_val {n : Nat} (x y : Car (n + 1)) : ((Fin.val (x * y) : Nat) : Int) = (((Fin.val x : Nat) : Int) * ((Fin.val y : Nat) : Int)) % ((n + 1 : Nat) : Int) := by
  have e : Fin.val (x * y) = (Fin.val x * Fin.val y) % (n + 1) := rfl
  rw [e, Int.natCast_emod, Int.natCast_mul]
theorem car_lt {n : Nat} (x : Car (n + 1)) : Fin.val x < n + 1 := Fin.isLt x
/-- figures at a -/
def FigAt (K : PySem.W.Frag) (H : Hp) (a : Addr) (p : Nat) : Prop := ((p = 0 ∨ 2 ≤ p) ∧ p ≤ 13) ∧ ∃ (dx : Addr) (vz vo : V), H a = some (.ins (He.ga K "Figures") dx [("prime", .int (p : Int)), ("zero", vz), ("one", vo)]) ∧ Dp K H vz (numD (0 : Car p)) ∧ Dp K H vo (numD (1 : Car p))
theorem FigAt.same {K : PySem.W.Frag} {H H' : Hp} {a : Addr} {p : Nat} (e : Same H H') (h : FigAt K H a p) : FigAt K H' a p := by
  obtain ⟨hp, dx, vz, vo, h1, h2, h3⟩ := h
  exact ⟨hp, dx, vz, vo, e _ _ h1, e.dp h2, e.dp h3⟩
section
variable {P : Program} {w : World} {K : PySem.W.Frag} {mg : Str → Option Value} {base : Heap}
def spRat2 (K : PySem.W.Frag) (f : Rat → Rat → Rat) : Sp := fun vs H Q _ => ∃ (x y : Car 0) (v1 v2 : V), vs = [v1, v2] ∧ Dp K H v1 (numD x) ∧ Dp K H v2 (numD y) ∧ Sz 0 4000 x ∧ Sz 0 4000 y ∧
  ∀ v H', Same H H' → Dp K H' v (numD (p := 0) (f x y)) → Q v H'
theorem H_ratio_plus (T : Txt K mg) : Hs P w K mg base 3 "ratio_plus" ["one", "other"] [] (spRat2 K fun x y => x + y) := by
  obtain ⟨fd, F⟩ := F_ratio_plus T
  refine ⟨_, fd, [], g_ratio_plus T, F.kp, okN F sc_ratio_plus (fun vs H Q E h => ?_) (fun cdv A outer s H vs Q E hr h => ?_), F.bindsN fun _ _ _ _ _ _ us hl => match us, hl with | [_, _], _ => rfl, .nil⟩
  · obtain ⟨x, y, v1, v2, rfl, _⟩ := h
    rfl
  · obtain ⟨x, y, v1, v2, rfl, d1, d2, z1, z2, q⟩ := h
    refine ⟨_, (pss_cons (ps_if (pt_cmp (pc_eqI (pe_ix ix_tup (pv 0) pe_int (fun _ _ => rfl)) (pe_ix ix_tup (pv 1) pe_int (fun _ _ => rfl))))
        (pss_one (ps_ret (pe_callH (H_lowest_terms T) (hr.mono (by decide)) passL (pa_cons (pe_op op_add (pe_ix ix_tup (pv 0) pe_int (fun _ _ => rfl)) (pe_ix ix_tup (pv 1) pe_int (fun _ _ => rfl))) (pa_cons (pe_ix ix_tup (pv 0) pe_int (fun _ _ => rfl)) pa_nil)))))
        pss_nil)
      (pss_one (ps_ret (pe_callH (H_lowest_terms T) (hr.mono (by decide)) passL (pa_cons (pe_op op_add (pe_op op_mulW (pe_ix ix_tup (pv 0) pe_int (fun _ _ => rfl)) (pe_ix ix_tup (pv 1) pe_int (fun _ _ => rfl))) (pe_op op_mulW (pe_ix ix_tup (pv 1) pe_int (fun _ _ => rfl)) (pe_ix ix_tup (pv 0) pe_int (fun _ _ => rfl)))) (pa_cons (pe_op op_mulW (pe_ix ix_tup (pv 0) pe_int (fun _ _ => rfl)) (pe_ix ix_tup (pv 1) pe_int (fun _ _ => rfl))) pa_nil)))))), ?_⟩
    obtain ⟨a, rfl, hA⟩ := num0 d1
    obtain ⟨b, rfl, hB⟩ := num0 d2
    have px := den_pos x
    have py := den_pos y
    have zx : Rat.den x < 2 ^ 4000 := z1.2
    have zy : Rat.den y < 2 ^ 4000 := z2.2
    have fin : ∀ (t : Int) (d : Nat) (hd : d ≠ 0), Rat.normalize t d hd = Rat.add x y → ∀ p, H p = none → Q (.ref p) (upd H p (.tup [.int (Rat.normalize t d hd).num, .int ((Rat.normalize t d hd).den : Int)])) := fun t d hd e p hp => by
      refine q _ _ (Same.upd hp) ?_
      show Dp K _ _ (numD (p := 0) (Rat.add x y))
      rw [← e]
      exact num0_mk (x := (Rat.normalize t d hd : Rat)) upd_same
    refine ⟨_, rfl, _, _, _, _, rfl, rfl, hA, atI_nat (j := 1) rfl, _, rfl, _, _, _, _, rfl, rfl, hB, atI_nat (j := 1) rfl, _, _, rfl, rfl, _, rfl, ite2 (fun c => ?_) (fun c => ?_)⟩
    · have c1 : Rat.den x = Rat.den y := Int.ofNat_inj.mp (of_decide_eq_true c)
      refine ⟨_, rfl, _, _, _, _, rfl, rfl, hA, atI_nat (j := 0) rfl, _, rfl, _, _, _, _, rfl, rfl, hB, atI_nat (j := 0) rfl, _, _, rfl, rfl, _, rfl, _, _, _, _, rfl, rfl, hA, atI_nat (j := 1) rfl, Rat.num x + Rat.num y, Rat.den x, Rat.den_nz x, rfl, ?_, ?_⟩
      · exact Nat.lt_of_lt_of_le zx (Nat.pow_le_pow_right (by decide) (by decide))
      · exact fin _ _ _ (add_same c1).symm
    · have hm1 : CMulW (Rat.num x) ((Rat.den y : Nat) : Int) := wide_mul (a := 4000) (b := 4000) z1.1 (by rw [Int.natAbs_natCast]; exact zy) (by decide) (by decide) (by decide)
      have hm2 : CMulW (Rat.num y) ((Rat.den x : Nat) : Int) := wide_mul (a := 4000) (b := 4000) z2.1 (by rw [Int.natAbs_natCast]; exact zx) (by decide) (by decide) (by decide)
      have hm3 : CMulW ((Rat.den x : Nat) : Int) ((Rat.den y : Nat) : Int) := wide_mul (a := 4000) (b := 4000) (by rw [Int.natAbs_natCast]; exact zx) (by rw [Int.natAbs_natCast]; exact zy) (by decide) (by decide) (by decide)
      refine ⟨_, rfl, _, _, _, _, rfl, rfl, hA, atI_nat (j := 0) rfl, _, rfl, _, _, _, _, rfl, rfl, hB, atI_nat (j := 1) rfl, _, _, rfl, rfl, hm1, _, rfl, _, _, _, _, rfl, rfl, hB, atI_nat (j := 0) rfl, _, rfl, _, _, _, _, rfl, rfl, hA, atI_nat (j := 1) rfl, _, _, rfl, rfl, hm2,
        _, _, rfl, rfl, _, rfl, _, _, _, _, rfl, rfl, hA, atI_nat (j := 1) rfl, _, rfl, _, _, _, _, rfl, rfl, hB, atI_nat (j := 1) rfl, _, _, rfl, rfl, hm3,
        Rat.num x * (Rat.den y : Int) + Rat.num y * (Rat.den x : Int), Rat.den x * Rat.den y, Nat.mul_ne_zero (Rat.den_nz x) (Rat.den_nz y), ?_, ?_, ?_⟩
      · show [V.int _, V.int (((Rat.den x : Nat) : Int) * ((Rat.den y : Nat) : Int))] = _
        rw [← Int.natCast_mul]
      · exact Nat.lt_trans (mul_lt_pow zx zy) (Nat.pow_lt_pow_right (by decide) (by decide))
      · exact fin _ _ _ (Rat.add_def x y).symm
theorem H_ratio_times (T : Txt K mg) : Hs P w K mg base 3 "ratio_times" ["one", "other"] [] (spRat2 K fun x y => x * y) := by
  obtain ⟨fd, F⟩ := F_ratio_times T
  refine ⟨_, fd, [], g_ratio_times T, F.kp, okN F sc_ratio_times (fun vs H Q E h => ?_) (fun cdv A outer s H vs Q E hr h => ?_), F.bindsN fun _ _ _ _ _ _ us hl => match us, hl with | [_, _], _ => rfl, .nil⟩
  · obtain ⟨x, y, v1, v2, rfl, _⟩ := h
    rfl
  · obtain ⟨x, y, v1, v2, rfl, d1, d2, z1, z2, q⟩ := h
    refine ⟨_, (pss_one (ps_ret (pe_callH (H_lowest_terms T) (hr.mono (by decide)) passL (pa_cons (pe_op op_mulW (pe_ix ix_tup (pv 0) pe_int (fun _ _ => rfl)) (pe_ix ix_tup (pv 1) pe_int (fun _ _ => rfl))) (pa_cons (pe_op op_mulW (pe_ix ix_tup (pv 0) pe_int (fun _ _ => rfl)) (pe_ix ix_tup (pv 1) pe_int (fun _ _ => rfl))) pa_nil))))), ?_⟩
    obtain ⟨a, rfl, hA⟩ := num0 d1
    obtain ⟨b, rfl, hB⟩ := num0 d2
    have zx : Rat.den x < 2 ^ 4000 := z1.2
    have zy : Rat.den y < 2 ^ 4000 := z2.2
    have hm1 : CMulW (Rat.num x) (Rat.num y) := wide_mul (a := 4000) (b := 4000) z1.1 z2.1 (by decide) (by decide) (by decide)
    have hm3 : CMulW ((Rat.den x : Nat) : Int) ((Rat.den y : Nat) : Int) := wide_mul (a := 4000) (b := 4000) (by rw [Int.natAbs_natCast]; exact zx) (by rw [Int.natAbs_natCast]; exact zy) (by decide) (by decide) (by decide)
    refine ⟨_, rfl, _, _, _, _, rfl, rfl, hA, atI_nat (j := 0) rfl, _, rfl, _, _, _, _, rfl, rfl, hB, atI_nat (j := 0) rfl, _, _, rfl, rfl, hm1, _, rfl, _, _, _, _, rfl, rfl, hA, atI_nat (j := 1) rfl, _, rfl, _, _, _, _, rfl, rfl, hB, atI_nat (j := 1) rfl, _, _, rfl, rfl, hm3,
      Rat.num x * Rat.num y, Rat.den x * Rat.den y, Nat.mul_ne_zero (Rat.den_nz x) (Rat.den_nz y), ?_, Nat.lt_trans (mul_lt_pow zx zy) (Nat.pow_lt_pow_right (by decide) (by decide)), fun p hp => q _ _ (Same.upd hp) ?_⟩
    · show [V.int _, V.int (((Rat.den x : Nat) : Int) * ((Rat.den y : Nat) : Int))] = _
      rw [← Int.natCast_mul]
    · show Dp K _ _ (numD (p := 0) (Rat.mul x y))
      rw [show Rat.mul x y = _ from Rat.mul_def x y]
      exact num0_mk (x := (Rat.normalize (Rat.num x * Rat.num y) (Rat.den x * Rat.den y) (Nat.mul_ne_zero (Rat.den_nz x) (Rat.den_nz y)) : Rat)) upd_same
/-! ## sparedproducts.figures -/
/-- a method of figures with two numbers -/
def spNum2 (K : PySem.W.Frag) (f : ∀ {p : Nat}, Car p → Car p → Car p) : Sp := fun vs H Q _ => ∃ (a : Addr) (p : Nat) (x y : Car p) (v1 v2 : V), vs = [.ref a, v1, v2] ∧ FigAt K H a p ∧ Dp K H v1 (numD x) ∧ Dp K H v2 (numD y) ∧ Sz p 4000 x ∧ Sz p 4000 y ∧
  ∀ v H', Same H H' → Dp K H' v (numD (f x y)) → Q v H'
theorem HM_Figures_plus (T : Txt K mg) : HsM P w K mg base 4 (He.ga K "Figures") "plus" ["self", "one", "other"] (spNum2 K fun x y => x + y) := by
  obtain ⟨fd, F⟩ := F_Figures_plus T
  refine ⟨_, fd, cl_Figures T, me_Figures_plus T, okN F sc_Figures_plus (fun vs H Q E h => ?_) (fun cdv A outer s H vs Q E hr h => ?_), F.bindsN fun _ _ _ _ _ _ us hl => match us, hl with | [_, _, _], _ => rfl⟩
  · obtain ⟨a, p, x, y, v1, v2, rfl, _⟩ := h
    rfl
  · obtain ⟨a, p, x, y, v1, v2, rfl, hF, d1, d2, z1, z2, q⟩ := h
    refine ⟨_, (pss_cons (ps_if (pt_cmp (pc_eqI (pe_fld (pv 0) rfl) pe_int))
        (pss_one (ps_ret (pe_callH (H_ratio_plus T) (hr.mono (by decide)) passL (pa_cons (pv 1) (pa_cons (pv 2) pa_nil)))))
        pss_nil)
      (pss_one (ps_ret (pe_op op_mod (pe_op op_add (pv 1) (pv 2)) (pe_fld (pv 0) rfl))))), ?_⟩
    obtain ⟨hp, dx, vz, vo, hA, _, _⟩ := id hF
    refine ⟨_, rfl, a, _, dx, _, _, rfl, hA, cl_Figures T, na_Figures_prime T, rfl, _, _, rfl, rfl, _, rfl, ?_⟩
    cases p with
    | zero => exact iteT ⟨_, rfl, _, rfl, x, y, v1, v2, rfl, d1, d2, z1, z2, q⟩
    | succ n =>
      obtain rfl := numS d1
      obtain rfl := numS d2
      refine iteF ⟨_, rfl, _, rfl, _, _, rfl, rfl, _, rfl, a, _, dx, _, _, rfl, hA, cl_Figures T, na_Figures_prime T, rfl, _, _, rfl, rfl, by show (0 : Int) < ((n + 1 : Nat) : Int); omega, q _ _ (Same.refl _) ?_⟩
      show Dp K H (.int ((((Fin.val x : Nat) : Int) + ((Fin.val y : Nat) : Int)) % ((n + 1 : Nat) : Int))) _
      rw [← car_add_val]
      exact .int _
theorem HM_Figures_times (T : Txt K mg) : HsM P w K mg base 4 (He.ga K "Figures") "times" ["self", "one", "other"] (spNum2 K fun x y => x * y) := by
  obtain ⟨fd, F⟩ := F_Figures_times T
  refine ⟨_, fd, cl_Figures T, me_Figures_times T, okN F sc_Figures_times (fun vs H Q E h => ?_) (fun cdv A outer s H vs Q E hr h => ?_), F.bindsN fun _ _ _ _ _ _ us hl => match us, hl with | [_, _, _], _ => rfl⟩
  · obtain ⟨a, p, x, y, v1, v2, rfl, _⟩ := h
    rfl
  · obtain ⟨a, p, x, y, v1, v2, rfl, hF, d1, d2, z1, z2, q⟩ := h
    refine ⟨_, (pss_cons (ps_if (pt_cmp (pc_eqI (pe_fld (pv 0) rfl) pe_int))
        (pss_one (ps_ret (pe_callH (H_ratio_times T) (hr.mono (by decide)) passL (pa_cons (pv 1) (pa_cons (pv 2) pa_nil)))))
        pss_nil)
      (pss_one (ps_ret (pe_op op_mod (pe_op op_mulW (pv 1) (pv 2)) (pe_fld (pv 0) rfl))))), ?_⟩
    obtain ⟨hp, dx, vz, vo, hA, _, _⟩ := id hF
    refine ⟨_, rfl, a, _, dx, _, _, rfl, hA, cl_Figures T, na_Figures_prime T, rfl, _, _, rfl, rfl, _, rfl, ?_⟩
    cases p with
    | zero => exact iteT ⟨_, rfl, _, rfl, x, y, v1, v2, rfl, d1, d2, z1, z2, q⟩
    | succ n =>
      obtain rfl := numS d1
      obtain rfl := numS d2
      have l1 := car_lt x
      have l2 := car_lt y
      have hm : CMulW ((Fin.val x : Nat) : Int) ((Fin.val y : Nat) : Int) := wide_mul (a := 8) (b := 8) (by rw [Int.natAbs_natCast]; omega) (by rw [Int.natAbs_natCast]; omega) (by decide) (by decide) (by decide)
      refine iteF ⟨_, rfl, _, rfl, _, _, rfl, rfl, hm, _, rfl, a, _, dx, _, _, rfl, hA, cl_Figures T, na_Figures_prime T, rfl, _, _, rfl, rfl, by show (0 : Int) < ((n + 1 : Nat) : Int); omega, q _ _ (Same.refl _) ?_⟩
      show Dp K H (.int ((((Fin.val x : Nat) : Int) * ((Fin.val y : Nat) : Int)) % ((n + 1 : Nat) : Int))) _
      rw [← car_mul_val]
      exact .int _
end
end K21
set_option maxRecDepth 100000
set_option maxHeartbeats 4000000
namespace K21
open PySem PySem.Spec PyProof.Rows L2
/-! ## a heap without some of its objects -/
def Off (M : List Addr) (H : Hp) : Hp := fun a => if a ∈ M then none else H a
theorem off_in {M : List Addr} {H : Hp} {a : Addr} (h : a ∈ M) : Off M H a = none := if_pos h
theorem off_out {M : List Addr} {H : Hp} {a : Addr} (h : a ∉ M) : Off M H a = H a := if_neg h
theorem off_some {M : List Addr} {H : Hp} {a : Addr} {x : HO} (h : Off M H a = some x) : a ∉ M ∧ H a = some x := by
  by_cases c : a ∈ M
  · rw [off_in c] at h
    exact nomatch h
  · rw [off_out c] at h
    exact ⟨c, h⟩
theorem off_nil {H : Hp} : Off [] H = H := funext fun a => off_out (M := []) (a := a) (H := H) (fun z => nomatch z)
theorem off_upd {M : List Addr} {H : Hp} {D : Addr} {x : HO} (h : D ∈ M) : Off M (upd H D x) = Off M H := funext fun a => by
  by_cases c : a ∈ M
  · rw [off_in c, off_in c]
  · rw [off_out c, off_out c, upd_ne (fun e => by subst e; exact c h)]
theorem off_fresh {M : List Addr} {H : Hp} {D : Addr} (h : H D = none) : Off (D :: M) H = Off M H := funext fun a => by
  by_cases c : a ∈ M
  · rw [off_in c, off_in (List.mem_cons_of_mem _ c)]
  · by_cases e : a = D
    · rw [e, off_in List.mem_cons_self, off_out (e ▸ c), h]
    · rw [off_out c, off_out (fun z => (List.mem_cons.mp z).elim e c)]
theorem _root_.L2.Same.ofOff {M : List Addr} {H : Hp} : Same (Off M H) H := fun a x h => (off_some h).2
theorem _root_.L2.Same.off {M : List Addr} {H H' : Hp} (e : Same H H') : Same (Off M H) (Off M H') := fun a x h => by
  obtain ⟨c, h⟩ := off_some h
  rw [off_out c]
  exact e _ _ h
theorem _root_.L2.Same.offMore {D : Addr} {M : List Addr} {H H' : Hp} (e : Same (Off M H) (Off M H')) : Same (Off (D :: M) H) (Off (D :: M) H') := fun a x h => by
  obtain ⟨c, h⟩ := off_some h
  have c2 : a ∉ M := fun z => c (List.mem_cons_of_mem _ z)
  rw [off_out c, ← off_out (H := H') c2]
  exact e _ _ (by rw [off_out c2]; exact h)
theorem _root_.L2.Same.offLess {D : Addr} {M : List Addr} {H : Hp} : Same (Off (D :: M) H) (Off M H) := fun a x h => by
  obtain ⟨c, h⟩ := off_some h
  rw [off_out fun z => c (List.mem_cons_of_mem _ z)]
  exact h
theorem _root_.L2.Same.offIn {M : List Addr} {H H0 : Hp} {D : Addr} {x : HO} (e : Same H0 (Off M H)) (h : D ∈ M) : Same H0 (Off M (upd H D x)) := by
  rw [off_upd h]
  exact e
/-- a new object -/
theorem _root_.L2.Same.offNew {M : List Addr} {H H0 : Hp} {p : Addr} {x : HO} (e : Same H0 (Off M H)) (h : H p = none) : Same H0 (Off M (upd H p x)) := e.trans (Same.off (Same.upd h))
/-- an instance may change: tuples stand -/
theorem sqT_ins {K : PySem.W.Frag} {H : Hp} {a C dx : Addr} {fs : List (Str × V)} {y : HO} (hx : H a = some (.ins C dx fs)) {b : Addr} {ys : List V} (h : SqT K H b ys) : SqT K (upd H a y) b ys := by
  have ne : ∀ x, H b = some x → x ≠ .ins C dx fs → upd H a y b = some x := fun x e n => by
    rw [upd_ne (fun z => by subst z; rw [hx] at e; exact n (Option.some.inj e).symm)]
    exact e
  rcases h with (h | ⟨o, h⟩) | h
  · exact .inl (.inl (ne _ h fun z => nomatch z))
  · exact .inl (.inr ⟨o, ne _ h fun z => nomatch z⟩)
  · exact .inr h
/-- tuples alone are never in lists -/
theorem sqT_off {K : PySem.W.Frag} {M : List Addr} {H : Hp} (hM : ∀ m ∈ M, ∃ l, H m = some (.lst l)) (a : Addr) (xs : List V) (h : SqT K H a xs) : SqT K (Off M H) a xs := by
  have no : ∀ x, H a = some x → (∀ l, x ≠ .lst l) → Off M H a = some x := fun x e n => by
    by_cases c : a ∈ M
    · obtain ⟨l, q⟩ := hM a c
      rw [e] at q
      exact absurd (Option.some.inj q) (n l)
    · rw [off_out c]
      exact e
  rcases h with (h | ⟨o, h⟩) | h
  · exact .inl (.inl (no _ h fun l z => nomatch z))
  · exact .inl (.inr ⟨o, no _ h fun l z => nomatch z⟩)
  · exact .inr h
theorem Tp.off {K : PySem.W.Frag} {M : List Addr} {H : Hp} {n : Nat} {d : PyData} {v : V} (t : Tp n d) (hM : ∀ m ∈ M, ∃ l, H m = some (.lst l)) (h : Dp K H v d) : Dp K (Off M H) v d := t.dp (sqT_off hM) h
/-- (a, b, ..) = a tuple, within a comprehension -/
theorem pg_tupK (K : PySem.W.Frag) {X : Cx} {pos : Pos} {es : List Expr} {k : Nat} {t : TGs} {n : Nat} (hK : X.K = K) (hc : X.calm = true) (h : PGs X es t)
    (hn : (assignEach es X.env).length = n := by rfl) (hst : (assignEach es X.env).findIdx? (·.1) = none := by rfl) : PG X (.Tuple es k pos) (gTup K n t) := by
  subst hK
  exact pg_tup hc h hn hst
theorem ix_tupK (K : PySem.W.Frag) {X : Cx} (hK : X.K = K) : IxR X (rIxT K) := by
  subst hK
  exact ix_tup
theorem ix_listK (K : PySem.W.Frag) {X : Cx} (hK : X.K = K) : IxR X (rIxL K) := by
  subst hK
  exact ix_list
def rTup (K : PySem.W.Frag) : List V → Hp → VK → Prop := fun xs H Q => ∃ p ys, xs = [.ref p] ∧ ((SqL K H p ys ∧ ∀ l, H l = none → Q (.ref l) (upd H l (.tup ys))) ∨ (SqT K H p ys ∧ Q (.ref p) H))
theorem call_tupK (K : PySem.W.Frag) {X : Cx} (hK : X.K = K) : CallR X (.type "tuple") (rTup K) := by
  subst hK
  exact call_tuple_of
theorem few {n : Nat} (h : n ≤ 1000) : n < sizeLine := by
  rw [sizeLine_eq]
  omega
/-- a list at L that is being filled: H0 the heap before it was made -/
structure LAt (K : PySem.W.Frag) (M : List Addr) (H0 : Hp) (L : Addr) (acc : List V) (ds : List PyData) (H : Hp) : Prop where
  s : Same (Off M H0) (Off (L :: M) H)
  at_ : H L = some (.lst acc)
  all : DpAll K (Off (L :: M) H) acc ds
section
variable {K : PySem.W.Frag} {M : List Addr} {H0 H H' : Hp} {L : Addr} {acc : List V} {ds : List PyData}
theorem LAt.new (h : H0 L = none) : LAt K M H0 L [] [] (upd H0 L (.lst [])) := ⟨by rw [off_upd List.mem_cons_self, off_fresh h]; exact Same.refl _, upd_same, .nil⟩
theorem LAt.same (h : LAt K M H0 L acc ds H) (e : Same H H') : LAt K M H0 L acc ds H' := ⟨h.s.trans (Same.off e), e _ _ h.at_, (Same.off e).dpAll h.all⟩
theorem LAt.off (h : LAt K M H0 L acc ds H) (e : Same (Off (L :: M) H) (Off (L :: M) H')) (eL : H' L = H L) : LAt K M H0 L acc ds H' := ⟨h.s.trans e, eL.trans h.at_, e.dpAll h.all⟩
theorem LAt.push (h : LAt K M H0 L acc ds H) {y : V} {d : PyData} (hy : Dp K (Off (L :: M) H) y d) : LAt K M H0 L (acc ++ [y]) (ds ++ [d]) (upd H L (.lst (acc ++ [y]))) := by
  refine ⟨?_, upd_same, ?_⟩
  · rw [off_upd List.mem_cons_self]
    exact h.s
  · rw [off_upd List.mem_cons_self]
    exact h.all.snoc hy
theorem LAt.len (h : LAt K M H0 L acc ds H) : acc.length = ds.length := h.all.len
theorem LAt.sq (h : LAt K M H0 L acc ds H) : Same (Off M H0) H := h.s.trans Same.ofOff
theorem LAt.sqL (h : LAt K M H0 L acc ds H) : SqL K H L acc := SqL.of h.at_
theorem LAt.sq0 (h : LAt K [] H0 L acc ds H) : Same H0 H := by
  have := h.sq
  rw [off_nil] at this
  exact this
theorem LAt.lst1 (h : LAt K [] H0 L acc ds H) : ∀ m ∈ [L], ∃ l, H m = some (.lst l) := fun m hm => by
  obtain rfl := List.mem_singleton.mp hm
  exact ⟨_, h.at_⟩
/-- tuple(L) -/
theorem LAt.tup0 {Q : VK} (h : LAt K [] H0 L acc ds H) (q : ∀ v H', Same H0 H' → Dp K H' v (.tuple ds) → Q v H') :
    ∃ (p : Addr) (ys : List V), [V.ref L] = [V.ref p] ∧ ((SqL K H p ys ∧ ∀ l, H l = none → Q (.ref l) (upd H l (.tup ys))) ∨ (SqT K H p ys ∧ Q (.ref p) H)) :=
  ⟨L, acc, rfl, .inl ⟨h.sqL, fun l hl => q _ _ (h.sq0.trans (Same.upd hl)) (Dp.newT upd_same ((Same.upd hl).dpAll (Same.ofOff.dpAll h.all)))⟩⟩
end
/-- a list comprehension that builds data: where it stands before turn i -/
def LcInv (K : PySem.W.Frag) (M : List Addr) (I : Hp → Prop) (Acc : Nat → List PyData → Prop) (H1 : Hp) (D : Addr) (i : Nat) (H : Hp) : Prop :=
  Same (Off M H1) (Off (D :: M) H) ∧ I H ∧ ∃ (ds : List PyData) (acc : List V), Acc i ds ∧ ds.length = i ∧ H D = some (.lst acc) ∧ DpAll K (Off (D :: M) H) acc ds
def LcNx (K : PySem.W.Frag) (M : List Addr) (I : Hp → Prop) (Acc : Nat → List PyData → Prop) (H1 : Hp) (D : Addr) (i : Nat) (y : V) (H4 : Hp) : Prop :=
  ∃ acc, H4 D = some (.lst acc) ∧ acc.length < sizeLine ∧ LcInv K M I Acc H1 D (i + 1) (upd H4 D (.lst (acc ++ [y])))
theorem lc_nx {K : PySem.W.Frag} {M : List Addr} {I : Hp → Prop} {Acc : Nat → List PyData → Prop} {H1 H H4 : Hp} {D : Addr} {i : Nat} {y : V} {acc : List V} {ds : List PyData} (d : PyData) (hi : i < sizeLine) (s : Same (Off M H1) (Off (D :: M) H)) (hd : H D = some (.lst acc)) (hl : ds.length = i)
    (ha : DpAll K (Off (D :: M) H) acc ds) (e : Same (Off (D :: M) H) (Off (D :: M) H4)) (hd4 : H4 D = H D) (hy : Dp K (Off (D :: M) H4) y d) (hA : Acc (i + 1) (ds ++ [d])) (hI : I (upd H4 D (.lst (acc ++ [y])))) : LcNx K M I Acc H1 D i y H4 := by
  refine ⟨acc, hd4.trans hd, by rw [ha.len, hl]; exact hi, ?_, hI, ds ++ [d], acc ++ [y], hA, by simp [hl], upd_same, ?_⟩
  · rw [off_upd List.mem_cons_self]
    exact s.trans e
  · rw [off_upd List.mem_cons_self]
    exact (e.dpAll ha).snoc hy
theorem lc_D {K : PySem.W.Frag} {J : It} {n : Nat} {G : Hp → Prop} {Y : Nat → Hp → V → Hp → Prop} (w : Walk J n G Y) {g : TG} {te : TE} {vs : List Nat} {σ : L2.St} {H1 : Hp} {D : Addr} {Qd : Hp → Prop}
    (M : List Addr) (I : Hp → Prop) (Acc : Nat → List PyData → Prop) (hD : H1 D = none) (h0 : I (upd H1 D (.lst []))) (a0 : Acc 0 [])
    (hG : ∀ i H, i ≤ n → Same (Off M H1) (Off (D :: M) H) → I H → G H)
    (hs : ∀ i x ds acc H H', i < n → Same (Off M H1) (Off (D :: M) H) → I H → Acc i ds → ds.length = i → H D = some (.lst acc) → DpAll K (Off (D :: M) H) acc ds → Y i H x H' → g x (wipe σ vs) H' fun σ2 H2 => wipe σ2 vs = wipe σ vs ∧ te σ2 H2 fun y H4 => LcNx K M I Acc H1 D i y H4)
    (hd : ∀ H ds acc, Same (Off M H1) (Off (D :: M) H) → I H → Acc n ds → ds.length = n → H D = some (.lst acc) → DpAll K (Off (D :: M) H) acc ds → Qd H) :
    ∃ W : Nat → Nat → Hp → Prop, (∃ m, W 0 m (upd H1 D (.lst []))) ∧ ∀ i m H, W i m H →
      (J.stop i H ∧ Qd H) ∨ (J.go i H ∧ ∃ Nx : Hp → Prop, (∀ H', Nx H' → ∃ m', m' < m ∧ W (i + 1) m' H') ∧ ∀ x H', J.yld i H x H' → g x (wipe σ vs) H' fun σ2 H2 => wipe σ2 vs = wipe σ vs ∧ tYes σ2 H2 fun b H3 =>
        if b = true then te σ2 H3 fun y H4 => ∃ acc, H4 D = some (.lst acc) ∧ acc.length < sizeLine ∧ Nx (upd H4 D (.lst (acc ++ [y]))) else Nx H3) := by
  refine lc_it w (LcInv K M I Acc H1 D) ⟨?_, h0, [], [], a0, rfl, upd_same, .nil⟩ (fun i H hi h => hG i H hi h.1 h.2.1) (fun i x H H' hi h hy => ?_) (fun H h => ?_)
  · rw [off_upd List.mem_cons_self, off_fresh hD]
    exact Same.refl _
  · obtain ⟨s, hI, ds, acc, hA, hl, hacc, hall⟩ := h
    have q := hs i x ds acc H H' hi s hI hA hl hacc hall hy
    have e : (fun (σ2 : L2.St) (H2 : Hp) => wipe σ2 vs = wipe σ vs ∧ tYes σ2 H2 fun b H3 => if b = true then te σ2 H3 fun y H4 => ∃ acc, H4 D = some (.lst acc) ∧ acc.length < sizeLine ∧ LcInv K M I Acc H1 D (i + 1) (upd H4 D (.lst (acc ++ [y]))) else LcInv K M I Acc H1 D (i + 1) H3) =
        fun σ2 H2 => wipe σ2 vs = wipe σ vs ∧ te σ2 H2 fun y H4 => LcNx K M I Acc H1 D i y H4 := by
      funext σ2 H2
      have e2 : ∀ A B : Prop, (if true = true then A else B) = A := fun A B => if_pos rfl
      exact congrArg (fun z => wipe σ2 vs = wipe σ vs ∧ z) (e2 (te σ2 H2 fun y H4 => LcNx K M I Acc H1 D i y H4) (LcInv K M I Acc H1 D (i + 1) H2))
    rw [e]
    exact q
  · obtain ⟨s, hI, ds, acc, hA, hl, hacc, hall⟩ := h
    exact hd H ds acc s hI hA hl hacc hall
/-- the data of a comprehension whose i-th is f i -/
def Lf (f : Nat → PyData) (i : Nat) (ds : List PyData) : Prop := ds = (List.range i).map f
theorem Lf.zero {f : Nat → PyData} : Lf f 0 [] := rfl
theorem Lf.succ {f : Nat → PyData} {i : Nat} {ds : List PyData} (h : Lf f i ds) : Lf f (i + 1) (ds ++ [f i]) := by
  unfold Lf at *
  rw [h, List.range_succ, List.map_append]
  rfl
end K21
set_option maxRecDepth 100000
set_option maxHeartbeats 4000000
namespace K21
open PySem PySem.Spec PyProof.Rows L2
section
variable {P : Program} {w : World} {K : PySem.W.Frag} {mg : Str → Option Value} {base : Heap}
theorem putF_ne {f g : Str} {v u : V} {r : List (Str × V)} (h : ¬ g = f) : putF f v ((g, u) :: r) = (g, u) :: putF f v r := if_neg h
theorem putF_nil {f : Str} {v : V} : putF f v [] = [(f, v)] := rfl
/-- a new instance at a: what __init__ of figures is called on -/
def spFigInit (K : PySem.W.Frag) : Sp := fun vs H Q _ => ∃ (H0 : Hp) (a dx : Addr) (p : Nat), vs = [.ref a, .int (p : Int)] ∧ p ∈ [0, 2, 3, 5, 7, 11, 13] ∧ Same H0 H ∧ H0 a = none ∧ H a = some (.ins (He.ga K "Figures") dx []) ∧
  ∀ H', Same H0 H' → FigAt K H' a p → Q .non H'
theorem HC_Figures (T : Txt K mg) : HsC P w K mg base 2 "Figures" (He.ga K "Figures") ["self", "prime"] (spFigInit K) := by
  obtain ⟨fd, F⟩ := F_Figures_init T
  refine ⟨_, fd, mk_Figures T, g_Figures T, okN F sc_Figures_init (fun vs H Q E h => ?_) (fun cdv A outer s H vs Q E hr h => ?_), F.bindsN fun _ _ _ _ _ _ us hl => match us, hl with | [_, _], _ => rfl⟩
  · obtain ⟨H0, a, dx, p, rfl, _⟩ := h
    rfl
  · obtain ⟨H0, a, dx, p, rfl, hp, s0, h0, hA, q⟩ := h
    refine ⟨_, (pss_cons (ps_if (PW.pt (pw_or (pt_not (pt_val (pe_callH (H_is_whole1 T) (hr.mono (by decide)) passL (pa_cons (pv 1) pa_nil)))) (pw_or1 (pt_cmpR op_notIn_seq (pv 1) (pe_glob (v := .ref (He.ga K "KNOWN_PRIMES")) rfl (g_KNOWN_PRIMES T) rfl) (by with_unfolding_all rfl)))))
        (pss_one ps_never)
        pss_nil)
      (pss_cons (ps_fld (pv 0) (pv 1) rfl)
      (pss_cons (ps_fld (pv 0) (pe_ifExp (pt_cmp (pc_eqI (pv 1) pe_int)) (pe_tup (pa_cons pe_int (pa_cons pe_int pa_nil))) pe_int) rfl)
      (pss_one (ps_fld (pv 0) (pe_ifExp (pt_cmp (pc_eqI (pv 1) pe_int)) (pe_tup (pa_cons pe_int (pa_cons pe_int pa_nil))) pe_int) rfl))))), ?_⟩
    have hin : inV (.int (p : Int)) [.int 0, .int 2, .int 3, .int 5, .int 7, .int 11, .int 13] = true := by
      simp only [List.mem_cons, List.not_mem_nil, or_false] at hp
      rcases hp with e | e | e | e | e | e | e <;> subst e <;> decide +kernel
    have hb : (p = 0 ∨ 2 ≤ p) ∧ p ≤ 13 := by
      simp only [List.mem_cons, List.not_mem_nil, or_false] at hp
      omega
    have fin : ∀ (H' : Hp) (vz vo : V), Same H0 H' → H' a = some (.ins (He.ga K "Figures") dx [("prime", .int (p : Int)), ("zero", vz), ("one", vo)]) → Dp K H' vz (numD (0 : Car p)) → Dp K H' vo (numD (1 : Car p)) → Q .non H' := fun H' vz vo e1 e2 e3 e4 =>
      q H' e1 ⟨hb, dx, vz, vo, e2, e3, e4⟩
    refine ⟨_, rfl, (p : Int), none, none, true, rfl, (decide_eq_true ⟨fun l e => (nomatch e), fun l e => (nomatch e)⟩).symm, _, rfl, iteF ?_⟩
    refine ⟨_, rfl, _, _, rfl, .inr (kp_tuple T H), rfl, rfl, _, rfl, ?_⟩
    show if (!inV (.int (p : Int)) [.int 0, .int 2, .int 3, .int 5, .int 7, .int 11, .int 13]) = true then _ else _
    rw [hin]
    refine iteF ?_
    have nm : ∀ {X Y : HO} {t : Addr}, upd H a X t = none → t ≠ a := fun {X Y t} ht e => by
      rw [e, upd_same] at ht
      exact nomatch ht
    refine ⟨_, rfl, _, rfl, a, _, dx, _, rfl, hA, cl_Figures T, na_Figures_prime T, by decide, ?_⟩
    rw [putF_nil]
    cases p with
    | zero =>
      refine ⟨_, rfl, _, _, rfl, rfl, _, rfl, iteT ⟨by show 2 ≤ sizeLine; decide, fun t ht => ?_⟩⟩
      have n1 : t ≠ a := nm (Y := .own 0) ht
      refine ⟨_, rfl, a, _, dx, _, rfl, Same.upd ht _ _ upd_same, cl_Figures T, na_Figures_zero T, by show 1 < 1000; decide, ?_⟩
      rw [putF_ne (by decide), putF_nil]
      refine ⟨_, rfl, _, _, rfl, rfl, _, rfl, iteT ⟨by show 2 ≤ sizeLine; decide, fun t2 ht2 => ?_⟩⟩
      have n2 : t2 ≠ a := fun e => by
        rw [e, upd_same] at ht2
        exact nomatch ht2
      have n3 : t ≠ t2 := fun e => by
        rw [← e, upd_ne n1, upd_same] at ht2
        exact nomatch ht2
      refine ⟨_, rfl, a, _, dx, _, rfl, Same.upd ht2 _ _ upd_same, cl_Figures T, na_Figures_one T, by show 2 < 1000; decide, ?_⟩
      rw [putF_ne (by decide), putF_ne (by decide), putF_nil]
      have h0t : H0 t = none := Option.eq_none_iff_forall_ne_some.mpr fun x e => by
        have q1 := s0 _ _ e
        have q2 := ht
        rw [upd_ne n1, q1] at q2
        exact nomatch q2
      refine fin _ _ _ ?_ upd_same ?_ ?_
      · exact ((((s0.put h0).trans (Same.upd ht)).put h0).trans (Same.upd ht2)).put h0
      · refine num0_mk (x := (0 : Car 0)) ?_
        rw [upd_ne n1, upd_ne n3, upd_ne n1, upd_same]
        rfl
      · refine num0_mk (x := (1 : Car 0)) ?_
        rw [upd_ne n2, upd_same]
        rfl
    | succ n =>
      have hn : ¬ (((n + 1 : Nat) : Int) = 0) := by omega
      refine ⟨_, rfl, _, _, rfl, rfl, _, rfl, ?_⟩
      show if decide (((n + 1 : Nat) : Int) = 0) = true then _ else _
      rw [decide_eq_false hn]
      refine iteF ⟨_, rfl, a, _, dx, _, rfl, upd_same, cl_Figures T, na_Figures_zero T, by show 1 < 1000; decide, ?_⟩
      rw [putF_ne (by decide), putF_nil]
      refine ⟨_, rfl, _, _, rfl, rfl, _, rfl, ?_⟩
      show if decide (((n + 1 : Nat) : Int) = 0) = true then _ else _
      rw [decide_eq_false hn]
      refine iteF ⟨_, rfl, a, _, dx, _, rfl, upd_same, cl_Figures T, na_Figures_one T, by show 2 < 1000; decide, ?_⟩
      rw [putF_ne (by decide), putF_ne (by decide), putF_nil]
      refine fin _ _ _ (((s0.put h0).put h0).put h0) upd_same ?_ ?_
      · exact .int _
      · have e : Fin.val (1 : Car (n + 1)) = 1 := by
          show 1 % (n + 1) = 1
          exact Nat.mod_eq_of_lt (by omega)
        show Dp K _ _ (.int ((Fin.val (1 : Car (n + 1)) : Nat) : Int))
        rw [e]
        exact .int _
/-- two figures of the same prime are equal -/
def spFigEq (K : PySem.W.Frag) : Sp := fun vs H Q _ => ∃ (a b : Addr) (p : Nat), vs = [.ref a, .ref b] ∧ FigAt K H a p ∧ FigAt K H b p ∧ Q (.bl true) H
theorem okN0 {x qual : Str} {st : Stmt} {dvs : List V} {kws : List (Str × V)} {f : Addr} {fd : FuncData} {N ps : List Str} {k : Nat} {sp : Sp} (F : FunD K x qual (defArgs st) (defBody st) (defScope st) dvs kws f fd) (S : FnScope N ps (defScope st)) (len : ∀ vs H Q E, sp vs H Q E → vs.length = ps.length)
    (hbody : ∀ (cdv : Value) (A : Around) (outer : List Env) (s : Shared) (H : Hp) (vs : List V) (Q : VK) (E : XK), Room k (A.deeper (envOfC qual (defScope st) s.heap.objs.size f cdv)) → sp vs H Q E →
      ∃ t, PSs (cxOf CX0 P w K mg base N qual (defScope st) f cdv A outer s H E).nox (defBody st) t ∧ t { nx := fun _ H' => Q .non H', rt := Q } (start N vs) H) : FnOk P w K mg base CX0 (k + 1) f fd ps sp := by
  refine F.ok S len fun cdv A outer s H vs Q E hr hsp => ?_
  obtain ⟨t, h, q⟩ := hbody cdv A outer s H vs Q E hr hsp
  exact ⟨t, h.nox, q⟩
theorem HM_Figures_eq (T : Txt K mg) : ∃ fd, FnOk P w K mg base CX0 1 (He.ma K (He.ga K "Figures") "__eq__") fd ["self", "other"] (spFigEq K) ∧ Binds K fd ["self", "other"] [] := by
  obtain ⟨fd, F⟩ := F_Figures_eq T
  refine ⟨fd, ?_, F.bindsN fun _ _ _ _ _ _ us hl => match us, hl with | [_, _], _ => rfl⟩
  refine okN0 F sc_Figures_eq (fun vs H Q E h => ?_) (fun cdv A outer s H vs Q E hr h => ?_)
  · obtain ⟨a, b, p, rfl, _⟩ := h
    rfl
  · obtain ⟨a, b, p, rfl, h1, h2, q⟩ := h
    refine ⟨_, (pss_one (ps_ret (pe_and (pe_callB (C8.call_isC (ic_Figures T)) rfl (n_isinstance T) (by decide +kernel) (pa_cons (pv 1) (pa_cons (pe_glob (v := .ref (He.ga K "Figures")) rfl (g_Figures T) rfl) pa_nil))) (pe_one (pe_cmp (pc_eqI (pe_fld (pv 0) rfl) (pe_fld (pv 1) rfl))))))), ?_⟩
    obtain ⟨hp, dx, vz, vo, hA, _, _⟩ := h1
    obtain ⟨hp, dy, vz2, vo2, hB, _, _⟩ := h2
    refine ⟨_, rfl, _, _, _, rfl, hB, true, rfl, ?_⟩
    refine iteT ⟨_, rfl, a, _, dx, _, _, rfl, hA, cl_Figures T, na_Figures_prime T, rfl, _, rfl, b, _, dy, _, _, rfl, hB, cl_Figures T, na_Figures_prime T, rfl, _, _, rfl, rfl, ?_⟩
    show Q (.bl (decide ((p : Int) = (p : Int)))) H
    rw [decide_eq_true rfl]
    exact q
/-- a number, or what is none -/
def spIsNum (K : PySem.W.Frag) : Sp := fun vs H Q _ => ∃ (a : Addr) (p : Nat) (v : V), vs = [.ref a, v] ∧ FigAt K H a p ∧ ((∃ x : Car p, Dp K H v (numD x) ∧ Q (.bl true) H) ∨ (v = .int ((if p = 0 then 1 else p : Nat) : Int) ∧ Q (.bl false) H))
theorem HM_Figures_is_number (T : Txt K mg) : HsM P w K mg base 3 (He.ga K "Figures") "is_number" ["self", "thing"] (spIsNum K) := by
  obtain ⟨fd, F⟩ := F_Figures_is_number T
  refine ⟨_, fd, cl_Figures T, me_Figures_is_number T, okN F sc_Figures_is_number (fun vs H Q E h => ?_) (fun cdv A outer s H vs Q E hr h => ?_), F.bindsN fun _ _ _ _ _ _ us hl => match us, hl with | [_, _], _ => rfl⟩
  · obtain ⟨a, p, v, rfl, _⟩ := h
    rfl
  · obtain ⟨a, p, v, rfl, hF, h⟩ := h
    refine ⟨_, (pss_cons (ps_if (pt_cmp (pc_eqI (pe_fld (pv 0) rfl) pe_int))
        (pss_one (ps_ret (pe_callH (H_is_ratio T) (hr.mono (by decide)) passL (pa_cons (pv 1) pa_nil))))
        pss_nil)
      (pss_one (ps_ret (pe_callH (H_is_whole3 T) (hr.mono (by decide)) passL (pa_cons (pv 1) (pa_cons pe_int (pa_cons (pe_op op_sub (pe_fld (pv 0) rfl) pe_int) pa_nil))))))), ?_⟩
    obtain ⟨hp, dx, vz, vo, hA, _, _⟩ := id hF
    refine ⟨_, rfl, a, _, dx, _, _, rfl, hA, cl_Figures T, na_Figures_prime T, rfl, _, _, rfl, rfl, _, rfl, ?_⟩
    cases p with
    | zero =>
      refine iteT ⟨_, rfl, ?_⟩
      rcases h with ⟨x, hx, q⟩ | ⟨rfl, q⟩
      · obtain ⟨b, rfl, hb⟩ := num0 hx
        exact .inr ⟨b, x, rfl, hb, q⟩
      · exact .inl ⟨_, rfl, q⟩
    | succ n =>
      show if decide (((n + 1 : Nat) : Int) = 0) = true then _ else _
      rw [decide_eq_false (by omega)]
      refine iteF ⟨_, rfl, _, rfl, a, _, dx, _, _, rfl, hA, cl_Figures T, na_Figures_prime T, rfl, _, _, rfl, rfl, ?_⟩
      rcases h with ⟨x, hx, q⟩ | ⟨rfl, q⟩
      · obtain rfl := numS hx
        have lx := car_lt x
        exact ⟨_, some 0, some (((n + 1 : Nat) : Int) - 1), true, rfl, (decide_eq_true ⟨fun l e => (by cases e; omega), fun l e => (by cases e; omega)⟩).symm, q⟩
      · refine ⟨_, some 0, some (((n + 1 : Nat) : Int) - 1), false, rfl, (decide_eq_false fun z => ?_).symm, q⟩
        have := z.2 _ rfl
        rw [if_neg (by omega)] at this
        omega
end
end K21
set_option maxRecDepth 100000
set_option maxHeartbeats 4000000
namespace K21
open PySem PySem.Spec PyProof.Rows L2
theorem sz_mem {p n : Nat} {xs : List (Car p)} {i : Nat} {x : Car p} (h : ∀ x ∈ xs, Sz p n x) (e : xs[i]? = some x) : Sz p n x := h x (List.mem_of_getElem? e)
theorem map_at {α β : Type} {f : α → β} {xs : List α} {i : Nat} {d : β} (h : (xs.map f)[i]? = some d) : ∃ x, xs[i]? = some x ∧ d = f x := by
  rw [List.getElem?_map] at h
  cases e : xs[i]? with
  | none => rw [e] at h; exact nomatch h
  | some x => rw [e] at h; exact ⟨x, rfl, (Option.some.inj h).symm⟩
theorem row_at {K : PySem.W.Frag} {H : Hp} {p : Nat} {ws : List V} {xs : List (Car p)} {i : Nat} {v : V} (h : DpAll K H ws (xs.map numD)) (e : ws[i]? = some v) : ∃ x, xs[i]? = some x ∧ Dp K H v (numD x) := by
  obtain ⟨d, hd, q⟩ := h.of e
  obtain ⟨x, hx, rfl⟩ := map_at hd
  exact ⟨x, hx, q⟩
theorem row_len {K : PySem.W.Frag} {H : Hp} {p : Nat} {ws : List V} {xs : List (Car p)} (h : DpAll K H ws (xs.map numD)) : ws.length = xs.length := by
  rw [h.len, List.length_map]
theorem take_snoc {α : Type} {xs : List α} {i : Nat} {x : α} (h : xs[i]? = some x) : xs.take (i + 1) = xs.take i ++ [x] := by
  rw [List.take_add_one, h]
  rfl
theorem sz_sum {ι : Type} {p n i : Nat} {f : ι → Car p} {xs : List ι} (hi : i ≤ xs.length) (h : ∀ x ∈ xs, Sz p n (f x)) : Sz p (xs.length * (n + 1) + 1) (S f (xs.take i)) := by
  refine (Sz.sum (n := n) fun x hx => h x (List.mem_of_mem_take hx)).mono ?_
  rw [List.length_take]
  have : min i xs.length * (n + 1) ≤ xs.length * (n + 1) := Nat.mul_le_mul_right _ (Nat.min_le_right _ _)
  omega
theorem sz_dot {p n m : Nat} {xs ys : List (Car p)} (hx : ∀ x ∈ xs, Sz p n x) (hy : ∀ y ∈ ys, Sz p m y) {k : Nat} (hk : xs.length ≤ k) : Sz p (k * (n + m + 1) + 1) (dot xs ys) := by
  unfold dot
  refine (Sz.sum (n := n + m) fun q hq => Sz.mul (hx _ (List.of_mem_zip hq).1) (hy _ (List.of_mem_zip hq).2)).mono ?_
  rw [List.length_zip]
  have : min xs.length ys.length * (n + m + 1) ≤ k * (n + m + 1) := Nat.mul_le_mul_right _ (Nat.le_trans (Nat.min_le_left _ _) hk)
  omega
section
variable {P : Program} {w : World} {K : PySem.W.Frag} {mg : Str → Option Value} {base : Heap}
/-! ## sparedproducts.pairs: dot_of -/
def spDot (K : PySem.W.Frag) : Sp := fun vs H Q _ => ∃ (a : Addr) (p : Nat) (k1 k2 : Bool) (xs ys : List (Car p)) (n m : Nat) (v1 v2 : V), vs = [.ref a, v1, v2] ∧ FigAt K H a p ∧ Dp K H v1 (rowD k1 xs) ∧ Dp K H v2 (rowD k2 ys) ∧ xs.length = ys.length ∧ (∀ x ∈ xs, Sz p n x) ∧ (∀ y ∈ ys, Sz p m y) ∧ n ≤ 4000 ∧ m ≤ 4000 ∧ xs.length * (n + m + 1) + 1 ≤ 4000 ∧
  ∀ v H', Same H H' → Dp K H' v (numD (dot xs ys)) → Q v H'
theorem H_dot_of (T : Txt K mg) : Hs P w K mg base 5 "dot_of" ["figures", "one", "other"] [] (spDot K) := by
  obtain ⟨fd, F⟩ := F_dot_of T
  refine ⟨_, fd, [], g_dot_of T, F.kp, okN F sc_dot_of (fun vs H Q E h => ?_) (fun cdv A outer s H vs Q E hr h => ?_), F.bindsN fun _ _ _ _ _ _ us hl => match us, hl with | [_, _, _], _ => rfl, .nil⟩
  · obtain ⟨a, p, k1, k2, xs, ys, n, m, v1, v2, rfl, _⟩ := h
    rfl
  · obtain ⟨a, p, k1, k2, xs, ys, n, m, v1, v2, rfl, hF, d1, d2, hl, zx, zy, hn4, hm4, hz, q⟩ := h
    refine ⟨_, (pss_cons (ps_set (i := 3) sc_dot_of.nd rfl (Or.inl rfl) (pe_fld (pv 0) rfl))
      (pss_cons (ps_for PassesOwn.never rfl (pi_zip2 rfl (n_zip T) (pa_cons (pv 1) (pa_cons (pv 2) pa_nil))) (pg_tup rfl (pgs_cons (pg_name (i := 4) sc_dot_of.nd rfl (Or.inl rfl)) (pgs_cons (pg_name (i := 5) sc_dot_of.nd rfl (Or.inl rfl)) pgs_nil)))
        (pss_one (ps_set (i := 3) sc_dot_of.nd rfl (Or.inl rfl) (pe_methH (pv 0) (HM_Figures_plus T) (hr.mono (by decide)) passL (pa_cons (pv 3) (pa_cons (pe_methH (pv 0) (HM_Figures_times T) (hr.mono (by decide)) passL (pa_cons (pv 4) (pa_cons (pv 5) pa_nil))) pa_nil))))))
      (pss_one (ps_ret (pv 3))))), ?_⟩
    obtain ⟨hp, dx, vz, vo, hA, dz, _⟩ := id hF
    obtain ⟨b1, w1, rfl, s1, a1⟩ := Dp.seq d1
    obtain ⟨b2, w2, rfl, s2, a2⟩ := Dp.seq d2
    have l1 := row_len a1
    have l2 := row_len a2
    refine ⟨_, rfl, a, _, dx, _, _, rfl, hA, cl_Figures T, na_Figures_zero T, rfl, ?_⟩
    refine ⟨_, rfl, _, rfl, k1, k2, b1, b2, w1, w2, rfl, s1, s2, for_it (walk_zip2 (n := xs.length) l1 (l2.trans hl.symm))
      (fun i σ H' => ∃ t o1 o2, σ = [some (.ref a), some (.ref b1), some (.ref b2), some t, o1, o2] ∧ Same H H' ∧ Dp K H' t (numD (S (fun q => q.1 * q.2) ((xs.zip ys).take i))))
      ⟨vz, none, none, rfl, Same.refl _, dz⟩ (fun i σ H' hi ⟨t, o1, o2, _, e, _⟩ => ⟨Same.sqB e s1, Same.sqB e s2⟩) (fun i x σ H1 H2 hi hP hY => ?_) (fun σ H' hP => ?_)⟩
    · obtain ⟨t, o1, o2, rfl, e, dt⟩ := hP
      obtain ⟨Tt, u, v, rfl, hT, rfl, e1, e2⟩ := hY
      obtain ⟨x, hx, dx1⟩ := row_at a1 e1
      obtain ⟨y, hy, dy1⟩ := row_at a2 e2
      have eT := e.trans (Same.upd (o := .tup [u, v]) hT)
      have hzip : (xs.zip ys)[i]? = some (x, y) := by rw [List.getElem?_zip_eq_some]; exact ⟨hx, hy⟩
      have F1 := hF.same eT
      obtain ⟨_, dx', vz', vo', hA', _, _⟩ := id F1
      refine ⟨Tt, [u, v], rfl, .inl (.inl upd_same), rfl, u, [v], rfl, v, [], rfl, rfl, ?_⟩
      refine ⟨_, rfl, a, dx', _, rfl, hA', rfl, _, rfl, _, rfl, a, dx', _, rfl, hA', rfl, _, rfl, _, rfl, a, p, x, y, u, v, rfl, F1, eT.dp dx1, eT.dp dy1, (sz_mem zx hx).mono (by omega), (sz_mem zy hy).mono (by omega), fun vp H3 e3 dp3 => ?_⟩
      refine ⟨a, p, S (fun q => q.1 * q.2) ((xs.zip ys).take i), x * y, t, vp, rfl, F1.same e3, e3.dp ((Same.upd hT).dp dt), dp3, ?_, ?_, fun vs H4 e4 d4 => ?_⟩
      · refine (sz_sum (n := n + m) (by rw [List.length_zip]; omega) fun q hq => Sz.mul (zx _ (List.of_mem_zip hq).1) (zy _ (List.of_mem_zip hq).2)).mono ?_
        rw [List.length_zip, ← hl, Nat.min_self]
        exact hz
      · refine (Sz.mul (sz_mem zx hx) (sz_mem zy hy)).mono ?_
        have : 1 * (n + m + 1) ≤ xs.length * (n + m + 1) := Nat.mul_le_mul_right _ (by omega)
        omega
      · refine ⟨vs, _, _, rfl, (eT.trans e3).trans e4, ?_⟩
        rw [take_snoc hzip, S_snoc]
        exact d4
    · obtain ⟨t, o1, o2, rfl, e, dt⟩ := hP
      refine ⟨_, rfl, q t H' e ?_⟩
      have : (xs.zip ys).take xs.length = xs.zip ys := List.take_of_length_le (by rw [List.length_zip]; omega)
      rw [this] at dt
      exact dt
end
end K21
set_option maxRecDepth 100000
set_option maxHeartbeats 4000000
namespace K21
open PySem PySem.Spec PyProof.Rows L2
section
variable {P : Program} {w : World} {K : PySem.W.Frag} {mg : Str → Option Value} {base : Heap}
/-- what is none -/
def wrongI (p : Nat) : Int := ((if p = 0 then 1 else p : Nat) : Int)
/-- the place j of v is the first that is wrong -/
def Fault (K : PySem.W.Frag) (H : Hp) (p many : Nat) (v : V) (j : Nat) : Prop := (v = .non ∧ j = 0) ∨ ∃ (k : Bool) (ds : List PyData), Dp K H v (seqD k ds) ∧
  ((∃ xs : List (Car p), ds = xs.map numD ∧ xs.length ≠ many ∧ j = min xs.length many) ∨ (j < many ∧ ds[j]? = some (.int (wrongI p)) ∧ ∀ i d, i < j → ds[i]? = some d → ∃ x : Car p, d = numD x))
theorem Fault.same {K : PySem.W.Frag} {H H' : Hp} {p many j : Nat} {v : V} (e : Same H H') (h : Fault K H p many v j) : Fault K H' p many v j := by
  rcases h with h | ⟨k, ds, hd, h⟩
  · exact .inl h
  · exact .inr ⟨k, ds, e.dp hd, h⟩
def spFirstWrong (K : PySem.W.Frag) : Sp := fun vs H Q _ => ∃ (a : Addr) (p many : Nat) (v : V), vs = [.ref a, v, .int (many : Int)] ∧ FigAt K H a p ∧
  ((∃ (k : Bool) (xs : List (Car p)), Dp K H v (rowD k xs) ∧ xs.length = many ∧ ∀ H', Same H H' → Q .non H') ∨ (∃ j, Fault K H p many v j ∧ ∀ H', Same H H' → Q (.int (j : Int)) H'))
theorem H_first_wrong (T : Txt K mg) : Hs P w K mg base 4 "first_wrong" ["figures", "numbers", "many"] [] (spFirstWrong K) := by
  obtain ⟨fd, F⟩ := F_first_wrong T
  refine ⟨_, fd, [], g_first_wrong T, F.kp, okN F sc_first_wrong (fun vs H Q E h => ?_) (fun cdv A outer s H vs Q E hr h => ?_), F.bindsN fun _ _ _ _ _ _ us hl => match us, hl with | [_, _, _], _ => rfl, .nil⟩
  · obtain ⟨a, p, many, v, rfl, _⟩ := h
    rfl
  · obtain ⟨a, p, many, v, rfl, hF, h⟩ := h
    refine ⟨_, (pss_cons (ps_if (pt_not (pt_val (pe_callH (H_is_sequence T) (hr.mono (by decide)) passL (pa_cons (pv 1) pa_nil))))
        (pss_one (ps_ret pe_int))
        pss_nil)
      (pss_cons (ps_for PassesOwn.never rfl (pi_enum2 rfl (n_enumerate T) (pa_cons (pv 1) pa_nil)) (pg_tup rfl (pgs_cons (pg_name (i := 3) sc_first_wrong.nd rfl (Or.inl rfl)) (pgs_cons (pg_name (i := 4) sc_first_wrong.nd rfl (Or.inl rfl)) pgs_nil)))
        (pss_one (ps_if (PW.pt (pw_and (pt_cmp (pc_lt (pv 3) (pv 2))) (pw_and1 (pt_not (pt_val (pe_methH (pv 0) (HM_Figures_is_number T) (hr.mono (by decide)) passL (pa_cons (pv 4) pa_nil)))))))
            (pss_one (ps_ret (pv 3)))
            pss_nil)))
      (pss_cons (ps_if (pt_cmp (pc_neI (pe_callB call_len rfl (n_len T) PySem.boot_len (pa_cons (pv 1) pa_nil)) (pv 2)))
        (pss_one (ps_ret (pe_callB (call_min2 rfl) rfl (n_min T) (by decide +kernel) (pa_cons (pe_callB call_len rfl (n_len T) PySem.boot_len (pa_cons (pv 1) pa_nil)) (pa_cons (pv 2) pa_nil)))))
        pss_nil)
      (pss_one (ps_ret pe_non))))), ?_⟩
    have uni : (v = .non ∧ ∀ H', Same H H' → Q (.int 0) H') ∨ ∃ (k : Bool) (b : Addr) (ws : List V) (ds : List PyData) (J : Nat), v = .ref b ∧ SqB k K H b ws ∧ DpAll K H ws ds ∧ J ≤ ds.length ∧ (∀ i d, i < J → ds[i]? = some d → ∃ x : Car p, d = numD x) ∧
        ((J = ds.length ∧ ((ds.length = many ∧ ∀ H', Same H H' → Q .non H') ∨ (ds.length ≠ many ∧ ∀ H', Same H H' → Q (.int ((min ds.length many : Nat) : Int)) H'))) ∨ (J < many ∧ ds[J]? = some (.int (wrongI p)) ∧ ∀ H', Same H H' → Q (.int (J : Int)) H')) := by
      have all : ∀ (xs : List (Car p)) (i : Nat) (d : PyData), (xs.map numD)[i]? = some d → ∃ x : Car p, d = numD x := fun xs i d e => by
        obtain ⟨x, _, e⟩ := map_at e
        exact ⟨x, e⟩
      rcases h with ⟨k, xs, d, hl, q⟩ | ⟨j, hf, q⟩
      · obtain ⟨b, ws, e, s1, a1⟩ := Dp.seq d
        refine .inr ⟨k, b, ws, _, _, e, s1, a1, Nat.le_refl _, fun i d _ e => all xs i d e, .inl ⟨rfl, .inl ⟨by rw [List.length_map]; exact hl, q⟩⟩⟩
      · rcases hf with ⟨e, rfl⟩ | ⟨k, ds, d, hf⟩
        · exact .inl ⟨e, q⟩
        · obtain ⟨b, ws, e, s1, a1⟩ := Dp.seq d
          rcases hf with ⟨xs, rfl, hne, rfl⟩ | ⟨hj, hw, hg⟩
          · refine .inr ⟨k, b, ws, _, _, e, s1, a1, Nat.le_refl _, fun i d _ e => all xs i d e, .inl ⟨rfl, .inr ⟨by rw [List.length_map]; exact hne, ?_⟩⟩⟩
            rw [List.length_map]
            exact q
          · exact .inr ⟨k, b, ws, ds, j, e, s1, a1, Nat.le_of_lt (List.getElem?_eq_some_iff.mp hw).1, hg, .inr ⟨hj, hw, q⟩⟩
    rcases uni with ⟨rfl, q⟩ | ⟨k, b, ws, ds, J, rfl, s1, a1, hJ, good, hc⟩
    · exact ⟨_, rfl, .inr ⟨rfl, fun H1 e1 => ⟨_, rfl, iteT (q H1 e1)⟩⟩⟩
    · refine ⟨_, rfl, .inl ⟨k, b, ws, rfl, s1, fun H0 e0 => ⟨_, rfl, iteF ?_⟩⟩⟩
      have lw := a1.len
      refine ⟨_, rfl, k, b, ws, rfl, Same.sqB e0 s1, for_it walk_enum2
        (fun i σ H' => ∃ o3 o4, σ = [some (.ref a), some (.ref b), some (.int (many : Int)), o3, o4] ∧ Same H H' ∧ i ≤ J) ⟨none, none, rfl, e0, Nat.zero_le _⟩
        (fun i σ H' hi ⟨_, _, _, e, _⟩ => Same.sqB e s1) (fun i x σ H1 H2 hi hP hY => ?_) (fun σ H' hP => ?_)⟩
      · obtain ⟨o3, o4, rfl, e, hiJ⟩ := hP
        obtain ⟨Tt, u, v, rfl, hT, rfl, e1, e2⟩ := hY
        obtain rfl := Option.some.inj e1
        obtain ⟨d, hd, dv⟩ := a1.of e2
        have eT := e.trans (Same.upd (o := .tup [.int (i : Nat), v]) hT)
        refine ⟨Tt, [.int (i : Nat), v], rfl, .inl (.inl upd_same), rfl, .int (i : Nat), [v], rfl, v, [], rfl, rfl, ?_⟩
        refine ⟨_, rfl, _, rfl, _, _, rfl, rfl, _, rfl, ?_⟩
        have F1 := hF.same eT
        obtain ⟨_, dx', vz', vo', hA', _, _⟩ := id F1
        show if decide ((i : Int) < (many : Int)) = true then _ else _
        by_cases him : i < many
        · rw [decide_eq_true (by omega)]
          refine iteT ⟨_, rfl, a, dx', _, rfl, hA', rfl, _, rfl, a, p, v, rfl, F1, ?_⟩
          by_cases hc1 : i < J
          · obtain ⟨x, rfl⟩ := good i d hc1 hd
            exact .inl ⟨x, eT.dp dv, _, rfl, iteF ⟨_, _, rfl, eT, hc1⟩⟩
          · have ei : i = J := by omega
            subst ei
            rcases hc with ⟨e, _⟩ | ⟨_, hw, q⟩
            · omega
            · rw [hw] at hd
              obtain rfl := Option.some.inj hd
              obtain rfl := dv.int_inv
              exact .inr ⟨rfl, _, rfl, iteT ⟨_, rfl, q _ eT⟩⟩
        · rw [decide_eq_false (by omega)]
          refine iteF (iteF ⟨_, _, rfl, eT, ?_⟩)
          rcases hc with ⟨e, _⟩ | ⟨h, _⟩ <;> omega
      · obtain ⟨o3, o4, rfl, e, hiJ⟩ := hP
        rcases hc with ⟨eJ, hc⟩ | ⟨hj, hw, q⟩
        · refine ⟨_, rfl, _, _, rfl, sqB_len (Same.sqB e s1), _, rfl, _, _, rfl, rfl, _, rfl, ?_⟩
          show if (!decide ((ws.length : Int) = (many : Int))) = true then _ else _
          rcases hc with ⟨el, q⟩ | ⟨ne, q⟩
          · rw [decide_eq_true (by omega)]
            exact iteF (q _ e)
          · rw [decide_eq_false (by omega)]
            refine iteT ⟨_, rfl, _, _, rfl, sqB_len (Same.sqB e s1), _, rfl, _, _, rfl, ?_⟩
            have em : (if (many : Int) < (ws.length : Int) then (many : Int) else (ws.length : Int)) = ((min ds.length many : Nat) : Int) := by
              by_cases c : (many : Int) < (ws.length : Int)
              · rw [if_pos c]
                omega
              · rw [if_neg c]
                omega
            rw [em]
            exact q _ e
        · have := (List.getElem?_eq_some_iff.mp hw).1
          omega
/-! ## sparedproducts.errors -/
/-- __init__ of an exception: it stores its arguments -/
def spBadLetters (K : PySem.W.Frag) : Sp := fun vs H Q _ => ∃ (a : Addr) (x y : V), vs = [.ref a, x, y] ∧ H a = some (exo a (He.ga K "BadLetters") none) ∧
  ∀ d H2, H d = none → d ≠ a → H2 = upd (upd (upd H d (exd d [("what", x)])) a (exo a (He.ga K "BadLetters") (some d))) d (exd d [("index", y), ("what", x)]) → Q .non H2
theorem HI_BadLetters (T : Txt K mg) : ∃ fd, FnOk P w K mg base (L2.CX P w) 1 (He.ma K (He.ga K "BadLetters") "__init__") fd ["self", "what", "index"] (spBadLetters K) ∧ Binds K fd ["self", "what", "index"] [] := by
  obtain ⟨fd, F⟩ := F_BadLetters_init T
  refine ⟨fd, okN F sc_BadLetters_init (fun vs H Q E h => ?_) (fun cdv A outer s H vs Q E hr h => ?_), F.bindsN fun _ _ _ _ _ _ us hl => match us, hl with | [_, _, _], _ => rfl⟩
  · obtain ⟨a, x, y, rfl, _⟩ := h
    rfl
  · obtain ⟨a, x, y, rfl, hA, q⟩ := h
    refine ⟨_, (pss_cons (ps_expr (pe_binit rfl (g_PairError T) (by decide) (cr_PairError T) (in_PairError T) (pa_cons (pv 0) (pa_cons pe_str pa_nil))))
      (pss_cons (ps_ost (pv 0) (pv 1))
      (pss_one (ps_ost (pv 0) (pv 2))))), ?_⟩
    refine ⟨_, rfl, a, _, _, rfl, by show 1 ≤ 1000; decide, oe_BadLetters T, hA, ?_⟩
    refine ⟨_, rfl, _, rfl, a, _, rfl, oe_BadLetters T, na_BadLetters_what T, .inl ⟨hA, fun d hd ne => ?_⟩⟩
    refine ⟨_, rfl, _, rfl, a, _, rfl, oe_BadLetters T, na_BadLetters_index T, .inr ⟨d, _, upd_same, ?_, by show 1 ≤ 900; decide, q d _ hd ne rfl⟩⟩
    rw [upd_ne ne, upd_same]
def spBadSide (K : PySem.W.Frag) : Sp := fun vs H Q _ => ∃ a : Addr, vs = [.ref a] ∧ H a = some (exo a (He.ga K "BadSide") none) ∧ Q .non H
theorem HI_BadSide (T : Txt K mg) : ∃ fd, FnOk P w K mg base (L2.CX P w) 1 (He.ma K (He.ga K "BadSide") "__init__") fd ["self"] (spBadSide K) ∧ Binds K fd ["self"] [] := by
  obtain ⟨fd, F⟩ := F_BadSide_init T
  refine ⟨fd, okN F sc_BadSide_init (fun vs H Q E h => ?_) (fun cdv A outer s H vs Q E hr h => ?_), F.bindsN fun _ _ _ _ _ _ us hl => match us, hl with | [_], _ => rfl⟩
  · obtain ⟨a, rfl, _⟩ := h
    rfl
  · obtain ⟨a, rfl, hA, q⟩ := h
    exact ⟨_, (pss_one (ps_expr (pe_binit rfl (g_PairError T) (by decide) (cr_PairError T) (in_PairError T) (pa_cons (pv 0) (pa_cons pe_str pa_nil))))), _, rfl, a, _, _, rfl, by show 1 ≤ 1000; decide, oe_BadSide T, hA, q⟩
end
end K21
set_option maxRecDepth 100000
set_option maxHeartbeats 4000000
namespace K21
open PySem PySem.Spec PyProof.Rows L2
section
variable {P : Program} {w : World} {K : PySem.W.Frag} {mg : Str → Option Value} {base : Heap}
/-- what BadLetters(what, j) leaves behind -/
def Bad (K : PySem.W.Frag) (H : Hp) (E : XK) (what : Str) (j : Nat) : Prop := ∀ d H', Same H H' → H' d = some (.xd [("index", .int (j : Int)), ("what", .str what)]) → E (.ref (He.ga K "BadLetters")) (some d) H'
theorem Bad.same {K : PySem.W.Frag} {H H' : Hp} {E : XK} {what : Str} {j : Nat} (e : Same H H') (h : Bad K H E what j) : Bad K H' E what j := fun d H2 s x => h d H2 (e.trans s) x
def spLetters (K : PySem.W.Frag) : Sp := fun vs H Q E => ∃ (a : Addr) (p many : Nat) (v : V) (what : Str), vs = [.ref a, v, .int (many : Int), .str what] ∧ FigAt K H a p ∧
  ((∃ (k : Bool) (xs : List (Car p)), Dp K H v (rowD k xs) ∧ xs.length = many ∧ ∀ v' H', Same H H' → Dp K H' v' (rowD true xs) → Q v' H') ∨ (∃ j, Fault K H p many v j ∧ Bad K H E what j))
theorem tup_of {K : PySem.W.Frag} {H : Hp} {k : Bool} {v : V} {ds : List PyData} {Q : VK} (h : Dp K H v (seqD k ds)) (q : ∀ v' H', Same H H' → Dp K H' v' (seqD true ds) → Q v' H') :
    ∃ (p : Addr) (ys : List V), [v] = [V.ref p] ∧ ((SqL K H p ys ∧ ∀ l, H l = none → Q (.ref l) (upd H l (.tup ys))) ∨ (SqT K H p ys ∧ Q (.ref p) H)) := by
  obtain ⟨b, ws, rfl, s1, a1⟩ := Dp.seq h
  cases k with
  | true => exact ⟨b, ws, rfl, .inr ⟨s1, q _ _ (Same.refl _) h⟩⟩
  | false => exact ⟨b, ws, rfl, .inl ⟨s1, fun l hl => q _ _ (Same.upd hl) (Dp.newT upd_same ((Same.upd hl).dpAll a1))⟩⟩
theorem H_check_letters (T : Txt K mg) : Hs P w K mg base 5 "check_letters" ["figures", "numbers", "many", "what"] [] (spLetters K) := by
  obtain ⟨fd, F⟩ := F_check_letters T
  obtain ⟨fdI, FI, BI⟩ := HI_BadLetters (P := P) (w := w) (base := base) T
  refine ⟨_, fd, [], g_check_letters T, F.kp, okX F sc_check_letters (fun vs H Q E h => ?_) (fun cdv A outer s H vs Q E hr h => ?_), F.bindsN fun _ _ _ _ _ _ us hl => match us, hl with | [_, _, _, _], _ => rfl, .nil⟩
  · obtain ⟨a, p, many, v, what, rfl, _⟩ := h
    rfl
  · obtain ⟨a, p, many, v, what, rfl, hF, h⟩ := h
    refine ⟨_, (pss_cons (ps_set (i := 4) sc_check_letters.nd rfl (Or.inl rfl) (pe_callH (H_first_wrong T) (hr.mono (by decide)) passL (pa_cons (pv 0) (pa_cons (pv 1) (pa_cons (pv 2) pa_nil)))))
      (pss_cons (ps_if (pt_cmp (pc_notN (pv 4)))
        (pss_one (ps_raise rfl (takes_of rfl rfl rfl rfl) (pmk_oex (oe_BadLetters T) (ii_BadLetters T).1 (ii_BadLetters T).2 FI (hr.mono (by decide)) BI .nil passL rfl (g_BadLetters T) (pa_cons (pv 3) (pa_cons (pv 4) pa_nil)))))
        pss_nil)
      (pss_one (ps_ret (pe_callTy call_tuple_of rfl (n_tuple T) (by decide +kernel) (pa_cons (pv 1) pa_nil)))))), ?_⟩
    rcases h with ⟨k, xs, d, hl, q⟩ | ⟨j, hf, q⟩
    · refine ⟨_, rfl, _, rfl, _, rfl, a, p, many, v, rfl, hF, .inl ⟨k, xs, d, hl, fun H1 e1 => ?_⟩⟩
      exact ⟨_, rfl, _, rfl, iteF ⟨_, rfl, tup_of (e1.dp d) fun v' H' e2 d2 => q v' H' (e1.trans e2) d2⟩⟩
    · refine ⟨_, rfl, _, rfl, _, rfl, a, p, many, v, rfl, hF, .inr ⟨j, hf, fun H1 e1 => ?_⟩⟩
      refine ⟨_, rfl, _, rfl, iteT ⟨_, rfl, _, rfl, by show 2 ≤ 1000; decide, fun x hx => ⟨x, _, _, rfl, upd_same, fun d H2 hd ne hH => ?_⟩⟩⟩
      subst hH
      rw [upd_ne ne] at hd
      refine ⟨rfl, d, _, ?_, upd_same, hd, q d _ ?_ upd_same⟩
      · rw [upd_ne (Ne.symm ne), upd_same]
        rfl
      · intro b o hb
        have hb1 := e1 _ _ hb
        have n1 : b ≠ x := ne_of_none hb1 hx
        have n2 : b ≠ d := ne_of_none hb1 hd
        rw [upd_ne n2, del_ne n1, upd_ne n2, upd_ne n1, upd_ne n2, upd_ne n1]
        exact hb1
end
end K21
set_option maxRecDepth 100000
set_option maxHeartbeats 4000000
namespace K21
open PySem PySem.Spec PyProof.Rows L2
section
variable {P : Program} {w : World} {K : PySem.W.Frag} {mg : Str → Option Value} {base : Heap}
/-! ## sparedproducts.tables: check_table -/
def tabD {p : Nat} (t : List (List (Car p))) : PyData := .tuple (t.map (rowD true))
theorem tp_tab {p : Nat} (t : List (List (Car p))) : Tp 3 (tabD t) := Tp.tup (n := 2) fun e he => by
  obtain ⟨x, _, e⟩ := List.mem_map.mp he
  rw [← e]
  exact tp_row x
theorem H_check_table (T : Txt K mg) : Hs P w K mg base 4 "check_table" ["figures", "table", "rows", "columns"] [.non, .non]
    (fun vs H Q _ => ∃ (a : Addr) (p c : Nat) (t : List (List (Car p))) (v : V), vs = [.ref a, v, .non, .non] ∧ FigAt K H a p ∧ Dp K H v (tabD t) ∧ 1 ≤ t.length ∧ t.length ≤ 5 ∧ 1 ≤ c ∧ c ≤ 5 ∧ (∀ r ∈ t, r.length = c) ∧ ∀ v' H', Same H H' → Dp K H' v' (tabD t) → Q v' H') := by
  obtain ⟨fd, F⟩ := F_check_table T
  have hb : ∃ ds, Vals [.non, .non] ds ∧ Binds K fd ["figures", "table", "rows", "columns"] ds := F.binds1 2 0 (by simp) rfl fun _ _ _ _ _ _ _ us its h1 h2 => match us, its, h1, h2 with | [_, _], [_, _], _, _ => ⟨_, rfl, rfl⟩
  obtain ⟨ds, hv, hb⟩ := hb
  refine ⟨_, fd, ds, g_check_table T, F.kp, okN F sc_check_table (fun vs H Q E h => ?_) (fun cdv A outer s H vs Q E hr h => ?_), hb, hv⟩
  · obtain ⟨a, p, c, t, v, rfl, _⟩ := h
    rfl
  · obtain ⟨a, p, c, t, v, rfl, hF, d, l1, l5, c1, c5, hc, q⟩ := h
    refine ⟨_, (pss_cons (ps_if (pt_not (pt_val (pe_callH (H_is_sequence T) (hr.mono (by decide)) passL (pa_cons (pv 1) pa_nil))))
        (pss_one ps_never)
        pss_nil)
      (pss_cons (ps_if (PW.pt (pw_or (PW.pt (pw_and (pt_cmp (pc_isN (pv 2))) (pw_and1 (pt_not (pt_chain op_le op_le pe_int (pe_callB call_len rfl (n_len T) PySem.boot_len (pa_cons (pv 1) pa_nil)) (C8.pe_gc rfl (i_MOST_ROWS T))))))) (pw_or1 (PW.pt (pw_and (pt_cmp (pc_notN (pv 2))) (pw_and1 (pt_cmp (pc_neI (pe_callB call_len rfl (n_len T) PySem.boot_len (pa_cons (pv 1) pa_nil)) (pv 2)))))))))
        (pss_one ps_never)
        pss_nil)
      (pss_cons (ps_set (i := 4) sc_check_table.nd rfl (Or.inl rfl) (pe_lst pa_nil))
      (pss_cons (ps_set (i := 5) sc_check_table.nd rfl (Or.inl rfl) (pv 3))
      (pss_cons (ps_for PassesOwn.never rfl (pi_enum2 rfl (n_enumerate T) (pa_cons (pv 1) pa_nil)) (pg_tup rfl (pgs_cons (pg_name (i := 6) sc_check_table.nd rfl (Or.inl rfl)) (pgs_cons (pg_name (i := 7) sc_check_table.nd rfl (Or.inl rfl)) pgs_nil)))
        (pss_cons (ps_if (PW.pt (pw_or (pt_not (pt_val (pe_callH (H_is_sequence T) (hr.mono (by decide)) passL (pa_cons (pv 7) pa_nil)))) (pw_or1 (PW.pt (pw_and (pt_cmp (pc_notN (pv 5))) (pw_and1 (pt_cmp (pc_neI (pe_callB call_len rfl (n_len T) PySem.boot_len (pa_cons (pv 7) pa_nil)) (pv 5)))))))))
            (pss_one ps_never)
            pss_nil)
          (pss_cons (ps_if (PW.pt (pw_and (pt_cmp (pc_isN (pv 5))) (pw_and1 (pt_not (pt_chain op_le op_le pe_int (pe_callB call_len rfl (n_len T) PySem.boot_len (pa_cons (pv 7) pa_nil)) (C8.pe_gc rfl (i_MOST_ROWS T)))))))
            (pss_one ps_never)
            pss_nil)
          (pss_cons (ps_set (i := 5) sc_check_table.nd rfl (Or.inl rfl) (pe_callB call_len rfl (n_len T) PySem.boot_len (pa_cons (pv 7) pa_nil)))
          (pss_cons (ps_if (pt_not (pt_val (pe_callB (cr_all rfl) rfl (n_all T) (by decide +kernel) (pa_cons (pe_lc (own := [("number", 8)]) rfl sc_check_table.nd (pi_tup (pv 7)) (blkOk_by (own := [("number", 8)]) (N := N_check_table) (sc := defScope s_check_table) (by decide +kernel)) (fun _ _ _ _ _ => (pg_name (i := 8) sc_check_table.nd rfl (Or.inl rfl))) (fun _ _ _ _ _ => pts_nil) (fun _ _ _ _ _ => (pe_methH (pv 0) (HM_Figures_is_number T) (hr.mono (by decide)) passL (pa_cons (pv 8) pa_nil)))) pa_nil))))
            (pss_one ps_never)
            pss_nil)
          (pss_one (ps_expr (pe_bm PySem.F.plainAttrs_list PySem.F.slot_list_append PySem.F.type_list_append mt_append (pv 4) (pa_cons (pe_callTy call_tuple_of rfl (n_tuple T) (by decide +kernel) (pa_cons (pv 7) pa_nil)) pa_nil)))))))))
      (pss_one (ps_ret (pe_callTy call_tuple_of rfl (n_tuple T) (by decide +kernel) (pa_cons (pv 4) pa_nil))))))))), ?_⟩
    obtain ⟨b, ws, rfl, sT, aT⟩ := Dp.tup_inv d
    have lw : ws.length = t.length := by rw [aT.len, List.length_map]
    refine ⟨_, rfl, .inl ⟨true, b, ws, rfl, sT, fun H1 e1 => ⟨_, rfl, iteF ?_⟩⟩⟩
    have sT1 := Same.sqT e1 sT
    refine ⟨_, rfl, _, rfl, iteT ⟨_, rfl, _, _, rfl, sqT_len sT1, _, _, rfl, rfl, true, congrArg V.bl (decide_eq_true (by omega)), iteT ⟨_, _, rfl, rfl, true, congrArg V.bl (decide_eq_true (by omega)), ?_⟩⟩⟩
    refine iteF ⟨_, rfl, _, rfl, iteF (iteF ?_)⟩
    refine ⟨by show 0 ≤ sizeLine; exact Nat.zero_le _, fun L hL => ?_⟩
    have nL : ∀ {x : HO} {o : Addr}, H o = some x → o ≠ L := fun {x o} h => ne_of_none (e1 _ _ h) hL
    have A0 : LAt K [] H1 L [] [] (upd H1 L (.lst [])) := LAt.new hL
    refine ⟨_, rfl, _, rfl, true, b, ws, rfl, Same.sqT (e1.trans A0.sq0) sT, for_it walk_enum2
      (fun i σ H' => ∃ o5 o6 o7 acc, σ = [some (.ref a), some (.ref b), some .non, some .non, some (.ref L), some o5, o6, o7, none] ∧ LAt K [] H1 L acc ((t.take i).map (rowD true)) H' ∧ ((i = 0 ∧ o5 = .non) ∨ o5 = .int (c : Int)))
      ⟨_, none, none, [], rfl, A0, .inl ⟨rfl, rfl⟩⟩ (fun i σ H' hi ⟨_, _, _, _, _, e, _⟩ => Same.sqT (e1.trans e.sq0) sT) (fun i x σ H2 H3 hi hP hY => ?_) (fun σ H' hP => ?_)⟩
    · obtain ⟨o5, o6, o7, acc, rfl, B, h5⟩ := hP
      obtain ⟨Tt, u, v, rfl, hT, rfl, ew, ev⟩ := hY
      obtain rfl := Option.some.inj ew
      obtain ⟨dd, hd, dv⟩ := aT.of ev
      obtain ⟨row, hrow, rfl⟩ := map_at hd
      have B := B.same (Same.upd (o := .tup [.int (i : Nat), v]) hT)
      refine ⟨Tt, [.int (i : Nat), v], rfl, .inl (.inl upd_same), rfl, .int (i : Nat), [v], rfl, v, [], rfl, rfl, ?_⟩
      obtain ⟨rb, rw, rfl, sR, aR⟩ := Dp.tup_inv dv
      have lr : row.length = c := hc row (List.mem_of_getElem? hrow)
      have lrw : rw.length = c := by rw [row_len aR, lr]
      have hacc : acc.length = i := by
        rw [B.len, List.length_map, List.length_take]
        omega
      refine ⟨_, rfl, .inl ⟨true, rb, rw, rfl, Same.sqT (e1.trans B.sq0) sR, fun H4 e4 => ⟨_, rfl, iteF ?_⟩⟩⟩
      have B := B.same e4
      have sR4 := Same.sqT (e1.trans B.sq0) sR
      rcases h5 with ⟨_, rfl⟩ | rfl
      refine ⟨_, rfl, _, rfl, iteF (iteF ⟨_, rfl, _, rfl, iteT ⟨_, rfl, _, _, rfl, sqT_len sR4, _, _, rfl, rfl, true, congrArg V.bl (decide_eq_true (by omega)), iteT ⟨_, _, rfl, rfl, true, congrArg V.bl (decide_eq_true (by omega)), iteF ?_⟩⟩⟩)⟩
      rotate_left
      refine ⟨_, rfl, _, rfl, iteT ⟨_, rfl, _, _, rfl, sqT_len sR4, _, rfl, _, _, rfl, rfl, false, congrArg (fun z => V.bl (!z)) (decide_eq_true (by omega)), iteF ⟨_, rfl, _, rfl, iteF (iteF ?_)⟩⟩⟩
      all_goals
        refine ⟨_, rfl, _, _, rfl, sqT_len sR4, ?_⟩
        refine ⟨_, rfl, rb, rfl, ⟨rw, sR4⟩, fun D hD => ?_⟩
        have nD : L ≠ D := ne_of_none B.at_ hD
        refine lc_it (walk_tup (xs := rw)) (fun i H' => H' = upd H4 D (.lst ((List.replicate i true).map V.bl))) rfl (fun i H' _ e => by rw [e]; exact Same.sqT (Same.upd hD) sR4) (fun i x H5 H6 hi e hY => ?_) (fun H5 e => ?_)
        · obtain ⟨rfl, ex⟩ := hY
          subst e
          have F1 := (hF.same (e1.trans B.sq0)).same (Same.upd (o := .lst ((List.replicate i true).map V.bl)) hD)
          obtain ⟨_, dx', vz', vo', hA', _, _⟩ := id F1
          obtain ⟨x0, hx0, dx0⟩ := row_at aR ex
          refine ⟨rfl, _, rfl, a, dx', _, rfl, hA', rfl, _, rfl, a, p, x, rfl, F1, .inl ⟨x0, ((e1.trans B.sq0).trans (Same.upd hD)).dp dx0, ?_⟩⟩
          refine ⟨_, upd_same, few (by rw [List.length_map, List.length_replicate]; omega), ?_⟩
          rw [upd_upd, List.replicate_succ', List.map_append]
          rfl
        · subst e
          refine ⟨D, List.replicate rw.length true, rfl, SqL.of upd_same, true, ?_, iteF ?_⟩
          · exact congrArg V.bl (by simp)
          · have B2 := B.same (Same.upd (o := .lst ((List.replicate rw.length true).map V.bl)) hD)
            refine ⟨_, rfl, .inl ⟨rfl, acc, B2.sqL⟩, _, rfl, rb, rw, rfl, .inr ⟨Same.sqT (Same.upd hD) sR4, L, acc, _, rfl, rfl, B2.at_, few (by omega), ?_⟩⟩
            refine ⟨_, _, _, acc ++ [.ref rb], rfl, ?_, .inr (by rw [lrw])⟩
            have B3 := B2.push (y := .ref rb) (d := rowD true row) ((tp_row row).off B2.lst1 (B2.sq0.dp (e1.dp dv)))
            rw [take_snoc hrow, List.map_append]
            exact B3
    · obtain ⟨o5, o6, o7, acc, rfl, B, h5⟩ := hP
      refine ⟨_, rfl, B.tup0 fun v' H2 e2 d2 => q v' H2 (e1.trans e2) ?_⟩
      have : t.take ws.length = t := List.take_of_length_le (by omega)
      rw [this] at d2
      exact d2
end
end K21
set_option maxRecDepth 100000
set_option maxHeartbeats 4000000
namespace K21
open PySem PySem.Spec PyProof.Rows L2
section
variable {P : Program} {w : World} {K : PySem.W.Frag} {mg : Str → Option Value} {base : Heap}
/-! ## sparedproducts.pairs: Pair -/
def PairAt (K : PySem.W.Frag) (H : Hp) (a f : Addr) (p : Nat) (t1 t2 : List (List (Car p))) (R C : Nat) : Prop := ∃ (dx : Addr) (v1 v2 : V), H a = some (.ins (He.ga K "Pair") dx [("figures", .ref f), ("first", v1), ("second", v2), ("rows", .int (R : Int)), ("columns", .int (C : Int))]) ∧
  FigAt K H f p ∧ Dp K H v1 (tabD t1) ∧ Dp K H v2 (tabD t2)
theorem PairAt.same {H H' : Hp} {a f : Addr} {p R C : Nat} {t1 t2 : List (List (Car p))} (e : Same H H') (h : PairAt K H a f p t1 t2 R C) : PairAt K H' a f p t1 t2 R C := by
  obtain ⟨dx, v1, v2, h1, h2, h3, h4⟩ := h
  exact ⟨dx, v1, v2, e _ _ h1, h2.same e, e.dp h3, e.dp h4⟩
/-- a table of R rows, C columns -/
def Tab {p : Nat} (t : List (List (Car p))) (R C : Nat) : Prop := t.length = R ∧ ∀ r ∈ t, r.length = C
def spPair (K : PySem.W.Frag) : Sp := fun vs H Q _ => ∃ (H0 : Hp) (a dx f : Addr) (p R C : Nat) (t1 t2 : List (List (Car p))) (v1 v2 : V), vs = [.ref a, .ref f, v1, v2] ∧ Same H0 H ∧ H0 a = none ∧ H a = some (.ins (He.ga K "Pair") dx []) ∧ FigAt K H0 f p ∧ Dp K H0 v1 (tabD t1) ∧ Dp K H0 v2 (tabD t2) ∧ Tab t1 R C ∧ Tab t2 R C ∧ 1 ≤ R ∧ R ≤ 5 ∧ 1 ≤ C ∧ C ≤ 5 ∧ (p = 0 ∨ (R ≤ p ∧ C ≤ p)) ∧
  ∀ H', Same H0 H' → PairAt K H' a f p t1 t2 R C → Q .non H'
theorem HC_Pair (T : Txt K mg) : HsC P w K mg base 5 "Pair" (He.ga K "Pair") ["self", "figures", "first", "second"] (spPair K) := by
  obtain ⟨fd, F⟩ := F_Pair_init T
  refine ⟨_, fd, mk_Pair T, g_Pair T, okN F sc_Pair_init (fun vs H Q E h => ?_) (fun cdv A outer s H vs Q E hr h => ?_), F.bindsN fun _ _ _ _ _ _ us hl => match us, hl with | [_, _, _, _], _ => rfl⟩
  · obtain ⟨H0, a, dx, f, p, R, C, t1, t2, v1, v2, rfl, _⟩ := h
    rfl
  · obtain ⟨H0, a, dx, f, p, R, C, t1, t2, v1, v2, rfl, s0, h0, hA, hF, d1, d2, T1, T2, r1, r5, c1, c5, hp, q⟩ := h
    refine ⟨_, (pss_cons (ps_set (i := 2) sc_Pair_init.nd rfl (Or.inl rfl) (pe_callH (H_check_table T) (hr.mono (by decide)) passL (pa_cons (pv 1) (pa_cons (pv 2) pa_nil))))
      (pss_cons (ps_set (i := 3) sc_Pair_init.nd rfl (Or.inl rfl) (pe_callH (H_check_table T) (hr.mono (by decide)) passL (pa_cons (pv 1) (pa_cons (pv 3) pa_nil))))
      (pss_cons (ps_if (PW.pt (pw_or (pt_cmp (pc_neI (pe_callB call_len rfl (n_len T) PySem.boot_len (pa_cons (pv 2) pa_nil)) (pe_callB call_len rfl (n_len T) PySem.boot_len (pa_cons (pv 3) pa_nil)))) (pw_or1 (pt_cmp (pc_neI (pe_callB call_len rfl (n_len T) PySem.boot_len (pa_cons (pe_ix ix_tup (pv 2) pe_int (fun _ _ => rfl)) pa_nil)) (pe_callB call_len rfl (n_len T) PySem.boot_len (pa_cons (pe_ix ix_tup (pv 3) pe_int (fun _ _ => rfl)) pa_nil)))))))
        (pss_one ps_never)
        pss_nil)
      (pss_cons (ps_if (PW.pt (pw_and (pt_cmp (pc_gt (pe_fld (pv 1) rfl) pe_int)) (pw_and1 (PW.pt (pw_or (pt_cmp (pc_gt (pe_callB call_len rfl (n_len T) PySem.boot_len (pa_cons (pv 2) pa_nil)) (pe_fld (pv 1) rfl))) (pw_or1 (pt_cmp (pc_gt (pe_callB call_len rfl (n_len T) PySem.boot_len (pa_cons (pe_ix ix_tup (pv 2) pe_int (fun _ _ => rfl)) pa_nil)) (pe_fld (pv 1) rfl)))))))))
        (pss_one ps_never)
        pss_nil)
      (pss_cons (ps_fld (pv 0) (pv 1) rfl)
      (pss_cons (ps_fld (pv 0) (pv 2) rfl)
      (pss_cons (ps_fld (pv 0) (pv 3) rfl)
      (pss_cons (ps_fld (pv 0) (pe_callB call_len rfl (n_len T) PySem.boot_len (pa_cons (pv 2) pa_nil)) rfl)
      (pss_one (ps_fld (pv 0) (pe_callB call_len rfl (n_len T) PySem.boot_len (pa_cons (pe_ix ix_tup (pv 2) pe_int (fun _ _ => rfl)) pa_nil)) rfl)))))))))), ?_⟩
    refine ⟨_, rfl, _, rfl, f, p, C, t1, v1, rfl, hF.same s0, s0.dp d1, by have := T1.1; omega, by have := T1.1; omega, c1, c5, T1.2, fun w1 H1 e1 b1 => ?_⟩
    refine ⟨_, rfl, _, rfl, f, p, C, t2, v2, rfl, hF.same (s0.trans e1), (s0.trans e1).dp d2, by have := T2.1; omega, by have := T2.1; omega, c1, c5, T2.2, fun w2 H2 e2 b2 => ?_⟩
    have b1 := e2.dp b1
    obtain ⟨a1, ws1, rfl, s1, A1⟩ := Dp.tup_inv b1
    obtain ⟨a2, ws2, rfl, s2, A2⟩ := Dp.tup_inv b2
    have l1 : ws1.length = R := by rw [A1.len, List.length_map, T1.1]
    have l2 : ws2.length = R := by rw [A2.len, List.length_map, T2.1]
    have fst : ∀ (t : List (List (Car p))) (ws : List V), Tab t R C → DpAll K H2 ws (t.map (rowD true)) → ∃ b rs, ws[0]? = some (.ref b) ∧ SqT K H2 b rs ∧ rs.length = C := fun t ws ht ha => by
      obtain ⟨r, hr⟩ : ∃ r, t[0]? = some r := ⟨_, List.getElem?_eq_getElem (by have := ht.1; omega)⟩
      obtain ⟨v, hv, dv⟩ := ha.get (i := 0) (d := rowD true r) (by rw [List.getElem?_map, hr]; rfl)
      obtain ⟨b, rs, rfl, sR, aR⟩ := Dp.tup_inv dv
      exact ⟨b, rs, hv, sR, by rw [row_len aR, ht.2 r (List.mem_of_getElem? hr)]⟩
    obtain ⟨b1', rs1, g1, q1, m1⟩ := fst t1 ws1 T1 A1
    obtain ⟨b2', rs2, g2, q2, m2⟩ := fst t2 ws2 T2 A2
    obtain ⟨hpp, fx, vz, vo, hf, _, _⟩ := hF.same ((s0.trans e1).trans e2)
    refine ⟨_, rfl, _, _, rfl, sqT_len s1, _, rfl, _, _, rfl, sqT_len s2, _, _, rfl, rfl, false, congrArg (fun z => V.bl (!z)) (decide_eq_true (by omega)), iteF ?_⟩
    refine ⟨_, rfl, _, _, _, _, rfl, rfl, s1, atI_nat (j := 0) g1, _, _, rfl, sqT_len q1, _, rfl, _, _, _, _, rfl, rfl, s2, atI_nat (j := 0) g2, _, _, rfl, sqT_len q2, _, _, rfl, rfl, false, congrArg (fun z => V.bl (!z)) (decide_eq_true (by omega)), iteF ?_⟩
    refine ⟨_, rfl, f, _, fx, _, _, rfl, hf, cl_Figures T, na_Figures_prime T, rfl, _, _, rfl, rfl, decide (0 < p), congrArg V.bl (decide_eq_decide.mpr (by omega)), ?_⟩
    by_cases hp0 : 0 < p
    rw [decide_eq_true hp0]
    refine iteT ⟨_, rfl, _, _, rfl, sqT_len s1, _, rfl, f, _, fx, _, _, rfl, hf, cl_Figures T, na_Figures_prime T, rfl, _, _, rfl, rfl, false, congrArg V.bl (decide_eq_false (by omega)), iteF ?_⟩
    refine ⟨_, rfl, _, _, _, _, rfl, rfl, s1, atI_nat (j := 0) g1, _, _, rfl, sqT_len q1, _, rfl, f, _, fx, _, _, rfl, hf, cl_Figures T, na_Figures_prime T, rfl, _, _, rfl, rfl, false, congrArg V.bl (decide_eq_false (by omega)), iteF ?_⟩
    rotate_left
    rw [decide_eq_false hp0]
    refine iteF (iteF ?_)
    all_goals
      have hA2 : H2 a = some (.ins (He.ga K "Pair") dx []) := e2 _ _ (e1 _ _ hA)
      have ea : Same H0 H2 := (s0.trans e1).trans e2
      refine ⟨_, rfl, _, rfl, a, _, dx, _, rfl, hA2, cl_Pair T, na_Pair_figures T, by show 0 < 1000; decide, ?_⟩
      rw [putF_nil]
      refine ⟨_, rfl, _, rfl, a, _, dx, _, rfl, upd_same, cl_Pair T, na_Pair_first T, by show 1 < 1000; decide, ?_⟩
      rw [putF_ne (by decide), putF_nil, upd_upd]
      refine ⟨_, rfl, _, rfl, a, _, dx, _, rfl, upd_same, cl_Pair T, na_Pair_second T, by show 2 < 1000; decide, ?_⟩
      rw [putF_ne (by decide), putF_ne (by decide), putF_nil, upd_upd]
      refine ⟨_, rfl, _, _, rfl, sqT_len (sqT_ins hA2 s1), _, rfl, a, _, dx, _, rfl, upd_same, cl_Pair T, na_Pair_rows T, by show 3 < 1000; decide, ?_⟩
      rw [putF_ne (by decide), putF_ne (by decide), putF_ne (by decide), putF_nil, upd_upd]
      refine ⟨_, rfl, _, _, _, _, rfl, rfl, sqT_ins hA2 s1, atI_nat (j := 0) g1, _, _, rfl, sqT_len (sqT_ins hA2 q1), _, rfl, a, _, dx, _, rfl, upd_same, cl_Pair T, na_Pair_columns T, by show 4 < 1000; decide, ?_⟩
      rw [putF_ne (by decide), putF_ne (by decide), putF_ne (by decide), putF_ne (by decide), putF_nil, upd_upd, l1, m1]
      exact q _ (ea.put h0) ⟨dx, _, _, upd_same, hF.same (ea.put h0), (tp_tab t1).dp (fun _ _ => sqT_ins hA2) b1, (tp_tab t2).dp (fun _ _ => sqT_ins hA2) b2⟩
/-! ## sparedproducts.programs -/
def spSide (K : PySem.W.Frag) : Sp := fun vs H Q _ => ∃ (f : Addr) (p n : Nat) (x : Str), vs = [.ref f, .int (n : Int), .str x] ∧ FigAt K H f p ∧ 1 ≤ n ∧ n ≤ 5 ∧ (p = 0 ∨ n ≤ p) ∧ Q .non H
theorem H_check_side (T : Txt K mg) : Hs P w K mg base 2 "check_side" ["figures", "many", "what"] [] (spSide K) := by
  obtain ⟨fd, F⟩ := F_check_side T
  refine ⟨_, fd, [], g_check_side T, F.kp, okN F sc_check_side (fun vs H Q E h => ?_) (fun cdv A outer s H vs Q E hr h => ?_), F.bindsN fun _ _ _ _ _ _ us hl => match us, hl with | [_, _, _], _ => rfl, .nil⟩
  · obtain ⟨f, p, n, x, rfl, _⟩ := h
    rfl
  · obtain ⟨f, p, n, x, rfl, hF, n1, n5, hp, q⟩ := h
    refine ⟨_, (pss_one (ps_if (PW.pt (pw_or (pt_not (pt_val (pe_callH (H_is_whole3 T) (hr.mono (by decide)) passL (pa_cons (pv 1) (pa_cons pe_int (pa_cons (C8.pe_gc rfl (i_MOST_ROWS T)) pa_nil)))))) (pw_or1 (PW.pt (pw_and (pt_cmp (pc_gt (pe_fld (pv 0) rfl) pe_int)) (pw_and1 (pt_cmp (pc_gt (pv 1) (pe_fld (pv 0) rfl)))))))))
        (pss_one ps_never)
        pss_nil)), ?_⟩
    obtain ⟨hpp, fx, vz, vo, hf, _, _⟩ := id hF
    refine ⟨_, rfl, (n : Int), some 1, some 5, true, rfl, (decide_eq_true ⟨fun l e => (by cases e; omega), fun l e => (by cases e; omega)⟩).symm, _, rfl, iteF ?_⟩
    refine ⟨_, rfl, f, _, fx, _, _, rfl, hf, cl_Figures T, na_Figures_prime T, rfl, _, _, rfl, rfl, decide (0 < p), congrArg V.bl (decide_eq_decide.mpr (by omega)), ?_⟩
    by_cases hp0 : 0 < p
    · rw [decide_eq_true hp0]
      exact iteT ⟨_, rfl, _, rfl, f, _, fx, _, _, rfl, hf, cl_Figures T, na_Figures_prime T, rfl, _, _, rfl, rfl, false, congrArg V.bl (decide_eq_false (by omega)), iteF q⟩
    · rw [decide_eq_false hp0]
      exact iteF (iteF q)
def prD {p : Nat} (q : Pr (Car p)) : PyData := .tuple [rowD true q.u, rowD true q.v, numD q.c, numD q.d]
theorem tp_pr {p : Nat} (q : Pr (Car p)) : Tp 3 (prD q) := Tp.tup (n := 2) fun e he => by
  simp only [List.mem_cons, List.not_mem_nil, or_false] at he
  rcases he with rfl | rfl | rfl | rfl
  · exact tp_row _
  · exact tp_row _
  · exact (tp_num _).up (by decide)
  · exact (tp_num _).up (by decide)
theorem pr_inv {H : Hp} {p : Nat} {q : Pr (Car p)} {v : V} (h : Dp K H v (prD q)) : ∃ b u z c d, v = .ref b ∧ SqT K H b [u, z, c, d] ∧ Dp K H u (rowD true q.u) ∧ Dp K H z (rowD true q.v) ∧ Dp K H c (numD q.c) ∧ Dp K H d (numD q.d) := by
  obtain ⟨b, vs, e, hT, hA⟩ := Dp.tup_inv h
  obtain ⟨v1, w1, rfl, h1, hA⟩ := hA.cons_inv
  obtain ⟨v2, w2, rfl, h2, hA⟩ := hA.cons_inv
  obtain ⟨v3, w3, rfl, h3, hA⟩ := hA.cons_inv
  obtain ⟨v4, w4, rfl, h4, hA⟩ := hA.cons_inv
  obtain rfl := hA.nil_inv
  exact ⟨b, v1, v2, v3, v4, e, hT, h1, h2, h3, h4⟩
def spProduct (K : PySem.W.Frag) : Sp := fun vs H Q _ => ∃ (f : Addr) (p R C : Nat) (x : Pr (Car p)) (v : V) (k : Int), vs = [.ref f, .int (R : Int), .int (C : Int), v, .int k] ∧ FigAt K H f p ∧ Dp K H v (prD x) ∧ x.u.length = R ∧ x.v.length = C ∧ ∀ v' H', Same H H' → Dp K H' v' (prD x) → Q v' H'
theorem H_check_product (T : Txt K mg) : Hs P w K mg base 5 "check_product" ["figures", "rows", "columns", "product", "index"] [] (spProduct K) := by
  obtain ⟨fd, F⟩ := F_check_product T
  refine ⟨_, fd, [], g_check_product T, F.kp, okN F sc_check_product (fun vs H Q E h => ?_) (fun cdv A outer s H vs Q E hr h => ?_), F.bindsN fun _ _ _ _ _ _ us hl => match us, hl with | [_, _, _, _, _], _ => rfl, .nil⟩
  · obtain ⟨f, p, R, C, x, v, k, rfl, _⟩ := h
    rfl
  · obtain ⟨f, p, R, C, x, v, k, rfl, hF, d, lu, lv, q⟩ := h
    refine ⟨_, (pss_cons (ps_if (PW.pt (pw_or (pt_not (pt_val (pe_callH (H_is_sequence T) (hr.mono (by decide)) passL (pa_cons (pv 3) pa_nil)))) (pw_or1 (pt_cmp (pc_neI (pe_callB call_len rfl (n_len T) PySem.boot_len (pa_cons (pv 3) pa_nil)) pe_int)))))
        (pss_one ps_never)
        pss_nil)
      (pss_cons (ps_asg (pv 3) (pg_tup rfl (pgs_cons (pg_name (i := 5) sc_check_product.nd rfl (Or.inl rfl)) (pgs_cons (pg_name (i := 6) sc_check_product.nd rfl (Or.inl rfl)) (pgs_cons (pg_name (i := 7) sc_check_product.nd rfl (Or.inl rfl)) (pgs_cons (pg_name (i := 8) sc_check_product.nd rfl (Or.inl rfl)) pgs_nil))))))
      (pss_cons (ps_if (pt_cmp (pc_notN (pe_callH (H_first_wrong T) (hr.mono (by decide)) passL (pa_cons (pv 0) (pa_cons (pv 5) (pa_cons (pv 1) pa_nil))))))
        (pss_one ps_never)
        pss_nil)
      (pss_cons (ps_if (pt_cmp (pc_notN (pe_callH (H_first_wrong T) (hr.mono (by decide)) passL (pa_cons (pv 0) (pa_cons (pv 6) (pa_cons (pv 2) pa_nil))))))
        (pss_one ps_never)
        pss_nil)
      (pss_cons (ps_if (PW.pt (pw_or (pt_not (pt_val (pe_methH (pv 0) (HM_Figures_is_number T) (hr.mono (by decide)) passL (pa_cons (pv 7) pa_nil)))) (pw_or1 (pt_not (pt_val (pe_methH (pv 0) (HM_Figures_is_number T) (hr.mono (by decide)) passL (pa_cons (pv 8) pa_nil)))))))
        (pss_one ps_never)
        pss_nil)
      (pss_one (ps_ret (pe_tup (pa_cons (pe_callTy call_tuple_of rfl (n_tuple T) (by decide +kernel) (pa_cons (pv 5) pa_nil)) (pa_cons (pe_callTy call_tuple_of rfl (n_tuple T) (by decide +kernel) (pa_cons (pv 6) pa_nil)) (pa_cons (pv 7) (pa_cons (pv 8) pa_nil)))))))))))), ?_⟩
    obtain ⟨b, u, z, c, e, rfl, sT, du, dz, dc, de⟩ := pr_inv d
    refine ⟨_, rfl, .inl ⟨true, b, _, rfl, sT, fun H1 e1 => ⟨_, rfl, iteF ?_⟩⟩⟩
    have sT1 := Same.sqT e1 sT
    refine ⟨_, rfl, _, _, rfl, sqT_len sT1, _, _, rfl, rfl, _, rfl, iteF ?_⟩
    refine ⟨_, rfl, b, [u, z, c, e], rfl, sT1, rfl, u, [z, c, e], rfl, z, [c, e], rfl, c, [e], rfl, e, [], rfl, rfl, ?_⟩
    refine ⟨_, rfl, _, rfl, _, rfl, f, p, R, u, rfl, hF.same e1, .inl ⟨true, x.u, e1.dp du, lu, fun H2 e2 => ?_⟩⟩
    refine ⟨_, rfl, iteF ?_⟩
    have E2 := e1.trans e2
    refine ⟨_, rfl, _, rfl, _, rfl, f, p, C, z, rfl, hF.same E2, .inl ⟨true, x.v, E2.dp dz, lv, fun H3 e3 => ?_⟩⟩
    refine ⟨_, rfl, iteF ?_⟩
    have E3 := E2.trans e3
    have F3 := hF.same E3
    obtain ⟨_, dx', vz', vo', hA', _, _⟩ := id F3
    refine ⟨_, rfl, f, dx', _, rfl, hA', rfl, _, rfl, f, p, c, rfl, F3, .inl ⟨x.c, E3.dp dc, _, rfl, iteF ?_⟩⟩
    refine ⟨_, rfl, f, dx', _, rfl, hA', rfl, _, rfl, f, p, e, rfl, F3, .inl ⟨x.d, E3.dp de, _, rfl, iteF ?_⟩⟩
    obtain ⟨ub, us, rfl, sU, _⟩ := Dp.tup_inv (E3.dp du)
    obtain ⟨zb, zs, rfl, sZ, _⟩ := Dp.tup_inv (E3.dp dz)
    refine ⟨_, rfl, ub, us, rfl, .inr ⟨sU, _, rfl, zb, zs, rfl, .inr ⟨sZ, _, rfl, _, rfl, by show 4 ≤ sizeLine; exact Nat.le_of_lt (few (by decide)), fun t ht => ?_⟩⟩⟩
    have e6 := Same.upd (o := .tup [.ref ub, .ref zb, c, e]) ht
    have E6 := E3.trans e6
    exact q _ _ E6 (Dp.newT upd_same (.cons (E6.dp du) (.cons (E6.dp dz) (.cons (E6.dp dc) (.cons (E6.dp de) .nil)))))
/-- a row, each number multiplied -/
def spScaled (K : PySem.W.Frag) : Sp := fun vs H Q _ => ∃ (f : Addr) (p : Nat) (x : Car p) (ys : List (Car p)) (v1 v2 : V), vs = [.ref f, v1, v2] ∧ FigAt K H f p ∧ Dp K H v1 (numD x) ∧ Dp K H v2 (rowD true ys) ∧ Sz p 4000 x ∧ (∀ y ∈ ys, Sz p 4000 y) ∧ ys.length ≤ 1000 ∧
  ∀ v' H', Same H H' → Dp K H' v' (rowD true (ys.map fun y => x * y)) → Q v' H'
theorem H_scaled_row (T : Txt K mg) : Hs P w K mg base 5 "scaled_row" ["figures", "number", "row"] [] (spScaled K) := by
  obtain ⟨fd, F⟩ := F_scaled_row T
  refine ⟨_, fd, [], g_scaled_row T, F.kp, okN F sc_scaled_row (fun vs H Q E h => ?_) (fun cdv A outer s H vs Q E hr h => ?_), F.bindsN fun _ _ _ _ _ _ us hl => match us, hl with | [_, _, _], _ => rfl, .nil⟩
  · obtain ⟨f, p, x, ys, v1, v2, rfl, _⟩ := h
    rfl
  · obtain ⟨f, p, x, ys, v1, v2, rfl, hF, d1, d2, z1, z2, hl, q⟩ := h
    refine ⟨_, (pss_one (ps_ret (pe_callTy call_tuple_of rfl (n_tuple T) (by decide +kernel) (pa_cons (pe_lc (own := [("a", 3)]) rfl sc_scaled_row.nd (pi_tup (pv 2)) (blkOk_by (own := [("a", 3)]) (N := N_scaled_row) (sc := defScope s_scaled_row) (by decide +kernel)) (fun _ _ _ _ _ => (pg_name (i := 3) sc_scaled_row.nd rfl (Or.inl rfl))) (fun _ _ _ _ _ => pts_nil) (fun _ _ _ _ _ => (pe_methH (pv 0) (HM_Figures_times T) (hr.mono (by decide)) passL (pa_cons (pv 1) (pa_cons (pv 3) pa_nil))))) pa_nil)))), ?_⟩
    obtain ⟨b, ws, rfl, sT, aT⟩ := Dp.tup_inv d2
    have lw := row_len aT
    refine ⟨_, rfl, b, rfl, ⟨ws, sT⟩, fun D hD => ?_⟩
    refine lc_it (walk_tup (xs := ws)) (fun i H' => ∃ acc, LAt K [] H D acc ((ys.take i).map fun y => numD (x * y)) H') ⟨[], LAt.new hD⟩ (fun i H' _ ⟨acc, B⟩ => Same.sqT B.sq0 sT) (fun i v H1 H2 hi hP hY => ?_) (fun H1 hP => ?_)
    · obtain ⟨acc, B⟩ := hP
      obtain ⟨rfl, ev⟩ := hY
      obtain ⟨y, hy, dy⟩ := row_at aT ev
      have F1 := hF.same B.sq0
      obtain ⟨_, dx', vz', vo', hA', _, _⟩ := id F1
      refine ⟨rfl, _, rfl, f, dx', _, rfl, hA', rfl, _, rfl, _, rfl, f, p, x, y, v1, v, rfl, F1, B.sq0.dp d1, B.sq0.dp dy, z1, sz_mem z2 hy, fun r H3 e3 d3 => ?_⟩
      have B3 := B.same e3
      have la := B3.len
      rw [List.length_map, List.length_take] at la
      refine ⟨acc, B3.at_, few (by omega), acc ++ [r], ?_⟩
      rw [take_snoc hy, List.map_append]
      exact B3.push ((tp_num _).off B3.lst1 d3)
    · obtain ⟨acc, B⟩ := hP
      refine ⟨D, acc, rfl, .inl ⟨B.sqL, fun l hl => q _ _ (B.sq0.trans (Same.upd hl)) ?_⟩⟩
      have e := (Same.ofOff (M := [D]) (H := H1)).trans (Same.upd (o := .tup acc) hl)
      have q2 := e.dpAll B.all
      rw [List.take_of_length_le (by omega)] at q2
      refine Dp.newT upd_same ?_
      rw [List.map_map]
      exact q2
def spAddRows (K : PySem.W.Frag) : Sp := fun vs H Q _ => ∃ (f : Addr) (p : Nat) (xs ys : List (Car p)) (v1 v2 : V), vs = [.ref f, v1, v2] ∧ FigAt K H f p ∧ Dp K H v1 (rowD true xs) ∧ Dp K H v2 (rowD true ys) ∧ xs.length = ys.length ∧ (∀ x ∈ xs, Sz p 4000 x) ∧ (∀ y ∈ ys, Sz p 4000 y) ∧ ys.length ≤ 1000 ∧
  ∀ v' H', Same H H' → Dp K H' v' (rowD true ((xs.zip ys).map fun q => q.1 + q.2)) → Q v' H'
theorem H_summed_rows (T : Txt K mg) : Hs P w K mg base 5 "summed_rows" ["figures", "one", "other"] [] (spAddRows K) := by
  obtain ⟨fd, F⟩ := F_summed_rows T
  refine ⟨_, fd, [], g_summed_rows T, F.kp, okN F sc_summed_rows (fun vs H Q E h => ?_) (fun cdv A outer s H vs Q E hr h => ?_), F.bindsN fun _ _ _ _ _ _ us hl => match us, hl with | [_, _, _], _ => rfl, .nil⟩
  · obtain ⟨f, p, x, ys, v1, v2, rfl, _⟩ := h
    rfl
  · obtain ⟨f, p, xs, ys, v1, v2, rfl, hF, d1, d2, hxy, z1, z2, hl, q⟩ := h
    refine ⟨_, (pss_one (ps_ret (pe_callTy call_tuple_of rfl (n_tuple T) (by decide +kernel) (pa_cons (pe_lc (own := [("a", 3), ("b", 4)]) rfl sc_summed_rows.nd (pi_zip2 rfl (n_zip T) (pa_cons (pv 1) (pa_cons (pv 2) pa_nil))) (blkOk_by (own := [("a", 3), ("b", 4)]) (N := N_summed_rows) (sc := defScope s_summed_rows) (by decide +kernel)) (fun _ _ _ _ _ => (pg_tupK (n := 2) K rfl rfl (pgs_cons (pg_name (i := 3) sc_summed_rows.nd rfl (Or.inl rfl)) (pgs_cons (pg_name (i := 4) sc_summed_rows.nd rfl (Or.inl rfl)) pgs_nil)))) (fun _ _ _ _ _ => pts_nil) (fun _ _ _ _ _ => (pe_methH (pv 0) (HM_Figures_plus T) (hr.mono (by decide)) passL (pa_cons (pv 3) (pa_cons (pv 4) pa_nil))))) pa_nil)))), ?_⟩
    obtain ⟨b1, w1, rfl, s1, a1⟩ := Dp.tup_inv d1
    obtain ⟨b2, w2, rfl, s2, a2⟩ := Dp.tup_inv d2
    have l1 := row_len a1
    have l2 := row_len a2
    refine ⟨_, rfl, _, rfl, true, true, b1, b2, w1, w2, rfl, s1, s2, fun D hD => ?_⟩
    refine lc_it (walk_zip2 (n := ys.length) (l1.trans hxy) l2) (fun i H' => ∃ acc, LAt K [] H D acc (((xs.zip ys).take i).map fun q => numD (q.1 + q.2)) H') ⟨[], LAt.new hD⟩ (fun i H' _ ⟨acc, B⟩ => ⟨Same.sqT B.sq0 s1, Same.sqT B.sq0 s2⟩) (fun i v H1 H2 hi hP hY => ?_) (fun H1 hP => ?_)
    · obtain ⟨acc, B⟩ := hP
      obtain ⟨Tt, u, v, rfl, hT, rfl, ev1, ev2⟩ := hY
      obtain ⟨x, hx, dx⟩ := row_at a1 ev1
      obtain ⟨y, hy, dy⟩ := row_at a2 ev2
      have hzip : (xs.zip ys)[i]? = some (x, y) := by rw [List.getElem?_zip_eq_some]; exact ⟨hx, hy⟩
      have B := B.same (Same.upd (o := .tup [u, v]) hT)
      have F1 := hF.same B.sq0
      obtain ⟨_, dx', vz', vo', hA', _, _⟩ := id F1
      refine ⟨Tt, [u, v], rfl, .inl (.inl upd_same), rfl, u, [v], rfl, v, [], rfl, rfl, rfl, ?_⟩
      refine ⟨_, rfl, f, dx', _, rfl, hA', rfl, _, rfl, _, rfl, f, p, x, y, u, v, rfl, F1, B.sq0.dp dx, B.sq0.dp dy, sz_mem z1 hx, sz_mem z2 hy, fun r H3 e3 d3 => ?_⟩
      have B3 := B.same e3
      have la := B3.len
      rw [List.length_map, List.length_take] at la
      refine ⟨acc, B3.at_, few (by omega), acc ++ [r], ?_⟩
      rw [take_snoc hzip, List.map_append]
      exact B3.push ((tp_num _).off B3.lst1 d3)
    · obtain ⟨acc, B⟩ := hP
      refine ⟨D, acc, rfl, .inl ⟨B.sqL, fun l hl => q _ _ (B.sq0.trans (Same.upd hl)) ?_⟩⟩
      have e := (Same.ofOff (M := [D]) (H := H1)).trans (Same.upd (o := .tup acc) hl)
      have q2 := e.dpAll B.all
      rw [List.take_of_length_le (by rw [List.length_zip]; omega)] at q2
      refine Dp.newT upd_same ?_
      rw [List.map_map]
      exact q2
/-! ## sparedproducts.turnedabout -/
def spBy (K : PySem.W.Frag) : Sp := fun vs H Q E => ∃ v, vs = [v] ∧ ((v = .str "x" ∧ ∀ H', Same H H' → Q v H') ∨ (v = .str "y" ∧ ∀ H', Same H H' → Q v H') ∨ (v ∈ [V.str "z", .str "", .str "xy", .non, .int 0, .str "Y"] ∧ ∀ H', Same H H' → E (.ref (He.ga K "BadSide")) none H'))
theorem H_check_by (T : Txt K mg) : Hs P w K mg base 3 "check_by" ["by"] [] (spBy K) := by
  obtain ⟨fd, F⟩ := F_check_by T
  obtain ⟨fdI, FI, BI⟩ := HI_BadSide (P := P) (w := w) (base := base) T
  refine ⟨_, fd, [], g_check_by T, F.kp, okX F sc_check_by (fun vs H Q E h => ?_) (fun cdv A outer s H vs Q E hr h => ?_), F.bindsN fun _ _ _ _ _ _ us hl => match us, hl with | [_], _ => rfl, .nil⟩
  · obtain ⟨v, rfl, _⟩ := h
    rfl
  · obtain ⟨v, rfl, h⟩ := h
    refine ⟨_, (pss_cons (ps_if (PW.pt (pw_or (pt_not (pt_val (pe_callB call_isi rfl (n_isinstance T) (by decide +kernel) (pa_cons (pv 0) (pa_cons (pe_bltn (v := .ty "str") rfl (n_str T) (by decide +kernel) rfl) pa_nil))))) (pw_or1 (pt_cmpR op_notIn_seq (pv 0) (pe_tup (pa_cons pe_str (pa_cons pe_str pa_nil))) (by with_unfolding_all rfl)))))
        (pss_one (ps_raise rfl (takes_of rfl rfl rfl rfl) (pmk_oex0 (oe_BadSide T) (ii_BadSide T).1 (ii_BadSide T).2 FI (hr.mono (by decide)) BI passL rfl (g_BadSide T))))
        pss_nil)
      (pss_one (ps_ret (pv 0)))), ?_⟩
    rcases h with ⟨rfl, q⟩ | ⟨rfl, q⟩ | ⟨hm, q⟩
    · refine ⟨_, rfl, _, _, _, _, _, rfl, .ty _, .base (.str "x"), kit_ty (r := true) (by decide +kernel), _, rfl, iteF ?_⟩
      refine ⟨_, rfl, by show 2 ≤ sizeLine; decide, fun t ht => ⟨t, [.str "x", .str "y"], rfl, .inr (.inl (.inl upd_same)), rfl, rfl, false, congrArg V.bl (by decide +kernel), iteF ⟨_, rfl, q _ (Same.upd ht)⟩⟩⟩
    · refine ⟨_, rfl, _, _, _, _, _, rfl, .ty _, .base (.str "y"), kit_ty (r := true) (by decide +kernel), _, rfl, iteF ?_⟩
      refine ⟨_, rfl, by show 2 ≤ sizeLine; decide, fun t ht => ⟨t, [.str "x", .str "y"], rfl, .inr (.inl (.inl upd_same)), rfl, rfl, false, congrArg V.bl (by decide +kernel), iteF ⟨_, rfl, q _ (Same.upd ht)⟩⟩⟩
    · have fin : ∀ H', Same H H' → ∀ a, H' a = none → _ := fun H' e a ha => (⟨a, rfl, upd_same, rfl, rfl, q H' e⟩ : spBadSide K [.ref a] (upd H' a (exo a (He.ga K "BadSide") none)) (fun v H2 => v = .non ∧ H2 = upd H' a (exo a (He.ga K "BadSide") none) ∧ E (.ref (He.ga K "BadSide")) none H') fun _ _ _ => False)
      simp only [List.mem_cons, List.not_mem_nil, or_false] at hm
      rcases hm with rfl | rfl | rfl | rfl | rfl | rfl
      · refine ⟨_, rfl, _, _, _, _, _, rfl, .ty _, .base (.str "z"), kit_ty (r := true) (by decide +kernel), _, rfl, iteF ?_⟩
        exact ⟨_, rfl, by show 2 ≤ sizeLine; decide, fun t ht => ⟨t, [.str "x", .str "y"], rfl, .inr (.inl (.inl upd_same)), rfl, rfl, true, congrArg V.bl (by decide +kernel), iteT (fin _ (Same.upd ht))⟩⟩
      · refine ⟨_, rfl, _, _, _, _, _, rfl, .ty _, .base (.str ""), kit_ty (r := true) (by decide +kernel), _, rfl, iteF ?_⟩
        exact ⟨_, rfl, by show 2 ≤ sizeLine; decide, fun t ht => ⟨t, [.str "x", .str "y"], rfl, .inr (.inl (.inl upd_same)), rfl, rfl, true, congrArg V.bl (by decide +kernel), iteT (fin _ (Same.upd ht))⟩⟩
      · refine ⟨_, rfl, _, _, _, _, _, rfl, .ty _, .base (.str "xy"), kit_ty (r := true) (by decide +kernel), _, rfl, iteF ?_⟩
        exact ⟨_, rfl, by show 2 ≤ sizeLine; decide, fun t ht => ⟨t, [.str "x", .str "y"], rfl, .inr (.inl (.inl upd_same)), rfl, rfl, true, congrArg V.bl (by decide +kernel), iteT (fin _ (Same.upd ht))⟩⟩
      · exact ⟨_, rfl, _, _, _, _, _, rfl, .ty _, .base .non, kit_ty (r := false) (by decide +kernel), _, rfl, iteT (iteT (fin _ (Same.refl _)))⟩
      · exact ⟨_, rfl, _, _, _, _, _, rfl, .ty _, .base (.int 0), kit_ty (r := false) (by decide +kernel), _, rfl, iteT (iteT (fin _ (Same.refl _)))⟩
      · refine ⟨_, rfl, _, _, _, _, _, rfl, .ty _, .base (.str "Y"), kit_ty (r := true) (by decide +kernel), _, rfl, iteF ?_⟩
        exact ⟨_, rfl, by show 2 ≤ sizeLine; decide, fun t ht => ⟨t, [.str "x", .str "y"], rfl, .inr (.inl (.inl upd_same)), rfl, rfl, true, congrArg V.bl (by decide +kernel), iteT (fin _ (Same.upd ht))⟩⟩
end
end K21
set_option maxRecDepth 100000
set_option maxHeartbeats 4000000
namespace K21
open PySem PySem.Spec PyProof.Rows L2
theorem sqL_ins {K : PySem.W.Frag} {H : Hp} {a C dx : Addr} {fs : List (Str × V)} {y : HO} (hx : H a = some (.ins C dx fs)) {b : Addr} {ys : List V} (h : SqL K H b ys) : SqL K (upd H a y) b ys := by
  have ne : ∀ x, H b = some x → x ≠ .ins C dx fs → upd H a y b = some x := fun x e n => by
    rw [upd_ne (fun z => by subst z; rw [hx] at e; exact n (Option.some.inj e).symm)]
    exact e
  rcases h with (h | ⟨o, h⟩) | h
  · exact .inl (.inl (ne _ h fun z => nomatch z))
  · exact .inl (.inr ⟨o, ne _ h fun z => nomatch z⟩)
  · exact .inr h
theorem dpAll_ins {K : PySem.W.Frag} {H : Hp} {a C dx : Addr} {fs : List (Str × V)} {y : HO} {vs : List V} {ds : List PyData} (hx : H a = some (.ins C dx fs)) (h : DpAll K H vs ds) : DpAll K (upd H a y) vs ds := DpAll.by (fun _ _ => sqL_ins hx) (fun _ _ => sqT_ins hx) h
section
variable {P : Program} {w : World} {K : PySem.W.Frag} {mg : Str → Option Value} {base : Heap}
def ProgAt (K : PySem.W.Frag) (H : Hp) (a f : Addr) (p R C : Nat) (Pp : List (Pr (Car p))) : Prop := ∃ (dx : Addr) (v : V), H a = some (.ins (He.ga K "Program") dx [("figures", .ref f), ("rows", .int (R : Int)), ("columns", .int (C : Int)), ("products", v)]) ∧ FigAt K H f p ∧ Dp K H v (.tuple (Pp.map prD))
theorem ProgAt.same {H H' : Hp} {a f : Addr} {p R C : Nat} {Pp : List (Pr (Car p))} (e : Same H H') (h : ProgAt K H a f p R C Pp) : ProgAt K H' a f p R C Pp := by
  obtain ⟨dx, v, h1, h2, h3⟩ := h
  exact ⟨dx, v, e _ _ h1, h2.same e, e.dp h3⟩
theorem tp_prs {p : Nat} (Pp : List (Pr (Car p))) : Tp 4 (.tuple (Pp.map prD)) := Tp.tup (n := 3) fun e he => by
  obtain ⟨x, _, e⟩ := List.mem_map.mp he
  rw [← e]
  exact tp_pr x
/-- sides that fit -/
def Sides (p R C : Nat) : Prop := 1 ≤ R ∧ R ≤ 5 ∧ 1 ≤ C ∧ C ≤ 5 ∧ (p = 0 ∨ (R ≤ p ∧ C ≤ p))
def spProgram (K : PySem.W.Frag) : Sp := fun vs H Q _ => ∃ (H0 : Hp) (a dx f : Addr) (p R C : Nat) (Pp : List (Pr (Car p))) (k : Bool) (v : V), vs = [.ref a, .ref f, .int (R : Int), .int (C : Int), v] ∧ Same H0 H ∧ H0 a = none ∧ H a = some (.ins (He.ga K "Program") dx []) ∧ FigAt K H0 f p ∧ Dp K H0 v (seqD k (Pp.map prD)) ∧ Pok Pp R C ∧ Pp.length ≤ 30 ∧ Sides p R C ∧
  ∀ H', Same H0 H' → ProgAt K H' a f p R C Pp → Q .non H'
theorem HC_Program (T : Txt K mg) : HsC P w K mg base 6 "Program" (He.ga K "Program") ["self", "figures", "rows", "columns", "products"] (spProgram K) := by
  obtain ⟨fd, F⟩ := F_Program_init T
  refine ⟨_, fd, mk_Program T, g_Program T, okN F sc_Program_init (fun vs H Q E h => ?_) (fun cdv A outer s H vs Q E hr h => ?_), F.bindsN fun _ _ _ _ _ _ us hl => match us, hl with | [_, _, _, _, _], _ => rfl⟩
  · obtain ⟨H0, a, dx, f, p, R, C, Pp, k, v, rfl, _⟩ := h
    rfl
  · obtain ⟨H0, a, dx, f, p, R, C, Pp, k, v, rfl, s0, h0, hA, hF, d, ok, hl, hs, q⟩ := h
    obtain ⟨r1, r5, c1, c5, hp⟩ := hs
    refine ⟨_, (pss_cons (ps_expr (pe_callH (H_check_side T) (hr.mono (by decide)) passL (pa_cons (pv 1) (pa_cons (pv 2) (pa_cons pe_str pa_nil)))))
      (pss_cons (ps_expr (pe_callH (H_check_side T) (hr.mono (by decide)) passL (pa_cons (pv 1) (pa_cons (pv 3) (pa_cons pe_str pa_nil)))))
      (pss_cons (ps_if (PW.pt (pw_or (pt_not (pt_val (pe_callH (H_is_sequence T) (hr.mono (by decide)) passL (pa_cons (pv 4) pa_nil)))) (pw_or1 (pt_cmp (pc_gt (pe_callB call_len rfl (n_len T) PySem.boot_len (pa_cons (pv 4) pa_nil)) (C8.pe_gc rfl (i_MOST_PRODUCTS T)))))))
        (pss_one ps_never)
        pss_nil)
      (pss_cons (ps_set (i := 5) sc_Program_init.nd rfl (Or.inl rfl) (pe_lst pa_nil))
      (pss_cons (ps_for PassesOwn.never rfl (pi_enum2 rfl (n_enumerate T) (pa_cons (pv 4) pa_nil)) (pg_tup rfl (pgs_cons (pg_name (i := 6) sc_Program_init.nd rfl (Or.inl rfl)) (pgs_cons (pg_name (i := 7) sc_Program_init.nd rfl (Or.inl rfl)) pgs_nil)))
        (pss_one (ps_expr (pe_bm PySem.F.plainAttrs_list PySem.F.slot_list_append PySem.F.type_list_append mt_append (pv 5) (pa_cons (pe_callH (H_check_product T) (hr.mono (by decide)) passL (pa_cons (pv 1) (pa_cons (pv 2) (pa_cons (pv 3) (pa_cons (pv 7) (pa_cons (pv 6) pa_nil)))))) pa_nil)))))
      (pss_cons (ps_fld (pv 0) (pv 1) rfl)
      (pss_cons (ps_fld (pv 0) (pv 2) rfl)
      (pss_cons (ps_fld (pv 0) (pv 3) rfl)
      (pss_one (ps_fld (pv 0) (pe_callTy call_tuple_of rfl (n_tuple T) (by decide +kernel) (pa_cons (pv 5) pa_nil)) rfl)))))))))), ?_⟩
    have d0 := s0.dp d
    obtain ⟨b, ws, rfl, sB, aB⟩ := Dp.seq d0
    have lw : ws.length = Pp.length := by rw [aB.len, List.length_map]
    refine ⟨_, rfl, _, rfl, f, p, R, "rows", rfl, hF.same s0, r1, r5, by omega, ?_⟩
    refine ⟨_, rfl, _, rfl, f, p, C, "columns", rfl, hF.same s0, c1, c5, by omega, ?_⟩
    refine ⟨_, rfl, .inl ⟨k, b, ws, rfl, sB, fun H1 e1 => ⟨_, rfl, iteF ⟨_, rfl, _, _, rfl, sqB_len (Same.sqB e1 sB), _, _, rfl, rfl, false, congrArg V.bl (decide_eq_false (by omega)), iteF ?_⟩⟩⟩⟩
    refine ⟨by show 0 ≤ sizeLine; exact Nat.zero_le _, fun L hL => ?_⟩
    have A0 : LAt K [] H1 L [] [] (upd H1 L (.lst [])) := LAt.new hL
    refine ⟨_, rfl, k, b, ws, rfl, Same.sqB (e1.trans A0.sq0) sB, for_it walk_enum2
      (fun i σ H' => ∃ o6 o7 acc, σ = [some (.ref a), some (.ref f), some (.int (R : Int)), some (.int (C : Int)), some (.ref b), some (.ref L), o6, o7] ∧ LAt K [] H1 L acc ((Pp.take i).map prD) H')
      ⟨none, none, [], rfl, A0⟩ (fun i σ H' hi ⟨_, _, _, _, e⟩ => Same.sqB (e1.trans e.sq0) sB) (fun i x σ H2 H3 hi hP hY => ?_) (fun σ H' hP => ?_)⟩
    · obtain ⟨o6, o7, acc, rfl, B⟩ := hP
      obtain ⟨Tt, u, v, rfl, hT, rfl, ew, ev⟩ := hY
      obtain rfl := Option.some.inj ew
      obtain ⟨dd, hd, dv⟩ := aB.of ev
      obtain ⟨x, hx, rfl⟩ := map_at hd
      have B := B.same (Same.upd (o := .tup [.int (i : Nat), v]) hT)
      have hm := ok x (List.mem_of_getElem? hx)
      refine ⟨Tt, [.int (i : Nat), v], rfl, .inl (.inl upd_same), rfl, .int (i : Nat), [v], rfl, v, [], rfl, rfl, ?_⟩
      refine ⟨_, rfl, .inl ⟨rfl, acc, B.sqL⟩, _, rfl, _, rfl, _, rfl, _, rfl, _, rfl, f, p, R, C, x, v, i, rfl, hF.same ((s0.trans e1).trans B.sq0), (e1.trans B.sq0).dp dv, hm.1, hm.2, fun v' H4 e4 d4 => ?_⟩
      have B4 := B.same e4
      have la := B4.len
      rw [List.length_map, List.length_take] at la
      refine ⟨L, acc, _, rfl, rfl, B4.at_, few (by omega), ⟨_, _, acc ++ [v'], rfl, ?_⟩⟩
      rw [take_snoc hx, List.map_append]
      exact B4.push ((tp_pr x).off B4.lst1 d4)
    · obtain ⟨o6, o7, acc, rfl, B⟩ := hP
      have hA2 := B.sq0 _ _ (e1 _ _ hA)
      have nL : L ≠ a := fun e => by
        have := B.at_
        rw [e, hA2] at this
        exact nomatch this
      refine ⟨_, rfl, _, rfl, a, _, dx, _, rfl, hA2, cl_Program T, na_Program_figures T, by show 0 < 1000; decide, ?_⟩
      rw [putF_nil]
      refine ⟨_, rfl, _, rfl, a, _, dx, _, rfl, upd_same, cl_Program T, na_Program_rows T, by show 1 < 1000; decide, ?_⟩
      rw [putF_ne (by decide), putF_nil, upd_upd]
      refine ⟨_, rfl, _, rfl, a, _, dx, _, rfl, upd_same, cl_Program T, na_Program_columns T, by show 2 < 1000; decide, ?_⟩
      rw [putF_ne (by decide), putF_ne (by decide), putF_nil, upd_upd]
      refine ⟨_, rfl, L, acc, rfl, .inl ⟨SqL.of (by rw [upd_ne nL]; exact B.at_), fun l hl => ?_⟩⟩
      refine ⟨_, rfl, a, _, dx, _, rfl, Same.upd hl _ _ upd_same, cl_Program T, na_Program_products T, by show 3 < 1000; decide, ?_⟩
      rw [putF_ne (by decide), putF_ne (by decide), putF_ne (by decide), putF_nil]
      have E := ((s0.trans e1).trans B.sq0)
      have E2 := ((E.put (o := .ins (He.ga K "Program") dx [("figures", .ref f), ("rows", .int (R : Int)), ("columns", .int (C : Int))]) h0).trans (Same.upd (o := .tup acc) hl)).put (o := .ins (He.ga K "Program") dx [("figures", .ref f), ("rows", .int (R : Int)), ("columns", .int (C : Int)), ("products", .ref l)]) h0
      refine q _ E2 ⟨dx, .ref l, upd_same, hF.same E2, ?_⟩
      have q2 := dpAll_ins (y := .ins (He.ga K "Program") dx [("figures", .ref f), ("rows", .int (R : Int)), ("columns", .int (C : Int))]) hA2 ((Same.ofOff (M := [L])).dpAll B.all)
      rw [List.take_of_length_le (by omega)] at q2
      exact (tp_prs Pp).dp (fun _ _ => sqT_ins (Same.upd hl _ _ upd_same)) (Dp.newT upd_same ((Same.upd hl).dpAll q2))
def spProgEq (K : PySem.W.Frag) : Sp := fun vs H Q _ => ∃ (a b f g : Addr) (p R C : Nat) (Pp : List (Pr (Car p))), vs = [.ref a, .ref b] ∧ ProgAt K H a f p R C Pp ∧ ProgAt K H b g p R C Pp ∧ Q (.bl true) H
theorem HM_Program_eq (T : Txt K mg) : ∃ fd, FnOk P w K mg base CX0 3 (He.ma K (He.ga K "Program") "__eq__") fd ["self", "other"] (spProgEq K) ∧ Binds K fd ["self", "other"] [] := by
  obtain ⟨fd, F⟩ := F_Program_eq T
  obtain ⟨fdE, FE, BE⟩ := HM_Figures_eq (P := P) (w := w) (base := base) T
  refine ⟨fd, okN0 F sc_Program_eq (fun vs H Q E h => ?_) (fun cdv A outer s H vs Q E hr h => ?_), F.bindsN fun _ _ _ _ _ _ us hl => match us, hl with | [_, _], _ => rfl⟩
  · obtain ⟨a, b, f, g, p, R, C, Pp, rfl, _⟩ := h
    rfl
  · obtain ⟨a, b, f, g, p, R, C, Pp, rfl, h1, h2, q⟩ := h
    refine ⟨_, (pss_cons (ps_if (PW.pt (pw_or (pt_not (pt_val (pe_callB (C8.call_isC (ic_Program T)) rfl (n_isinstance T) (by decide +kernel) (pa_cons (pv 1) (pa_cons (pe_glob (v := .ref (He.ga K "Program")) rfl (g_Program T) rfl) pa_nil))))) (pw_or1 (pt_cmpR (op_neI FE (me_Figures_eq T).at_ (me_Figures_eq T).fn BE (hr.mono (by decide)) (ne_Figures T).1 (ne_Figures T).2) (pe_fld (pv 0) rfl) (pe_fld (pv 1) rfl) (nomark _)))))
        (pss_one (ps_ret pe_bl))
        pss_nil)
      (pss_one (ps_ret (pe_and (pe_cmp (pc_eqI (pe_fld (pv 0) rfl) (pe_fld (pv 1) rfl))) (pe_and (pe_cmp (pc_eqI (pe_fld (pv 0) rfl) (pe_fld (pv 1) rfl))) (pe_one (pe_cmpR (op_eqD hr.units) (pe_fld (pv 0) rfl) (pe_fld (pv 1) rfl) (nomark _)))))))), ?_⟩
    obtain ⟨dx, v1, hA, hF, d1⟩ := h1
    obtain ⟨dy, v2, hB, hG, d2⟩ := h2
    obtain ⟨_, fx, _, _, hf, _, _⟩ := id hF
    obtain ⟨_, gx, _, _, hg, _, _⟩ := id hG
    refine ⟨_, rfl, b, dy, _, rfl, hB, _, rfl, iteF ?_⟩
    refine ⟨_, rfl, a, _, dx, _, _, rfl, hA, cl_Program T, na_Program_figures T, rfl, _, rfl, b, _, dy, _, _, rfl, hB, cl_Program T, na_Program_figures T, rfl, f, g, fx, gx, _, _, rfl, rfl, hf, hg, f, g, p, rfl, hF, hG, true, rfl, _, rfl, iteF ?_⟩
    refine ⟨_, rfl, a, _, dx, _, _, rfl, hA, cl_Program T, na_Program_rows T, rfl, _, rfl, b, _, dy, _, _, rfl, hB, cl_Program T, na_Program_rows T, rfl, _, _, rfl, rfl, true, congrArg V.bl (decide_eq_true rfl), iteT ?_⟩
    refine ⟨_, rfl, a, _, dx, _, _, rfl, hA, cl_Program T, na_Program_columns T, rfl, _, rfl, b, _, dy, _, _, rfl, hB, cl_Program T, na_Program_columns T, rfl, _, _, rfl, rfl, true, congrArg V.bl (decide_eq_true rfl), iteT ?_⟩
    refine ⟨_, rfl, a, _, dx, _, _, rfl, hA, cl_Program T, na_Program_products T, rfl, _, rfl, b, _, dy, _, _, rfl, hB, cl_Program T, na_Program_products T, rfl, _, _, d1, d2, (tp_prs Pp).shaped (by decide), (tp_prs Pp).shaped (by decide), ?_⟩
    rw [(tp_prs Pp).refl]
    exact q
end
end K21
set_option maxRecDepth 100000
set_option maxHeartbeats 4000000
namespace K21
open PySem PySem.Spec PyProof.Rows L2
section
variable {P : Program} {w : World} {K : PySem.W.Frag} {mg : Str → Option Value} {base : Heap}
def flipP {p : Nat} (q : Pr (Car p)) : Pr (Car p) := ⟨q.v, q.u, q.c, q.d⟩
def abD {p : Nat} (q : Pr (Car p)) : PyData := .tuple [.tuple [numD q.c, numD q.d], rowD true q.u, rowD true q.v]
theorem tp_ab {p : Nat} (q : Pr (Car p)) : Tp 3 (abD q) := Tp.tup (n := 2) fun e he => by
  simp only [List.mem_cons, List.not_mem_nil, or_false] at he
  rcases he with rfl | rfl | rfl
  · refine Tp.tup (n := 1) fun e he => ?_
    simp only [List.mem_cons, List.not_mem_nil, or_false] at he
    rcases he with rfl | rfl
    · exact tp_num _
    · exact tp_num _
  · exact tp_row _
  · exact tp_row _
theorem ab_inv {H : Hp} {p : Nat} {q : Pr (Car p)} {v : V} (h : Dp K H v (abD q)) : ∃ b z u s c d, v = .ref b ∧ SqT K H b [.ref z, u, s] ∧ SqT K H z [c, d] ∧ Dp K H u (rowD true q.u) ∧ Dp K H s (rowD true q.v) ∧ Dp K H c (numD q.c) ∧ Dp K H d (numD q.d) := by
  obtain ⟨b, vs, e, hT, hA⟩ := Dp.tup_inv h
  obtain ⟨v1, w1, rfl, h1, hA⟩ := hA.cons_inv
  obtain ⟨v2, w2, rfl, h2, hA⟩ := hA.cons_inv
  obtain ⟨v3, w3, rfl, h3, hA⟩ := hA.cons_inv
  obtain rfl := hA.nil_inv
  obtain ⟨z, us, rfl, hZ, hA⟩ := Dp.tup_inv h1
  obtain ⟨u1, w1, rfl, k1, hA⟩ := hA.cons_inv
  obtain ⟨u2, w2, rfl, k2, hA⟩ := hA.cons_inv
  obtain rfl := hA.nil_inv
  exact ⟨b, z, v2, v3, u1, u2, e, hT, hZ, h2, h3, k1, k2⟩
theorem tp_abs {p : Nat} (Pp : List (Pr (Car p))) : Tp 4 (.tuple (Pp.map abD)) := Tp.tup (n := 3) fun e he => by
  obtain ⟨x, _, e⟩ := List.mem_map.mp he
  rw [← e]
  exact tp_ab x
/-- turned about: side letters, places results -/
def AboutAt (K : PySem.W.Frag) (H : Hp) (a f : Addr) (p : Nat) (b : Str) (nl nr : Nat) (A : List (Pr (Car p))) : Prop := ∃ (dx : Addr) (v : V), H a = some (.ins (He.ga K "About") dx [("figures", .ref f), ("by", .str b), ("letters", .int (nl : Int)), ("results", .int (nr : Int)), ("products", v)]) ∧ FigAt K H f p ∧ Dp K H v (.tuple (A.map abD))
theorem AboutAt.same {H H' : Hp} {a f : Addr} {p nl nr : Nat} {b : Str} {A : List (Pr (Car p))} (e : Same H H') (h : AboutAt K H a f p b nl nr A) : AboutAt K H' a f p b nl nr A := by
  obtain ⟨dx, v, h1, h2, h3⟩ := h
  exact ⟨dx, v, e _ _ h1, h2.same e, e.dp h3⟩
def spAboutI (K : PySem.W.Frag) : Sp := fun vs H Q _ => ∃ (a dx f : Addr) (p nl nr : Nat) (b : Str) (A : List (Pr (Car p))) (v : V) (H0 : Hp), vs = [.ref a, .ref f, .str b, .int (nl : Int), .int (nr : Int), v] ∧ Same H0 H ∧ H0 a = none ∧ H a = some (.ins (He.ga K "About") dx []) ∧ FigAt K H0 f p ∧ Dp K H0 v (.tuple (A.map abD)) ∧ ∀ H', Same H0 H' → AboutAt K H' a f p b nl nr A → Q .non H'
theorem HC_About (T : Txt K mg) : HsC P w K mg base 1 "About" (He.ga K "About") ["self", "figures", "by", "letters", "results", "products"] (spAboutI K) := by
  obtain ⟨fd, F⟩ := F_About_init T
  refine ⟨_, fd, mk_About T, g_About T, okN F sc_About_init (fun vs H Q E h => ?_) (fun cdv A outer s H vs Q E hr h => ?_), F.bindsN fun _ _ _ _ _ _ us hl => match us, hl with | [_, _, _, _, _, _], _ => rfl⟩
  · obtain ⟨a, dx, f, p, nl, nr, b, A, v, H0, rfl, _⟩ := h
    rfl
  · obtain ⟨a, dx, f, p, nl, nr, b, A, v, H0, rfl, s0, h0, hA, hF, d, q⟩ := h
    refine ⟨_, (pss_cons (ps_fld (pv 0) (pv 1) rfl)
      (pss_cons (ps_fld (pv 0) (pv 2) rfl)
      (pss_cons (ps_fld (pv 0) (pv 3) rfl)
      (pss_cons (ps_fld (pv 0) (pv 4) rfl)
      (pss_one (ps_fld (pv 0) (pv 5) rfl)))))), ?_⟩
    refine ⟨_, rfl, _, rfl, a, _, dx, _, rfl, hA, cl_About T, na_About_figures T, by show 0 < 1000; decide, ?_⟩
    rw [putF_nil]
    refine ⟨_, rfl, _, rfl, a, _, dx, _, rfl, upd_same, cl_About T, na_About_by T, by show 1 < 1000; decide, ?_⟩
    rw [putF_ne (by decide), putF_nil, upd_upd]
    refine ⟨_, rfl, _, rfl, a, _, dx, _, rfl, upd_same, cl_About T, na_About_letters T, by show 2 < 1000; decide, ?_⟩
    rw [putF_ne (by decide), putF_ne (by decide), putF_nil, upd_upd]
    refine ⟨_, rfl, _, rfl, a, _, dx, _, rfl, upd_same, cl_About T, na_About_results T, by show 3 < 1000; decide, ?_⟩
    rw [putF_ne (by decide), putF_ne (by decide), putF_ne (by decide), putF_nil, upd_upd]
    refine ⟨_, rfl, _, rfl, a, _, dx, _, rfl, upd_same, cl_About T, na_About_products T, by show 4 < 1000; decide, ?_⟩
    rw [putF_ne (by decide), putF_ne (by decide), putF_ne (by decide), putF_ne (by decide), putF_nil, upd_upd]
    exact q _ (s0.put h0) ⟨dx, v, upd_same, hF.same (s0.put h0), (s0.put h0).dp d⟩
def Odd (v : V) : Prop := v ∈ [V.str "z", .str "", .str "xy", .non, .int 0, .str "Y"]
def spTurn (K : PySem.W.Frag) : Sp := fun vs H Q E => ∃ (a f : Addr) (p R C : Nat) (Pp : List (Pr (Car p))) (v : V), vs = [.ref a, v] ∧ ProgAt K H a f p R C Pp ∧ Pp.length ≤ 30 ∧
  ((v = .str "y" ∧ ∀ r H', Same H H' → AboutAt K H' r f p "y" R C Pp → Q (.ref r) H') ∨ (v = .str "x" ∧ ∀ r H', Same H H' → AboutAt K H' r f p "x" C R (Pp.map flipP) → Q (.ref r) H') ∨ (Odd v ∧ ∀ H', Same H H' → E (.ref (He.ga K "BadSide")) none H'))
theorem FT (T : Txt K mg) : ∃ fd, FnOk P w K mg base (L2.CX P w) 4 (He.ga K "turned_about") fd ["program", "by"] (spTurn K) ∧ (∃ ds, Vals [.str "y"] ds ∧ Binds K fd ["program", "by"] ds) ∧ PySem.W.keepIn K (.ref (He.ga K "turned_about")) = true ∧ ∃ g, KBn K fd ["program", "by"] 1 ["by"] g fun vs zs => vs ++ zs := by
  obtain ⟨fd, F⟩ := F_turned_about T
  refine ⟨fd, okX F sc_turned_about (fun vs H Q E h => ?_) (fun cdv A outer s H vs Q E hr h => ?_), ?_, F.kp, ?_⟩
  · obtain ⟨a, f, p, R, C, Pp, v, rfl, _⟩ := h
    rfl
  · obtain ⟨a, f, p, R, C, Pp, v, rfl, hP, hl, h⟩ := h
    refine ⟨_, (pss_cons (ps_if (pt_cmpR op_eq (pe_callH (H_check_by T) (hr.mono (by decide)) (passes_call (takes_of rfl rfl rfl rfl) (fun _ _ _ _ h => h)) (pa_cons (pv 1) pa_nil)) pe_str (nomark _))
        (pss_cons (ps_set (i := 2) sc_turned_about.nd rfl (Or.inl rfl) (pe_callTy call_tuple_of rfl (n_tuple T) (by decide +kernel) (pa_cons (pe_lc (own := [("u", 3), ("v", 4), ("one", 5), ("other", 6)]) rfl sc_turned_about.nd (pi_tup (pe_fld (pv 0) rfl)) (blkOk_by (own := [("u", 3), ("v", 4), ("one", 5), ("other", 6)]) (N := N_turned_about) (sc := defScope s_turned_about) (by decide +kernel)) (fun _ _ _ _ _ => (pg_tupK (n := 4) K rfl rfl (pgs_cons (pg_name (i := 3) sc_turned_about.nd rfl (Or.inl rfl)) (pgs_cons (pg_name (i := 4) sc_turned_about.nd rfl (Or.inl rfl)) (pgs_cons (pg_name (i := 5) sc_turned_about.nd rfl (Or.inl rfl)) (pgs_cons (pg_name (i := 6) sc_turned_about.nd rfl (Or.inl rfl)) pgs_nil)))))) (fun _ _ _ _ _ => pts_nil) (fun _ _ _ _ _ => (pe_tup (pa_cons (pe_tup (pa_cons (pv 5) (pa_cons (pv 6) pa_nil))) (pa_cons (pv 3) (pa_cons (pv 4) pa_nil)))))) pa_nil)))
          (pss_one (ps_ret (pe_makeH (HC_About T) (hr.mono (by decide)) passL (pa_cons (pe_fld (pv 0) rfl) (pa_cons (pv 1) (pa_cons (pe_fld (pv 0) rfl) (pa_cons (pe_fld (pv 0) rfl) (pa_cons (pv 2) pa_nil)))))))))
        pss_nil)
      (pss_cons (ps_set (i := 2) sc_turned_about.nd rfl (Or.inl rfl) (pe_callTy call_tuple_of rfl (n_tuple T) (by decide +kernel) (pa_cons (pe_lc (own := [("u", 3), ("v", 4), ("one", 5), ("other", 6)]) rfl sc_turned_about.nd (pi_tup (pe_fld (pv 0) rfl)) (blkOk_by (own := [("u", 3), ("v", 4), ("one", 5), ("other", 6)]) (N := N_turned_about) (sc := defScope s_turned_about) (by decide +kernel)) (fun _ _ _ _ _ => (pg_tupK (n := 4) K rfl rfl (pgs_cons (pg_name (i := 3) sc_turned_about.nd rfl (Or.inl rfl)) (pgs_cons (pg_name (i := 4) sc_turned_about.nd rfl (Or.inl rfl)) (pgs_cons (pg_name (i := 5) sc_turned_about.nd rfl (Or.inl rfl)) (pgs_cons (pg_name (i := 6) sc_turned_about.nd rfl (Or.inl rfl)) pgs_nil)))))) (fun _ _ _ _ _ => pts_nil) (fun _ _ _ _ _ => (pe_tup (pa_cons (pe_tup (pa_cons (pv 5) (pa_cons (pv 6) pa_nil))) (pa_cons (pv 4) (pa_cons (pv 3) pa_nil)))))) pa_nil)))
      (pss_one (ps_ret (pe_makeH (HC_About T) (hr.mono (by decide)) passL (pa_cons (pe_fld (pv 0) rfl) (pa_cons (pv 1) (pa_cons (pe_fld (pv 0) rfl) (pa_cons (pe_fld (pv 0) rfl) (pa_cons (pv 2) pa_nil)))))))))), ?_⟩
    obtain ⟨dx, vp, hA, hF, dp⟩ := id hP
    obtain ⟨pb, ws, rfl, sT, aT⟩ := Dp.tup_inv dp
    have lw : ws.length = Pp.length := by rw [aT.len, List.length_map]
    rcases h with ⟨rfl, q⟩ | ⟨rfl, q⟩ | ⟨hv, q⟩
    · refine ⟨_, rfl, _, rfl, .inr (.inl ⟨rfl, fun H1 e1 => ?_⟩)⟩
      refine ⟨rfl, _, rfl, iteT ?_⟩
      have sT1 := Same.sqT e1 sT
      refine ⟨_, rfl, a, _, dx, _, _, rfl, e1 _ _ hA, cl_Program T, na_Program_products T, rfl, pb, rfl, ⟨ws, sT1⟩, fun D hD => ?_⟩
      refine lc_it (walk_tup (xs := ws)) (fun i H' => ∃ acc, LAt K [] H1 D acc ((Pp.take i).map fun q => abD q) H') ⟨[], LAt.new hD⟩ (fun i H' _ ⟨acc, B⟩ => Same.sqT B.sq0 sT1) (fun i v H2 H3 hi hP hY => ?_) (fun H2 hP => ?_)
      · obtain ⟨acc, B⟩ := hP
        obtain ⟨rfl, ev⟩ := hY
        obtain ⟨dd, hd, dv⟩ := aT.of ev
        obtain ⟨x, hx, rfl⟩ := map_at hd
        obtain ⟨b, u, z, c, e, rfl, sP, du, dz, dc, de⟩ := pr_inv dv
        have E := e1.trans B.sq0
        refine ⟨b, [u, z, c, e], rfl, Same.sqT E sP, rfl, u, [z, c, e], rfl, z, [c, e], rfl, c, [e], rfl, e, [], rfl, rfl, rfl, ?_⟩
        refine ⟨_, rfl, _, rfl, by show 2 ≤ sizeLine; decide, fun t ht => ⟨_, rfl, _, rfl, by show 3 ≤ sizeLine; exact Nat.le_of_lt (few (by decide)), fun t2 ht2 => ?_⟩⟩
        have B3 := (B.same (Same.upd (o := .tup [c, e]) ht)).same (Same.upd (o := .tup [.ref t, u, z]) ht2)
        have la := B3.len
        rw [List.length_map, List.length_take] at la
        refine ⟨acc, B3.at_, few (by omega), acc ++ [.ref t2], ?_⟩
        rw [take_snoc hx, List.map_append]
        have q1 := E.trans (Same.upd (o := .tup [c, e]) ht)
        have q2 := Same.upd (o := .tup [.ref t, u, z]) ht2
        refine B3.push ((tp_ab x).off B3.lst1 ?_)
        exact Dp.newT upd_same (.cons (q2.dp (Dp.newT upd_same (.cons (q1.dp dc) (.cons (q1.dp de) .nil)))) (.cons (q2.dp (q1.dp du)) (.cons (q2.dp (q1.dp dz)) .nil)))
      · obtain ⟨acc, B⟩ := hP
        refine ⟨D, acc, rfl, .inl ⟨B.sqL, fun l hl => ?_⟩⟩
        have q2 := (Same.upd (o := .tup acc) hl).dpAll ((Same.ofOff (M := [D]) (H := H2)).dpAll B.all)
        rw [List.take_of_length_le (by omega)] at q2
        have E := (e1.trans B.sq0).trans (Same.upd (o := .tup acc) hl)
        refine ⟨_, rfl, a, _, dx, _, _, rfl, E _ _ hA, cl_Program T, na_Program_figures T, rfl, _, rfl, _, rfl, a, _, dx, _, _, rfl, E _ _ hA, cl_Program T, na_Program_rows T, rfl, _, rfl, a, _, dx, _, _, rfl, E _ _ hA, cl_Program T, na_Program_columns T, rfl, _, rfl, fun x xd hx hxd ne => ?_⟩
        have E2 := E.trans ((Same.upd (o := .own x) hxd).trans (Same.upd (o := .ins (He.ga K "About") xd []) (by rw [upd_ne (Ne.symm ne)]; exact hx)))
        refine ⟨x, xd, f, p, R, C, "y", Pp, .ref l, _, rfl, (Same.upd (o := .own x) hxd).trans (Same.upd (o := .ins (He.ga K "About") xd []) (by rw [upd_ne (Ne.symm ne)]; exact hx)), hx, upd_same, hF.same E, ?_, fun H' e' hAb => ⟨rfl, q _ _ (E.trans e') hAb⟩⟩
        exact Dp.newT upd_same (q2)
    · refine ⟨_, rfl, _, rfl, .inl ⟨rfl, fun H1 e1 => ?_⟩⟩
      refine ⟨rfl, _, rfl, iteF ?_⟩
      have sT1 := Same.sqT e1 sT
      refine ⟨_, rfl, a, _, dx, _, _, rfl, e1 _ _ hA, cl_Program T, na_Program_products T, rfl, pb, rfl, ⟨ws, sT1⟩, fun D hD => ?_⟩
      refine lc_it (walk_tup (xs := ws)) (fun i H' => ∃ acc, LAt K [] H1 D acc ((Pp.take i).map fun q => abD (flipP q)) H') ⟨[], LAt.new hD⟩ (fun i H' _ ⟨acc, B⟩ => Same.sqT B.sq0 sT1) (fun i v H2 H3 hi hP hY => ?_) (fun H2 hP => ?_)
      · obtain ⟨acc, B⟩ := hP
        obtain ⟨rfl, ev⟩ := hY
        obtain ⟨dd, hd, dv⟩ := aT.of ev
        obtain ⟨x, hx, rfl⟩ := map_at hd
        obtain ⟨b, u, z, c, e, rfl, sP, du, dz, dc, de⟩ := pr_inv dv
        have E := e1.trans B.sq0
        refine ⟨b, [u, z, c, e], rfl, Same.sqT E sP, rfl, u, [z, c, e], rfl, z, [c, e], rfl, c, [e], rfl, e, [], rfl, rfl, rfl, ?_⟩
        refine ⟨_, rfl, _, rfl, by show 2 ≤ sizeLine; decide, fun t ht => ⟨_, rfl, _, rfl, by show 3 ≤ sizeLine; exact Nat.le_of_lt (few (by decide)), fun t2 ht2 => ?_⟩⟩
        have B3 := (B.same (Same.upd (o := .tup [c, e]) ht)).same (Same.upd (o := .tup [.ref t, z, u]) ht2)
        have la := B3.len
        rw [List.length_map, List.length_take] at la
        refine ⟨acc, B3.at_, few (by omega), acc ++ [.ref t2], ?_⟩
        rw [take_snoc hx, List.map_append]
        have q1 := E.trans (Same.upd (o := .tup [c, e]) ht)
        have q2 := Same.upd (o := .tup [.ref t, z, u]) ht2
        refine B3.push ((tp_ab (flipP x)).off B3.lst1 ?_)
        exact Dp.newT upd_same (.cons (q2.dp (Dp.newT upd_same (.cons (q1.dp dc) (.cons (q1.dp de) .nil)))) (.cons (q2.dp (q1.dp dz)) (.cons (q2.dp (q1.dp du)) .nil)))
      · obtain ⟨acc, B⟩ := hP
        refine ⟨D, acc, rfl, .inl ⟨B.sqL, fun l hl => ?_⟩⟩
        have q2 := (Same.upd (o := .tup acc) hl).dpAll ((Same.ofOff (M := [D]) (H := H2)).dpAll B.all)
        rw [List.take_of_length_le (by omega)] at q2
        have E := (e1.trans B.sq0).trans (Same.upd (o := .tup acc) hl)
        refine ⟨_, rfl, a, _, dx, _, _, rfl, E _ _ hA, cl_Program T, na_Program_figures T, rfl, _, rfl, _, rfl, a, _, dx, _, _, rfl, E _ _ hA, cl_Program T, na_Program_columns T, rfl, _, rfl, a, _, dx, _, _, rfl, E _ _ hA, cl_Program T, na_Program_rows T, rfl, _, rfl, fun x xd hx hxd ne => ?_⟩
        have E2 := E.trans ((Same.upd (o := .own x) hxd).trans (Same.upd (o := .ins (He.ga K "About") xd []) (by rw [upd_ne (Ne.symm ne)]; exact hx)))
        refine ⟨x, xd, f, p, C, R, "x", Pp.map flipP, .ref l, _, rfl, (Same.upd (o := .own x) hxd).trans (Same.upd (o := .ins (He.ga K "About") xd []) (by rw [upd_ne (Ne.symm ne)]; exact hx)), hx, upd_same, hF.same E, ?_, fun H' e' hAb => ⟨rfl, q _ _ (E.trans e') hAb⟩⟩
        exact Dp.newT upd_same (by rw [List.map_map]; exact q2)
    · exact ⟨_, rfl, _, rfl, .inr (.inr ⟨hv, q⟩)⟩
  · exact F.binds0 1 (by simp) rfl fun D doc pm an cdv ct us ks h1 h2 => match us, ks, h1, h2 with | [_], [_], _, _ => ⟨_, _, _, _, _, _, rfl, rfl, rfl⟩
  · obtain ⟨mv, h⟩ := F.kbinds0 (ps := ["program", "by"]) 1 ["by"] [] (fun us mv ws => us ++ ws) (by simp) (fun q h => nomatch h) (fun r1 r2 r3 => r1.append r3) fun D doc pm an cdv ct us mv ws h1 h2 h3 => match us, ws, mv, h1, h2, h3 with | [_], [_], [], _, _, _ => rfl
    exact ⟨_, h⟩
end
end K21
set_option maxRecDepth 100000
set_option maxHeartbeats 4000000
namespace K21
open PySem PySem.Spec PyProof.Rows L2
section
variable {P : Program} {w : World} {K : PySem.W.Frag} {mg : Str → Option Value} {base : Heap}
theorem flip_flip {p : Nat} (q : Pr (Car p)) : flipP (flipP q) = q := rfl
def spBack (K : PySem.W.Frag) : Sp := fun vs H Q _ => ∃ (a f : Addr) (p nl nr : Nat) (b : Str) (A : List (Pr (Car p))), vs = [.ref a] ∧ AboutAt K H a f p b nl nr A ∧ A.length ≤ 30 ∧ Pok A nl nr ∧ Sides p nl nr ∧ Sides p nr nl ∧
  ((b = "y" ∧ ∀ r H', Same H H' → ProgAt K H' r f p nl nr A → Q (.ref r) H') ∨ (b = "x" ∧ ∀ r H', Same H H' → ProgAt K H' r f p nr nl (A.map flipP) → Q (.ref r) H'))
theorem HM_About_back (T : Txt K mg) : HsM P w K mg base 8 (He.ga K "About") "back" ["self"] (spBack K) := by
  obtain ⟨fd, F⟩ := F_About_back T
  refine ⟨_, fd, cl_About T, me_About_back T, okN F sc_About_back (fun vs H Q E h => ?_) (fun cdv A outer s H vs Q E hr h => ?_), F.bindsN fun _ _ _ _ _ _ us hl => match us, hl with | [_], _ => rfl⟩
  · obtain ⟨a, f, p, nl, nr, b, A, rfl, _⟩ := h
    rfl
  · obtain ⟨a, f, p, nl, nr, b, Pp, rfl, hP, hl, ok, s1, s2, h⟩ := h
    refine ⟨_, (pss_cons (ps_if (pt_cmpR op_eq (pe_fld (pv 0) rfl) pe_str (nomark _))
        (pss_cons (ps_setLc (i := 1) (own := [("couple", 2), ("side", 3), ("places", 4)]) rfl sc_About_back.nd rfl rfl (sw_true rfl rfl rfl (by decide +kernel)) (pi_tup (pe_fld (pv 0) rfl)) (blkOk_by (own := [("couple", 2), ("side", 3), ("places", 4)]) (N := N_About_back) (sc := defScope s_About_back) (by decide +kernel)) (fun _ _ _ _ _ => (pg_tupK (n := 3) K rfl rfl (pgs_cons (pg_name (i := 2) sc_About_back.nd rfl (Or.inl rfl)) (pgs_cons (pg_name (i := 3) sc_About_back.nd rfl (Or.inl rfl)) (pgs_cons (pg_name (i := 4) sc_About_back.nd rfl (Or.inl rfl)) pgs_nil))))) (fun _ _ _ _ _ => pts_nil) (fun _ _ _ _ _ => (pe_tup (pa_cons (pv 3) (pa_cons (pv 4) (pa_cons (pe_ix (ix_tupK K rfl) (pv 2) pe_int (fun _ _ => rfl)) (pa_cons (pe_ix (ix_tupK K rfl) (pv 2) pe_int (fun _ _ => rfl)) pa_nil)))))))
          (pss_one (ps_ret (pe_makeH (HC_Program T) (hr.mono (by decide)) passL (pa_cons (pe_fld (pv 0) rfl) (pa_cons (pe_fld (pv 0) rfl) (pa_cons (pe_fld (pv 0) rfl) (pa_cons (pv 1) pa_nil))))))))
        pss_nil)
      (pss_cons (ps_setLc (i := 1) (own := [("couple", 2), ("side", 3), ("places", 4)]) rfl sc_About_back.nd rfl rfl (sw_true rfl rfl rfl (by decide +kernel)) (pi_tup (pe_fld (pv 0) rfl)) (blkOk_by (own := [("couple", 2), ("side", 3), ("places", 4)]) (N := N_About_back) (sc := defScope s_About_back) (by decide +kernel)) (fun _ _ _ _ _ => (pg_tupK (n := 3) K rfl rfl (pgs_cons (pg_name (i := 2) sc_About_back.nd rfl (Or.inl rfl)) (pgs_cons (pg_name (i := 3) sc_About_back.nd rfl (Or.inl rfl)) (pgs_cons (pg_name (i := 4) sc_About_back.nd rfl (Or.inl rfl)) pgs_nil))))) (fun _ _ _ _ _ => pts_nil) (fun _ _ _ _ _ => (pe_tup (pa_cons (pv 4) (pa_cons (pv 3) (pa_cons (pe_ix (ix_tupK K rfl) (pv 2) pe_int (fun _ _ => rfl)) (pa_cons (pe_ix (ix_tupK K rfl) (pv 2) pe_int (fun _ _ => rfl)) pa_nil)))))))
      (pss_one (ps_ret (pe_makeH (HC_Program T) (hr.mono (by decide)) passL (pa_cons (pe_fld (pv 0) rfl) (pa_cons (pe_fld (pv 0) rfl) (pa_cons (pe_fld (pv 0) rfl) (pa_cons (pv 1) pa_nil))))))))), ?_⟩
    obtain ⟨dx, vp, hA, hF, dp⟩ := id hP
    obtain ⟨pb, ws, rfl, sT, aT⟩ := Dp.tup_inv dp
    have lw : ws.length = Pp.length := by rw [aT.len, List.length_map]
    rcases h with ⟨rfl, q⟩ | ⟨rfl, q⟩
    · refine ⟨_, rfl, a, _, dx, _, _, rfl, hA, cl_About T, na_About_by T, rfl, rfl, _, rfl, iteT ?_⟩
      refine ⟨_, rfl, a, _, dx, _, _, rfl, hA, cl_About T, na_About_products T, rfl, pb, rfl, ⟨ws, sT⟩, fun D hD => ?_⟩
      refine lc_it (walk_tup (xs := ws)) (fun i H' => ∃ acc, LAt K [] H D acc ((Pp.take i).map fun q => prD q) H') ⟨[], LAt.new hD⟩ (fun i H' _ ⟨acc, B⟩ => Same.sqT B.sq0 sT) (fun i v H2 H3 hi hP hY => ?_) (fun H2 hP => ?_)
      · obtain ⟨acc, B⟩ := hP
        obtain ⟨rfl, ev⟩ := hY
        obtain ⟨dd, hd, dv⟩ := aT.of ev
        obtain ⟨x, hx, rfl⟩ := map_at hd
        obtain ⟨b, z, u, s, c, e, rfl, sP, sZ, du, ds, dc, de⟩ := ab_inv dv
        have E := B.sq0
        refine ⟨b, [.ref z, u, s], rfl, Same.sqT E sP, rfl, .ref z, [u, s], rfl, u, [s], rfl, s, [], rfl, rfl, rfl, ?_⟩
        refine ⟨_, rfl, _, rfl, _, rfl, _, _, _, _, rfl, rfl, Same.sqT E sZ, atI_nat (j := 0) rfl, _, rfl, _, _, _, _, rfl, rfl, Same.sqT E sZ, atI_nat (j := 1) rfl, by show 4 ≤ sizeLine; exact Nat.le_of_lt (few (by decide)), fun t2 ht2 => ?_⟩
        have B3 := B.same (Same.upd (o := .tup [u, s, c, e]) ht2)
        have la := B3.len
        rw [List.length_map, List.length_take] at la
        refine ⟨acc, B3.at_, few (by omega), acc ++ [.ref t2], ?_⟩
        rw [take_snoc hx, List.map_append]
        have q2 := E.trans (Same.upd (o := .tup [u, s, c, e]) ht2)
        refine B3.push ((tp_pr x).off B3.lst1 ?_)
        exact Dp.newT upd_same (.cons (q2.dp du) (.cons (q2.dp ds) (.cons (q2.dp dc) (.cons (q2.dp de) .nil))))
      · obtain ⟨acc, B⟩ := hP
        have q2 := (Same.ofOff (M := [D]) (H := H2)).dpAll B.all
        rw [List.take_of_length_le (by omega)] at q2
        have E := B.sq0
        refine ⟨_, rfl, a, _, dx, _, _, rfl, E _ _ hA, cl_About T, na_About_figures T, rfl, _, rfl, a, _, dx, _, _, rfl, E _ _ hA, cl_About T, na_About_letters T, rfl, _, rfl, a, _, dx, _, _, rfl, E _ _ hA, cl_About T, na_About_results T, rfl, _, rfl, fun x xd hx hxd ne => ?_⟩
        refine ⟨H2, x, xd, f, p, nl, nr, Pp, false, .ref D, rfl, (Same.upd (o := .own x) hxd).trans (Same.upd (o := .ins (He.ga K "Program") xd []) (by rw [upd_ne (Ne.symm ne)]; exact hx)), hx, upd_same, hF.same E, Dp.newL B.at_ (q2), ok, hl, s1, fun H' e' hAb => ⟨rfl, q _ _ (E.trans e') hAb⟩⟩
    · refine ⟨_, rfl, a, _, dx, _, _, rfl, hA, cl_About T, na_About_by T, rfl, rfl, _, rfl, iteF ?_⟩
      refine ⟨_, rfl, a, _, dx, _, _, rfl, hA, cl_About T, na_About_products T, rfl, pb, rfl, ⟨ws, sT⟩, fun D hD => ?_⟩
      refine lc_it (walk_tup (xs := ws)) (fun i H' => ∃ acc, LAt K [] H D acc ((Pp.take i).map fun q => prD (flipP q)) H') ⟨[], LAt.new hD⟩ (fun i H' _ ⟨acc, B⟩ => Same.sqT B.sq0 sT) (fun i v H2 H3 hi hP hY => ?_) (fun H2 hP => ?_)
      · obtain ⟨acc, B⟩ := hP
        obtain ⟨rfl, ev⟩ := hY
        obtain ⟨dd, hd, dv⟩ := aT.of ev
        obtain ⟨x, hx, rfl⟩ := map_at hd
        obtain ⟨b, z, u, s, c, e, rfl, sP, sZ, du, ds, dc, de⟩ := ab_inv dv
        have E := B.sq0
        refine ⟨b, [.ref z, u, s], rfl, Same.sqT E sP, rfl, .ref z, [u, s], rfl, u, [s], rfl, s, [], rfl, rfl, rfl, ?_⟩
        refine ⟨_, rfl, _, rfl, _, rfl, _, _, _, _, rfl, rfl, Same.sqT E sZ, atI_nat (j := 0) rfl, _, rfl, _, _, _, _, rfl, rfl, Same.sqT E sZ, atI_nat (j := 1) rfl, by show 4 ≤ sizeLine; exact Nat.le_of_lt (few (by decide)), fun t2 ht2 => ?_⟩
        have B3 := B.same (Same.upd (o := .tup [s, u, c, e]) ht2)
        have la := B3.len
        rw [List.length_map, List.length_take] at la
        refine ⟨acc, B3.at_, few (by omega), acc ++ [.ref t2], ?_⟩
        rw [take_snoc hx, List.map_append]
        have q2 := E.trans (Same.upd (o := .tup [s, u, c, e]) ht2)
        refine B3.push ((tp_pr (flipP x)).off B3.lst1 ?_)
        exact Dp.newT upd_same (.cons (q2.dp ds) (.cons (q2.dp du) (.cons (q2.dp dc) (.cons (q2.dp de) .nil))))
      · obtain ⟨acc, B⟩ := hP
        have q2 := (Same.ofOff (M := [D]) (H := H2)).dpAll B.all
        rw [List.take_of_length_le (by omega)] at q2
        have E := B.sq0
        refine ⟨_, rfl, a, _, dx, _, _, rfl, E _ _ hA, cl_About T, na_About_figures T, rfl, _, rfl, a, _, dx, _, _, rfl, E _ _ hA, cl_About T, na_About_results T, rfl, _, rfl, a, _, dx, _, _, rfl, E _ _ hA, cl_About T, na_About_letters T, rfl, _, rfl, fun x xd hx hxd ne => ?_⟩
        refine ⟨H2, x, xd, f, p, nr, nl, Pp.map flipP, false, .ref D, rfl, (Same.upd (o := .own x) hxd).trans (Same.upd (o := .ins (He.ga K "Program") xd []) (by rw [upd_ne (Ne.symm ne)]; exact hx)), hx, upd_same, hF.same E, Dp.newL B.at_ (by rw [List.map_map]; exact q2), fun q hq => by obtain ⟨x, hx, rfl⟩ := List.mem_map.mp hq; exact ⟨(ok x hx).2, (ok x hx).1⟩, by rw [List.length_map]; exact hl, s2, fun H' e' hAb => ⟨rfl, q _ _ (E.trans e') hAb⟩⟩
/-! ### run -/
/-- small numbers -/
def PSz {p : Nat} (n : Nat) (Pp : List (Pr (Car p))) : Prop := ∀ q ∈ Pp, (∀ x ∈ q.u, Sz p n x) ∧ (∀ x ∈ q.v, Sz p n x) ∧ Sz p n q.c ∧ Sz p n q.d
def spRun (K : PySem.W.Frag) : Sp := fun vs H Q _ => ∃ (a f : Addr) (p R C : Nat) (Pp : List (Pr (Car p))) (k1 k2 : Bool) (xs ys : List (Car p)) (v1 v2 : V), vs = [.ref a, v1, v2] ∧ ProgAt K H a f p R C Pp ∧ Dp K H v1 (rowD k1 xs) ∧ Dp K H v2 (rowD k2 ys) ∧ xs.length = R ∧ ys.length = C ∧ Pok Pp R C ∧ R ≤ 5 ∧ C ≤ 5 ∧ Pp.length ≤ 12 ∧ PSz 2 Pp ∧ (∀ x ∈ xs, Sz p 2 x) ∧ (∀ y ∈ ys, Sz p 2 y) ∧
  ∀ v' H', Same H H' → Dp K H' v' (rowD true [runC Pp (·.c) xs ys, runC Pp (·.d) xs ys]) → Q v' H'
theorem HM_Program_run (T : Txt K mg) : HsM P w K mg base 6 (He.ga K "Program") "run" ["self", "left", "right"] (spRun K) := by
  obtain ⟨fd, F⟩ := F_Program_run T
  refine ⟨_, fd, cl_Program T, me_Program_run T, okN F sc_Program_run (fun vs H Q E h => ?_) (fun cdv A outer s H vs Q E hr h => ?_), F.bindsN fun _ _ _ _ _ _ us hl => match us, hl with | [_, _, _], _ => rfl⟩
  · obtain ⟨a, f, p, R, C, Pp, k1, k2, xs, ys, v1, v2, rfl, _⟩ := h
    rfl
  · obtain ⟨a, f, p, R, C, Pp, k1, k2, xs, ys, v1, v2, rfl, hP, d1, d2, lx, ly, ok, r5, c5, hl, hz, zx, zy, q⟩ := h
    refine ⟨_, (pss_cons (ps_set (i := 3) sc_Program_run.nd rfl (Or.inl rfl) (pe_fld (pv 0) rfl))
      (pss_cons (ps_set (i := 1) sc_Program_run.nd rfl (Or.inl rfl) (pe_callH (H_check_letters T) (hr.mono (by decide)) passL (pa_cons (pv 3) (pa_cons (pv 1) (pa_cons (pe_fld (pv 0) rfl) (pa_cons pe_str pa_nil))))))
      (pss_cons (ps_set (i := 2) sc_Program_run.nd rfl (Or.inl rfl) (pe_callH (H_check_letters T) (hr.mono (by decide)) passL (pa_cons (pv 3) (pa_cons (pv 2) (pa_cons (pe_fld (pv 0) rfl) (pa_cons pe_str pa_nil))))))
      (pss_cons (ps_set (i := 4) sc_Program_run.nd rfl (Or.inl rfl) (pe_fld (pv 3) rfl))
      (pss_cons (ps_set (i := 5) sc_Program_run.nd rfl (Or.inl rfl) (pe_fld (pv 3) rfl))
      (pss_cons (ps_for PassesOwn.never rfl (pi_tup (pe_fld (pv 0) rfl)) (pg_tup rfl (pgs_cons (pg_name (i := 6) sc_Program_run.nd rfl (Or.inl rfl)) (pgs_cons (pg_name (i := 7) sc_Program_run.nd rfl (Or.inl rfl)) (pgs_cons (pg_name (i := 8) sc_Program_run.nd rfl (Or.inl rfl)) (pgs_cons (pg_name (i := 9) sc_Program_run.nd rfl (Or.inl rfl)) pgs_nil)))))
        (pss_cons (ps_set (i := 10) sc_Program_run.nd rfl (Or.inl rfl) (pe_methH (pv 3) (HM_Figures_times T) (hr.mono (by decide)) passL (pa_cons (pe_callH (H_dot_of T) (hr.mono (by decide)) passL (pa_cons (pv 3) (pa_cons (pv 6) (pa_cons (pv 1) pa_nil)))) (pa_cons (pe_callH (H_dot_of T) (hr.mono (by decide)) passL (pa_cons (pv 3) (pa_cons (pv 7) (pa_cons (pv 2) pa_nil)))) pa_nil))))
          (pss_cons (ps_set (i := 4) sc_Program_run.nd rfl (Or.inl rfl) (pe_methH (pv 3) (HM_Figures_plus T) (hr.mono (by decide)) passL (pa_cons (pv 4) (pa_cons (pe_methH (pv 3) (HM_Figures_times T) (hr.mono (by decide)) passL (pa_cons (pv 8) (pa_cons (pv 10) pa_nil))) pa_nil))))
          (pss_one (ps_set (i := 5) sc_Program_run.nd rfl (Or.inl rfl) (pe_methH (pv 3) (HM_Figures_plus T) (hr.mono (by decide)) passL (pa_cons (pv 5) (pa_cons (pe_methH (pv 3) (HM_Figures_times T) (hr.mono (by decide)) passL (pa_cons (pv 9) (pa_cons (pv 10) pa_nil))) pa_nil))))))))
      (pss_one (ps_ret (pe_tup (pa_cons (pv 4) (pa_cons (pv 5) pa_nil))))))))))), ?_⟩
    obtain ⟨dx, vp, hA, hF, dp⟩ := id hP
    obtain ⟨pb, ws, rfl, sT, aT⟩ := Dp.tup_inv dp
    have lw : ws.length = Pp.length := by rw [aT.len, List.length_map]
    refine ⟨_, rfl, a, _, dx, _, _, rfl, hA, cl_Program T, na_Program_figures T, rfl, ?_⟩
    refine ⟨_, rfl, _, rfl, _, rfl, a, _, dx, _, _, rfl, hA, cl_Program T, na_Program_rows T, rfl, f, p, R, v1, "left", rfl, hF, .inl ⟨k1, xs, d1, lx, fun l H1 e1 b1 => ?_⟩⟩
    refine ⟨_, rfl, _, rfl, _, rfl, a, _, dx, _, _, rfl, e1 _ _ hA, cl_Program T, na_Program_columns T, rfl, f, p, C, v2, "right", rfl, hF.same e1, .inl ⟨k2, ys, e1.dp d2, ly, fun r H2 e2 b2 => ?_⟩⟩
    have E2 := e1.trans e2
    have b1 := e2.dp b1
    have F2 := hF.same E2
    obtain ⟨_, fx, vz, vo, hf, dz, _⟩ := id F2
    refine ⟨_, rfl, f, _, fx, _, _, rfl, hf, cl_Figures T, na_Figures_zero T, rfl, ?_⟩
    refine ⟨_, rfl, f, _, fx, _, _, rfl, hf, cl_Figures T, na_Figures_zero T, rfl, ?_⟩
    refine ⟨_, rfl, a, _, dx, _, _, rfl, E2 _ _ hA, cl_Program T, na_Program_products T, rfl, pb, rfl, ⟨ws, Same.sqT E2 sT⟩, for_it (walk_tup (xs := ws))
      (fun i σ H' => ∃ t1 t2 o6 o7 o8 o9 o10, σ = [some (.ref a), some l, some r, some (.ref f), some t1, some t2, o6, o7, o8, o9, o10] ∧ Same H2 H' ∧ Dp K H' t1 (numD (runC (Pp.take i) (·.c) xs ys)) ∧ Dp K H' t2 (numD (runC (Pp.take i) (·.d) xs ys)))
      ⟨vz, vz, none, none, none, none, none, rfl, Same.refl _, dz, dz⟩ (fun i σ H' hi ⟨_, _, _, _, _, _, _, _, e, _⟩ => Same.sqT (E2.trans e) sT) (fun i x σ H3 H4 hi hP hY => ?_) (fun σ H' hP => ?_)⟩
    · obtain ⟨t1, t2, o6, o7, o8, o9, o10, rfl, e, dt1, dt2⟩ := hP
      obtain ⟨rfl, ev⟩ := hY
      obtain ⟨dd, hd, dv⟩ := aT.of ev
      obtain ⟨q0, hq, rfl⟩ := map_at hd
      obtain ⟨b, u, z, c, d, rfl, sP, du, dz', dc, dd'⟩ := pr_inv dv
      have E := E2.trans e
      have hm := List.mem_of_getElem? hq
      obtain ⟨lu, lv⟩ := ok q0 hm
      obtain ⟨zu, zv, zc, zd⟩ := hz q0 hm
      refine ⟨b, [u, z, c, d], rfl, Same.sqT E sP, rfl, u, [z, c, d], rfl, z, [c, d], rfl, c, [d], rfl, d, [], rfl, rfl, ?_⟩
      have hf' := e _ _ hf
      refine ⟨_, rfl, f, fx, _, rfl, hf', rfl, _, rfl, _, rfl, _, rfl, f, p, true, true, q0.u, xs, 2, 2, u, l, rfl, hF.same E, E.dp du, e.dp b1, by omega, zu, zx, by decide, by decide, by omega, fun w1 H5 e5 g1 => ?_⟩
      have E5 := E.trans e5
      refine ⟨_, rfl, _, rfl, _, rfl, f, p, true, true, q0.v, ys, 2, 2, z, r, rfl, hF.same E5, E5.dp dz', (e.trans e5).dp b2, by omega, zv, zy, by decide, by decide, by omega, fun w2 H6 e6 g2 => ?_⟩
      have E6 := E5.trans e6
      have s1 : Sz p 26 (dot q0.u xs) := (sz_dot (k := 5) zu zx (by omega)).mono (by decide)
      have s2 : Sz p 26 (dot q0.v ys) := (sz_dot (k := 5) zv zy (by omega)).mono (by decide)
      refine ⟨f, p, _, _, w1, w2, rfl, hF.same E6, e6.dp g1, g2, s1.mono (by decide), s2.mono (by decide), fun w3 H7 e7 g3 => ?_⟩
      have E7 := E6.trans e7
      have s3 : Sz p 52 (dot q0.u xs * dot q0.v ys) := Sz.mul s1 s2
      have hf7 := (((e.trans e5).trans e6).trans e7) _ _ hf
      have sr : ∀ (w : Pr (Car p) → Car p), (∀ q ∈ Pp, Sz p 2 (w q)) → Sz p 4000 (runC (Pp.take i) w xs ys) := fun w hw => by
        refine (sz_sum (n := 54) (by omega) fun q hq => Sz.mul (hw q hq) (Sz.mul ((sz_dot (k := 5) (hz q hq).1 zx (by have := (ok q hq).1; omega)).mono (by decide) : Sz p 26 (dot q.u xs)) ((sz_dot (k := 5) (hz q hq).2.1 zy (by have := (ok q hq).2; omega)).mono (by decide) : Sz p 26 (dot q.v ys)))).mono ?_
        omega
      refine ⟨_, rfl, f, fx, _, rfl, hf7, rfl, _, rfl, _, rfl, f, fx, _, rfl, hf7, rfl, _, rfl, _, rfl, f, p, _, _, c, w3, rfl, hF.same E7, E7.dp dc, g3, zc.mono (by decide), s3.mono (by decide), fun w4 H8 e8 g4 => ?_⟩
      have E8 := E7.trans e8
      refine ⟨f, p, _, _, t1, w4, rfl, hF.same E8, (((e5.trans e6).trans e7).trans e8).dp dt1, g4, sr _ fun q hq => (hz q hq).2.2.1, (Sz.mul zc s3).mono (by decide), fun t1' H9 e9 g5 => ?_⟩
      have E9 := E8.trans e9
      have hf9 := (e8.trans e9) _ _ hf7
      refine ⟨_, rfl, f, fx, _, rfl, hf9, rfl, _, rfl, _, rfl, f, fx, _, rfl, hf9, rfl, _, rfl, _, rfl, f, p, _, _, d, w3, rfl, hF.same E9, E9.dp dd', (e8.trans e9).dp g3, zd.mono (by decide), s3.mono (by decide), fun w5 H10 e10 g6 => ?_⟩
      have E10 := E9.trans e10
      refine ⟨f, p, _, _, t2, w5, rfl, hF.same E10, (((((e5.trans e6).trans e7).trans e8).trans e9).trans e10).dp dt2, g6, sr _ fun q hq => (hz q hq).2.2.2, (Sz.mul zd s3).mono (by decide), fun t2' H11 e11 g7 => ?_⟩
      refine ⟨t1', t2', _, _, _, _, _, rfl, (((((((e.trans e5).trans e6).trans e7).trans e8).trans e9).trans e10).trans e11), ?_, ?_⟩
      · rw [take_snoc hq]
        unfold runC
        rw [S_snoc]
        exact (e10.trans e11).dp g5
      · rw [take_snoc hq]
        unfold runC
        rw [S_snoc]
        exact g7
    · obtain ⟨t1, t2, o6, o7, o8, o9, o10, rfl, e, dt1, dt2⟩ := hP
      rw [List.take_of_length_le (by omega)] at dt1 dt2
      refine ⟨_, rfl, _, rfl, by show 2 ≤ sizeLine; decide, fun t ht => q _ _ ((E2.trans e).trans (Same.upd ht)) ?_⟩
      exact Dp.newT upd_same (.cons ((Same.upd ht).dp dt1) (.cons ((Same.upd ht).dp dt2) .nil))
end
end K21
set_option maxRecDepth 100000
set_option maxHeartbeats 4000000
namespace K21
open PySem PySem.Spec PyProof.Rows L2
/-! ### (v,) * n -/
def rRepD (K : PySem.W.Frag) : R2 := fun x y H Q => ∃ (l : Addr) (n : Nat) (v : V), x = .ref l ∧ y = .int (n : Int) ∧ 1 ≤ n ∧ n ≤ 1000 ∧ SqT K H l [v] ∧ ∀ l' H', Same H H' → SqT K H' l' (List.replicate n v) → Q (.ref l') H'
theorem op_repD {X : Cx} : OpR X (binaryOp .Mult) (rRepD X.K) := fun pins s σ H x y v u Q I rx ry h => op_repA pins s σ H x y v u Q I rx ry (by
  obtain ⟨l, n, z, rfl, rfl, h1, h2, sT, q⟩ := h
  by_cases e : n = 1
  · subst e
    exact .inl ⟨l, [z], rfl, rfl, sT, q _ _ (Same.refl _) sT⟩
  · refine .inr ⟨l, (n : Int), [z], rfl, rfl, sT, by simp, by omega, by omega, by simp, fun p hp => q _ _ (Same.upd hp) (.inl (.inl ?_))⟩
    rw [upd_same, Int.toNat_natCast, List.flatten_replicate_singleton])
theorem add_row {p nr : Nat} (f : Nat → Car p) (w : Car p) {v : List (Car p)} (hv : v.length = nr) : ((((List.range nr).map f).zip (v.map fun y => w * y)).map fun q => q.1 + q.2) = (List.range nr).map fun j => f j + w * v.getD j 0 := by
  apply List.ext_getElem
  · simp [hv]
  · intro i h1 h2
    have hi : i < v.length := by
      rw [List.length_map, List.length_range] at h2
      omega
    simp [List.getElem?_eq_getElem hi]
theorem S_two {ι : Type} {p : Nat} (f : ι → Car p) (a b : ι) : S f [a, b] = f a + f b := by
  rw [S_cons, S_cons, S_nil]
  grind
section
variable {P : Program} {w : World} {K : PySem.W.Frag} {mg : Str → Option Value} {base : Heap}
def spCall (K : PySem.W.Frag) : Sp := fun vs H Q E => ∃ (a f : Addr) (p nl nr : Nat) (b : Str) (A : List (Pr (Car p))) (v1 v2 : V), vs = [.ref a, v1, v2] ∧ AboutAt K H a f p b nl nr A ∧ Pok A nl nr ∧ nl ≤ 5 ∧ 1 ≤ nr ∧ nr ≤ 5 ∧ A.length ≤ 12 ∧ PSz 2 A ∧
  ((∃ (k1 k2 : Bool) (z0 z1 : Car p) (xs : List (Car p)), Dp K H v1 (rowD k1 [z0, z1]) ∧ Dp K H v2 (rowD k2 xs) ∧ xs.length = nl ∧ Sz p 2 z0 ∧ Sz p 2 z1 ∧ (∀ x ∈ xs, Sz p 2 x) ∧ ∀ v' H', Same H H' → Dp K H' v' (rowD true (turnY A nr z0 z1 xs)) → Q v' H') ∨
   (∃ j, Fault K H p 2 v1 j ∧ Bad K H E "taps" j) ∨ (∃ (k1 : Bool) (zs : List (Car p)) (j : Nat), Dp K H v1 (rowD k1 zs) ∧ zs.length = 2 ∧ Fault K H p nl v2 j ∧ Bad K H E "letters" j))
theorem HM_About_call (T : Txt K mg) : ∃ fd, FnOk P w K mg base (L2.CX P w) 6 (He.ma K (He.ga K "About") "__call__") fd ["self", "taps", "letters"] (spCall K) ∧ Binds K fd ["self", "taps", "letters"] [] := by
  obtain ⟨fd, F⟩ := F_About_call T
  refine ⟨fd, okX F sc_About_call (fun vs H Q E h => ?_) (fun cdv A outer s H vs Q E hr h => ?_), F.bindsN fun _ _ _ _ _ _ us hl => match us, hl with | [_, _, _], _ => rfl⟩
  · obtain ⟨a, f, p, nl, nr, b, A, v1, v2, rfl, _⟩ := h
    rfl
  · obtain ⟨a, f, p, nl, nr, b, Pp, v1, v2, rfl, hP, ok, l5, r1, r5, hl, hz, h⟩ := h
    refine ⟨_, (pss_cons (ps_set (i := 3) sc_About_call.nd rfl (Or.inl rfl) (pe_fld (pv 0) rfl))
      (pss_cons (ps_set (i := 1) sc_About_call.nd rfl (Or.inl rfl) (pe_callH (H_check_letters T) (hr.mono (by decide)) (passes_call (takes_of rfl rfl rfl rfl) (fun _ _ _ _ h => h)) (pa_cons (pv 3) (pa_cons (pv 1) (pa_cons pe_int (pa_cons pe_str pa_nil))))))
      (pss_cons (ps_set (i := 2) sc_About_call.nd rfl (Or.inl rfl) (pe_callH (H_check_letters T) (hr.mono (by decide)) (passes_call (takes_of rfl rfl rfl rfl) (fun _ _ _ _ h => h)) (pa_cons (pv 3) (pa_cons (pv 2) (pa_cons (pe_fld (pv 0) rfl) (pa_cons pe_str pa_nil))))))
      (pss_cons (ps_set (i := 4) sc_About_call.nd rfl (Or.inl rfl) (pe_op op_repD (pe_tup (pa_cons (pe_fld (pv 3) rfl) pa_nil)) (pe_fld (pv 0) rfl)))
      (pss_cons (ps_for (passes_of rfl) rfl (pi_tup (pe_fld (pv 0) rfl)) (pg_tup rfl (pgs_cons (pg_name (i := 5) sc_About_call.nd rfl (Or.inl rfl)) (pgs_cons (pg_name (i := 6) sc_About_call.nd rfl (Or.inl rfl)) (pgs_cons (pg_name (i := 7) sc_About_call.nd rfl (Or.inl rfl)) pgs_nil))))
        (pss_cons (ps_set (i := 8) sc_About_call.nd rfl (Or.inl rfl) (pe_methH (pv 3) (HM_Figures_times T) (hr.mono (by decide)) passL (pa_cons (pe_callH (H_dot_of T) (hr.mono (by decide)) passL (pa_cons (pv 3) (pa_cons (pv 5) (pa_cons (pv 1) pa_nil)))) (pa_cons (pe_callH (H_dot_of T) (hr.mono (by decide)) passL (pa_cons (pv 3) (pa_cons (pv 6) (pa_cons (pv 2) pa_nil)))) pa_nil))))
          (pss_one (ps_set (i := 4) sc_About_call.nd rfl (Or.inl rfl) (pe_callH (H_summed_rows T) (hr.mono (by decide)) passL (pa_cons (pv 3) (pa_cons (pv 4) (pa_cons (pe_callH (H_scaled_row T) (hr.mono (by decide)) passL (pa_cons (pv 3) (pa_cons (pv 8) (pa_cons (pv 7) pa_nil)))) pa_nil))))))))
      (pss_one (ps_ret (pv 4)))))))), ?_⟩
    obtain ⟨dx, vp, hA, hF, dp⟩ := id hP
    obtain ⟨pb, ws, rfl, sT, aT⟩ := Dp.tup_inv dp
    have lw : ws.length = Pp.length := by rw [aT.len, List.length_map]
    refine ⟨_, rfl, a, _, dx, _, _, rfl, hA, cl_About T, na_About_figures T, rfl, ?_⟩
    rcases h with ⟨k1, k2, z0, z1, xs, d1, d2, lx, s0, s1, zx, q⟩ | ⟨j, hf, q⟩ | ⟨k1, zs, j, d1, lz, hf, q⟩
    · refine ⟨_, rfl, _, rfl, f, p, 2, v1, "taps", rfl, hF, .inl ⟨k1, [z0, z1], d1, rfl, fun l H1 e1 b1 => ?_⟩⟩
      refine ⟨_, rfl, _, rfl, _, rfl, a, _, dx, _, _, rfl, e1 _ _ hA, cl_About T, na_About_letters T, rfl, f, p, nl, v2, "letters", rfl, hF.same e1, .inl ⟨k2, xs, e1.dp d2, lx, fun r H2 e2 b2 => ?_⟩⟩
      have E2 := e1.trans e2
      have b1 := e2.dp b1
      have F2 := hF.same E2
      obtain ⟨_, fx, vz, vo, hf, dz, _⟩ := id F2
      have zz : ∀ z ∈ [z0, z1], Sz p 2 z := fun z hz => by
        simp only [List.mem_cons, List.not_mem_nil, or_false] at hz
        rcases hz with rfl | rfl
        · exact s0
        · exact s1
      refine ⟨_, rfl, f, _, fx, _, _, rfl, hf, cl_Figures T, na_Figures_zero T, rfl, by show 1 ≤ sizeLine; decide, fun t0 ht0 => ?_⟩
      have E2b := E2.trans (Same.upd (o := .tup [vz]) ht0)
      refine ⟨_, rfl, a, _, dx, _, _, rfl, E2b _ _ hA, cl_About T, na_About_results T, rfl, t0, nr, vz, rfl, rfl, r1, by omega, .inl (.inl upd_same), fun tl H3 e3 sT3 => ?_⟩
      have E3 := E2b.trans e3
      have e23 := (Same.upd (o := .tup [vz]) ht0).trans e3
      have a3 : DpAll K H3 (List.replicate nr vz) (List.replicate nr (numD (0 : Car p))) := DpAll.rep (e23.dp dz) nr
      refine ⟨_, rfl, a, _, dx, _, _, rfl, E3 _ _ hA, cl_About T, na_About_products T, rfl, pb, rfl, ⟨ws, Same.sqT E3 sT⟩, for_it (walk_tup (xs := ws))
        (fun i σ H' => ∃ t o5 o6 o7 o8, σ = [some (.ref a), some l, some r, some (.ref f), some t, o5, o6, o7, o8] ∧ Same H3 H' ∧ Dp K H' t (rowD true ((List.range nr).map fun j => S (fun q => dot [q.c, q.d] [z0, z1] * dot q.u xs * q.v.getD j 0) (Pp.take i))))
        ⟨.ref tl, none, none, none, none, rfl, Same.refl _, ?_⟩ (fun i σ H' hi ⟨_, _, _, _, _, _, e, _⟩ => Same.sqT (E3.trans e) sT) (fun i x σ H4 H5 hi hP hY => ?_) (fun σ H' hP => ?_)⟩
      · refine .tup sT3 ?_
        have : ((List.range nr).map fun j => S (fun (q : Pr (Car p)) => dot [q.c, q.d] [z0, z1] * dot q.u xs * q.v.getD j 0) (Pp.take 0)).map numD = List.replicate nr (numD (0 : Car p)) := by
          rw [List.take_zero, List.map_map]
          apply List.ext_getElem
          · simp
          · intro i h1 h2
            simp [S_nil]
        rw [this]
        exact a3
      · obtain ⟨t, o5, o6, o7, o8, rfl, e, dt⟩ := hP
        obtain ⟨rfl, ev⟩ := hY
        obtain ⟨dd, hd, dv⟩ := aT.of ev
        obtain ⟨q0, hq, rfl⟩ := map_at hd
        obtain ⟨b, z, u, sv, c, d, rfl, sP, sZ, du, ds, dc, de⟩ := ab_inv dv
        have hm := List.mem_of_getElem? hq
        obtain ⟨lu, lv⟩ := ok q0 hm
        obtain ⟨zu, zv, zc, zd⟩ := hz q0 hm
        have E4 := E3.trans e
        have dz2 : Dp K H5 (.ref z) (rowD true [q0.c, q0.d]) := E4.dp (.tup sZ (.cons dc (.cons de .nil)))
        have zcd : ∀ x ∈ [q0.c, q0.d], Sz p 2 x := fun x hx => by
          simp only [List.mem_cons, List.not_mem_nil, or_false] at hx
          rcases hx with rfl | rfl
          · exact zc
          · exact zd
        have hf4 := (e23.trans e) _ _ hf
        refine ⟨b, [.ref z, u, sv], rfl, Same.sqT E4 sP, rfl, .ref z, [u, sv], rfl, u, [sv], rfl, sv, [], rfl, rfl, ?_⟩
        refine ⟨_, rfl, f, fx, _, rfl, hf4, rfl, _, rfl, _, rfl, _, rfl, f, p, true, true, [q0.c, q0.d], [z0, z1], 2, 2, .ref z, l, rfl, hF.same E4, dz2, (e23.trans e).dp b1, rfl, zcd, zz, by decide, by decide, by show 2 * (2 + 2 + 1) + 1 ≤ 4000; decide, fun w1 H6 e6 g1 => ?_⟩
        have E6 := E4.trans e6
        refine ⟨_, rfl, _, rfl, _, rfl, f, p, true, true, q0.u, xs, 2, 2, u, r, rfl, hF.same E6, E6.dp du, ((e23.trans e).trans e6).dp b2, by omega, zu, zx, by decide, by decide, by omega, fun w2 H7 e7 g2 => ?_⟩
        have E7 := E6.trans e7
        have s1 : Sz p 11 (dot [q0.c, q0.d] [z0, z1]) := (sz_dot (k := 2) zcd zz (Nat.le_refl 2)).mono (by decide)
        have s2 : Sz p 26 (dot q0.u xs) := (sz_dot (k := 5) zu zx (by omega)).mono (by decide)
        have s3 := Sz.mul s1 s2
        refine ⟨f, p, _, _, w1, w2, rfl, hF.same E7, e7.dp g1, g2, s1.mono (by decide), s2.mono (by decide), fun w3 H8 e8 g3 => ?_⟩
        have E8 := E7.trans e8
        refine ⟨_, rfl, _, rfl, _, rfl, _, rfl, _, rfl, f, p, dot [q0.c, q0.d] [z0, z1] * dot q0.u xs, q0.v, w3, sv, rfl, hF.same E8, g3, E8.dp ds, s3.mono (by decide), fun y hy => (zv y hy).mono (by decide), by omega, fun w4 H9 e9 g4 => ?_⟩
        have E9 := E8.trans e9
        refine ⟨f, p, _, _, t, w4, rfl, hF.same E9, (((e6.trans e7).trans e8).trans e9).dp dt, g4, ?_, ?_, ?_, ?_, fun t' H10 e10 g5 => ?_⟩
        · rw [List.length_map, List.length_map, List.length_range, lv]
        · intro x hx
          obtain ⟨j, hj, rfl⟩ := List.mem_map.mp hx
          refine (sz_sum (n := 39) (by omega) fun q hq => ?_).mono (by have : Pp.length * 40 ≤ 12 * 40 := Nat.mul_le_mul_right _ hl; omega)
          have zcd : ∀ x ∈ [q.c, q.d], Sz p 2 x := fun x hx => by
            simp only [List.mem_cons, List.not_mem_nil, or_false] at hx
            rcases hx with rfl | rfl
            · exact (hz q hq).2.2.1
            · exact (hz q hq).2.2.2
          refine Sz.mul (n := 37) (m := 2) (Sz.mul (n := 11) (m := 26) ((sz_dot (k := 2) zcd zz (Nat.le_refl 2)).mono (by decide)) ((sz_dot (k := 5) (hz q hq).1 zx (by have := (ok q hq).1; omega)).mono (by decide))) ?_
          have := List.mem_range.mp hj
          rw [getD_at (by rw [(ok q hq).2]; exact this)]
          exact (hz q hq).2.1 _ (List.getElem_mem _)
        · intro x hx
          obtain ⟨y, hy, rfl⟩ := List.mem_map.mp hx
          exact (Sz.mul s3 (zv y hy)).mono (by decide)
        · rw [List.length_map]
          omega
        · refine ⟨t', _, _, _, _, rfl, (((((e.trans e6).trans e7).trans e8).trans e9).trans e10), ?_⟩
          rw [add_row _ _ lv] at g5
          rw [take_snoc hq]
          have : (fun j => S (fun (q : Pr (Car p)) => dot [q.c, q.d] [z0, z1] * dot q.u xs * q.v.getD j 0) (Pp.take i ++ [q0])) = fun j => S (fun (q : Pr (Car p)) => dot [q.c, q.d] [z0, z1] * dot q.u xs * q.v.getD j 0) (Pp.take i) + dot [q0.c, q0.d] [z0, z1] * dot q0.u xs * q0.v.getD j 0 := funext fun j => S_snoc _ _ _
          rw [this]
          exact g5
      · obtain ⟨t, o5, o6, o7, o8, rfl, e, dt⟩ := hP
        rw [List.take_of_length_le (by omega)] at dt
        refine ⟨_, rfl, q _ _ (E3.trans e) ?_⟩
        have : (fun (q : Pr (Car p)) => dot [q.c, q.d] [z0, z1]) = fun q => q.c * z0 + q.d * z1 := funext fun q => S_two _ _ _
        unfold turnY
        have e2 : ∀ j, S (fun (q : Pr (Car p)) => (q.c * z0 + q.d * z1) * dot q.u xs * q.v.getD j 0) Pp = S (fun (q : Pr (Car p)) => dot [q.c, q.d] [z0, z1] * dot q.u xs * q.v.getD j 0) Pp := fun j => S_congr fun q _ => by rw [← congrFun this q]
        rw [show (fun j => S (fun (q : Pr (Car p)) => (q.c * z0 + q.d * z1) * dot q.u xs * q.v.getD j 0) Pp) = _ from funext e2]
        exact dt
    · exact ⟨_, rfl, _, rfl, f, p, 2, v1, "taps", rfl, hF, .inr ⟨j, hf, q⟩⟩
    · refine ⟨_, rfl, _, rfl, f, p, 2, v1, "taps", rfl, hF, .inl ⟨k1, zs, d1, lz, fun l H1 e1 b1 => ?_⟩⟩
      exact ⟨_, rfl, _, rfl, _, rfl, a, _, dx, _, _, rfl, e1 _ _ hA, cl_About T, na_About_letters T, rfl, f, p, nl, v2, "letters", rfl, hF.same e1, .inr ⟨j, hf.same e1, q.same e1⟩⟩
end
end K21
set_option maxRecDepth 100000
set_option maxHeartbeats 4000000
namespace K21
open PySem PySem.Spec PyProof.Rows L2
/-- a line of a table: the column or the row at j -/
def colOf {p : Nat} (t : List (List (Car p))) (j : Nat) : List (Car p) := t.map fun r => r.getD j 0
def rowOf {p : Nat} (t : List (List (Car p))) (j : Nat) : List (Car p) := t.getD j []
def plainT {p : Nat} (n : Nat) (ln : List (List (Car p)) → Nat → List (Car p)) (t1 t2 : List (List (Car p))) (z0 z1 : Car p) (xs : List (Car p)) : List (Car p) := (List.range n).map fun j => z0 * dot (ln t1 j) xs + z1 * dot (ln t2 j) xs
section
variable {P : Program} {w : World} {K : PySem.W.Frag} {mg : Str → Option Value} {base : Heap}
def TSz {p : Nat} (n : Nat) (t : List (List (Car p))) : Prop := ∀ r ∈ t, ∀ x ∈ r, Sz p n x
theorem rng0 (i : Nat) : V.int (0 + (i : Int)) = V.int (i : Int) := by rw [Int.zero_add]
def spPlain (K : PySem.W.Frag) : Sp := fun vs H Q E => ∃ (a f : Addr) (p R C : Nat) (t1 t2 : List (List (Car p))) (by_ v1 v2 : V), vs = [.ref a, by_, v1, v2] ∧ PairAt K H a f p t1 t2 R C ∧ Tab t1 R C ∧ Tab t2 R C ∧ R ≤ 5 ∧ C ≤ 5 ∧ TSz 100 t1 ∧ TSz 100 t2 ∧
  ((∃ (n m : Nat) (ln : List (List (Car p)) → Nat → List (Car p)), ((by_ = .str "y" ∧ n = R ∧ m = C ∧ ln = colOf) ∨ (by_ = .str "x" ∧ n = C ∧ m = R ∧ ln = rowOf)) ∧
     ((∃ (k1 k2 : Bool) (z0 z1 : Car p) (xs : List (Car p)), Dp K H v1 (rowD k1 [z0, z1]) ∧ Dp K H v2 (rowD k2 xs) ∧ xs.length = n ∧ Sz p 2 z0 ∧ Sz p 2 z1 ∧ (∀ x ∈ xs, Sz p 2 x) ∧ ∀ v' H', Same H H' → Dp K H' v' (rowD true (plainT m ln t1 t2 z0 z1 xs)) → Q v' H') ∨
      (∃ j, Fault K H p 2 v1 j ∧ Bad K H E "taps" j) ∨ (∃ (k1 : Bool) (zs : List (Car p)) (j : Nat), Dp K H v1 (rowD k1 zs) ∧ zs.length = 2 ∧ Fault K H p n v2 j ∧ Bad K H E "letters" j))) ∨
   (Odd by_ ∧ ∀ H', Same H H' → E (.ref (He.ga K "BadSide")) none H'))
theorem H_about_plain (T : Txt K mg) : Hs P w K mg base 6 "about_plain" ["pair", "by", "taps", "letters"] [] (spPlain K) := by
  obtain ⟨fd, F⟩ := F_about_plain T
  refine ⟨_, fd, [], g_about_plain T, F.kp, okX F sc_about_plain (fun vs H Q E h => ?_) (fun cdv A outer s H vs Q E hr h => ?_), F.bindsN fun _ _ _ _ _ _ us hl => match us, hl with | [_, _, _, _], _ => rfl, .nil⟩
  · obtain ⟨a, f, p, R, C, t1, t2, by_, v1, v2, rfl, _⟩ := h
    rfl
  · obtain ⟨a, f, p, R, C, t1, t2, by_, v1, v2, rfl, hP, T1, T2, r5, c5, zt1, zt2, h⟩ := h
    refine ⟨_, (pss_cons (ps_set (i := 4) sc_about_plain.nd rfl (Or.inl rfl) (pe_fld (pv 0) rfl))
      (pss_cons (ps_expr (pe_callH (H_check_by T) (hr.mono (by decide)) (passes_call (takes_of rfl rfl rfl rfl) (fun _ _ _ _ h => h)) (pa_cons (pv 1) pa_nil)))
      (pss_cons (ps_set (i := 2) sc_about_plain.nd rfl (Or.inl rfl) (pe_callH (H_check_letters T) (hr.mono (by decide)) (passes_call (takes_of rfl rfl rfl rfl) (fun _ _ _ _ h => h)) (pa_cons (pv 4) (pa_cons (pv 2) (pa_cons pe_int (pa_cons pe_str pa_nil))))))
      (pss_cons (ps_set (i := 3) sc_about_plain.nd rfl (Or.inl rfl) (pe_callH (H_check_letters T) (hr.mono (by decide)) (passes_call (takes_of rfl rfl rfl rfl) (fun _ _ _ _ h => h)) (pa_cons (pv 4) (pa_cons (pv 3) (pa_cons (pe_ifExp (pt_cmpR op_eq (pv 1) pe_str (nomark _)) (pe_fld (pv 0) rfl) (pe_fld (pv 0) rfl)) (pa_cons pe_str pa_nil))))))
      (pss_cons (ps_set (i := 5) sc_about_plain.nd rfl (Or.inl rfl) (pe_lst pa_nil))
      (pss_cons (ps_for (passes_of rfl) rfl (pi_range1 rfl (n_range T) (pa_cons (pe_ifExp (pt_cmpR op_eq (pv 1) pe_str (nomark _)) (pe_fld (pv 0) rfl) (pe_fld (pv 0) rfl)) pa_nil)) (pg_name (i := 6) sc_about_plain.nd rfl (Or.inr rfl))
        (pss_cons (ps_set (i := 7) sc_about_plain.nd rfl (Or.inl rfl) (pe_fld (pv 4) rfl))
          (pss_cons (ps_for (passes_of rfl) rfl (pi_zip2 rfl (n_zip T) (pa_cons (pv 2) (pa_cons (pe_tup (pa_cons (pe_fld (pv 0) rfl) (pa_cons (pe_fld (pv 0) rfl) pa_nil))) pa_nil))) (pg_tup rfl (pgs_cons (pg_name (i := 8) sc_about_plain.nd rfl (Or.inl rfl)) (pgs_cons (pg_name (i := 9) sc_about_plain.nd rfl (Or.inl rfl)) pgs_nil)))
            (pss_cons (ps_set (i := 10) sc_about_plain.nd rfl (Or.inl rfl) (pe_ifExp (pt_cmpR op_eq (pv 1) pe_str (nomark _)) (pe_lc (own := [("row", 11)]) rfl sc_about_plain.nd (pi_tup (pv 9)) (blkOk_by (own := [("row", 11)]) (N := N_about_plain) (sc := defScope s_about_plain) (by decide +kernel)) (fun _ _ _ _ _ => (pg_name (i := 11) sc_about_plain.nd rfl (Or.inl rfl))) (fun _ _ _ _ _ => pts_nil) (fun _ _ _ _ _ => (pe_ix (ix_tupK K rfl) (pv 11) (pv 6) (fun _ _ => rfl)))) (pe_ix ix_tup (pv 9) (pv 6) (fun _ _ => rfl))))
              (pss_one (ps_set (i := 7) sc_about_plain.nd rfl (Or.inl rfl) (pe_methH (pv 4) (HM_Figures_plus T) (hr.mono (by decide)) passL (pa_cons (pv 7) (pa_cons (pe_methH (pv 4) (HM_Figures_times T) (hr.mono (by decide)) passL (pa_cons (pv 8) (pa_cons (pe_callH (H_dot_of T) (hr.mono (by decide)) passL (pa_cons (pv 4) (pa_cons (pv 10) (pa_cons (pv 3) pa_nil)))) pa_nil))) pa_nil)))))))
          (pss_one (ps_expr (pe_bm PySem.F.plainAttrs_list PySem.F.slot_list_append PySem.F.type_list_append mt_append (pv 5) (pa_cons (pv 7) pa_nil)))))))
      (pss_one (ps_ret (pe_callTy call_tuple_of rfl (n_tuple T) (by decide +kernel) (pa_cons (pv 5) pa_nil)))))))))), ?_⟩
    obtain ⟨dx, w1, w2, hA, hF, dt1, dt2⟩ := id hP
    refine ⟨_, rfl, a, _, dx, _, _, rfl, hA, cl_Pair T, na_Pair_figures T, rfl, ?_⟩
    rcases h with ⟨n, m, ln, hby, h⟩ | ⟨ho, q⟩
    rotate_left
    · exact ⟨_, rfl, _, rfl, .inr (.inr ⟨ho, q⟩)⟩
    have zt : ∀ t ∈ [t1, t2], Tab t R C ∧ TSz 100 t := fun t ht => by
      simp only [List.mem_cons, List.not_mem_nil, or_false] at ht
      rcases ht with rfl | rfl
      · exact ⟨T1, zt1⟩
      · exact ⟨T2, zt2⟩
    have lnl : ∀ t ∈ [t1, t2], ∀ j, j < m → (ln t j).length = n ∧ ∀ x ∈ ln t j, Sz p 100 x := fun t ht j hj => by
      obtain ⟨tt, tz⟩ := zt t ht
      rcases hby with ⟨_, rfl, rfl, rfl⟩ | ⟨_, rfl, rfl, rfl⟩
      · refine ⟨by unfold colOf; rw [List.length_map, tt.1], fun x hx => ?_⟩
        obtain ⟨r, hr, rfl⟩ := List.mem_map.mp hx
        rw [getD_at (by rw [tt.2 r hr]; exact hj)]
        exact tz r hr _ (List.getElem_mem _)
      · show (t.getD j []).length = _ ∧ ∀ x ∈ t.getD j [], _
        rw [getD_at (by rw [tt.1]; exact hj)]
        exact ⟨tt.2 _ (List.getElem_mem _), tz _ (List.getElem_mem _)⟩
    have hn5 : n ≤ 5 := by rcases hby with ⟨_, rfl, rfl, rfl⟩ | ⟨_, rfl, rfl, rfl⟩ <;> assumption
    rcases hby with ⟨rfl, rfl, rfl, rfl⟩ | ⟨rfl, rfl, rfl, rfl⟩
    · refine ⟨_, rfl, _, rfl, .inr (.inl ⟨rfl, fun H0 e0 => ?_⟩)⟩
      rcases h with ⟨k1, k2, z0, z1, xs, d1, d2, lx, s0, s1, zx, q⟩ | ⟨j, hf, q⟩ | ⟨k1, zs, j, d1, lz, hf, q⟩
      rotate_left
      · exact ⟨_, rfl, _, rfl, f, p, 2, v1, "taps", rfl, hF.same e0, .inr ⟨j, hf.same e0, q.same e0⟩⟩
      · refine ⟨_, rfl, _, rfl, f, p, 2, v1, "taps", rfl, hF.same e0, .inl ⟨k1, zs, e0.dp d1, lz, fun l H1 e1 b1 => ?_⟩⟩
        have E1 := e0.trans e1
        exact ⟨_, rfl, _, rfl, _, rfl, rfl, _, rfl, iteT ⟨_, rfl, a, _, dx, _, _, rfl, E1 _ _ hA, cl_Pair T, na_Pair_rows T, rfl, f, p, _, v2, "letters", rfl, hF.same E1, .inr ⟨j, hf.same E1, q.same E1⟩⟩⟩
      refine ⟨_, rfl, _, rfl, f, p, 2, v1, "taps", rfl, hF.same e0, .inl ⟨k1, [z0, z1], e0.dp d1, rfl, fun l H1 e1 b1 => ?_⟩⟩
      have E1 := e0.trans e1
      refine ⟨_, rfl, _, rfl, _, rfl, rfl, _, rfl, iteT ⟨_, rfl, a, _, dx, _, _, rfl, E1 _ _ hA, cl_Pair T, na_Pair_rows T, rfl, f, p, _, v2, "letters", rfl, hF.same E1, .inl ⟨k2, xs, E1.dp d2, lx, fun r H2 e2 b2 => ?_⟩⟩⟩
      have E2 := E1.trans e2
      have b1 := e2.dp b1
      have zz : ∀ z ∈ [z0, z1], Sz p 2 z := fun z hz => by
        simp only [List.mem_cons, List.not_mem_nil, or_false] at hz
        rcases hz with rfl | rfl
        · exact s0
        · exact s1
      refine ⟨by show 0 ≤ sizeLine; exact Nat.zero_le _, fun L hL => ?_⟩
      have A0 : LAt K [] H2 L [] [] (upd H2 L (.lst [])) := LAt.new hL
      have EA := E2.trans A0.sq0
      obtain ⟨zb, zw, rfl, zT, zA⟩ := Dp.tup_inv b1
      have lzw : zw.length = 2 := row_len zA
      refine ⟨_, rfl, rfl, _, rfl, iteT ⟨_, rfl, a, _, dx, _, _, rfl, EA _ _ hA, cl_Pair T, na_Pair_columns T, rfl, _, rfl, by omega, by omega, ?_⟩⟩
      refine for_it (walk_range (n := _))
        (fun i σ H' => ∃ acc o6 o7 o8 o9 o10, σ = [some (.ref a), some (.str "y"), some (.ref zb), some r, some (.ref f), some (.ref L), o6, o7, o8, o9, o10, none] ∧ LAt K [] H2 L acc ((List.range i).map fun j => numD (z0 * dot (colOf t1 j) xs + z1 * dot (colOf t2 j) xs)) H')
        ⟨[], none, none, none, none, none, rfl, A0⟩ (fun i σ H' hi _ => trivial) (fun i x σ H4 H5 hi hP hY => ?_) (fun σ H' hP => ?_)
      · obtain ⟨acc, o6, o7, o8, o9, o10, rfl, B⟩ := hP
        obtain ⟨rfl, ex⟩ := hY
        obtain rfl : x = .int (i : Int) := by rw [ex]; exact rng0 i
        have E5 := E2.trans B.sq0
        have F5 := hF.same E5
        obtain ⟨_, fx, vz, vo, hf, dz, _⟩ := id F5
        refine ⟨_, rfl, f, _, fx, _, _, rfl, hf, cl_Figures T, na_Figures_zero T, rfl, ?_⟩
        refine ⟨_, rfl, _, rfl, a, _, dx, _, _, rfl, E5 _ _ hA, cl_Pair T, na_Pair_first T, rfl, _, rfl, a, _, dx, _, _, rfl, E5 _ _ hA, cl_Pair T, na_Pair_second T, rfl, by show 2 ≤ sizeLine; decide, fun tt htt => ?_⟩
        have e6 := Same.upd (o := .tup [w1, w2]) htt
        have E6 := E5.trans e6
        have B6 := B.same e6
        have aW : DpAll K _ [w1, w2] ([t1, t2].map tabD) := .cons (E6.dp dt1) (.cons (E6.dp dt2) .nil)
        refine ⟨true, true, zb, tt, zw, [w1, w2], rfl, Same.sqT (B6.sq0) zT, .inl (.inl upd_same), for_it (walk_zip2 (n := 2) lzw rfl)
          (fun j σ H' => ∃ t o8 o9 o10, σ = [some (.ref a), some (.str "y"), some (.ref zb), some r, some (.ref f), some (.ref L), some (.int (i : Int)), some t, o8, o9, o10, none] ∧ Same (upd H5 tt (.tup [w1, w2])) H' ∧ Dp K H' t (numD (S (fun q => q.1 * dot (colOf q.2 i) xs) (([z0, z1].zip [t1, t2]).take j))))
          ⟨vz, o8, o9, o10, rfl, Same.refl _, e6.dp dz⟩ (fun j σ H' hj ⟨_, _, _, _, _, e, _⟩ => ⟨Same.sqT (B6.sq0.trans e) zT, Same.sqT e (.inl (.inl upd_same))⟩) (fun j x σ H7 H8 hj hP hY => ?_) (fun σ H' hP => ?_)⟩
        · obtain ⟨t, o8, o9, o10, rfl, e7, dt⟩ := hP
          obtain ⟨Tt, u, tv, rfl, hT, rfl, ev1, ev2⟩ := hY
          obtain ⟨z, hzz, dzz⟩ := row_at zA ev1
          obtain ⟨dd, hd, dtv⟩ := aW.of ev2
          obtain ⟨tb, htb, rfl⟩ := map_at hd
          obtain ⟨tabk, tabz⟩ := zt tb (List.mem_of_getElem? htb)
          obtain ⟨lnn, lnz⟩ := lnl tb (List.mem_of_getElem? htb) i hi
          have hzip : ([z0, z1].zip [t1, t2])[j]? = some (z, tb) := by rw [List.getElem?_zip_eq_some]; exact ⟨hzz, htb⟩
          have e8 := e7.trans (Same.upd (o := .tup [u, tv]) hT)
          have E8 := E6.trans e8
          have dtv := e8.dp dtv
          obtain ⟨tp, tw, rfl, tT, tA⟩ := Dp.tup_inv dtv
          have ltw : tw.length = tb.length := by rw [tA.len, List.length_map]
          refine ⟨Tt, [u, .ref tp], rfl, .inl (.inl upd_same), rfl, u, [.ref tp], rfl, .ref tp, [], rfl, rfl, ?_⟩
          refine ⟨_, rfl, rfl, _, rfl, iteT ⟨_, rfl, tp, rfl, ⟨tw, tT⟩, fun D hD => ?_⟩⟩
          refine lc_it (walk_tup (xs := tw)) (fun k H' => ∃ acc', LAt K [] _ D acc' ((tb.take k).map fun r => numD (r.getD i 0)) H') ⟨[], LAt.new hD⟩ (fun k H' _ ⟨_, B7⟩ => Same.sqT B7.sq0 tT) (fun k v H9 H10 hk hP hY => ?_) (fun H9 hP => ?_)
          · obtain ⟨acc', B7⟩ := hP
            obtain ⟨rfl, ev⟩ := hY
            obtain ⟨rd, hrd, drv⟩ := tA.of ev
            obtain ⟨row, hrow, rfl⟩ := map_at hrd
            obtain ⟨rb, rw_, rfl, sR, aR⟩ := Dp.tup_inv (B7.sq0.dp drv)
            have lrow := tabk.2 row (List.mem_of_getElem? hrow)
            have hi2 : i < row.length := by rw [lrow]; exact hi
            obtain ⟨y, hy, dy⟩ := aR.get (i := i) (d := numD (row.getD i 0)) (by rw [List.getElem?_map, List.getElem?_eq_getElem hi2, getD_at hi2]; rfl)
            have la := B7.len
            rw [List.length_map, List.length_take] at la
            refine ⟨rfl, _, rfl, _, rfl, _, _, _, _, rfl, rfl, sR, atI_nat (j := i) hy, acc', B7.at_, few (by have := tabk.1; omega), acc' ++ [y], ?_⟩
            rw [take_snoc hrow, List.map_append]
            exact B7.push ((tp_num _).off B7.lst1 dy)
          obtain ⟨acc', B7⟩ := hP
          have e9 := B7.sq0
          have dl : Dp K H9 (.ref D) (rowD false (colOf tb i)) := by
            have q2 := (Same.ofOff (M := [D]) (H := H9)).dpAll B7.all
            rw [List.take_of_length_le (by omega)] at q2
            refine Dp.newL B7.at_ ?_
            unfold colOf
            rw [List.map_map]
            exact q2
          have E9 := E8.trans e9
          have F9 := hF.same E9
          have e89 := e8.trans e9
          obtain ⟨_, fx', vz', vo', hf9, _, _⟩ := id F9
          have sd : Sz p 516 (dot (colOf tb i) xs) := (sz_dot (k := 5) lnz zx (by omega)).mono (by decide)
          have sp2 : ∀ q ∈ [z0, z1].zip [t1, t2], Sz p 518 (q.1 * dot (colOf q.2 i) xs) := fun q hq => by
            have hq1 := (List.of_mem_zip hq).1
            have hq2 := lnl q.2 (List.of_mem_zip hq).2 i hi
            exact (Sz.mul (zz _ hq1) (sz_dot (k := 5) hq2.2 zx (by have := hq2.1; omega))).mono (by decide)
          refine ⟨_, rfl, f, fx', _, rfl, hf9, rfl, _, rfl, _, rfl, f, fx', _, rfl, hf9, rfl, _, rfl, _, rfl, _, rfl, _, rfl, f, p, false, true, colOf tb i, xs, 100, 2, .ref D, r, rfl, F9, dl, (B.sq0.trans (e6.trans e89)).dp b2, by omega, lnz, zx, by decide, by decide, ?_, fun g1 H10 e10 d10 => ?_⟩
          · rw [lnn]
            omega
          refine ⟨f, p, z, dot (colOf tb i) xs, u, g1, rfl, F9.same e10, ((B.sq0.trans (e6.trans e89)).trans e10).dp dzz, d10, (zz z (List.mem_of_getElem? hzz)).mono (by decide), sd.mono (by decide), fun g2 H11 e11 d11 => ?_⟩
          refine ⟨f, p, _, _, t, g2, rfl, F9.same (e10.trans e11), ((((Same.upd (o := .tup [u, .ref tp]) hT).trans e9).trans e10).trans e11).dp dt, d11, ?_, ?_, fun g3 H12 e12 d12 => ?_⟩
          · exact (sz_sum (n := 518) (by simp; omega) sp2).mono (by show 2 * (518 + 1) + 1 ≤ 4000; decide)
          · exact (sp2 _ (List.mem_of_getElem? hzip)).mono (by decide)
          · refine ⟨g3, _, _, _, rfl, ((e89.trans e10).trans e11).trans e12, ?_⟩
            rw [take_snoc hzip, S_snoc]
            exact d12
        · obtain ⟨t, o8, o9, o10, rfl, e7, dt⟩ := hP
          have B7 := B6.same e7
          have la := B7.len
          rw [List.length_map, List.length_range] at la
          have dt2 : Dp K H' t (numD (z0 * dot (colOf t1 i) xs + z1 * dot (colOf t2 i) xs)) := by
            have e : S (fun (q : Car p × List (List (Car p))) => q.1 * dot (colOf q.2 i) xs) [(z0, t1), (z1, t2)] = z0 * dot (colOf t1 i) xs + z1 * dot (colOf t2 i) xs := S_two _ _ _
            rw [← e]
            exact dt
          refine ⟨_, rfl, .inl ⟨rfl, acc, B7.sqL⟩, _, rfl, L, acc, _, rfl, rfl, B7.at_, few (by omega), ⟨acc ++ [t], _, _, _, _, _, rfl, ?_⟩⟩
          rw [List.range_succ, List.map_append]
          exact B7.push ((tp_num _).off B7.lst1 dt2)
      · obtain ⟨acc, o6, o7, o8, o9, o10, rfl, B⟩ := hP
        refine ⟨_, rfl, B.tup0 fun v' H3 e3 d3 => q v' H3 (E2.trans e3) ?_⟩
        unfold plainT rowD
        rw [List.map_map]
        exact d3
    · refine ⟨_, rfl, _, rfl, .inl ⟨rfl, fun H0 e0 => ?_⟩⟩
      rcases h with ⟨k1, k2, z0, z1, xs, d1, d2, lx, s0, s1, zx, q⟩ | ⟨j, hf, q⟩ | ⟨k1, zs, j, d1, lz, hf, q⟩
      rotate_left
      · exact ⟨_, rfl, _, rfl, f, p, 2, v1, "taps", rfl, hF.same e0, .inr ⟨j, hf.same e0, q.same e0⟩⟩
      · refine ⟨_, rfl, _, rfl, f, p, 2, v1, "taps", rfl, hF.same e0, .inl ⟨k1, zs, e0.dp d1, lz, fun l H1 e1 b1 => ?_⟩⟩
        have E1 := e0.trans e1
        exact ⟨_, rfl, _, rfl, _, rfl, rfl, _, rfl, iteF ⟨_, rfl, a, _, dx, _, _, rfl, E1 _ _ hA, cl_Pair T, na_Pair_columns T, rfl, f, p, _, v2, "letters", rfl, hF.same E1, .inr ⟨j, hf.same E1, q.same E1⟩⟩⟩
      refine ⟨_, rfl, _, rfl, f, p, 2, v1, "taps", rfl, hF.same e0, .inl ⟨k1, [z0, z1], e0.dp d1, rfl, fun l H1 e1 b1 => ?_⟩⟩
      have E1 := e0.trans e1
      refine ⟨_, rfl, _, rfl, _, rfl, rfl, _, rfl, iteF ⟨_, rfl, a, _, dx, _, _, rfl, E1 _ _ hA, cl_Pair T, na_Pair_columns T, rfl, f, p, _, v2, "letters", rfl, hF.same E1, .inl ⟨k2, xs, E1.dp d2, lx, fun r H2 e2 b2 => ?_⟩⟩⟩
      have E2 := E1.trans e2
      have b1 := e2.dp b1
      have zz : ∀ z ∈ [z0, z1], Sz p 2 z := fun z hz => by
        simp only [List.mem_cons, List.not_mem_nil, or_false] at hz
        rcases hz with rfl | rfl
        · exact s0
        · exact s1
      refine ⟨by show 0 ≤ sizeLine; exact Nat.zero_le _, fun L hL => ?_⟩
      have A0 : LAt K [] H2 L [] [] (upd H2 L (.lst [])) := LAt.new hL
      have EA := E2.trans A0.sq0
      obtain ⟨zb, zw, rfl, zT, zA⟩ := Dp.tup_inv b1
      have lzw : zw.length = 2 := row_len zA
      refine ⟨_, rfl, rfl, _, rfl, iteF ⟨_, rfl, a, _, dx, _, _, rfl, EA _ _ hA, cl_Pair T, na_Pair_rows T, rfl, _, rfl, by omega, by omega, ?_⟩⟩
      refine for_it (walk_range (n := _))
        (fun i σ H' => ∃ acc o6 o7 o8 o9 o10, σ = [some (.ref a), some (.str "x"), some (.ref zb), some r, some (.ref f), some (.ref L), o6, o7, o8, o9, o10, none] ∧ LAt K [] H2 L acc ((List.range i).map fun j => numD (z0 * dot (rowOf t1 j) xs + z1 * dot (rowOf t2 j) xs)) H')
        ⟨[], none, none, none, none, none, rfl, A0⟩ (fun i σ H' hi _ => trivial) (fun i x σ H4 H5 hi hP hY => ?_) (fun σ H' hP => ?_)
      · obtain ⟨acc, o6, o7, o8, o9, o10, rfl, B⟩ := hP
        obtain ⟨rfl, ex⟩ := hY
        obtain rfl : x = .int (i : Int) := by rw [ex]; exact rng0 i
        have E5 := E2.trans B.sq0
        have F5 := hF.same E5
        obtain ⟨_, fx, vz, vo, hf, dz, _⟩ := id F5
        refine ⟨_, rfl, f, _, fx, _, _, rfl, hf, cl_Figures T, na_Figures_zero T, rfl, ?_⟩
        refine ⟨_, rfl, _, rfl, a, _, dx, _, _, rfl, E5 _ _ hA, cl_Pair T, na_Pair_first T, rfl, _, rfl, a, _, dx, _, _, rfl, E5 _ _ hA, cl_Pair T, na_Pair_second T, rfl, by show 2 ≤ sizeLine; decide, fun tt htt => ?_⟩
        have e6 := Same.upd (o := .tup [w1, w2]) htt
        have E6 := E5.trans e6
        have B6 := B.same e6
        have aW : DpAll K _ [w1, w2] ([t1, t2].map tabD) := .cons (E6.dp dt1) (.cons (E6.dp dt2) .nil)
        refine ⟨true, true, zb, tt, zw, [w1, w2], rfl, Same.sqT (B6.sq0) zT, .inl (.inl upd_same), for_it (walk_zip2 (n := 2) lzw rfl)
          (fun j σ H' => ∃ t o8 o9 o10, σ = [some (.ref a), some (.str "x"), some (.ref zb), some r, some (.ref f), some (.ref L), some (.int (i : Int)), some t, o8, o9, o10, none] ∧ Same (upd H5 tt (.tup [w1, w2])) H' ∧ Dp K H' t (numD (S (fun q => q.1 * dot (rowOf q.2 i) xs) (([z0, z1].zip [t1, t2]).take j))))
          ⟨vz, o8, o9, o10, rfl, Same.refl _, e6.dp dz⟩ (fun j σ H' hj ⟨_, _, _, _, _, e, _⟩ => ⟨Same.sqT (B6.sq0.trans e) zT, Same.sqT e (.inl (.inl upd_same))⟩) (fun j x σ H7 H8 hj hP hY => ?_) (fun σ H' hP => ?_)⟩
        · obtain ⟨t, o8, o9, o10, rfl, e7, dt⟩ := hP
          obtain ⟨Tt, u, tv, rfl, hT, rfl, ev1, ev2⟩ := hY
          obtain ⟨z, hzz, dzz⟩ := row_at zA ev1
          obtain ⟨dd, hd, dtv⟩ := aW.of ev2
          obtain ⟨tb, htb, rfl⟩ := map_at hd
          obtain ⟨tabk, tabz⟩ := zt tb (List.mem_of_getElem? htb)
          obtain ⟨lnn, lnz⟩ := lnl tb (List.mem_of_getElem? htb) i hi
          have hzip : ([z0, z1].zip [t1, t2])[j]? = some (z, tb) := by rw [List.getElem?_zip_eq_some]; exact ⟨hzz, htb⟩
          have e8 := e7.trans (Same.upd (o := .tup [u, tv]) hT)
          have E8 := E6.trans e8
          have dtv := e8.dp dtv
          obtain ⟨tp, tw, rfl, tT, tA⟩ := Dp.tup_inv dtv
          have ltw : tw.length = tb.length := by rw [tA.len, List.length_map]
          refine ⟨Tt, [u, .ref tp], rfl, .inl (.inl upd_same), rfl, u, [.ref tp], rfl, .ref tp, [], rfl, rfl, ?_⟩
          have hi2 : i < tb.length := by rw [tabk.1]; exact hi
          obtain ⟨rv, hrv, drv⟩ := tA.get (i := i) (d := rowD true (rowOf tb i)) (by unfold rowOf; rw [List.getElem?_map, List.getElem?_eq_getElem hi2, getD_at hi2]; rfl)
          refine ⟨_, rfl, rfl, _, rfl, iteF ⟨_, rfl, _, rfl, _, _, _, _, rfl, rfl, tT, atI_nat (j := i) hrv, ?_⟩⟩
          have e9 := Same.refl (upd H7 Tt (.tup [u, .ref tp]))
          have dl := drv
          have E9 := E8.trans e9
          have F9 := hF.same E9
          have e89 := e8.trans e9
          obtain ⟨_, fx', vz', vo', hf9, _, _⟩ := id F9
          have sd : Sz p 516 (dot (rowOf tb i) xs) := (sz_dot (k := 5) lnz zx (by omega)).mono (by decide)
          have sp2 : ∀ q ∈ [z0, z1].zip [t1, t2], Sz p 518 (q.1 * dot (rowOf q.2 i) xs) := fun q hq => by
            have hq1 := (List.of_mem_zip hq).1
            have hq2 := lnl q.2 (List.of_mem_zip hq).2 i hi
            exact (Sz.mul (zz _ hq1) (sz_dot (k := 5) hq2.2 zx (by have := hq2.1; omega))).mono (by decide)
          refine ⟨_, rfl, f, fx', _, rfl, hf9, rfl, _, rfl, _, rfl, f, fx', _, rfl, hf9, rfl, _, rfl, _, rfl, _, rfl, _, rfl, f, p, true, true, rowOf tb i, xs, 100, 2, rv, r, rfl, F9, dl, (B.sq0.trans (e6.trans e89)).dp b2, by omega, lnz, zx, by decide, by decide, ?_, fun g1 H10 e10 d10 => ?_⟩
          · rw [lnn]
            omega
          refine ⟨f, p, z, dot (rowOf tb i) xs, u, g1, rfl, F9.same e10, ((B.sq0.trans (e6.trans e89)).trans e10).dp dzz, d10, (zz z (List.mem_of_getElem? hzz)).mono (by decide), sd.mono (by decide), fun g2 H11 e11 d11 => ?_⟩
          refine ⟨f, p, _, _, t, g2, rfl, F9.same (e10.trans e11), ((((Same.upd (o := .tup [u, .ref tp]) hT).trans e9).trans e10).trans e11).dp dt, d11, ?_, ?_, fun g3 H12 e12 d12 => ?_⟩
          · exact (sz_sum (n := 518) (by simp; omega) sp2).mono (by show 2 * (518 + 1) + 1 ≤ 4000; decide)
          · exact (sp2 _ (List.mem_of_getElem? hzip)).mono (by decide)
          · refine ⟨g3, _, _, _, rfl, ((e89.trans e10).trans e11).trans e12, ?_⟩
            rw [take_snoc hzip, S_snoc]
            exact d12
        · obtain ⟨t, o8, o9, o10, rfl, e7, dt⟩ := hP
          have B7 := B6.same e7
          have la := B7.len
          rw [List.length_map, List.length_range] at la
          have dt2 : Dp K H' t (numD (z0 * dot (rowOf t1 i) xs + z1 * dot (rowOf t2 i) xs)) := by
            have e : S (fun (q : Car p × List (List (Car p))) => q.1 * dot (rowOf q.2 i) xs) [(z0, t1), (z1, t2)] = z0 * dot (rowOf t1 i) xs + z1 * dot (rowOf t2 i) xs := S_two _ _ _
            rw [← e]
            exact dt
          refine ⟨_, rfl, .inl ⟨rfl, acc, B7.sqL⟩, _, rfl, L, acc, _, rfl, rfl, B7.at_, few (by omega), ⟨acc ++ [t], _, _, _, _, _, rfl, ?_⟩⟩
          rw [List.range_succ, List.map_append]
          exact B7.push ((tp_num _).off B7.lst1 dt2)
      · obtain ⟨acc, o6, o7, o8, o9, o10, rfl, B⟩ := hP
        refine ⟨_, rfl, B.tup0 fun v' H3 e3 d3 => q v' H3 (E2.trans e3) ?_⟩
        unfold plainT rowD
        rw [List.map_map]
        exact d3
end
end K21
set_option maxRecDepth 100000
set_option maxHeartbeats 4000000
namespace K21
open PySem PySem.Spec PyProof.Rows L2
section
variable {P : Program} {w : World} {K : PySem.W.Frag} {mg : Str → Option Value} {base : Heap}
/-! ## the law: the draws -/
/-- the hand at h: what it draws is not told -/
def HandAt (H : Hp) (h c : Addr) : Prop := ∃ (idx rest tot : Int) (cells : List Int), H h = some (.lst [.ref c, .int idx, .int rest, .int tot]) ∧ c ≠ h ∧ H c = some (.lst (cells.map V.int)) ∧ 0 ≤ idx ∧ idx ≤ cells.length ∧ 0 ≤ rest ∧ 0 ≤ tot ∧ tot < 2147483648 ∧ (∀ x ∈ cells, 0 ≤ x) ∧ cells.length ≤ 1000
theorem HandAt.same {H H' : Hp} {h c : Addr} (e : Same H H') (q : HandAt H h c) : HandAt H' h c := by
  obtain ⟨i, r, t, cs, h1, h2, h3, h4⟩ := q
  exact ⟨i, r, t, cs, e _ _ h1, h2, e _ _ h3, h4⟩
theorem HandAt.lst {H : Hp} {h c : Addr} (q : HandAt H h c) : ∃ l, H h = some (.lst l) := by
  obtain ⟨i, r, t, cs, h1, _⟩ := q
  exact ⟨_, h1⟩
theorem HandAt.put {H : Hp} {h c a : Addr} {o : HO} (q : HandAt H h c) (n1 : a ≠ h) (n2 : a ≠ c) : HandAt (upd H a o) h c := by
  obtain ⟨i, r, t, cs, h1, h2, h3, h4⟩ := q
  exact ⟨i, r, t, cs, by rw [upd_ne (Ne.symm n1)]; exact h1, h2, by rw [upd_ne (Ne.symm n2)]; exact h3, h4⟩
theorem HandAt.ne {H : Hp} {h c a : Addr} (q : HandAt H h c) (ha : H a = none) : a ≠ h ∧ a ≠ c := by
  obtain ⟨i, r, t, cs, h1, h2, h3, h4⟩ := q
  refine ⟨fun e => ?_, fun e => ?_⟩
  · rw [← e, ha] at h1
    exact nomatch h1
  · rw [← e, ha] at h3
    exact nomatch h3
def spMixed : Sp := fun vs H Q _ => ∃ (a t : Int), vs = [.int a, .int t] ∧ 0 ≤ a ∧ a < 2147483648 ∧ 0 ≤ t ∧ t ≤ 100000 ∧ ∀ r : Int, 0 ≤ r → Q (.int r) H
theorem H__law_mixed (T : Txt K mg) : Hs P w K mg base 1 "_law_mixed" ["_law_number_here", "_law_turn"] [] spMixed := by
  obtain ⟨fd, F⟩ := F__law_mixed T
  refine ⟨_, fd, [], g__law_mixed T, F.kp, okN F sc__law_mixed (fun vs H Q E h => ?_) (fun cdv A outer s H vs Q E hr h => ?_), F.bindsN fun _ _ _ _ _ _ us hl => match us, hl with | [_, _], _ => rfl, .nil⟩
  · obtain ⟨a, t, rfl, _⟩ := h
    rfl
  · obtain ⟨a, t, rfl, a0, a1, t0, t1, q⟩ := h
    refine ⟨_, (pss_cons (ps_set (i := 2) sc__law_mixed.nd rfl (Or.inl rfl) (pe_op op_mod (pe_callTy call_int1 rfl (n_int T) (by decide +kernel) (pa_cons (pe_op op_add (pe_op op_add (pe_op op_mulW (pv 0) pe_int) (pe_op op_mulW (pv 1) pe_int)) pe_int) pa_nil)) pe_int))
      (pss_cons (ps_set (i := 3) sc__law_mixed.nd rfl (Or.inl rfl) (pe_op op_mod (pe_callTy call_int1 rfl (n_int T) (by decide +kernel) (pa_cons (pe_op op_add (pe_op op_add (pe_op op_mulW (pv 2) (pv 2)) (pe_op op_mulW (pv 1) pe_int)) (pe_op op_fdivW (pv 2) pe_int)) pa_nil)) pe_int))
      (pss_one (ps_ret (pe_op op_fdivW (pe_callTy call_int1 rfl (n_int T) (by decide +kernel) (pa_cons (pe_op op_mod (pe_callTy call_int1 rfl (n_int T) (by decide +kernel) (pa_cons (pe_op op_add (pe_op op_mulW (pv 3) pe_int) (pe_op op_fdivW (pv 2) pe_int)) pa_nil)) pe_int) pa_nil)) pe_int))))), ?_⟩
    have w1 : ∀ {x y : Int}, 0 ≤ x → x < 2147483648 → 0 ≤ y → y < 2147483648 → CMulW x y := fun {x y} h1 h2 h3 h4 => wide_mul (a := 31) (b := 31) (by omega) (by omega) (by decide) (by decide) (by decide)
    have hd : ∀ {x y : Int}, 0 < y → y < 2147483648 → CDivW x y := fun {x y} h1 h2 => wide_div (b := 31) h1 (by omega) (by decide) (by decide)
    refine ⟨_, rfl, _, _, rfl, rfl, w1 a0 a1 (by omega) (by omega), _, rfl, _, _, rfl, rfl, w1 t0 (by omega) (by omega) (by omega), _, _, rfl, rfl, _, _, rfl, rfl, .inl ⟨_, rfl, _, _, rfl, rfl, by omega, ?_⟩⟩
    have m0 : ∀ {x y : Int}, 0 < y → 0 ≤ x % y := fun {x y} h => Int.emod_nonneg _ (by omega)
    have m1 : ∀ {x y : Int}, 0 < y → y < 2147483648 → x % y < 2147483648 := fun {x y} h h2 => Int.lt_trans (Int.emod_lt_of_pos _ h) h2
    refine ⟨_, rfl, _, rfl, _, _, rfl, rfl, w1 (m0 (by decide)) (m1 (by decide) (by decide)) (m0 (by decide)) (m1 (by decide) (by decide)), _, rfl, _, _, rfl, rfl, w1 t0 (by omega) (by omega) (by omega), _, _, rfl, rfl, _, rfl, _, _, rfl, rfl, hd (by omega) (by omega), _, _, rfl, rfl, .inl ⟨_, rfl, _, _, rfl, rfl, by omega, ?_⟩⟩
    refine ⟨_, rfl, _, _, rfl, rfl, w1 (m0 (by decide)) (m1 (by decide) (by decide)) (by omega) (by omega), _, rfl, _, _, rfl, rfl, hd (by omega) (by omega), _, _, rfl, rfl, .inl ⟨_, rfl, _, _, rfl, rfl, by omega, .inl ⟨_, rfl, _, _, rfl, rfl, hd (by omega) (by omega), q _ ?_⟩⟩⟩
    exact Int.ediv_nonneg (m0 (by decide)) (by omega)
/-- h may have moved on -/
def spTake (K : PySem.W.Frag) : Sp := fun vs H Q _ => ∃ (h c : Addr) (many : Nat), vs = [.ref h, .int (many : Int)] ∧ 1 ≤ many ∧ many ≤ 1000 ∧ HandAt H h c ∧ ∀ (v : Nat) H', v < many → HandAt H' h c → Same (Off [h] H) (Off [h] H') → Q (.int (v : Int)) H'
theorem H__law_take (T : Txt K mg) : Hs P w K mg base 2 "_law_take" ["_law_hand_here", "_law_many"] [] (spTake K) := by
  obtain ⟨fd, F⟩ := F__law_take T
  refine ⟨_, fd, [], g__law_take T, F.kp, okN F sc__law_take (fun vs H Q E h => ?_) (fun cdv A outer s H vs Q E hr h => ?_), F.bindsN fun _ _ _ _ _ _ us hl => match us, hl with | [_, _], _ => rfl, .nil⟩
  · obtain ⟨h, c, many, rfl, _⟩ := h
    rfl
  · obtain ⟨h, c, many, rfl, m1, m2, hH, q⟩ := h
    refine ⟨_, (pss_cons (ps_if (PW.pt (pw_and (pt_cmp (pc_eqI (pe_ix ix_list (pv 0) pe_int (fun _ _ => rfl)) pe_int)) (pw_and1 (pt_cmp (pc_lt (pe_ix ix_list (pv 0) pe_int (fun _ _ => rfl)) (pe_callB call_len rfl (n_len T) PySem.boot_len (pa_cons (pe_ix ix_list (pv 0) pe_int (fun _ _ => rfl)) pa_nil)))))))
        (pss_cons (ps_set (i := 2) sc__law_take.nd rfl (Or.inl rfl) (pe_ix ix_list (pe_ix ix_list (pv 0) pe_int (fun _ _ => rfl)) (pe_ix ix_list (pv 0) pe_int (fun _ _ => rfl)) (fun _ _ => rfl)))
          (pss_cons (ps_asg (pe_op op_add (pe_ix ix_list (pv 0) pe_int (fun _ _ => rfl)) pe_int) (pg_sub (pv 0) pe_int set_list))
          (pss_cons (ps_if (pt_cmp (pc_lt (pv 2) (pe_op op_pow pe_int pe_int)))
            (pss_one (ps_ret (pe_op op_mod (pe_callTy call_int1 rfl (n_int T) (by decide +kernel) (pa_cons (pe_callH (H__law_mixed T) (hr.mono (by decide)) passL (pa_cons (pe_op op_mod (pe_callTy call_int1 rfl (n_int T) (by decide +kernel) (pa_cons (pv 2) pa_nil)) pe_int) (pa_cons (pe_ix ix_list (pv 0) pe_int (fun _ _ => rfl)) pa_nil))) pa_nil)) (pv 1))))
            pss_nil)
          (pss_one (ps_asg (pv 2) (pg_sub (pv 0) pe_int set_list))))))
        pss_nil)
      (pss_cons (ps_if (pt_cmp (pc_gt (pe_ix ix_list (pv 0) pe_int (fun _ _ => rfl)) pe_int))
        (pss_cons (ps_set (i := 3) sc__law_take.nd rfl (Or.inl rfl) (pe_ix ix_list (pv 0) pe_int (fun _ _ => rfl)))
          (pss_cons (ps_asg (pe_op op_fdivW (pe_callTy call_int1 rfl (n_int T) (by decide +kernel) (pa_cons (pv 3) pa_nil)) (pv 1)) (pg_sub (pv 0) pe_int set_list))
          (pss_one (ps_ret (pe_op op_mod (pe_callTy call_int1 rfl (n_int T) (by decide +kernel) (pa_cons (pv 3) pa_nil)) (pv 1))))))
        pss_nil)
      (pss_cons (ps_asg (pe_op op_mod (pe_callTy call_int1 rfl (n_int T) (by decide +kernel) (pa_cons (pe_op op_add (pe_ix ix_list (pv 0) pe_int (fun _ _ => rfl)) pe_int) pa_nil)) pe_int) (pg_sub (pv 0) pe_int set_list))
      (pss_one (ps_ret (pe_op op_mod (pe_callTy call_int1 rfl (n_int T) (by decide +kernel) (pa_cons (pe_callH (H__law_mixed T) (hr.mono (by decide)) passL (pa_cons (pe_ix ix_list (pv 0) pe_int (fun _ _ => rfl)) (pa_cons (pe_ix ix_list (pv 0) pe_int (fun _ _ => rfl)) pa_nil))) pa_nil)) (pv 1))))))), ?_⟩
    obtain ⟨idx, rest, tot, cells, hh, hc, hC, i0, i1, r0, t0, t1, cs, cl⟩ := hH
    have fin : ∀ (r : Int) H', 0 ≤ r → HandAt H' h c → Same (Off [h] H) (Off [h] H') → Q (.int (r % (many : Int))) H' := fun r H' hr0 hH' e => by
      have e1 : 0 ≤ r % (many : Int) := Int.emod_nonneg _ (by omega)
      have e2 : r % (many : Int) < many := Int.emod_lt_of_pos _ (by omega)
      have := q (r % (many : Int)).toNat H' (by omega) hH' e
      rw [Int.toNat_of_nonneg e1] at this
      exact this
    have st : ∀ {o : HO}, Same (Off [h] H) (Off [h] (upd H h o)) := fun {o} => by
      rw [off_upd (List.mem_singleton.mpr rfl)]
      exact Same.refl _
    have st2 : ∀ {o o' : HO}, Same (Off [h] H) (Off [h] (upd (upd H h o) h o')) := fun {o o'} => by
      rw [off_upd (List.mem_singleton.mpr rfl)]
      exact st
    have cc : ∀ {o : HO}, upd H h o c = some (.lst (cells.map V.int)) := fun {o} => by
      rw [upd_ne hc]
      exact hC
    have hd : CDivW rest (many : Int) := wide_div (b := 31) (by omega) (by omega) (by decide) (by decide)
    have hC2 := SqL.of (K := K) hC
    have hh2 := SqL.of (K := K) hh
    have mk : ∀ (H' : Hp) (i r t : Int), H' h = some (.lst [.ref c, .int i, .int r, .int t]) → H' c = some (.lst (cells.map V.int)) → 0 ≤ i → i ≤ cells.length → 0 ≤ r → 0 ≤ t → t < 2147483648 → HandAt H' h c := fun H' i r t a1 a2 a3 a4 a5 a6 a7 => ⟨i, r, t, cells, a1, hc, a2, a3, a4, a5, a6, a7, cs, cl⟩
    -- the third way
    have w3 := fun (H' : Hp) (r : Int) => H' = H
    refine ⟨_, rfl, _, _, _, _, rfl, rfl, hh2, atI_nat (j := 2) rfl, _, _, rfl, rfl, _, rfl, ?_⟩
    show if decide (rest = 0) = true then _ else _
    by_cases hr0 : rest = 0
    · subst hr0
      rw [decide_eq_true rfl]
      refine iteT ⟨_, rfl, _, _, _, _, rfl, rfl, hh2, atI_nat (j := 1) rfl, _, rfl, _, _, _, _, rfl, rfl, hh2, atI_nat (j := 0) rfl, _, _, rfl, sqL_len hC2, _, _, rfl, rfl, _, rfl, ?_⟩
      show if decide (idx < ((cells.map V.int).length : Int)) = true then _ else _
      by_cases hi : idx < cells.length
      · rw [decide_eq_true (by rw [List.length_map]; exact hi)]
        obtain ⟨k, rfl⟩ : ∃ k : Nat, idx = (k : Int) := ⟨idx.toNat, by omega⟩
        obtain ⟨x, hx⟩ : ∃ x, cells[k]? = some x := ⟨_, List.getElem?_eq_getElem (by omega)⟩
        have x0 := cs x (List.mem_of_getElem? hx)
        refine iteT ⟨_, rfl, _, _, _, _, rfl, rfl, hh2, atI_nat (j := 0) rfl, _, rfl, _, _, _, _, rfl, rfl, hh2, atI_nat (j := 1) rfl, _, _, _, _, rfl, rfl, hC2, atI_nat (j := k) (by rw [List.getElem?_map, hx]; rfl), ?_⟩
        refine ⟨_, rfl, _, _, _, _, rfl, rfl, hh2, atI_nat (j := 1) rfl, _, _, rfl, rfl, _, rfl, h, _, 1, 1, rfl, rfl, hh, rfl, ?_⟩
        refine ⟨_, rfl, _, _, rfl, rfl, ⟨by decide, by decide, by decide⟩, _, _, rfl, rfl, _, rfl, ?_⟩
        have hh3 := SqL.of (K := K) (upd_same (H := H) (a := h) (o := .lst [.ref c, .int ((k : Int) + 1), .int 0, .int tot]))
        have HA : HandAt (upd H h (.lst [.ref c, .int ((k : Int) + 1), .int 0, .int tot])) h c := mk _ _ _ _ upd_same cc (by omega) (by omega) (by omega) t0 t1
        refine ite2 (fun c1 => ?_) (fun c1 => ?_)
        · refine ⟨_, rfl, .inl ⟨_, rfl, _, _, rfl, rfl, by show (0 : Int) < 2147483399; decide, _, rfl, _, _, _, _, rfl, rfl, hh3, atI_nat (j := 1) rfl, _, _, rfl, Int.emod_nonneg _ (by decide), Int.lt_trans (Int.emod_lt_of_pos _ (by decide)) (by decide), by omega, by omega, fun r hr => .inl ⟨_, rfl, _, rfl, _, _, rfl, rfl, by omega, fin r _ hr HA st⟩⟩⟩
        · have c2 : ¬ x < (10 : Int) ^ (18 : Int).toNat := fun z => c1 (decide_eq_true z)
          have c3 : (10 : Int) ^ (18 : Int).toNat = 1000000000000000000 := by decide
          rw [c3] at c2
          have hx2 : CDivW x (many : Int) := wide_div (b := 31) (by omega) (by omega) (by decide) (by decide)
          refine ⟨_, rfl, _, rfl, h, _, 2, 2, rfl, rfl, upd_same, rfl, ?_⟩
          have hh4 := SqL.of (K := K) (upd_same (H := upd H h (.lst [.ref c, .int ((k : Int) + 1), .int 0, .int tot])) (a := h) (o := .lst [.ref c, .int ((k : Int) + 1), .int x, .int tot]))
          refine ⟨_, rfl, _, _, _, _, rfl, rfl, hh4, atI_nat (j := 2) rfl, _, _, rfl, rfl, _, rfl, ?_⟩
          show if decide (0 < x) = true then _ else _
          rw [decide_eq_true (by omega)]
          refine iteT ⟨_, rfl, _, _, _, _, rfl, rfl, hh4, atI_nat (j := 2) rfl, ?_⟩
          refine ⟨_, rfl, .inl ⟨_, rfl, _, rfl, _, _, rfl, rfl, hx2, _, rfl, h, _, 2, 2, rfl, rfl, upd_same, rfl, _, rfl, .inl ⟨_, rfl, _, rfl, _, _, rfl, rfl, by show (0 : Int) < (many : Int); omega, ?_⟩⟩⟩
          refine fin x _ x0 (mk _ ((k : Int) + 1) (x / (many : Int)) tot upd_same ?_ (by omega) (by omega) (Int.ediv_nonneg x0 (by omega)) t0 t1) ?_
          · rw [upd_ne hc, upd_ne hc, upd_ne hc]
            exact hC
          · rw [off_upd (List.mem_singleton.mpr rfl)]
            exact st2
      · rw [decide_eq_false (by rw [List.length_map]; exact hi)]
        refine iteF ⟨_, rfl, _, _, _, _, rfl, rfl, hh2, atI_nat (j := 2) rfl, _, _, rfl, rfl, _, rfl, iteF ?_⟩
        refine ⟨_, rfl, _, _, _, _, rfl, rfl, hh2, atI_nat (j := 3) rfl, _, _, rfl, rfl, .inl ⟨_, rfl, _, _, rfl, rfl, by show (0 : Int) < 2147483549; decide, _, rfl, h, _, 3, 3, rfl, rfl, hh, rfl, ?_⟩⟩
        have hh3 := SqL.of (K := K) (upd_same (H := H) (a := h) (o := .lst [.ref c, .int idx, .int 0, .int ((tot + 1) % 2147483549)]))
        have z0 : 0 ≤ (tot + 1) % 2147483549 := Int.emod_nonneg _ (by decide)
        have z1 : (tot + 1) % 2147483549 < 2147483549 := Int.emod_lt_of_pos _ (by decide)
        refine ⟨_, rfl, _, _, _, _, rfl, rfl, hh3, atI_nat (j := 3) rfl, _, rfl, _, _, _, _, rfl, rfl, hh3, atI_nat (j := 1) rfl, _, _, rfl, z0, by omega, i0, by omega, fun r hr => .inl ⟨_, rfl, _, rfl, _, _, rfl, rfl, by show (0 : Int) < (many : Int); omega, fin r _ hr (mk _ _ _ _ upd_same cc i0 i1 (by omega) z0 (by omega)) st⟩⟩
    · rw [decide_eq_false hr0]
      refine iteF (iteF ⟨_, rfl, _, _, _, _, rfl, rfl, hh2, atI_nat (j := 2) rfl, _, _, rfl, rfl, _, rfl, ?_⟩)
      show if decide (0 < rest) = true then _ else _
      rw [decide_eq_true (by omega)]
      refine iteT ⟨_, rfl, _, _, _, _, rfl, rfl, hh2, atI_nat (j := 2) rfl, ?_⟩
      refine ⟨_, rfl, .inl ⟨_, rfl, _, rfl, _, _, rfl, rfl, hd, _, rfl, h, _, 2, 2, rfl, rfl, hh, rfl, _, rfl, .inl ⟨_, rfl, _, rfl, _, _, rfl, rfl, by show (0 : Int) < (many : Int); omega, ?_⟩⟩⟩
      exact fin rest _ r0 (mk _ idx (rest / (many : Int)) tot upd_same cc i0 i1 (Int.ediv_nonneg r0 (by omega)) t0 t1) st
/-! ### the hand of a script -/
def spHand (K : PySem.W.Frag) : Sp := fun vs H Q _ => ∃ (a : Addr) (ns : List Int), vs = [.ref a] ∧ SqL K H a (ns.map V.int) ∧ ns.length ≤ 1000 ∧ ∀ h c H', Same H H' → H h = none → HandAt H' h c → Q (.ref h) H'
theorem H__law_hand (T : Txt K mg) : Hs P w K mg base 1 "_law_hand" ["_law_script"] [] (spHand K) := by
  obtain ⟨fd, F⟩ := F__law_hand T
  refine ⟨_, fd, [], g__law_hand T, F.kp, okN F sc__law_hand (fun vs H Q E h => ?_) (fun cdv A outer s H vs Q E hr h => ?_), F.bindsN fun _ _ _ _ _ _ us hl => match us, hl with | [_], _ => rfl, .nil⟩
  · obtain ⟨a, t, rfl, _⟩ := h
    rfl
  · obtain ⟨a, ns, rfl, hS, hl, q⟩ := h
    refine ⟨_, (pss_cons (ps_set (i := 1) sc__law_hand.nd rfl (Or.inl rfl) (pe_op op_add (pe_callB call_len rfl (n_len T) PySem.boot_len (pa_cons (pv 0) pa_nil)) pe_int))
      (pss_cons (ps_set (i := 2) sc__law_hand.nd rfl (Or.inl rfl) (pe_lst pa_nil))
      (pss_cons (ps_for PassesOwn.never rfl (pi_list (pv 0)) (pg_name (i := 3) sc__law_hand.nd rfl (Or.inl rfl))
        (pss_cons (ps_set (i := 1) sc__law_hand.nd rfl (Or.inl rfl) (pe_op op_mod (pe_callTy call_int1 rfl (n_int T) (by decide +kernel) (pa_cons (pe_op op_add (pe_op op_mulW (pv 1) pe_int) (pe_callTy call_int1 rfl (n_int T) (by decide +kernel) (pa_cons (pv 3) pa_nil))) pa_nil)) pe_int))
          (pss_one (ps_expr (pe_bm PySem.F.plainAttrs_list PySem.F.slot_list_append PySem.F.type_list_append mt_append (pv 2) (pa_cons (pe_callB call_abs rfl (n_abs T) (by decide +kernel) (pa_cons (pe_callTy call_int1 rfl (n_int T) (by decide +kernel) (pa_cons (pv 3) pa_nil)) pa_nil)) pa_nil))))))
      (pss_one (ps_ret (pe_lst (pa_cons (pv 2) (pa_cons pe_int (pa_cons pe_int (pa_cons (pv 1) pa_nil)))))))))), ?_⟩
    refine ⟨_, rfl, _, _, rfl, sqL_len hS, _, _, rfl, rfl, ?_⟩
    refine ⟨by show 0 ≤ sizeLine; exact Nat.zero_le _, fun L hL => ?_⟩
    have lm : (ns.map V.int).length = ns.length := List.length_map ..
    have s0 : SqL K (upd H L (.lst [])) a (ns.map V.int) := Same.seq (Same.upd hL) hS
    refine ⟨_, rfl, a, rfl, ⟨_, s0⟩, for_it (walk_list (xs := ns.map V.int))
      (fun i σ H' => ∃ (tot : Int) (cs : List Int) (o3 : Option V), σ = [some (.ref a), some (.int tot), some (.ref L), o3] ∧ H' = upd H L (.lst (cs.map V.int)) ∧ cs.length = i ∧ (∀ x ∈ cs, 0 ≤ x) ∧ 0 ≤ tot ∧ tot < 2147483648)
      ⟨_, [], none, rfl, rfl, rfl, fun x hx => (nomatch hx), by omega, by omega⟩ (fun i σ H' hi ⟨_, _, _, _, e, _⟩ => by rw [e]; exact Same.seq (Same.upd hL) hS) (fun i x σ H1 H2 hi hP hY => ?_) (fun σ H' hP => ?_)⟩
    · obtain ⟨tot, cs, o3, rfl, rfl, lc, hc, t0, t1⟩ := hP
      obtain ⟨rfl, ev⟩ := hY
      obtain ⟨z, hz, rfl⟩ := map_at ev
      have w1 : CMulW tot 1999 := wide_mul (a := 31) (b := 31) (by omega) (by decide) (by decide) (by decide) (by decide)
      have hL2 := SqL.of (K := K) (upd_same (H := H) (a := L) (o := .lst (cs.map V.int)))
      refine ⟨_, rfl, _, _, rfl, rfl, w1, _, rfl, .inl ⟨_, rfl, _, _, rfl, rfl, .inl ⟨_, rfl, _, _, rfl, rfl, by show (0 : Int) < 2147483563; decide, ?_⟩⟩⟩
      refine ⟨_, rfl, .inl ⟨rfl, _, hL2⟩, _, rfl, .inl ⟨_, rfl, _, rfl, L, _, _, rfl, rfl, upd_same, few (by rw [List.length_map]; omega), ?_⟩⟩
      refine ⟨_, cs ++ [if z < 0 then -z else z], _, rfl, ?_, by rw [List.length_append, lc]; rfl, fun x hx => ?_, Int.emod_nonneg _ (by decide), Int.lt_trans (Int.emod_lt_of_pos _ (by decide)) (by decide)⟩
      · rw [upd_upd, List.map_append]
        rfl
      · rcases List.mem_append.mp hx with hx | hx
        · exact hc x hx
        · rw [List.mem_singleton.mp hx, abs_nat]
          omega
    · obtain ⟨tot, cs, o3, rfl, rfl, lc, hc, t0, t1⟩ := hP
      refine ⟨_, rfl, _, rfl, by show 4 ≤ sizeLine; exact Nat.le_of_lt (few (by decide)), fun h hh => ?_⟩
      have ne : L ≠ h := fun e => by
        rw [e, upd_same] at hh
        exact nomatch hh
      refine q h L _ ((Same.upd hL).trans (Same.upd hh)) (by rw [upd_ne (Ne.symm ne)] at hh; exact hh) ⟨0, 0, tot, cs, upd_same, ne, ?_, by omega, by omega, by omega, t0, t1, hc, by omega⟩
      rw [upd_ne ne, upd_same]
end
end K21
set_option maxRecDepth 100000
set_option maxHeartbeats 4000000
namespace K21
open PySem PySem.Spec PyProof.Rows L2
section
variable {P : Program} {w : World} {K : PySem.W.Frag} {mg : Str → Option Value} {base : Heap}
/-! ## the law: numbers -/
def bitN {p : Nat} (b : Bool) : Car p := if b = true then 1 else 0
def spLNum (K : PySem.W.Frag) : Sp := fun vs H Q _ => ∃ (p : Nat) (b : Bool), vs = [.int (p : Int), .int (if b then 1 else 0)] ∧ (p = 0 ∨ 2 ≤ p) ∧ ∀ v H', Same H H' → Dp K H' v (numD (bitN (p := p) b)) → Q v H'
theorem H__law_num (T : Txt K mg) : Hs P w K mg base 1 "_law_num" ["_law_p", "_law_many"] [] (spLNum K) := by
  obtain ⟨fd, F⟩ := F__law_num T
  refine ⟨_, fd, [], g__law_num T, F.kp, okN F sc__law_num (fun vs H Q E h => ?_) (fun cdv A outer s H vs Q E hr h => ?_), F.bindsN fun _ _ _ _ _ _ us hl => match us, hl with | [_, _], _ => rfl, .nil⟩
  · obtain ⟨a, t, rfl, _⟩ := h
    rfl
  · obtain ⟨p, b, rfl, hp, q⟩ := h
    refine ⟨_, (pss_cons (ps_if (pt_cmp (pc_eqI (pv 0) pe_int))
        (pss_one (ps_ret (pe_tup (pa_cons (pv 1) (pa_cons pe_int pa_nil)))))
        pss_nil)
      (pss_one (ps_ret (pe_op op_mod (pe_callTy call_int1 rfl (n_int T) (by decide +kernel) (pa_cons (pv 1) pa_nil)) (pv 0))))), ?_⟩
    refine ⟨_, rfl, _, _, rfl, rfl, _, rfl, ?_⟩
    cases p with
    | zero =>
      refine iteT ⟨_, rfl, by show 2 ≤ sizeLine; decide, fun t ht => q _ _ (Same.upd ht) (num0_mk ?_)⟩
      rw [upd_same]
      cases b <;> rfl
    | succ n =>
      show if decide (((n + 1 : Nat) : Int) = 0) = true then _ else _
      rw [decide_eq_false (by omega)]
      refine iteF ⟨_, rfl, .inl ⟨_, rfl, _, rfl, _, _, rfl, rfl, by show (0 : Int) < ((n + 1 : Nat) : Int); omega, q _ _ (Same.refl _) ?_⟩⟩
      have e : ((if b = true then (1 : Int) else 0) % ((n + 1 : Nat) : Int)) = ((Fin.val (bitN (p := n + 1) b) : Nat) : Int) := by
        cases b with
        | false =>
          show (0 : Int) % _ = ((0 % (n + 1) : Nat) : Int)
          rw [Int.zero_emod, Nat.zero_mod]
          rfl
        | true =>
          show (1 : Int) % _ = ((1 % (n + 1) : Nat) : Int)
          rw [Int.natCast_emod]
          rfl
      show Dp K H (.int ((if b = true then (1 : Int) else 0) % ((n + 1 : Nat) : Int))) _
      rw [e]
      exact .int _
theorem pow_le_of {i n m : Nat} (h : 1 ≤ n) (k : n * 2 ^ i ≤ 2 ^ m) : i ≤ m := by
  refine Nat.le_of_not_lt fun c => ?_
  have h1 : (2 : Nat) ^ m < 2 ^ i := Nat.pow_lt_pow_right (by decide) c
  have h2 : 1 * 2 ^ i ≤ n * 2 ^ i := Nat.mul_le_mul_right _ h
  omega
def spLGcd : Sp := fun vs H Q _ => ∃ a b : Int, vs = [.int a, .int b] ∧ a.natAbs < 2 ^ 9000 ∧ b.natAbs < 2 ^ 9000 ∧ Q (.int ((Nat.gcd a.natAbs b.natAbs : Nat) : Int)) H
theorem H__law_gcd (T : Txt K mg) : Hs P w K mg base 1 "_law_gcd" ["_law_one", "_law_other"] [] spLGcd := by
  obtain ⟨fd, F⟩ := F__law_gcd T
  refine ⟨_, fd, [], g__law_gcd T, F.kp, okN F sc__law_gcd (fun vs H Q E h => ?_) (fun cdv A outer s H vs Q E hr h => ?_), F.bindsN fun _ _ _ _ _ _ us hl => match us, hl with | [_, _], _ => rfl, .nil⟩
  · obtain ⟨a, t, rfl, _⟩ := h
    rfl
  · obtain ⟨a, b, rfl, ha, hb, q⟩ := h
    refine ⟨_, (pss_cons (ps_set (i := 2) sc__law_gcd.nd rfl (Or.inl rfl) (pe_callB call_abs rfl (n_abs T) (by decide +kernel) (pa_cons (pv 0) pa_nil)))
      (pss_cons (ps_set (i := 3) sc__law_gcd.nd rfl (Or.inl rfl) (pe_callB call_abs rfl (n_abs T) (by decide +kernel) (pa_cons (pv 1) pa_nil)))
      (pss_cons (ps_for PassesOwn.never rfl (pi_range1 rfl (n_range T) (pa_cons pe_int pa_nil)) (pg_name (i := 4) sc__law_gcd.nd rfl (Or.inl rfl))
        (pss_cons (ps_if (pt_cmp (pc_eqI (pv 3) pe_int))
            (pss_one (ps_ret (pv 2)))
            pss_nil)
          (pss_cons (ps_set (i := 5) sc__law_gcd.nd rfl (Or.inl rfl) (pe_op op_mod (pe_callTy call_int1 rfl (n_int T) (by decide +kernel) (pa_cons (pv 2) pa_nil)) (pv 3)))
          (pss_cons (ps_set (i := 2) sc__law_gcd.nd rfl (Or.inl rfl) (pv 3))
          (pss_one (ps_set (i := 3) sc__law_gcd.nd rfl (Or.inl rfl) (pv 5)))))))
      (pss_one (ps_ret pe_int))))), ?_⟩
    refine ⟨_, rfl, _, rfl, _, rfl, _, rfl, 60000, rfl, by decide, by decide, for_it (walk_range (n := 60000))
      (fun i σ H' => ∃ (x y : Nat) (o4 o5 : Option V), σ = [some (.int a), some (.int b), some (.int (x : Int)), some (.int (y : Int)), o4, o5] ∧ H' = H ∧ Nat.gcd x y = Nat.gcd a.natAbs b.natAbs ∧ i ≤ 18002 ∧ ((i = 0 ∧ x = a.natAbs ∧ y = b.natAbs) ∨ (1 ≤ i ∧ y ≤ x ∧ x * y * 2 ^ (i - 1) ≤ 2 ^ 18000)))
      ⟨a.natAbs, b.natAbs, none, none, ?_, rfl, rfl, by omega, .inl ⟨rfl, rfl, rfl⟩⟩ (fun i σ H' hi _ => trivial) (fun i x σ H1 H2 hi hP hY => ?_) (fun σ H' hP => ?_)⟩
    · rw [abs_nat, abs_nat]
      rfl
    · obtain ⟨x, y, o4, o5, rfl, rfl, eg, hi2, hc⟩ := hP
      obtain ⟨rfl, rfl⟩ := hY
      refine ⟨_, rfl, _, _, rfl, rfl, _, rfl, ?_⟩
      show if decide ((y : Int) = 0) = true then _ else _
      by_cases hy : y = 0
      · subst hy
        rw [decide_eq_true (show ((0 : Nat) : Int) = 0 from rfl)]
        refine iteT ⟨_, rfl, ?_⟩
        rw [← eg, Nat.gcd_zero_right] at q
        exact q
      · rw [decide_eq_false (by omega)]
        refine iteF ⟨_, rfl, .inl ⟨_, rfl, _, rfl, _, _, rfl, rfl, by show (0 : Int) < (y : Int); omega, _, rfl, _, rfl, ?_⟩⟩
        have hy1 : 0 < y := by omega
        have hlt := Nat.mod_lt x hy1
        have key : y * (x % y) * 2 ^ i ≤ 2 ^ 18000 := by
          rcases hc with ⟨rfl, hx, hyb⟩ | ⟨h1, hyx, hb2⟩
          · subst hx
            subst hyb
            have h3 : b.natAbs * (a.natAbs % b.natAbs) ≤ b.natAbs * b.natAbs := Nat.mul_le_mul_left _ (Nat.le_of_lt hlt)
            have h4 : b.natAbs * b.natAbs < 2 ^ (9000 + 9000) := mul_lt_pow hb hb
            rw [Nat.pow_zero, Nat.mul_one]
            exact Nat.le_of_lt (Nat.lt_of_le_of_lt h3 h4)
          · have h3 := euclid_halves hyx hy1
            obtain ⟨k, rfl⟩ : ∃ k, i = k + 1 := ⟨i - 1, by omega⟩
            rw [Nat.add_sub_cancel] at hb2
            have h4 : 2 * (y * (x % y)) * 2 ^ k ≤ x * y * 2 ^ k := Nat.mul_le_mul_right _ h3
            have h5 : y * (x % y) * 2 ^ (k + 1) = 2 * (y * (x % y)) * 2 ^ k := by
              rw [Nat.pow_succ]
              generalize y * (x % y) = m
              generalize 2 ^ k = n
              rw [Nat.mul_comm n 2, ← Nat.mul_assoc, Nat.mul_comm m 2]
            rw [h5]
            exact Nat.le_trans h4 hb2
        have hi3 : i ≤ 18001 := by
          rcases hc with ⟨rfl, _, _⟩ | ⟨h1, hyx, hb2⟩
          · omega
          · have := pow_le_of (n := x * y) (Nat.mul_pos (by omega) hy1) hb2
            omega
        refine ⟨y, x % y, some (.int (0 + (i : Int))), some (.int ((x : Int) % (y : Int))), ?_, rfl, ?_, by omega, .inr ⟨by omega, Nat.le_of_lt hlt, ?_⟩⟩
        · rw [Int.natCast_emod]
          rfl
        · rw [← eg]
          exact (gcd_step x y).symm
        · rw [Nat.add_sub_cancel]
          exact key
    · obtain ⟨x, y, o4, o5, rfl, rfl, eg, hi2, hc⟩ := hP
      omega
def spLRatio (K : PySem.W.Frag) : Sp := fun vs H Q _ => ∃ (t : Int) (b : Nat) (hb : b ≠ 0), vs = [.int t, .int (b : Int)] ∧ t.natAbs < 2 ^ 9000 ∧ b < 2 ^ 9000 ∧ ∀ v H', Same H H' → Dp K H' v (numD (p := 0) (Rat.normalize t b hb)) → Q v H'
theorem H__law_ratio (T : Txt K mg) : Hs P w K mg base 2 "_law_ratio" ["_law_top", "_law_bottom"] [] (spLRatio K) := by
  obtain ⟨fd, F⟩ := F__law_ratio T
  refine ⟨_, fd, [], g__law_ratio T, F.kp, okN F sc__law_ratio (fun vs H Q E h => ?_) (fun cdv A outer s H vs Q E hr h => ?_), F.bindsN fun _ _ _ _ _ _ us hl => match us, hl with | [_, _], _ => rfl, .nil⟩
  · obtain ⟨t, b, hb, rfl, _⟩ := h
    rfl
  · obtain ⟨t, b, hb, rfl, zt, zb, q⟩ := h
    refine ⟨_, (pss_cons (ps_set (i := 2) sc__law_ratio.nd rfl (Or.inl rfl) (pe_callH (H__law_gcd T) (hr.mono (by decide)) passL (pa_cons (pv 0) (pa_cons (pv 1) pa_nil))))
      (pss_cons (ps_if (pt_cmp (pc_lt (pv 1) pe_int))
        (pss_one (ps_set (i := 2) sc__law_ratio.nd rfl (Or.inl rfl) (pe_un un_neg (pv 2))))
        pss_nil)
      (pss_one (ps_ret (pe_tup (pa_cons (pe_op op_fdivW (pv 0) (pv 2)) (pa_cons (pe_op op_fdivW (pv 1) (pv 2)) pa_nil))))))), ?_⟩
    have hg : 0 < Nat.gcd t.natAbs (b : Int).natAbs := Nat.gcd_pos_of_pos_right _ (by omega)
    have hle : Nat.gcd t.natAbs (b : Int).natAbs ≤ b := Nat.gcd_le_right _ (by omega)
    have hw : ∀ x : Int, CDivW x ((Nat.gcd t.natAbs (b : Int).natAbs : Nat) : Int) := fun x => wide_div (b := 9000) (by omega) (Nat.lt_of_le_of_lt (by rw [Int.natAbs_natCast]; exact hle) zb) (by decide) (Nat.le_refl _)
    refine ⟨_, rfl, _, rfl, t, (b : Int), rfl, zt, by rw [Int.natAbs_natCast]; exact zb, ?_⟩
    refine ⟨_, rfl, _, _, rfl, rfl, _, rfl, ?_⟩
    show if (decide ((b : Int) < 0)) = true then _ else _
    rw [decide_eq_false (by omega)]
    refine iteF ⟨_, rfl, _, rfl, _, _, rfl, rfl, hw t, _, rfl, _, rfl, _, _, rfl, rfl, hw b, by show 2 ≤ sizeLine; decide, fun p hp => q _ _ (Same.upd hp) (num0_mk ?_)⟩
    rw [upd_same]
    show _ = some (HO.tup [.int (Rat.normalize t b hb).num, .int ((Rat.normalize t b hb).den : Int)])
    rw [norm_num, norm_den]
    show some (HO.tup [.int (t / ((Nat.gcd t.natAbs b : Nat) : Int)), .int ((b : Int) / ((Nat.gcd t.natAbs b : Nat) : Int))]) = _
    rw [← Int.natCast_ediv]
def spL2 (K : PySem.W.Frag) (f : ∀ {p : Nat}, Car p → Car p → Car p) : Sp := fun vs H Q _ => ∃ (p : Nat) (x y : Car p) (v1 v2 : V), vs = [.int (p : Int), v1, v2] ∧ p ≤ 13 ∧ Dp K H v1 (numD x) ∧ Dp K H v2 (numD y) ∧ Sz p 4000 x ∧ Sz p 4000 y ∧ ∀ v H', Same H H' → Dp K H' v (numD (f x y)) → Q v H'
theorem H__law_plus (T : Txt K mg) : Hs P w K mg base 3 "_law_plus" ["_law_p", "_law_one", "_law_other"] [] (spL2 K fun x y => x + y) := by
  obtain ⟨fd, F⟩ := F__law_plus T
  refine ⟨_, fd, [], g__law_plus T, F.kp, okN F sc__law_plus (fun vs H Q E h => ?_) (fun cdv A outer s H vs Q E hr h => ?_), F.bindsN fun _ _ _ _ _ _ us hl => match us, hl with | [_, _, _], _ => rfl, .nil⟩
  · obtain ⟨p, x, y, v1, v2, rfl, _⟩ := h
    rfl
  · obtain ⟨p, x, y, v1, v2, rfl, hp, d1, d2, z1, z2, q⟩ := h
    refine ⟨_, (pss_cons (ps_if (pt_cmp (pc_eqI (pv 0) pe_int))
        (pss_cons (ps_if (PW.pt (pw_and (pt_cmp (pc_eqI (pe_ix ix_tup (pv 1) pe_int (fun _ _ => rfl)) pe_int)) (pw_and1 (pt_cmp (pc_eqI (pe_ix ix_tup (pv 2) pe_int (fun _ _ => rfl)) pe_int)))))
            (pss_one (ps_ret (pe_tup (pa_cons (pe_op op_add (pe_ix ix_tup (pv 1) pe_int (fun _ _ => rfl)) (pe_ix ix_tup (pv 2) pe_int (fun _ _ => rfl))) (pa_cons pe_int pa_nil)))))
            pss_nil)
          (pss_one (ps_ret (pe_callH (H__law_ratio T) (hr.mono (by decide)) passL (pa_cons (pe_op op_add (pe_op op_mulW (pe_ix ix_tup (pv 1) pe_int (fun _ _ => rfl)) (pe_ix ix_tup (pv 2) pe_int (fun _ _ => rfl))) (pe_op op_mulW (pe_ix ix_tup (pv 2) pe_int (fun _ _ => rfl)) (pe_ix ix_tup (pv 1) pe_int (fun _ _ => rfl)))) (pa_cons (pe_op op_mulW (pe_ix ix_tup (pv 1) pe_int (fun _ _ => rfl)) (pe_ix ix_tup (pv 2) pe_int (fun _ _ => rfl))) pa_nil))))))
        pss_nil)
      (pss_one (ps_ret (pe_op op_mod (pe_callTy call_int1 rfl (n_int T) (by decide +kernel) (pa_cons (pe_op op_add (pv 1) (pv 2)) pa_nil)) (pv 0))))), ?_⟩
    refine ⟨_, rfl, _, _, rfl, rfl, _, rfl, ?_⟩
    cases p with
    | succ n =>
      obtain rfl := numS d1
      obtain rfl := numS d2
      show if decide (((n + 1 : Nat) : Int) = 0) = true then _ else _
      rw [decide_eq_false (by omega)]
      refine iteF ⟨_, rfl, _, rfl, _, _, rfl, rfl, .inl ⟨_, rfl, _, rfl, _, _, rfl, rfl, by show (0 : Int) < ((n + 1 : Nat) : Int); omega, q _ _ (Same.refl _) ?_⟩⟩
      show Dp K H (.int ((((Fin.val x : Nat) : Int) + ((Fin.val y : Nat) : Int)) % ((n + 1 : Nat) : Int))) _
      rw [← car_add_val]
      exact .int _
    | zero =>
      refine iteT ?_
      obtain ⟨a, rfl, hA⟩ := num0 d1
      obtain ⟨b, rfl, hB⟩ := num0 d2
      have zx : Rat.den x < 2 ^ 4000 := z1.2
      have zy : Rat.den y < 2 ^ 4000 := z2.2
      have hm1 : CMulW (Rat.num x) ((Rat.den y : Nat) : Int) := wide_mul (a := 4000) (b := 4000) z1.1 (by rw [Int.natAbs_natCast]; exact zy) (by decide) (by decide) (by decide)
      have hm2 : CMulW (Rat.num y) ((Rat.den x : Nat) : Int) := wide_mul (a := 4000) (b := 4000) z2.1 (by rw [Int.natAbs_natCast]; exact zx) (by decide) (by decide) (by decide)
      have hm3 : CMulW ((Rat.den x : Nat) : Int) ((Rat.den y : Nat) : Int) := wide_mul (a := 4000) (b := 4000) (by rw [Int.natAbs_natCast]; exact zx) (by rw [Int.natAbs_natCast]; exact zy) (by decide) (by decide) (by decide)
      have slow : ∀ v H', Same H H' → Dp K H' v (numD (p := 0) (Rat.normalize (Rat.num x * (Rat.den y : Int) + Rat.num y * (Rat.den x : Int)) (Rat.den x * Rat.den y) (Nat.mul_ne_zero (Rat.den_nz x) (Rat.den_nz y)))) → Q v H' := fun v H' e d => by
        refine q v H' e ?_
        show Dp K _ _ (numD (p := 0) (Rat.add x y))
        rw [show Rat.add x y = _ from Rat.add_def x y]
        exact d
      have s1 : (Rat.num x * (Rat.den y : Int) + Rat.num y * (Rat.den x : Int)).natAbs < 2 ^ 9000 := by
        have h1 : (Rat.num x * (Rat.den y : Int)).natAbs < 2 ^ 8000 := by
          rw [Int.natAbs_mul, Int.natAbs_natCast]
          exact mul_lt_pow z1.1 zy
        have h2 : (Rat.num y * (Rat.den x : Int)).natAbs < 2 ^ 8000 := by
          rw [Int.natAbs_mul, Int.natAbs_natCast]
          exact mul_lt_pow z2.1 zx
        exact Nat.lt_trans (natAbs_add_lt h1 h2) (Nat.pow_lt_pow_right (by decide) (by decide))
      have s2 : Rat.den x * Rat.den y < 2 ^ 9000 := Nat.lt_trans (mul_lt_pow zx zy) (Nat.pow_lt_pow_right (by decide) (by decide))
      refine ⟨_, rfl, _, _, _, _, rfl, rfl, hA, atI_nat (j := 1) rfl, _, _, rfl, rfl, _, rfl, ?_⟩
      show if decide (((Rat.den x : Nat) : Int) = 1) = true then _ else _
      by_cases c1 : Rat.den x = 1
      · rw [decide_eq_true (by omega)]
        refine iteT ⟨_, rfl, _, _, _, _, rfl, rfl, hB, atI_nat (j := 1) rfl, _, _, rfl, rfl, _, rfl, ?_⟩
        show if decide (((Rat.den y : Nat) : Int) = 1) = true then _ else _
        by_cases c2 : Rat.den y = 1
        · rw [decide_eq_true (by omega)]
          refine iteT ⟨_, rfl, _, _, _, _, rfl, rfl, hA, atI_nat (j := 0) rfl, _, rfl, _, _, _, _, rfl, rfl, hB, atI_nat (j := 0) rfl, _, _, rfl, rfl, by show 2 ≤ sizeLine; decide, fun t ht => slow _ _ (Same.upd ht) (num0_mk ?_)⟩
          rw [upd_same, norm_num, norm_den, c1, c2]
          simp
        · rw [decide_eq_false (by omega)]
          refine iteF ⟨_, rfl, _, _, _, _, rfl, rfl, hA, atI_nat (j := 0) rfl, _, rfl, _, _, _, _, rfl, rfl, hB, atI_nat (j := 1) rfl, _, _, rfl, rfl, hm1, _, rfl, _, _, _, _, rfl, rfl, hB, atI_nat (j := 0) rfl, _, rfl, _, _, _, _, rfl, rfl, hA, atI_nat (j := 1) rfl, _, _, rfl, rfl, hm2,
            _, _, rfl, rfl, _, rfl, _, _, _, _, rfl, rfl, hA, atI_nat (j := 1) rfl, _, rfl, _, _, _, _, rfl, rfl, hB, atI_nat (j := 1) rfl, _, _, rfl, rfl, hm3, _, Rat.den x * Rat.den y, Nat.mul_ne_zero (Rat.den_nz x) (Rat.den_nz y), ?_, s1, s2, slow⟩
          rw [Int.natCast_mul]
          rfl
      · rw [decide_eq_false (by omega)]
        refine iteF (iteF ⟨_, rfl, _, _, _, _, rfl, rfl, hA, atI_nat (j := 0) rfl, _, rfl, _, _, _, _, rfl, rfl, hB, atI_nat (j := 1) rfl, _, _, rfl, rfl, hm1, _, rfl, _, _, _, _, rfl, rfl, hB, atI_nat (j := 0) rfl, _, rfl, _, _, _, _, rfl, rfl, hA, atI_nat (j := 1) rfl, _, _, rfl, rfl, hm2,
          _, _, rfl, rfl, _, rfl, _, _, _, _, rfl, rfl, hA, atI_nat (j := 1) rfl, _, rfl, _, _, _, _, rfl, rfl, hB, atI_nat (j := 1) rfl, _, _, rfl, rfl, hm3, _, Rat.den x * Rat.den y, Nat.mul_ne_zero (Rat.den_nz x) (Rat.den_nz y), ?_, s1, s2, slow⟩)
        rw [Int.natCast_mul]
        rfl
theorem H__law_times (T : Txt K mg) : Hs P w K mg base 3 "_law_times" ["_law_p", "_law_one", "_law_other"] [] (spL2 K fun x y => x * y) := by
  obtain ⟨fd, F⟩ := F__law_times T
  refine ⟨_, fd, [], g__law_times T, F.kp, okN F sc__law_times (fun vs H Q E h => ?_) (fun cdv A outer s H vs Q E hr h => ?_), F.bindsN fun _ _ _ _ _ _ us hl => match us, hl with | [_, _, _], _ => rfl, .nil⟩
  · obtain ⟨p, x, y, v1, v2, rfl, _⟩ := h
    rfl
  · obtain ⟨p, x, y, v1, v2, rfl, hp, d1, d2, z1, z2, q⟩ := h
    refine ⟨_, (pss_cons (ps_if (pt_cmp (pc_eqI (pv 0) pe_int))
        (pss_cons (ps_if (PW.pt (pw_and (pt_cmp (pc_eqI (pe_ix ix_tup (pv 1) pe_int (fun _ _ => rfl)) pe_int)) (pw_and1 (pt_cmp (pc_eqI (pe_ix ix_tup (pv 2) pe_int (fun _ _ => rfl)) pe_int)))))
            (pss_one (ps_ret (pe_tup (pa_cons (pe_op op_mulW (pe_ix ix_tup (pv 1) pe_int (fun _ _ => rfl)) (pe_ix ix_tup (pv 2) pe_int (fun _ _ => rfl))) (pa_cons pe_int pa_nil)))))
            pss_nil)
          (pss_one (ps_ret (pe_callH (H__law_ratio T) (hr.mono (by decide)) passL (pa_cons (pe_op op_mulW (pe_ix ix_tup (pv 1) pe_int (fun _ _ => rfl)) (pe_ix ix_tup (pv 2) pe_int (fun _ _ => rfl))) (pa_cons (pe_op op_mulW (pe_ix ix_tup (pv 1) pe_int (fun _ _ => rfl)) (pe_ix ix_tup (pv 2) pe_int (fun _ _ => rfl))) pa_nil))))))
        pss_nil)
      (pss_one (ps_ret (pe_op op_mod (pe_callTy call_int1 rfl (n_int T) (by decide +kernel) (pa_cons (pe_op op_mulW (pv 1) (pv 2)) pa_nil)) (pv 0))))), ?_⟩
    refine ⟨_, rfl, _, _, rfl, rfl, _, rfl, ?_⟩
    cases p with
    | succ n =>
      obtain rfl := numS d1
      obtain rfl := numS d2
      have l1 := car_lt x
      have l2 := car_lt y
      have hm : CMulW ((Fin.val x : Nat) : Int) ((Fin.val y : Nat) : Int) := wide_mul (a := 8) (b := 8) (by rw [Int.natAbs_natCast]; omega) (by rw [Int.natAbs_natCast]; omega) (by decide) (by decide) (by decide)
      show if decide (((n + 1 : Nat) : Int) = 0) = true then _ else _
      rw [decide_eq_false (by omega)]
      refine iteF ⟨_, rfl, _, rfl, _, _, rfl, rfl, hm, .inl ⟨_, rfl, _, rfl, _, _, rfl, rfl, by show (0 : Int) < ((n + 1 : Nat) : Int); omega, q _ _ (Same.refl _) ?_⟩⟩
      show Dp K H (.int ((((Fin.val x : Nat) : Int) * ((Fin.val y : Nat) : Int)) % ((n + 1 : Nat) : Int))) _
      rw [← car_mul_val]
      exact .int _
    | zero =>
      refine iteT ?_
      obtain ⟨a, rfl, hA⟩ := num0 d1
      obtain ⟨b, rfl, hB⟩ := num0 d2
      have zx : Rat.den x < 2 ^ 4000 := z1.2
      have zy : Rat.den y < 2 ^ 4000 := z2.2
      have hm1 : CMulW (Rat.num x) (Rat.num y) := wide_mul (a := 4000) (b := 4000) z1.1 z2.1 (by decide) (by decide) (by decide)
      have hm3 : CMulW ((Rat.den x : Nat) : Int) ((Rat.den y : Nat) : Int) := wide_mul (a := 4000) (b := 4000) (by rw [Int.natAbs_natCast]; exact zx) (by rw [Int.natAbs_natCast]; exact zy) (by decide) (by decide) (by decide)
      have slow : ∀ v H', Same H H' → Dp K H' v (numD (p := 0) (Rat.normalize (Rat.num x * Rat.num y) (Rat.den x * Rat.den y) (Nat.mul_ne_zero (Rat.den_nz x) (Rat.den_nz y)))) → Q v H' := fun v H' e d => by
        refine q v H' e ?_
        show Dp K _ _ (numD (p := 0) (Rat.mul x y))
        rw [show Rat.mul x y = _ from Rat.mul_def x y]
        exact d
      have s1 : (Rat.num x * Rat.num y).natAbs < 2 ^ 9000 := by
        rw [Int.natAbs_mul]
        exact Nat.lt_trans (mul_lt_pow z1.1 z2.1) (Nat.pow_lt_pow_right (by decide) (by decide))
      have s2 : Rat.den x * Rat.den y < 2 ^ 9000 := Nat.lt_trans (mul_lt_pow zx zy) (Nat.pow_lt_pow_right (by decide) (by decide))
      refine ⟨_, rfl, _, _, _, _, rfl, rfl, hA, atI_nat (j := 1) rfl, _, _, rfl, rfl, _, rfl, ?_⟩
      show if decide (((Rat.den x : Nat) : Int) = 1) = true then _ else _
      by_cases c1 : Rat.den x = 1
      · rw [decide_eq_true (by omega)]
        refine iteT ⟨_, rfl, _, _, _, _, rfl, rfl, hB, atI_nat (j := 1) rfl, _, _, rfl, rfl, _, rfl, ?_⟩
        show if decide (((Rat.den y : Nat) : Int) = 1) = true then _ else _
        by_cases c2 : Rat.den y = 1
        · rw [decide_eq_true (by omega)]
          refine iteT ⟨_, rfl, _, _, _, _, rfl, rfl, hA, atI_nat (j := 0) rfl, _, rfl, _, _, _, _, rfl, rfl, hB, atI_nat (j := 0) rfl, _, _, rfl, rfl, hm1, by show 2 ≤ sizeLine; decide, fun t ht => slow _ _ (Same.upd ht) (num0_mk ?_)⟩
          rw [upd_same, norm_num, norm_den, c1, c2]
          simp
        · rw [decide_eq_false (by omega)]
          refine iteF ⟨_, rfl, _, _, _, _, rfl, rfl, hA, atI_nat (j := 0) rfl, _, rfl, _, _, _, _, rfl, rfl, hB, atI_nat (j := 0) rfl, _, _, rfl, rfl, hm1,
            _, rfl, _, _, _, _, rfl, rfl, hA, atI_nat (j := 1) rfl, _, rfl, _, _, _, _, rfl, rfl, hB, atI_nat (j := 1) rfl, _, _, rfl, rfl, hm3, _, Rat.den x * Rat.den y, Nat.mul_ne_zero (Rat.den_nz x) (Rat.den_nz y), ?_, s1, s2, slow⟩
          rw [Int.natCast_mul]
          rfl
      · rw [decide_eq_false (by omega)]
        refine iteF (iteF ⟨_, rfl, _, _, _, _, rfl, rfl, hA, atI_nat (j := 0) rfl, _, rfl, _, _, _, _, rfl, rfl, hB, atI_nat (j := 0) rfl, _, _, rfl, rfl, hm1,
          _, rfl, _, _, _, _, rfl, rfl, hA, atI_nat (j := 1) rfl, _, rfl, _, _, _, _, rfl, rfl, hB, atI_nat (j := 1) rfl, _, _, rfl, rfl, hm3, _, Rat.den x * Rat.den y, Nat.mul_ne_zero (Rat.den_nz x) (Rat.den_nz y), ?_, s1, s2, slow⟩)
        rw [Int.natCast_mul]
        rfl
/-- lists -/
def spLDot (K : PySem.W.Frag) : Sp := fun vs H Q _ => ∃ (p : Nat) (xs ys : List (Car p)) (n m : Nat) (v1 v2 : V), vs = [.int (p : Int), v1, v2] ∧ (p = 0 ∨ 2 ≤ p) ∧ p ≤ 13 ∧ Dp K H v1 (rowD false xs) ∧ Dp K H v2 (rowD false ys) ∧ xs.length = ys.length ∧ xs.length ≤ 5 ∧ (∀ x ∈ xs, Sz p n x) ∧ (∀ y ∈ ys, Sz p m y) ∧ n ≤ 4000 ∧ m ≤ 4000 ∧ 5 * (n + m + 1) + 1 ≤ 4000 ∧
  ∀ v H', Same H H' → Dp K H' v (numD (dot xs ys)) → Q v H'
theorem H__law_dot (T : Txt K mg) : Hs P w K mg base 4 "_law_dot" ["_law_p", "_law_one", "_law_other"] [] (spLDot K) := by
  obtain ⟨fd, F⟩ := F__law_dot T
  refine ⟨_, fd, [], g__law_dot T, F.kp, okN F sc__law_dot (fun vs H Q E h => ?_) (fun cdv A outer s H vs Q E hr h => ?_), F.bindsN fun _ _ _ _ _ _ us hl => match us, hl with | [_, _, _], _ => rfl, .nil⟩
  · obtain ⟨p, xs, ys, n, m, v1, v2, rfl, _⟩ := h
    rfl
  · obtain ⟨p, xs, ys, n, m, v1, v2, rfl, hp, hp2, d1, d2, hl, h5, zx, zy, hn4, hm4, hz, q⟩ := h
    refine ⟨_, (pss_cons (ps_set (i := 3) sc__law_dot.nd rfl (Or.inl rfl) (pe_callH (H__law_num T) (hr.mono (by decide)) passL (pa_cons (pv 0) (pa_cons pe_int pa_nil))))
      (pss_cons (ps_for PassesOwn.never rfl (pi_range1 rfl (n_range T) (pa_cons (pe_callB call_len rfl (n_len T) PySem.boot_len (pa_cons (pv 1) pa_nil)) pa_nil)) (pg_name (i := 4) sc__law_dot.nd rfl (Or.inl rfl))
        (pss_one (ps_set (i := 3) sc__law_dot.nd rfl (Or.inl rfl) (pe_callH (H__law_plus T) (hr.mono (by decide)) passL (pa_cons (pv 0) (pa_cons (pv 3) (pa_cons (pe_callH (H__law_times T) (hr.mono (by decide)) passL (pa_cons (pv 0) (pa_cons (pe_ix ix_list (pv 1) (pv 4) (fun _ _ => rfl)) (pa_cons (pe_ix ix_list (pv 2) (pv 4) (fun _ _ => rfl)) pa_nil)))) pa_nil)))))))
      (pss_one (ps_ret (pv 3))))), ?_⟩
    refine ⟨_, rfl, p, false, rfl, hp, fun v0 H0 e0 d0 => ?_⟩
    obtain ⟨b1, w1, rfl, s1, a1⟩ := Dp.seq (k := false) (e0.dp d1)
    obtain ⟨b2, w2, rfl, s2, a2⟩ := Dp.seq (k := false) (e0.dp d2)
    have l1 := row_len a1
    have l2 := row_len a2
    have lz : (xs.zip ys).length = xs.length := by rw [List.length_zip]; omega
    refine ⟨_, rfl, _, _, rfl, sqL_len s1, _, rfl, by omega, by omega, for_it (walk_range (n := w1.length))
      (fun i σ H' => ∃ t o4, σ = [some (.int (p : Int)), some (.ref b1), some (.ref b2), some t, o4] ∧ Same H0 H' ∧ Dp K H' t (numD (S (fun q => q.1 * q.2) ((xs.zip ys).take i))))
      ⟨v0, none, rfl, Same.refl _, d0⟩ (fun i σ H' hi _ => trivial) (fun i x σ H1 H2 hi hP hY => ?_) (fun σ H' hP => ?_)⟩
    · obtain ⟨t, o4, rfl, e, dt⟩ := hP
      obtain ⟨rfl, ex⟩ := hY
      obtain rfl : x = .int (i : Int) := by rw [ex]; exact rng0 i
      obtain ⟨u, hu⟩ : ∃ u, w1[i]? = some u := ⟨_, List.getElem?_eq_getElem hi⟩
      obtain ⟨v, hv⟩ : ∃ v, w2[i]? = some v := ⟨_, List.getElem?_eq_getElem (by omega)⟩
      obtain ⟨x, hx, dx⟩ := row_at a1 hu
      obtain ⟨y, hy, dy⟩ := row_at a2 hv
      have hzip : (xs.zip ys)[i]? = some (x, y) := by rw [List.getElem?_zip_eq_some]; exact ⟨hx, hy⟩
      refine ⟨_, rfl, _, rfl, _, rfl, _, rfl, _, rfl, _, _, _, _, rfl, rfl, Same.seq e s1, atI_nat (j := i) hu, _, rfl, _, rfl, _, _, _, _, rfl, rfl, Same.seq e s2, atI_nat (j := i) hv, p, x, y, u, v, rfl, hp2, e.dp dx, e.dp dy, (sz_mem zx hx).mono (by omega), (sz_mem zy hy).mono (by omega), fun r H3 e3 d3 => ?_⟩
      refine ⟨p, _, _, t, r, rfl, hp2, e3.dp dt, d3, ?_, (Sz.mul (sz_mem zx hx) (sz_mem zy hy)).mono (by omega), fun r2 H4 e4 d4 => ⟨r2, _, rfl, (e.trans e3).trans e4, ?_⟩⟩
      · refine (sz_sum (n := n + m) (by omega) fun q hq => Sz.mul (zx _ (List.of_mem_zip hq).1) (zy _ (List.of_mem_zip hq).2)).mono ?_
        rw [lz]
        have : xs.length * (n + m + 1) ≤ 5 * (n + m + 1) := Nat.mul_le_mul_right _ h5
        omega
      · rw [take_snoc hzip, S_snoc]
        exact d4
    · obtain ⟨t, o4, rfl, e, dt⟩ := hP
      rw [List.take_of_length_le (by omega)] at dt
      exact ⟨_, rfl, q t H' (e0.trans e) dt⟩
end
end K21
set_option maxRecDepth 100000
set_option maxHeartbeats 4000000
namespace K21
open PySem PySem.Spec PyProof.Rows L2
section
variable {P : Program} {w : World} {K : PySem.W.Frag} {mg : Str → Option Value} {base : Heap}
/-! ## the law: tables -/
theorem sqT_lst {H : Hp} {a : Addr} {l : List V} {y : HO} (hx : H a = some (.lst l)) {b : Addr} {ys : List V} (h : SqT K H b ys) : SqT K (upd H a y) b ys := by
  have ne : ∀ x, H b = some x → x ≠ .lst l → upd H a y b = some x := fun x e n => by
    rw [upd_ne (fun z => by subst z; rw [hx] at e; exact n (Option.some.inj e).symm)]
    exact e
  rcases h with (h | ⟨o, h⟩) | h
  · exact .inl (.inl (ne _ h fun z => nomatch z))
  · exact .inl (.inr ⟨o, ne _ h fun z => nomatch z⟩)
  · exact .inr h
theorem dpAll_tp {n : Nat} {H H' : Hp} (eT : ∀ a xs, SqT K H a xs → SqT K H' a xs) : ∀ {vs : List V} {ds : List PyData}, (∀ d ∈ ds, Tp n d) → DpAll K H vs ds → DpAll K H' vs ds
  | _, _, _, .nil => .nil
  | _, _, h, .cons a b => .cons ((h _ List.mem_cons_self).dp eT a) (dpAll_tp eT (fun d hd => h d (List.mem_cons_of_mem _ hd)) b)
theorem tp_map {p : Nat} (xs : List (Car p)) : ∀ d ∈ xs.map numD, Tp 1 d := fun d hd => by
  obtain ⟨x, _, rfl⟩ := List.mem_map.mp hd
  exact tp_num x
theorem DpAll.ofAt {H : Hp} : ∀ {vs : List V} {ds : List PyData}, vs.length = ds.length → (∀ (i : Nat) (v : V) (d : PyData), vs[i]? = some v → ds[i]? = some d → Dp K H v d) → DpAll K H vs ds
  | [], [], _, _ => .nil
  | v :: vs, d :: ds, hl, h => .cons (h 0 v d rfl rfl) (DpAll.ofAt (Nat.succ.inj hl) fun i a b ha hb => h (i + 1) a b ha hb)
structure Grid (K : PySem.W.Frag) (H0 : Hp) (L : Addr) (rs : List Addr) (R C : Nat) {p : Nat} (g : Nat → Nat → Car p) (H : Hp) : Prop where
  s : Same H0 (Off (L :: rs) H)
  top : H L = some (.lst (rs.map V.ref))
  nd : (L :: rs).Nodup
  len : rs.length = R
  row : ∀ i, i < R → ∃ r ws, rs[i]? = some r ∧ H r = some (.lst ws) ∧ DpAll K H ws (((List.range C).map (g i)).map numD)
section
variable {H0 H H' : Hp} {L : Addr} {rs : List Addr} {R C p : Nat} {g : Nat → Nat → Car p}
theorem Grid.sq (G : Grid K H0 L rs R C g H) : Same H0 H := G.s.trans Same.ofOff
theorem Grid.same (G : Grid K H0 L rs R C g H) (e : Same H H') : Grid K H0 L rs R C g H' :=
  ⟨G.s.trans (Same.off e), e _ _ G.top, G.nd, G.len, fun i hi => by
    obtain ⟨r, ws, h1, h2, h3⟩ := G.row i hi
    exact ⟨r, ws, h1, e _ _ h2, e.dpAll h3⟩⟩
theorem Grid.congr {g' : Nat → Nat → Car p} (G : Grid K H0 L rs R C g H) (h : ∀ i j, i < R → j < C → g i j = g' i j) : Grid K H0 L rs R C g' H :=
  ⟨G.s, G.top, G.nd, G.len, fun i hi => by
    obtain ⟨r, ws, h1, h2, h3⟩ := G.row i hi
    refine ⟨r, ws, h1, h2, ?_⟩
    rw [← List.map_congr_left fun j hj => h i j hi (List.mem_range.mp hj)]
    exact h3⟩
theorem Grid.put {i j : Nat} {r : Addr} {ws : List V} {v : V} {x : Car p} (G : Grid K H0 L rs R C g H) (hi : i < R) (hj : j < C) (hr : rs[i]? = some r) (hw : H r = some (.lst ws)) (hx : Dp K H v (numD x)) :
    Grid K H0 L rs R C (fun a b => if a = i ∧ b = j then x else g a b) (upd H r (.lst (ws.set j v))) := by
  have hm : r ∈ rs := List.mem_of_getElem? hr
  have nL : L ≠ r := fun e => (List.nodup_cons.mp G.nd).1 (e ▸ hm)
  refine ⟨?_, ?_, G.nd, G.len, fun a ha => ?_⟩
  · rw [off_upd (List.mem_cons_of_mem _ hm)]
    exact G.s
  · rw [upd_ne nL]
    exact G.top
  · obtain ⟨r', ws', h1, h2, h3⟩ := G.row a ha
    by_cases e : a = i
    · subst e
      rw [hr] at h1
      obtain rfl := Option.some.inj h1
      rw [hw] at h2
      obtain rfl : ws = ws' := by injection h2 with h2; injection h2
      refine ⟨r, ws.set j v, hr, upd_same, ?_⟩
      have q := (h3.set j hx)
      have e2 : ((((List.range C).map (g a)).map numD).set j (numD x)) = ((List.range C).map fun b => if a = a ∧ b = j then x else g a b).map numD := by
        apply List.ext_getElem
        · simp
        · intro k h1 h2
          rw [List.getElem_set]
          by_cases c : j = k
          · subst c
            simp
          · rw [if_neg c]
            simp [Ne.symm c]
      rw [e2] at q
      exact dpAll_tp (n := 1) (fun _ _ => sqT_lst hw) (tp_map _) q
    · have nr : r' ≠ r := fun e2 => by
        subst e2
        have n2 := (List.nodup_cons.mp G.nd).2
        have a1 := (List.getElem?_eq_some_iff.mp h1)
        have a2 := (List.getElem?_eq_some_iff.mp hr)
        obtain ⟨k1, e1⟩ := a1
        obtain ⟨k2, e2⟩ := a2
        rcases Nat.lt_or_gt_of_ne e with c | c
        · exact List.pairwise_iff_getElem.mp n2 a i k1 k2 c (e1.trans e2.symm)
        · exact List.pairwise_iff_getElem.mp n2 i a k2 k1 c (e2.trans e1.symm)
      refine ⟨r', ws', h1, by rw [upd_ne nr]; exact h2, ?_⟩
      have e2 : (List.range C).map (fun b => if a = i ∧ b = j then x else g a b) = (List.range C).map (g a) := List.map_congr_left fun b _ => if_neg fun z => e z.1
      rw [e2]
      exact dpAll_tp (n := 1) (fun _ _ => sqT_lst hw) (tp_map _) h3
theorem Grid.dp (G : Grid K H0 L rs R C g H) : Dp K H (.ref L) (.list (((List.range R).map fun i => (List.range C).map (g i)).map (rowD false))) := by
  refine Dp.newL G.top (DpAll.ofAt (by simp [G.len]) fun i v d hv hd => ?_)
  obtain ⟨r, hr, rfl⟩ := map_at hv
  obtain ⟨row, hrow, rfl⟩ := map_at hd
  obtain ⟨i', hi', rfl⟩ := map_at hrow
  have hiR : i < R := by
    have := (List.getElem?_eq_some_iff.mp hi').1
    rw [List.length_range] at this
    exact this
  rw [List.getElem?_range hiR] at hi'
  obtain rfl := Option.some.inj hi'
  obtain ⟨r', ws, h1, h2, h3⟩ := G.row i hiR
  rw [hr] at h1
  obtain rfl := Option.some.inj h1
  exact Dp.newL h2 h3
end
theorem H__law_tuple (T : Txt K mg) : Hs P w K mg base 1 "_law_tuple" ["_law_table"] []
    (fun vs H Q _ => ∃ (p : Nat) (t : List (List (Car p))) (v : V), vs = [v] ∧ Dp K H v (.list (t.map (rowD false))) ∧ t.length ≤ 1000 ∧ ∀ v' H', Same H H' → Dp K H' v' (tabD t) → Q v' H') := by
  obtain ⟨fd, F⟩ := F__law_tuple T
  refine ⟨_, fd, [], g__law_tuple T, F.kp, okN F sc__law_tuple (fun vs H Q E h => ?_) (fun cdv A outer s H vs Q E hr h => ?_), F.bindsN fun _ _ _ _ _ _ us hl => match us, hl with | [_], _ => rfl, .nil⟩
  · obtain ⟨p, t, v, rfl, _⟩ := h
    rfl
  · obtain ⟨p, t, v, rfl, d, hl, q⟩ := h
    refine ⟨_, (pss_one (ps_ret (pe_callTy call_tuple_of rfl (n_tuple T) (by decide +kernel) (pa_cons (pe_lc (own := [("_law_row", 1)]) rfl sc__law_tuple.nd (pi_list (pv 0)) (blkOk_by (own := [("_law_row", 1)]) (N := N__law_tuple) (sc := defScope s__law_tuple) (by decide +kernel)) (fun _ _ _ _ _ => (pg_name (i := 1) sc__law_tuple.nd rfl (Or.inl rfl))) (fun _ _ _ _ _ => pts_nil) (fun _ _ _ _ _ => (pe_callTy (call_tupK K rfl) rfl (n_tuple T) (by decide +kernel) (pa_cons (pv 1) pa_nil)))) pa_nil)))), ?_⟩
    obtain ⟨b, ws, rfl, sL, aT⟩ := Dp.seq (k := false) d
    have lw : ws.length = t.length := by rw [aT.len, List.length_map]
    refine ⟨_, rfl, b, rfl, ⟨ws, sL⟩, fun D hD => ?_⟩
    refine lc_it (walk_list (xs := ws)) (fun i H' => ∃ acc, LAt K [] H D acc ((t.take i).map (rowD true)) H') ⟨[], LAt.new hD⟩ (fun i H' _ ⟨acc, B⟩ => Same.seq B.sq0 sL) (fun i v H2 H3 hi hP hY => ?_) (fun H2 hP => ?_)
    · obtain ⟨acc, B⟩ := hP
      obtain ⟨rfl, ev⟩ := hY
      obtain ⟨dd, hd, dv⟩ := aT.of ev
      obtain ⟨row, hrow, rfl⟩ := map_at hd
      obtain ⟨rb, rws, rfl, sR, aR⟩ := Dp.seq (k := false) (B.sq0.dp dv)
      refine ⟨rfl, _, rfl, rb, rws, rfl, .inl ⟨sR, fun l hl2 => ?_⟩⟩
      have B2 := B.same (Same.upd (o := .tup rws) hl2)
      have la := B2.len
      rw [List.length_map, List.length_take] at la
      refine ⟨acc, B2.at_, few (by omega), acc ++ [.ref l], ?_⟩
      rw [take_snoc hrow, List.map_append]
      exact B2.push ((tp_row row).off B2.lst1 (Dp.newT upd_same ((Same.upd hl2).dpAll aR)))
    · obtain ⟨acc, B⟩ := hP
      refine ⟨D, acc, rfl, .inl ⟨B.sqL, fun l hl => ?_⟩⟩
      have q2 := (Same.upd (o := .tup acc) hl).dpAll ((Same.ofOff (M := [D]) (H := H2)).dpAll B.all)
      rw [List.take_of_length_le (by omega)] at q2
      exact q _ _ (B.sq0.trans (Same.upd hl)) (Dp.newT upd_same q2)
theorem H__law_blank (T : Txt K mg) : Hs P w K mg base 2 "_law_blank" ["_law_p", "_law_rows", "_law_columns"] []
    (fun vs H Q _ => ∃ (p R C : Nat), vs = [.int (p : Int), .int (R : Int), .int (C : Int)] ∧ (p = 0 ∨ 2 ≤ p) ∧ R ≤ 5 ∧ C ≤ 5 ∧ ∀ L rs H', Grid K H L rs R C (fun _ _ => (0 : Car p)) H' → Q (.ref L) H') := by
  obtain ⟨fd, F⟩ := F__law_blank T
  refine ⟨_, fd, [], g__law_blank T, F.kp, okN F sc__law_blank (fun vs H Q E h => ?_) (fun cdv A outer s H vs Q E hr h => ?_), F.bindsN fun _ _ _ _ _ _ us hl => match us, hl with | [_, _, _], _ => rfl, .nil⟩
  · obtain ⟨p, R, C, rfl, _⟩ := h
    rfl
  · obtain ⟨p, R, C, rfl, hp, r5, c5, q⟩ := h
    refine ⟨_, (pss_one (ps_ret (pe_lc (own := [("_law_i", 3)]) rfl sc__law_blank.nd (pi_range1 rfl (n_range T) (pa_cons (pv 1) pa_nil)) (blkOk_by (own := [("_law_i", 3)]) (N := N__law_blank) (sc := defScope s__law_blank) (by decide +kernel)) (fun _ _ _ _ _ => (pg_name (i := 3) sc__law_blank.nd rfl (Or.inl rfl))) (fun _ _ _ _ _ => pts_nil) (fun _ _ _ _ _ => (pe_op op_rep (pe_lst (pa_cons (pe_callH (H__law_num T) (hr.mono (by decide)) passL (pa_cons (pv 0) (pa_cons pe_int pa_nil))) pa_nil)) (pv 2)))))), ?_⟩
    refine ⟨_, rfl, _, rfl, by omega, by omega, fun D hD => ?_⟩
    refine lc_it (walk_range (n := R)) (fun i H' => ∃ rs, Grid K H D rs i C (fun _ _ => (0 : Car p)) H') ⟨[], ?_⟩ (fun i H' _ _ => trivial) (fun i v H2 H3 hi hP hY => ?_) (fun H2 hP => ?_)
    · exact ⟨by rw [off_upd List.mem_cons_self, off_fresh hD, off_nil]; exact Same.refl _, upd_same, by simp, rfl, fun i hi => absurd hi (Nat.not_lt_zero _)⟩
    · obtain ⟨rs, G⟩ := hP
      obtain ⟨rfl, _⟩ := hY
      refine ⟨rfl, _, rfl, p, false, rfl, hp, fun x H4 e4 d4 => ⟨by show 1 ≤ sizeLine; decide, fun t1 ht1 => ?_⟩⟩
      refine ⟨_, rfl, t1, (C : Int), [x], rfl, rfl, upd_same, by omega, by omega, Nat.le_of_lt (few (by show 1 * (C : Int).toNat ≤ 1000; omega)), fun r hr2 => ?_⟩
      have eA := e4.trans (Same.upd (o := .lst [x]) ht1)
      have G2 := G.same (eA.trans (Same.upd (o := .lst (List.replicate (C : Int).toNat [x]).flatten) hr2))
      have hf : (List.replicate (C : Int).toNat [x]).flatten = List.replicate C x := by rw [Int.toNat_natCast, List.flatten_replicate_singleton]
      rw [hf] at G2 ⊢
      have hr0 : ∀ b o, H b = some o → b ≠ r := fun b o e => ne_of_none (eA _ _ (G.sq _ _ e)) hr2
      have hrs : ∀ b ∈ D :: rs, b ≠ r := fun b hb => by
        rcases List.mem_cons.mp hb with rfl | hb
        · exact ne_of_none (eA _ _ G.top) hr2
        · obtain ⟨k, hk, e⟩ := List.mem_iff_getElem.mp hb
          obtain ⟨r', ws, h1, h2, _⟩ := G.row k (by rw [← G.len]; exact hk)
          rw [List.getElem?_eq_getElem hk, e] at h1
          obtain rfl := Option.some.inj h1
          exact ne_of_none (eA _ _ h2) hr2
      have lr : (rs.map V.ref).length = i := by rw [List.length_map, G.len]
      refine ⟨rs.map V.ref, G2.top, few (by omega), rs ++ [r], ?_, ?_, ?_, ?_, fun k hk => ?_⟩
      · intro b o hb
        have h1 := G2.s _ _ hb
        obtain ⟨h2, h3⟩ := off_some h1
        rw [off_upd List.mem_cons_self, off_out]
        · exact h3
        · intro z
          rcases List.mem_cons.mp z with z | z
          · exact h2 (z ▸ List.mem_cons_self)
          · rcases List.mem_append.mp z with z | z
            · exact h2 (List.mem_cons_of_mem _ z)
            · exact hr0 _ _ hb (List.mem_singleton.mp z)
      · rw [upd_same, List.map_append]
        rfl
      · have n1 := G.nd
        rw [List.nodup_cons] at n1 ⊢
        refine ⟨fun z => ?_, ?_⟩
        · rcases List.mem_append.mp z with z | z
          · exact n1.1 z
          · exact hrs D List.mem_cons_self (List.mem_singleton.mp z)
        · rw [List.nodup_append]
          refine ⟨n1.2, by simp, fun a ha b hb => ?_⟩
          rw [List.mem_singleton.mp hb]
          exact hrs a (List.mem_cons_of_mem _ ha)
      · rw [List.length_append, G.len]
        rfl
      · by_cases c : k < i
        · obtain ⟨r', ws, h1, h2, h3⟩ := G2.row k c
          have nD : r' ≠ D := fun e => (List.nodup_cons.mp G.nd).1 (e ▸ List.mem_of_getElem? h1)
          refine ⟨r', ws, by rw [List.getElem?_append_left (by rw [G.len]; exact c)]; exact h1, by rw [upd_ne nD]; exact h2, dpAll_tp (n := 1) (fun _ _ => sqT_lst G2.top) (tp_map _) h3⟩
        · have ek : k = rs.length := by rw [G.len]; omega
          have nD : r ≠ D := Ne.symm (hrs D List.mem_cons_self)
          refine ⟨r, List.replicate C x, by rw [ek]; simp, by rw [upd_ne nD, upd_same], ?_⟩
          have e0 : ((List.range C).map (fun _ => (0 : Car p))).map numD = List.replicate C (numD (0 : Car p)) := by
            apply List.ext_getElem
            · simp
            · intro i h1 h2
              simp
          rw [e0]
          refine DpAll.rep ((tp_num (0 : Car p)).dp (fun _ _ => sqT_lst G2.top) ((Same.upd hr2).dp ((Same.upd ht1).dp d4))) C
    · obtain ⟨rs, G⟩ := hP
      exact q D rs H2 G
end
end K21
set_option maxRecDepth 100000
set_option maxHeartbeats 4000000
namespace K21
open PySem PySem.Spec PyProof.Rows L2
section
variable {P : Program} {w : World} {K : PySem.W.Frag} {mg : Str → Option Value} {base : Heap}
theorem ixN_nat {n j : Nat} (hj : j < n) : ixN n (j : Int) = some j := by
  unfold ixN
  rw [if_pos (by omega), if_pos (by omega)]
  simp
theorem cell_snoc {p : Nat} {Pp : List (Pr (Car p))} {k : Nat} {q : Pr (Car p)} (w : Pr (Car p) → Car p) (h : Pp[k]? = some q) (i j : Nat) : cell (Pp.take (k + 1)) w i j = cell (Pp.take k) w i j + w q * q.u.getD i 0 * q.v.getD j 0 := by
  unfold cell
  rw [take_snoc h, S_snoc]
theorem sz_cell {p R C k : Nat} {Pp : List (Pr (Car p))} {w : Pr (Car p) → Car p} (ok : Pok Pp R C) (hl : Pp.length ≤ 12) (hz : PSz 2 Pp) (hw : w = (·.c) ∨ w = (·.d)) {i j : Nat} (hi : i < R) (hj : j < C) : Sz p 85 (cell (Pp.take k) w i j) := by
  unfold cell
  have e : Pp.take k = Pp.take (min k Pp.length) := by
    by_cases c : k ≤ Pp.length
    · rw [Nat.min_eq_left c]
    · rw [Nat.min_eq_right (by omega), List.take_of_length_le (by omega), List.take_of_length_le (by omega)]
  rw [e]
  refine (sz_sum (n := 6) (by omega) fun q hq => ?_).mono (by omega)
  obtain ⟨z1, z2, z3, z4⟩ := hz q hq
  obtain ⟨o1, o2⟩ := ok q hq
  have zw : Sz p 2 (w q) := by
    rcases hw with rfl | rfl
    · exact z3
    · exact z4
  refine Sz.mul (n := 4) (Sz.mul (n := 2) (m := 2) zw ?_) (m := 2) ?_
  · rw [getD_at (by rw [o1]; exact hi)]
    exact z1 _ (List.getElem_mem _)
  · rw [getD_at (by rw [o2]; exact hj)]
    exact z2 _ (List.getElem_mem _)
theorem row_get {H : Hp} {p : Nat} {ws : List V} {xs : List (Car p)} {i : Nat} (h : DpAll K H ws (xs.map numD)) (hi : i < xs.length) : ∃ v, ws[i]? = some v ∧ Dp K H v (numD (xs.getD i 0)) := by
  obtain ⟨v, hv, d⟩ := h.get (i := i) (d := numD (xs.getD i 0)) (by rw [List.getElem?_map, List.getElem?_eq_getElem hi, getD_at hi]; rfl)
  exact ⟨v, hv, d⟩
theorem H__law_summed (T : Txt K mg) : Hs P w K mg base 4 "_law_summed" ["_law_p", "_law_rows", "_law_columns", "_law_products_here", "_law_at_here"] []
    (fun vs H Q _ => ∃ (p R C at_ : Nat) (Pp : List (Pr (Car p))) (w : Pr (Car p) → Car p) (v : V), vs = [.int (p : Int), .int (R : Int), .int (C : Int), v, .int (at_ : Int)] ∧ (p = 0 ∨ 2 ≤ p) ∧ p ≤ 13 ∧ R ≤ 5 ∧ C ≤ 5 ∧ Dp K H v (.list (Pp.map prD)) ∧ Pok Pp R C ∧ Pp.length ≤ 12 ∧ PSz 2 Pp ∧
      ((at_ = 2 ∧ w = (·.c)) ∨ (at_ = 3 ∧ w = (·.d))) ∧ ∀ v' H', Same H H' → Dp K H' v' (.list ((table Pp w R C).map (rowD false))) → Q v' H') := by
  obtain ⟨fd, F⟩ := F__law_summed T
  refine ⟨_, fd, [], g__law_summed T, F.kp, okN F sc__law_summed (fun vs H Q E h => ?_) (fun cdv A outer s H vs Q E hr h => ?_), F.bindsN fun _ _ _ _ _ _ us hl => match us, hl with | [_, _, _, _, _], _ => rfl, .nil⟩
  · obtain ⟨p, R, C, at_, Pp, w, v, rfl, _⟩ := h
    rfl
  · obtain ⟨p, R, C, at_, Pp, w, v, rfl, hp, hp2, r5, c5, d, ok, hl, hz, hw, q⟩ := h
    refine ⟨_, (pss_cons (ps_set (i := 5) sc__law_summed.nd rfl (Or.inl rfl) (pe_callH (H__law_blank T) (hr.mono (by decide)) passL (pa_cons (pv 0) (pa_cons (pv 1) (pa_cons (pv 2) pa_nil)))))
      (pss_cons (ps_for PassesOwn.never rfl (pi_list (pv 3)) (pg_name (i := 6) sc__law_summed.nd rfl (Or.inl rfl))
        (pss_one (ps_for PassesOwn.never rfl (pi_range1 rfl (n_range T) (pa_cons (pv 1) pa_nil)) (pg_name (i := 7) sc__law_summed.nd rfl (Or.inl rfl))
            (pss_cons (ps_set (i := 8) sc__law_summed.nd rfl (Or.inl rfl) (pe_callH (H__law_times T) (hr.mono (by decide)) passL (pa_cons (pv 0) (pa_cons (pe_ix ix_tup (pv 6) (pv 4) (fun _ _ => rfl)) (pa_cons (pe_ix ix_tup (pe_ix ix_tup (pv 6) pe_int (fun _ _ => rfl)) (pv 7) (fun _ _ => rfl)) pa_nil)))))
              (pss_one (ps_for PassesOwn.never rfl (pi_range1 rfl (n_range T) (pa_cons (pv 2) pa_nil)) (pg_name (i := 9) sc__law_summed.nd rfl (Or.inl rfl))
                (pss_one (ps_asg (pe_callH (H__law_plus T) (hr.mono (by decide)) passL (pa_cons (pv 0) (pa_cons (pe_ix ix_list (pe_ix ix_list (pv 5) (pv 7) (fun _ _ => rfl)) (pv 9) (fun _ _ => rfl)) (pa_cons (pe_callH (H__law_times T) (hr.mono (by decide)) passL (pa_cons (pv 0) (pa_cons (pv 8) (pa_cons (pe_ix ix_tup (pe_ix ix_tup (pv 6) pe_int (fun _ _ => rfl)) (pv 9) (fun _ _ => rfl)) pa_nil)))) pa_nil)))) (pg_sub (pe_ix ix_list (pv 5) (pv 7) (fun _ _ => rfl)) (pv 9) set_list)))))))))
      (pss_one (ps_ret (pv 5))))), ?_⟩
    have hw2 : w = (·.c) ∨ w = (·.d) := by
      rcases hw with ⟨_, h⟩ | ⟨_, h⟩
      · exact .inl h
      · exact .inr h
    refine ⟨_, rfl, _, rfl, _, rfl, p, R, C, rfl, hp, r5, c5, fun L rs H1 G0 => ?_⟩
    obtain ⟨b, ws, rfl, sL, aL⟩ := Dp.seq (k := false) d
    have lw : ws.length = Pp.length := by rw [aL.len, List.length_map]
    refine ⟨_, rfl, b, rfl, ⟨ws, Same.seq G0.sq sL⟩, for_it (walk_list (xs := ws))
      (fun k σ H' => ∃ o6 o7 o8 o9, σ = [some (.int (p : Int)), some (.int (R : Int)), some (.int (C : Int)), some (.ref b), some (.int (at_ : Int)), some (.ref L), o6, o7, o8, o9] ∧ Grid K H L rs R C (fun i j => cell (Pp.take k) w i j) H')
      ⟨none, none, none, none, rfl, G0⟩ (fun k σ H' hk ⟨_, _, _, _, _, G⟩ => Same.seq G.sq sL) (fun k x σ H2 H3 hk hP hY => ?_) (fun σ H' hP => ?_)⟩
    · obtain ⟨o6, o7, o8, o9, rfl, G⟩ := hP
      obtain ⟨rfl, ev⟩ := hY
      obtain ⟨dd, hd, dv⟩ := aL.of ev
      obtain ⟨q0, hq, rfl⟩ := map_at hd
      obtain ⟨pb, u, z, c, e, rfl, sP, du, dz, dc, de⟩ := pr_inv dv
      have hm := List.mem_of_getElem? hq
      obtain ⟨lu, lv⟩ := ok q0 hm
      obtain ⟨zu, zv, zc, zd⟩ := hz q0 hm
      obtain ⟨ub, us, rfl, sU, aU⟩ := Dp.tup_inv du
      obtain ⟨zb, zs, rfl, sZ, aZ⟩ := Dp.tup_inv dz
      obtain ⟨wv, hwv, dw, zw⟩ : ∃ wv, [V.ref ub, V.ref zb, c, e][at_]? = some wv ∧ Dp K H wv (numD (w q0)) ∧ Sz p 2 (w q0) := by
        rcases hw with ⟨rfl, rfl⟩ | ⟨rfl, rfl⟩
        · exact ⟨c, rfl, dc, zc⟩
        · exact ⟨e, rfl, de, zd⟩
      refine ⟨_, rfl, _, rfl, by omega, by omega, for_it (walk_range (n := R))
        (fun i σ H' => ∃ o7 o8 o9, σ = [some (.int (p : Int)), some (.int (R : Int)), some (.int (C : Int)), some (.ref b), some (.int (at_ : Int)), some (.ref L), some (.ref pb), o7, o8, o9] ∧ Grid K H L rs R C (fun a b => if a < i then cell (Pp.take (k + 1)) w a b else cell (Pp.take k) w a b) H')
        ⟨o7, o8, o9, rfl, G.congr fun a b _ _ => (if_neg (Nat.not_lt_zero _)).symm⟩ (fun i σ H' hi _ => trivial) (fun i x σ H4 H5 hi hP hY => ?_) (fun σ H' hP => ?_)⟩
      · obtain ⟨o7, o8, o9, rfl, G⟩ := hP
        obtain ⟨rfl, ex⟩ := hY
        obtain rfl : x = .int (i : Int) := by rw [ex]; exact rng0 i
        have E := G.sq
        obtain ⟨ui, hui, dui⟩ := row_get aU (i := i) (by omega)
        have zui : Sz p 2 (q0.u.getD i 0) := by
          rw [getD_at (by omega)]
          exact zu _ (List.getElem_mem _)
        refine ⟨_, rfl, _, rfl, _, rfl, _, _, _, _, rfl, rfl, Same.sqT E sP, atI_nat (j := at_) hwv, _, rfl, _, _, _, _, rfl, rfl, Same.sqT E sP, atI_nat (j := 0) rfl, _, rfl, _, _, _, _, rfl, rfl, Same.sqT E sU, atI_nat (j := i) hui, p, w q0, _, wv, ui, rfl, hp2, E.dp dw, E.dp dui, zw.mono (by decide), zui.mono (by decide), fun sh H6 e6 dsh => ?_⟩
        have zsh : Sz p 4 (w q0 * q0.u.getD i 0) := Sz.mul zw zui
        refine ⟨_, rfl, _, rfl, by omega, by omega, for_it (walk_range (n := C))
          (fun j σ H' => ∃ o9, σ = [some (.int (p : Int)), some (.int (R : Int)), some (.int (C : Int)), some (.ref b), some (.int (at_ : Int)), some (.ref L), some (.ref pb), some (.int (i : Int)), some sh, o9] ∧ Grid K H L rs R C (fun a b => if a < i ∨ (a = i ∧ b < j) then cell (Pp.take (k + 1)) w a b else cell (Pp.take k) w a b) H' ∧ Dp K H' sh (numD (w q0 * q0.u.getD i 0)))
          ⟨o9, rfl, (G.same e6).congr fun a b _ _ => ?_, dsh⟩ (fun j σ H' hj _ => trivial) (fun j x σ H7 H8 hj hP hY => ?_) (fun σ H' hP => ?_)⟩
        · by_cases c : a < i
          · rw [if_pos c, if_pos (.inl c)]
          · rw [if_neg c, if_neg (by omega)]
        · obtain ⟨o9, rfl, G, dsh⟩ := hP
          obtain ⟨rfl, ex⟩ := hY
          obtain rfl : x = .int (j : Int) := by rw [ex]; exact rng0 j
          have E := G.sq
          obtain ⟨r, rw_, hr1, hr2, hr3⟩ := G.row i hi
          have hrr : (rs.map V.ref)[i]? = some (.ref r) := by rw [List.getElem?_map, hr1]; rfl
          have lrow : rw_.length = C := by rw [row_len hr3]; simp
          obtain ⟨tij, htij, dtij⟩ := row_get hr3 (i := j) (by simp; exact hj)
          rw [getD_map_range _ _ hj] at dtij
          obtain ⟨vj, hvj, dvj⟩ := row_get aZ (i := j) (by omega)
          have zvj : Sz p 2 (q0.v.getD j 0) := by
            rw [getD_at (by omega)]
            exact zv _ (List.getElem_mem _)
          rw [if_neg (by omega)] at dtij
          refine ⟨_, rfl, _, rfl, _, rfl, _, _, _, _, rfl, rfl, SqL.of G.top, atI_nat (j := i) hrr, _, rfl, _, _, _, _, rfl, rfl, SqL.of hr2, atI_nat (j := j) htij, _, rfl, _, rfl, _, rfl, _, _, _, _, rfl, rfl, Same.sqT E sP, atI_nat (j := 1) rfl, _, rfl, _, _, _, _, rfl, rfl, Same.sqT E sZ, atI_nat (j := j) hvj, p, _, _, sh, vj, rfl, hp2, dsh, E.dp dvj, zsh.mono (by decide), zvj.mono (by decide), fun t1 H9 e9 d9 => ?_⟩
          refine ⟨p, _, _, tij, t1, rfl, hp2, e9.dp dtij, d9, (sz_cell ok hl hz hw2 hi hj).mono (by decide), (Sz.mul zsh zvj).mono (by decide), fun t2 H10 e10 d10 => ?_⟩
          have G2 := G.same (e9.trans e10)
          have hr4 := (e9.trans e10) _ _ hr2
          refine ⟨_, rfl, _, rfl, _, _, _, _, rfl, rfl, SqL.of G2.top, atI_nat (j := i) hrr, _, rfl, r, rw_, _, j, rfl, rfl, hr4, ixN_nat (by omega), ?_⟩
          refine ⟨_, rfl, (G2.put hi hj hr1 hr4 d10).congr fun a b ha hb => ?_, (tp_num _).dp (fun _ _ => sqT_lst hr4) ((e9.trans e10).dp dsh)⟩
          by_cases c : a = i ∧ b = j
          · obtain ⟨rfl, rfl⟩ := c
            rw [if_pos ⟨rfl, rfl⟩, if_pos (by omega), cell_snoc w hq]
          · rw [if_neg c]
            by_cases c2 : a < i ∨ (a = i ∧ b < j)
            · rw [if_pos c2, if_pos (by omega)]
            · rw [if_neg c2, if_neg (by omega)]
        · obtain ⟨o9, rfl, G, dsh⟩ := hP
          refine ⟨_, _, _, rfl, G.congr fun a b ha hb => ?_⟩
          by_cases c : a < i + 1
          · rw [if_pos (by omega), if_pos c]
          · rw [if_neg (by omega), if_neg c]
      · obtain ⟨o7, o8, o9, rfl, G⟩ := hP
        exact ⟨_, _, _, _, rfl, G.congr fun a b ha hb => if_pos ha⟩
    · obtain ⟨o6, o7, o8, o9, rfl, G⟩ := hP
      rw [List.take_of_length_le (by omega)] at G
      exact ⟨_, rfl, q _ _ G.sq G.dp⟩
end
end K21
set_option maxRecDepth 100000
set_option maxHeartbeats 4000000
namespace K21
open PySem PySem.Spec PyProof.Rows L2
section
variable {P : Program} {w : World} {K : PySem.W.Frag} {mg : Str → Option Value} {base : Heap}
/-! ## the law: what is drawn -/
theorem HandAt.lst1 {H : Hp} {h c : Addr} (q : HandAt H h c) : ∀ m ∈ [h], ∃ l, H m = some (.lst l) := fun m hm => by
  obtain rfl := List.mem_singleton.mp hm
  exact q.lst
theorem HandAt.some {H : Hp} {h c a : Addr} (q : HandAt H h c) (ha : H a = none) : a ≠ h := fun e => by
  obtain ⟨l, hl⟩ := q.lst
  rw [← e, ha] at hl
  exact nomatch hl
/-- .. an object beside the hand stands -/
theorem keepO {H H' : Hp} {h a : Addr} {x : HO} (e : Same (Off [h] H) (Off [h] H')) (n : a ≠ h) (hx : H a = some x) : H' a = some x := by
  have q := e a x (by rw [off_out (fun z => n (List.mem_singleton.mp z))]; exact hx)
  exact (off_some q).2
theorem sqT_hand {H H' : Hp} {h c a : Addr} {xs : List V} (hH : HandAt H h c) (e : Same (Off [h] H) (Off [h] H')) (s : SqT K H a xs) : SqT K H' a xs := Same.sqT (e.trans Same.ofOff) (sqT_off hH.lst1 a xs s)
theorem num_hand {p : Nat} {H H' : Hp} {h c : Addr} {v : V} {x : Car p} (hH : HandAt H h c) (e : Same (Off [h] H) (Off [h] H')) (d : Dp K H v (numD x)) : Dp K H' v (numD x) := (tp_num x).dp (fun _ _ => sqT_hand hH e) d
theorem offPut {M : List Addr} {H H' : Hp} {D : Addr} {o : HO} (e : Same (Off M H) (Off M H')) (hD : H D = none) : Same (Off M H) (Off M (upd H' D o)) := fun b x hb => by
  have h1 := e b x hb
  obtain ⟨c1, h2⟩ := off_some hb
  have n : b ≠ D := ne_of_none h2 hD
  rw [off_out c1, upd_ne n]
  exact (off_some h1).2
def Pm (p : Nat) : Prop := (p = 0 ∨ 2 ≤ p) ∧ p ≤ 13
theorem H__law_figures (T : Txt K mg) : Hs P w K mg base 3 "_law_figures" ["_law_hand_here"] []
    (fun vs H Q _ => ∃ h c : Addr, vs = [.ref h] ∧ HandAt H h c ∧ ∀ (p : Nat) H', p ∈ [0, 2, 3, 5, 7, 11, 13] → HandAt H' h c → Same (Off [h] H) (Off [h] H') → Q (.int (p : Int)) H') := by
  obtain ⟨fd, F⟩ := F__law_figures T
  refine ⟨_, fd, [], g__law_figures T, F.kp, okN F sc__law_figures (fun vs H Q E h => ?_) (fun cdv A outer s H vs Q E hr h => ?_), F.bindsN fun _ _ _ _ _ _ us hl => match us, hl with | [_], _ => rfl, .nil⟩
  · obtain ⟨h, cc, rfl, _⟩ := h
    rfl
  · obtain ⟨h, cc, rfl, hH, q⟩ := h
    refine ⟨_, (pss_one (ps_ret (pe_ix ix_tup (pe_tup (pa_cons pe_int (pa_cons pe_int (pa_cons pe_int (pa_cons pe_int (pa_cons pe_int (pa_cons pe_int (pa_cons pe_int (pa_cons pe_int (pa_cons pe_int (pa_cons pe_int (pa_cons pe_int (pa_cons pe_int pa_nil))))))))))))) (pe_callH (H__law_take T) (hr.mono (by decide)) passL (pa_cons (pv 0) (pa_cons pe_int pa_nil))) (fun _ _ => rfl)))), ?_⟩
    refine ⟨by show 12 ≤ sizeLine; exact Nat.le_of_lt (few (by decide)), fun t ht => ?_⟩
    have e0 := Same.upd (o := .tup [.int 0, .int 5, .int 3, .int 7, .int 0, .int 5, .int 2, .int 13, .int 5, .int 3, .int 0, .int 11]) ht
    refine ⟨_, rfl, h, cc, 12, rfl, by decide, by decide, hH.same e0, fun v H' hv hH' e => ?_⟩
    have n := hH.some ht
    have hT := keepO e n upd_same
    have fin : ∀ (p : Nat), p ∈ [0, 2, 3, 5, 7, 11, 13] → Q (.int (p : Int)) H' := fun p hp => q p H' hp hH' ((Same.off e0).trans e)
    have cs : v = 0 ∨ v = 1 ∨ v = 2 ∨ v = 3 ∨ v = 4 ∨ v = 5 ∨ v = 6 ∨ v = 7 ∨ v = 8 ∨ v = 9 ∨ v = 10 ∨ v = 11 := by omega
    rcases cs with rfl | rfl | rfl | rfl | rfl | rfl | rfl | rfl | rfl | rfl | rfl | rfl
    · exact ⟨_, _, _, _, rfl, rfl, .inl (.inl hT), atI_nat (j := 0) rfl, fin 0 (by decide)⟩
    · exact ⟨_, _, _, _, rfl, rfl, .inl (.inl hT), atI_nat (j := 1) rfl, fin 5 (by decide)⟩
    · exact ⟨_, _, _, _, rfl, rfl, .inl (.inl hT), atI_nat (j := 2) rfl, fin 3 (by decide)⟩
    · exact ⟨_, _, _, _, rfl, rfl, .inl (.inl hT), atI_nat (j := 3) rfl, fin 7 (by decide)⟩
    · exact ⟨_, _, _, _, rfl, rfl, .inl (.inl hT), atI_nat (j := 4) rfl, fin 0 (by decide)⟩
    · exact ⟨_, _, _, _, rfl, rfl, .inl (.inl hT), atI_nat (j := 5) rfl, fin 5 (by decide)⟩
    · exact ⟨_, _, _, _, rfl, rfl, .inl (.inl hT), atI_nat (j := 6) rfl, fin 2 (by decide)⟩
    · exact ⟨_, _, _, _, rfl, rfl, .inl (.inl hT), atI_nat (j := 7) rfl, fin 13 (by decide)⟩
    · exact ⟨_, _, _, _, rfl, rfl, .inl (.inl hT), atI_nat (j := 8) rfl, fin 5 (by decide)⟩
    · exact ⟨_, _, _, _, rfl, rfl, .inl (.inl hT), atI_nat (j := 9) rfl, fin 3 (by decide)⟩
    · exact ⟨_, _, _, _, rfl, rfl, .inl (.inl hT), atI_nat (j := 10) rfl, fin 0 (by decide)⟩
    · exact ⟨_, _, _, _, rfl, rfl, .inl (.inl hT), atI_nat (j := 11) rfl, fin 11 (by decide)⟩
def spNumber (K : PySem.W.Frag) : Sp := fun vs H Q _ => ∃ (h c : Addr) (p : Nat), vs = [.ref h, .int (p : Int)] ∧ Pm p ∧ HandAt H h c ∧ ∀ (x : Car p) v H', Sz p 2 x → Dp K H' v (numD x) → HandAt H' h c → Same (Off [h] H) (Off [h] H') → Q v H'
theorem H__law_number (T : Txt K mg) : Hs P w K mg base 3 "_law_number" ["_law_hand_here", "_law_p"] [] (spNumber K) := by
  obtain ⟨fd, F⟩ := F__law_number T
  refine ⟨_, fd, [], g__law_number T, F.kp, okN F sc__law_number (fun vs H Q E h => ?_) (fun cdv A outer s H vs Q E hr h => ?_), F.bindsN fun _ _ _ _ _ _ us hl => match us, hl with | [_, _], _ => rfl, .nil⟩
  · obtain ⟨h, cc, p, rfl, _⟩ := h
    rfl
  · obtain ⟨h, cc, p, rfl, hp, hH, q⟩ := h
    refine ⟨_, (pss_cons (ps_if (pt_cmp (pc_gt (pv 1) pe_int))
        (pss_one (ps_ret (pe_callH (H__law_take T) (hr.mono (by decide)) passL (pa_cons (pv 0) (pa_cons (pv 1) pa_nil)))))
        pss_nil)
      (pss_cons (ps_set (i := 2) sc__law_number.nd rfl (Or.inl rfl) (pe_op op_sub (pe_callH (H__law_take T) (hr.mono (by decide)) passL (pa_cons (pv 0) (pa_cons pe_int pa_nil))) pe_int))
      (pss_cons (ps_if (pt_cmp (pc_eqI (pe_callH (H__law_take T) (hr.mono (by decide)) passL (pa_cons (pv 0) (pa_cons pe_int pa_nil))) pe_int))
        (pss_one (ps_ret (pe_callH (H__law_ratio T) (hr.mono (by decide)) passL (pa_cons (pv 2) (pa_cons (pe_op op_add pe_int (pe_callH (H__law_take T) (hr.mono (by decide)) passL (pa_cons (pv 0) (pa_cons pe_int pa_nil)))) pa_nil)))))
        pss_nil)
      (pss_one (ps_ret (pe_tup (pa_cons (pv 2) (pa_cons pe_int pa_nil)))))))), ?_⟩
    refine ⟨_, rfl, _, _, rfl, rfl, _, rfl, ?_⟩
    cases p with
    | succ n =>
      show if decide (0 < ((n + 1 : Nat) : Int)) = true then _ else _
      rw [decide_eq_true (by omega)]
      refine iteT ⟨_, rfl, _, rfl, h, cc, n + 1, rfl, by omega, by have := hp.2; omega, hH, fun v H' hv hH' e => ?_⟩
      exact q (⟨v, hv⟩ : Fin (n + 1)) _ H' trivial (.int _) hH' e
    | zero =>
      refine iteF ⟨_, rfl, h, cc, 7, rfl, by decide, by decide, hH, fun v H1 hv hH1 e1 => ?_⟩
      refine ⟨_, _, rfl, rfl, ?_⟩
      refine ⟨_, rfl, h, cc, 4, rfl, by decide, by decide, hH1, fun v2 H2 hv2 hH2 e2 => ?_⟩
      refine ⟨_, _, rfl, rfl, _, rfl, ite2 (fun _ => ?_) (fun _ => ?_)⟩
      · refine ⟨_, rfl, _, rfl, h, cc, 2, rfl, by decide, by decide, hH2, fun v3 H3 hv3 hH3 e3 => ?_⟩
        refine ⟨_, _, rfl, rfl, (v : Int) - 3, 2 + v3, by omega, ?_, ?_, ?_, fun v' H4 e4 d4 => q _ v' H4 ?_ d4 (hH3.same e4) (((e1.trans e2).trans e3).trans (Same.off e4))⟩
        · show [V.int _, V.int (2 + (v3 : Int))] = _
          rw [Int.natCast_add]
          rfl
        · exact Nat.lt_of_lt_of_le (m := 2 ^ 3) (by show ((v : Int) - 3).natAbs < 8; omega) (Nat.pow_le_pow_right (by decide) (by decide))
        · exact Nat.lt_of_lt_of_le (m := 2 ^ 3) (by show 2 + v3 < 8; omega) (Nat.pow_le_pow_right (by decide) (by decide))
        · exact norm_sz _ (by show ((v : Int) - 3).natAbs < 4; omega) (by show 2 + v3 < 4; omega)
      · refine ⟨_, rfl, by show 2 ≤ sizeLine; decide, fun t ht => ?_⟩
        refine q (Rat.normalize ((v : Int) - 3) 1 (by decide) : Rat) _ _ (norm_sz _ (by show ((v : Int) - 3).natAbs < 4; omega) (by show 1 < 4; decide)) (num0_mk ?_) (hH2.same (Same.upd ht)) ((e1.trans e2).trans (Same.off (Same.upd ht)))
        rw [upd_same, norm_num, norm_den]
        simp
theorem H__law_size (T : Txt K mg) : Hs P w K mg base 3 "_law_size" ["_law_hand_here", "_law_p", "_law_most"] []
    (fun vs H Q _ => ∃ (h c : Addr) (p : Nat), vs = [.ref h, .int (p : Int), .int 5] ∧ Pm p ∧ HandAt H h c ∧ ∀ (n : Nat) H', 1 ≤ n → n ≤ 5 → (p = 0 ∨ n ≤ p) → HandAt H' h c → Same (Off [h] H) (Off [h] H') → Q (.int (n : Int)) H') := by
  obtain ⟨fd, F⟩ := F__law_size T
  refine ⟨_, fd, [], g__law_size T, F.kp, okN F sc__law_size (fun vs H Q E h => ?_) (fun cdv A outer s H vs Q E hr h => ?_), F.bindsN fun _ _ _ _ _ _ us hl => match us, hl with | [_, _, _], _ => rfl, .nil⟩
  · obtain ⟨h, cc, p, rfl, _⟩ := h
    rfl
  · obtain ⟨h, cc, p, rfl, hp, hH, q⟩ := h
    refine ⟨_, (pss_cons (ps_set (i := 3) sc__law_size.nd rfl (Or.inl rfl) (pe_ifExp (pt_cmp (pc_gt (pv 1) pe_int)) (pe_callB (call_min3 rfl) rfl (n_min T) (by decide +kernel) (pa_cons (pv 2) (pa_cons pe_int (pa_cons (pv 1) pa_nil)))) (pe_callB (call_min2 rfl) rfl (n_min T) (by decide +kernel) (pa_cons (pv 2) (pa_cons pe_int pa_nil)))))
      (pss_cons (ps_if (pt_cmp (pc_eqI (pe_callH (H__law_take T) (hr.mono (by decide)) passL (pa_cons (pv 0) (pa_cons pe_int pa_nil))) pe_int))
        (pss_one (ps_ret (pv 3)))
        pss_nil)
      (pss_one (ps_ret (pe_op op_add pe_int (pe_callH (H__law_take T) (hr.mono (by decide)) passL (pa_cons (pv 0) (pa_cons (pe_callB (call_min2 rfl) rfl (n_min T) (by decide +kernel) (pa_cons (pv 3) (pa_cons pe_int pa_nil))) pa_nil)))))))), ?_⟩
    refine ⟨_, rfl, _, _, rfl, rfl, _, rfl, ?_⟩
    obtain ⟨hp1, hp2⟩ := hp
    show if decide (0 < (p : Int)) = true then _ else _
    by_cases c : 0 < p
    rw [decide_eq_true (by omega)]
    refine iteT ⟨_, rfl, _, rfl, _, _, _, rfl, fun g hg => ?_⟩
    have hg2 : 1 ≤ g ∧ g ≤ 5 ∧ (p = 0 ∨ g ≤ p) := by omega
    rotate_left
    rw [decide_eq_false (by omega)]
    refine iteF ⟨_, rfl, _, _, rfl, ?_⟩
    have hg2 : 1 ≤ (if (5 : Int) < 5 then (5 : Int) else 5) ∧ (if (5 : Int) < 5 then (5 : Int) else 5) ≤ 5 ∧ (p = 0 ∨ (if (5 : Int) < 5 then (5 : Int) else 5) ≤ p) := by
      rw [if_neg (by decide)]
      omega
    revert hg2
    generalize (if (5 : Int) < 5 then (5 : Int) else 5) = g
    intro hg2
    all_goals
      clear c
      obtain ⟨g1, g5, gp⟩ := hg2
      obtain ⟨k, rfl⟩ : ∃ k : Nat, g = (k : Int) := ⟨g.toNat, by omega⟩
      refine ⟨_, rfl, h, cc, 8, rfl, by decide, by decide, hH, fun v H1 hv hH1 e1 => ?_⟩
      refine ⟨_, _, rfl, rfl, _, rfl, ite2 (fun _ => ?_) (fun _ => ?_)⟩
      · exact ⟨_, rfl, q k H1 (by omega) (by omega) (by omega) hH1 e1⟩
      · refine ⟨_, rfl, _, rfl, _, _, rfl, ?_⟩
        have hm : ∃ m : Nat, (if (3 : Int) < (k : Int) then (3 : Int) else (k : Int)) = (m : Int) ∧ 1 ≤ m ∧ m ≤ k := by
          by_cases c : (3 : Int) < (k : Int)
          · rw [if_pos c]
            exact ⟨3, rfl, by decide, by omega⟩
          · rw [if_neg c]
            exact ⟨k, rfl, by omega, by omega⟩
        obtain ⟨m, em, m1, m2⟩ := hm
        refine ⟨h, cc, m, ?_, m1, by omega, hH1, fun v2 H2 hv2 hH2 e2 => ?_⟩
        · show [V.ref h, V.int (if (3 : Int) < (k : Int) then (3 : Int) else (k : Int))] = _
          rw [em]
        · refine ⟨_, _, rfl, rfl, ?_⟩
          have := q (1 + v2) H2 (by omega) (by omega) (by omega) hH2 (e1.trans e2)
          rw [Int.natCast_add] at this
          exact this
/-- n drawn numbers in a new list -/
def spNumbers (K : PySem.W.Frag) : Sp := fun vs H Q _ => ∃ (h c : Addr) (p n : Nat), vs = [.ref h, .int (p : Int), .int (n : Int)] ∧ Pm p ∧ n ≤ 5 ∧ HandAt H h c ∧ ∀ (xs : List (Car p)) (a : Addr) (ws : List V) H', xs.length = n → (∀ x ∈ xs, Sz p 2 x) → H a = none → H' a = some (.lst ws) → DpAll K H' ws (xs.map numD) → HandAt H' h c → Same (Off [h] H) (Off [h] H') → Q (.ref a) H'
theorem H__law_numbers (T : Txt K mg) : Hs P w K mg base 4 "_law_numbers" ["_law_hand_here", "_law_p", "_law_many"] [] (spNumbers K) := by
  obtain ⟨fd, F⟩ := F__law_numbers T
  refine ⟨_, fd, [], g__law_numbers T, F.kp, okN F sc__law_numbers (fun vs H Q E h => ?_) (fun cdv A outer s H vs Q E hr h => ?_), F.bindsN fun _ _ _ _ _ _ us hl => match us, hl with | [_, _, _], _ => rfl, .nil⟩
  · obtain ⟨h, cc, p, n, rfl, _⟩ := h
    rfl
  · obtain ⟨h, cc, p, n, rfl, hp, hn, hH, q⟩ := h
    refine ⟨_, (pss_one (ps_ret (pe_lc (own := [("_law_k", 3)]) rfl sc__law_numbers.nd (pi_range1 rfl (n_range T) (pa_cons (pv 2) pa_nil)) (blkOk_by (own := [("_law_k", 3)]) (N := N__law_numbers) (sc := defScope s__law_numbers) (by decide +kernel)) (fun _ _ _ _ _ => (pg_name (i := 3) sc__law_numbers.nd rfl (Or.inl rfl))) (fun _ _ _ _ _ => pts_nil) (fun _ _ _ _ _ => (pe_callH (H__law_number T) (hr.mono (by decide)) passL (pa_cons (pv 0) (pa_cons (pv 1) pa_nil))))))), ?_⟩
    refine ⟨_, rfl, _, rfl, by omega, by omega, fun D hD => ?_⟩
    have nD := hH.some hD
    refine lc_it (walk_range (n := n)) (fun i H' => ∃ (xs : List (Car p)) (ws : List V), xs.length = i ∧ (∀ x ∈ xs, Sz p 2 x) ∧ H' D = some (.lst ws) ∧ DpAll K H' ws (xs.map numD) ∧ HandAt H' h cc ∧ Same (Off [h] H) (Off [h] H')) ⟨[], [], rfl, fun x hx => (nomatch hx), upd_same, .nil, hH.same (Same.upd hD), Same.off (Same.upd hD)⟩ (fun i H' _ _ => trivial) (fun i v H2 H3 hi hP hY => ?_) (fun H2 hP => ?_)
    · obtain ⟨xs, ws, lx, zx, hD2, aX, hH2, e2⟩ := hP
      obtain ⟨rfl, _⟩ := hY
      refine ⟨rfl, _, rfl, _, rfl, h, cc, p, rfl, hp, hH2, fun x v H4 zx4 d4 hH4 e4 => ?_⟩
      have hD4 := keepO e4 nD hD2
      have lw : ws.length = i := by rw [row_len aX, lx]
      refine ⟨ws, hD4, few (by omega), xs ++ [x], ws ++ [v], by rw [List.length_append, lx]; rfl, fun y hy => ?_, upd_same, ?_, ?_, ?_⟩
      · rcases List.mem_append.mp hy with hy | hy
        · exact zx y hy
        · rw [List.mem_singleton.mp hy]
          exact zx4
      · have a4 := dpAll_tp (n := 1) (fun _ _ => sqT_hand hH2 e4) (tp_map _) aX
        rw [List.map_append]
        exact dpAll_tp (n := 1) (fun _ _ => sqT_lst hD4) (fun d hd => by
          rw [← List.map_append] at hd
          exact tp_map _ d hd) (a4.snoc d4)
      · exact hH4.put nD (hH.ne hD).2
      · exact offPut (e2.trans e4) hD
    · obtain ⟨xs, ws, lx, zx, hD2, aX, hH2, e2⟩ := hP
      exact q xs D ws H2 lx zx hD hD2 aX hH2 e2
end
end K21
set_option maxRecDepth 100000
set_option maxHeartbeats 4000000
namespace K21
open PySem PySem.Spec PyProof.Rows L2
section
variable {P : Program} {w : World} {K : PySem.W.Frag} {mg : Str → Option Value} {base : Heap}
/-- a list or a tuple of the list's items -/
def spList (K : PySem.W.Frag) : Sp := fun vs H Q _ => ∃ (h c : Addr) (v : V) (ds : List PyData), vs = [.ref h, v] ∧ HandAt H h c ∧ Dp K (Off [h] H) v (.list ds) ∧ ∀ (k : Bool) v' H', Dp K (Off [h] H') v' (seqD k ds) → HandAt H' h c → Same (Off [h] H) (Off [h] H') → Q v' H'
theorem H__law_list (T : Txt K mg) : Hs P w K mg base 3 "_law_list" ["_law_hand_here", "_law_items"] [] (spList K) := by
  obtain ⟨fd, F⟩ := F__law_list T
  refine ⟨_, fd, [], g__law_list T, F.kp, okN F sc__law_list (fun vs H Q E h => ?_) (fun cdv A outer s H vs Q E hr h => ?_), F.bindsN fun _ _ _ _ _ _ us hl => match us, hl with | [_, _], _ => rfl, .nil⟩
  · obtain ⟨h, c, v, ds, rfl, _⟩ := h
    rfl
  · obtain ⟨h, c, v, ds, rfl, hH, d, q⟩ := h
    refine ⟨_, (pss_one (ps_ret (pe_ifExp (pt_truth (pe_callH (H__law_take T) (hr.mono (by decide)) passL (pa_cons (pv 0) (pa_cons pe_int pa_nil))) (by intro _; rfl)) (pe_callTy call_list_of rfl (n_list T) (by decide +kernel) (pa_cons (pv 1) pa_nil)) (pe_callTy call_tuple_of rfl (n_tuple T) (by decide +kernel) (pa_cons (pv 1) pa_nil))))), ?_⟩
    obtain ⟨b, ws, rfl, sL, aL⟩ := Dp.seq (k := false) d
    refine ⟨_, rfl, h, c, 2, rfl, by decide, by decide, hH, fun b2 H1 hb2 hH1 e1 => ?_⟩
    have sL1 : SqL K H1 b ws := Same.seq (e1.trans Same.ofOff) sL
    refine ⟨(b2 : Int) != 0, rfl, ?_⟩
    have nh : ∀ {l : Addr}, H1 l = none → l ∉ [h] := fun hl z => (hH1.ne hl).1 (List.mem_singleton.mp z)
    refine ite2 (fun _ => ⟨_, rfl, b, ws, rfl, .inl sL1, fun l hl => ?_⟩) (fun _ => ⟨_, rfl, b, ws, rfl, .inl ⟨sL1, fun l hl => ?_⟩⟩)
    · refine q false _ _ (Dp.newL (by rw [off_out (nh hl), upd_same]) ((Same.off (Same.upd hl)).dpAll (e1.dpAll aL))) (hH1.same (Same.upd hl)) (e1.trans (Same.off (Same.upd hl)))
    · refine q true _ _ (Dp.newT (by rw [off_out (nh hl), upd_same]) ((Same.off (Same.upd hl)).dpAll (e1.dpAll aL))) (hH1.same (Same.upd hl)) (e1.trans (Same.off (Same.upd hl)))
theorem H__law_none (T : Txt K mg) : Hs P w K mg base 1 "_law_none" ["_law_p"] [] (fun vs H Q _ => ∃ p : Nat, vs = [.int (p : Int)] ∧ Q (.int (wrongI p)) H) := by
  obtain ⟨fd, F⟩ := F__law_none T
  refine ⟨_, fd, [], g__law_none T, F.kp, okN F sc__law_none (fun vs H Q E h => ?_) (fun cdv A outer s H vs Q E hr h => ?_), F.bindsN fun _ _ _ _ _ _ us hl => match us, hl with | [_], _ => rfl, .nil⟩
  · obtain ⟨p, rfl, _⟩ := h
    rfl
  · obtain ⟨p, rfl, q⟩ := h
    refine ⟨_, (pss_one (ps_ret (pe_ifExp (pt_cmp (pc_gt (pv 0) pe_int)) (pv 0) pe_int))), ?_⟩
    refine ⟨_, rfl, _, _, rfl, rfl, _, rfl, ?_⟩
    show if decide (0 < (p : Int)) = true then _ else _
    unfold wrongI at q
    by_cases c : 0 < p
    · rw [decide_eq_true (by omega)]
      rw [if_neg (by omega)] at q
      exact iteT ⟨_, rfl, q⟩
    · rw [decide_eq_false (by omega)]
      rw [if_pos (by omega)] at q
      exact iteF q
/-- ones and zeros in a new list -/
def spOneAt (K : PySem.W.Frag) : Sp := fun vs H Q _ => ∃ (p n i : Nat), vs = [.int (p : Int), .int (n : Int), .int (i : Int)] ∧ Pm p ∧ n ≤ 5 ∧ ∀ (xs : List (Car p)) (a : Addr) (ws : List V) H', xs.length = n → (∀ x ∈ xs, Sz p 2 x) → H a = none → H' a = some (.lst ws) → DpAll K H' ws (xs.map numD) → Same H H' → Q (.ref a) H'
theorem sz_bit {p : Nat} (b : Bool) : Sz p 2 (bitN (p := p) b) := by
  cases b with
  | false => exact Sz.zero.mono (by decide)
  | true => exact Sz.one.mono (by decide)
theorem H__law_one_at (T : Txt K mg) : Hs P w K mg base 2 "_law_one_at" ["_law_p", "_law_many", "_law_place"] [] (spOneAt K) := by
  obtain ⟨fd, F⟩ := F__law_one_at T
  refine ⟨_, fd, [], g__law_one_at T, F.kp, okN F sc__law_one_at (fun vs H Q E h => ?_) (fun cdv A outer s H vs Q E hr h => ?_), F.bindsN fun _ _ _ _ _ _ us hl => match us, hl with | [_, _, _], _ => rfl, .nil⟩
  · obtain ⟨p, n, i, rfl, _⟩ := h
    rfl
  · obtain ⟨p, n, i, rfl, hp, hn, q⟩ := h
    refine ⟨_, (pss_one (ps_ret (pe_lc (own := [("_law_k", 3)]) rfl sc__law_one_at.nd (pi_range1 rfl (n_range T) (pa_cons (pv 1) pa_nil)) (blkOk_by (own := [("_law_k", 3)]) (N := N__law_one_at) (sc := defScope s__law_one_at) (by decide +kernel)) (fun _ _ _ _ _ => (pg_name (i := 3) sc__law_one_at.nd rfl (Or.inl rfl))) (fun _ _ _ _ _ => pts_nil) (fun _ _ _ _ _ => (pe_callH (H__law_num T) (hr.mono (by decide)) passL (pa_cons (pv 0) (pa_cons (pe_callTy call_int1 rfl (n_int T) (by decide +kernel) (pa_cons (pe_cmp (pc_eqI (pv 3) (pv 2))) pa_nil)) pa_nil))))))), ?_⟩
    refine ⟨_, rfl, _, rfl, by omega, by omega, fun D hD => ?_⟩
    refine lc_it (walk_range (n := n)) (fun k H' => ∃ acc, LAt K [] H D acc (((List.range k).map fun (j : Nat) => bitN (p := p) (decide ((j : Int) = (i : Int)))).map numD) H') ⟨[], LAt.new hD⟩ (fun i H' _ _ => trivial) (fun k v H2 H3 hk hP hY => ?_) (fun H2 hP => ?_)
    · obtain ⟨acc, B⟩ := hP
      obtain ⟨rfl, ex⟩ := hY
      obtain rfl : v = .int (k : Int) := by rw [ex]; exact rng0 k
      refine ⟨rfl, _, rfl, _, rfl, _, rfl, _, _, rfl, rfl, .inr ⟨_, rfl, p, decide ((k : Int) = (i : Int)), rfl, hp.1, fun x H4 e4 d4 => ?_⟩⟩
      have B4 := B.same e4
      have la := B4.len
      rw [List.length_map, List.length_map, List.length_range] at la
      refine ⟨acc, B4.at_, few (by omega), acc ++ [x], ?_⟩
      rw [List.range_succ, List.map_append, List.map_append]
      exact B4.push ((tp_num _).off B4.lst1 d4)
    · obtain ⟨acc, B⟩ := hP
      refine q _ D acc H2 (by simp) (fun x hx => ?_) hD B.at_ (Same.ofOff.dpAll B.all) B.sq0
      obtain ⟨j, _, rfl⟩ := List.mem_map.mp hx
      exact sz_bit _
/-- a row spoilt, and the first place that is wrong -/
def spSpoilt (K : PySem.W.Frag) : Sp := fun vs H Q _ => ∃ (h c : Addr) (p n : Nat), vs = [.ref h, .int (p : Int), .int (n : Int)] ∧ Pm p ∧ 1 ≤ n ∧ n ≤ 5 ∧ HandAt H h c ∧ ∀ (a : Addr) (v : V) (j : Nat) H', H a = none → H' a = some (.lst [v, .int (j : Int)]) → Fault K (Off [h] H') p n v j → HandAt H' h c → Same (Off [h] H) (Off [h] H') → Q (.ref a) H'
theorem H__law_spoilt (T : Txt K mg) : Hs P w K mg base 5 "_law_spoilt" ["_law_hand_here", "_law_p", "_law_many"] [] (spSpoilt K) := by
  obtain ⟨fd, F⟩ := F__law_spoilt T
  refine ⟨_, fd, [], g__law_spoilt T, F.kp, okN F sc__law_spoilt (fun vs H Q E h => ?_) (fun cdv A outer s H vs Q E hr h => ?_), F.bindsN fun _ _ _ _ _ _ us hl => match us, hl with | [_, _, _], _ => rfl, .nil⟩
  · obtain ⟨h, cc, p, n, rfl, _⟩ := h
    rfl
  · obtain ⟨h, cc, p, n, rfl, hp, n1, n5, hH, q⟩ := h
    refine ⟨_, (pss_cons (ps_set (i := 3) sc__law_spoilt.nd rfl (Or.inl rfl) (pe_callH (H__law_numbers T) (hr.mono (by decide)) passL (pa_cons (pv 0) (pa_cons (pv 1) (pa_cons (pv 2) pa_nil)))))
      (pss_cons (ps_set (i := 4) sc__law_spoilt.nd rfl (Or.inl rfl) (pe_callH (H__law_take T) (hr.mono (by decide)) passL (pa_cons (pv 0) (pa_cons pe_int pa_nil))))
      (pss_cons (ps_if (pt_cmp (pc_eqI (pv 4) pe_int))
        (pss_one (ps_ret (pe_lst (pa_cons pe_non (pa_cons pe_int pa_nil)))))
        pss_nil)
      (pss_cons (ps_if (pt_cmp (pc_eqI (pv 4) pe_int))
        (pss_one (ps_ret (pe_lst (pa_cons (pe_op op_cat (pv 3) (pe_lst (pa_cons (pe_callH (H__law_num T) (hr.mono (by decide)) passL (pa_cons (pv 1) (pa_cons pe_int pa_nil))) pa_nil))) (pa_cons (pv 2) pa_nil)))))
        pss_nil)
      (pss_cons (ps_if (pt_cmp (pc_eqI (pv 4) pe_int))
        (pss_one (ps_ret (pe_lst (pa_cons (pe_slice sl_list (pv 3) po_none (po_some (pe_op op_sub (pv 2) pe_int))) (pa_cons (pe_op op_sub (pv 2) pe_int) pa_nil)))))
        pss_nil)
      (pss_cons (ps_set (i := 5) sc__law_spoilt.nd rfl (Or.inl rfl) (pe_callH (H__law_take T) (hr.mono (by decide)) passL (pa_cons (pv 0) (pa_cons (pv 2) pa_nil))))
      (pss_cons (ps_asg (pe_callH (H__law_none T) (hr.mono (by decide)) passL (pa_cons (pv 1) pa_nil)) (pg_sub (pv 3) (pv 5) set_list))
      (pss_one (ps_ret (pe_lst (pa_cons (pv 3) (pa_cons (pv 5) pa_nil)))))))))))), ?_⟩
    refine ⟨_, rfl, _, rfl, _, rfl, h, cc, p, n, rfl, hp, n5, hH, fun xs a ws H1 lx zx ha hA aX hH1 e1 => ?_⟩
    have na := (hH.ne ha).1
    have nac := (hH.ne ha).2
    have lw : ws.length = n := by rw [row_len aX, lx]
    refine ⟨_, rfl, h, cc, 4, rfl, by decide, by decide, hH1, fun way H2 hway hH2 e2 => ?_⟩
    have hA2 := keepO e2 na hA
    have aX2 := dpAll_tp (n := 1) (fun _ _ => sqT_hand hH1 e2) (tp_map _) aX
    have E2 := e1.trans e2
    have nh : ∀ {H' : Hp} {l : Addr}, HandAt H' h cc → H' l = none → l ∉ [h] := fun hH' hl z => (hH'.ne hl).1 (List.mem_singleton.mp z)
    -- none of H's objects is new
    have old : ∀ {H' : Hp} {l : Addr}, Same (Off [h] H) (Off [h] H') → HandAt H' h cc → H' l = none → H l = none := fun {H' l} e hH' hl => by
      cases hc : H l with
      | none => rfl
      | some o =>
        have := keepO e (hH'.ne hl).1 hc
        rw [hl] at this
        exact nomatch this
    refine ⟨_, rfl, _, _, rfl, rfl, _, rfl, ?_⟩
    show if decide ((way : Int) = 0) = true then _ else _
    by_cases w0 : way = 0
    · rw [decide_eq_true (by omega)]
      refine iteT ⟨by show 2 ≤ sizeLine; decide, fun l hl => ?_⟩
      exact q l .non 0 _ (old E2 hH2 hl) upd_same (.inl ⟨rfl, rfl⟩) (hH2.same (Same.upd hl)) (E2.trans (Same.off (Same.upd hl)))
    · rw [decide_eq_false (by omega)]
      refine iteF ⟨_, rfl, _, _, rfl, rfl, _, rfl, ?_⟩
      show if decide ((way : Int) = 1) = true then _ else _
      by_cases w1 : way = 1
      · rw [decide_eq_true (by omega)]
        refine iteT ⟨_, rfl, _, rfl, p, true, rfl, hp.1, fun x H3 e3 d3 => ⟨by show 1 ≤ sizeLine; decide, fun t ht => ?_⟩⟩
        refine ⟨a, t, ws, [x], rfl, rfl, (e3.trans (Same.upd ht)) _ _ hA2, upd_same, Nat.le_of_lt (few (by rw [lw]; show n + 1 ≤ 1000; omega)), fun r hr2 => ?_⟩
        refine ⟨_, rfl, by show 2 ≤ sizeLine; decide, fun l hl => ?_⟩
        have e4 := e3.trans (Same.upd (o := .lst [x]) ht)
        have e5 := e4.trans (Same.upd (o := .lst (ws ++ [x])) hr2)
        have e6 := e5.trans (Same.upd (o := .lst [.ref r, .int (n : Int)]) hl)
        have hH5 := hH2.same e5
        have E6 := E2.trans (Same.off e6)
        refine q l (.ref r) n _ (old (E2.trans (Same.off e5)) hH5 hl) upd_same (.inr ⟨false, (xs ++ [bitN true]).map numD, ?_, .inl ⟨xs ++ [bitN true], rfl, by rw [List.length_append, lx]; show n + 1 ≠ n; omega, by rw [List.length_append, lx]; show n = min (n + 1) n; omega⟩⟩) (hH2.same e6) E6
        have hr6 : upd (upd (upd H3 t (.lst [x])) r (.lst (ws ++ [x]))) l (.lst [.ref r, .int (n : Int)]) r = some (.lst (ws ++ [x])) := Same.upd hl _ _ upd_same
        refine Dp.newL (by rw [off_out (nh (hH2.same e4) hr2)]; exact hr6) ?_
        refine dpAll_tp (n := 1) (sqT_off (hH2.same e6).lst1) (tp_map _) ?_
        rw [List.map_append]
        exact (e6.dpAll aX2).snoc (((Same.upd ht).trans ((Same.upd hr2).trans (Same.upd hl))).dp d3)
      · rw [decide_eq_false (by omega)]
        refine iteF ⟨_, rfl, _, _, rfl, rfl, _, rfl, ?_⟩
        show if decide ((way : Int) = 2) = true then _ else _
        by_cases w2 : way = 2
        · rw [decide_eq_true (by omega)]
          refine iteT ⟨_, rfl, _, rfl, _, _, rfl, rfl, _, rfl, a, ws, rfl, SqL.of hA2, fun r hr2 => ?_⟩
          refine ⟨_, rfl, _, _, rfl, rfl, by show 2 ≤ sizeLine; decide, fun l hl => ?_⟩
          have en : (n : Int) - 1 = ((n - 1 : Nat) : Int) := by omega
          have ec : cutV ws none (some ((n : Int) - 1)) = ws.take (n - 1) := by
            rw [en]
            unfold cutV
            rw [HT.sIx_none, HT.sIx_nat, List.drop_zero, Nat.sub_zero, Nat.min_eq_left (by omega)]
          have e4 := Same.upd (o := .lst (cutV ws none (some ((n : Int) - 1)))) hr2
          have e6 := e4.trans (Same.upd (o := .lst [.ref r, .int ((n : Int) - 1)]) hl)
          have hr6 : upd (upd H2 r (.lst (cutV ws none (some ((n : Int) - 1))))) l (.lst [.ref r, .int ((n : Int) - 1)]) r = some (.lst (cutV ws none (some ((n : Int) - 1)))) := Same.upd hl _ _ upd_same
          have lt : (xs.take (n - 1)).length = n - 1 := by rw [List.length_take]; omega
          refine q l (.ref r) (n - 1) _ (old (E2.trans (Same.off e4)) (hH2.same e4) hl) (by rw [← en]; exact upd_same) (.inr ⟨false, (xs.take (n - 1)).map numD, ?_, .inl ⟨xs.take (n - 1), rfl, by rw [lt]; omega, by rw [lt]; omega⟩⟩) (hH2.same e6) (E2.trans (Same.off e6))
          refine Dp.newL (by rw [off_out (nh hH2 hr2)]; exact hr6) ?_
          rw [ec]
          rw [ec] at e6
          refine dpAll_tp (n := 1) (sqT_off (hH2.same e6).lst1) (tp_map _) ?_
          rw [List.map_take]
          exact (e6.dpAll aX2).take (n - 1)
        · rw [decide_eq_false (by omega)]
          refine iteF ⟨_, rfl, _, rfl, h, cc, n, rfl, n1, by omega, hH2, fun pl H3 hpl hH3 e3 => ?_⟩
          have hA3 := keepO e3 na hA2
          have aX3 := dpAll_tp (n := 1) (fun _ _ => sqT_hand hH2 e3) (tp_map _) aX2
          refine ⟨_, rfl, p, rfl, _, rfl, _, rfl, a, ws, _, pl, rfl, rfl, hA3, ixN_nat (by omega), ?_⟩
          refine ⟨_, rfl, _, rfl, by show 2 ≤ sizeLine; decide, fun l hl => ?_⟩
          have E3 := E2.trans e3
          have E4 : Same (Off [h] H) (Off [h] (upd H3 a (.lst (ws.set pl (.int (wrongI p)))))) := offPut E3 ha
          have hH4 : HandAt (upd H3 a (.lst (ws.set pl (.int (wrongI p))))) h cc := hH3.put na nac
          have e5 := Same.upd (o := .lst [.ref a, .int (pl : Int)]) hl
          refine q l (.ref a) pl _ (old E4 hH4 hl) upd_same (.inr ⟨false, (xs.map numD).set pl (.int (wrongI p)), ?_, .inr ⟨hpl, by rw [List.getElem?_set]; simp [lx, hpl], fun i d hi hd => ?_⟩⟩) (hH4.same e5) (E4.trans (Same.off e5))
          · have na2 : a ∉ [h] := fun z => na (List.mem_singleton.mp z)
            refine Dp.newL (by rw [off_out na2]; exact Same.upd hl _ _ upd_same) ?_
            have tps : ∀ d ∈ (xs.map numD).set pl (.int (wrongI p)), Tp 1 d := fun d hd => by
              rcases List.mem_or_eq_of_mem_set hd with hd | rfl
              · exact tp_map _ d hd
              · exact Tp.int _
            refine dpAll_tp (n := 1) (sqT_off (hH4.same e5).lst1) tps (e5.dpAll (dpAll_tp (n := 1) (fun _ _ => sqT_lst hA3) tps (aX3.set pl (.int _))))
          · rw [List.getElem?_set_ne (by omega)] at hd
            obtain ⟨x, _, e⟩ := map_at hd
            exact ⟨x, e⟩
end
end K21
set_option maxRecDepth 100000
set_option maxHeartbeats 4000000
namespace K21
open PySem PySem.Spec PyProof.Rows L2
section
variable {P : Program} {w : World} {K : PySem.W.Frag} {mg : Str → Option Value} {base : Heap}
/-- beside h and a list in the making L: what a draw leaves -/
theorem LAt.draw {H0 H H' : Hp} {h L : Addr} {acc : List V} {ds : List PyData} (B : LAt K [h] H0 L acc ds H) (n : L ≠ h) (e : Same (Off [h] H) (Off [h] H')) : LAt K [h] H0 L acc ds H' := B.off e.offMore ((keepO e n B.at_).trans B.at_.symm)
theorem Same.swap {H0 H : Hp} {h L : Addr} (e : Same (Off [h] H0) (Off [L, h] H)) : Same (Off [h] H0) (Off [h] H) := e.trans Same.offLess
/-- rows of numbers in lists, hidden lists aside -/
theorem row_off {H : Hp} {M : List Addr} {p : Nat} {a : Addr} {ws : List V} {xs : List (Car p)} (hM : ∀ m ∈ M, ∃ l, H m = some (.lst l)) (na : a ∉ M) (hA : H a = some (.lst ws)) (aX : DpAll K H ws (xs.map numD)) : Dp K (Off M H) (.ref a) (rowD false xs) :=
  Dp.newL (by rw [off_out na]; exact hA) (dpAll_tp (n := 1) (sqT_off hM) (tp_map _) aX)
theorem lst2 {H : Hp} {h c L : Addr} {l : List V} (hH : HandAt H h c) (hL : H L = some (.lst l)) : ∀ m ∈ [L, h], ∃ l, H m = some (.lst l) := fun m hm => by
  rcases List.mem_cons.mp hm with rfl | hm
  · exact ⟨_, hL⟩
  · exact hH.lst1 m hm
def spProducts (K : PySem.W.Frag) : Sp := fun vs H Q _ => ∃ (h c : Addr) (p R C m : Nat), vs = [.ref h, .int (p : Int), .int (R : Int), .int (C : Int), .int (m : Int)] ∧ Pm p ∧ R ≤ 5 ∧ C ≤ 5 ∧ m ≤ 12 ∧ HandAt H h c ∧ ∀ (Pp : List (Pr (Car p))) v H', Pp.length = m → Pok Pp R C → PSz 2 Pp → Dp K (Off [h] H') v (.list (Pp.map prD)) → HandAt H' h c → Same (Off [h] H) (Off [h] H') → Q v H'
theorem H__law_products (T : Txt K mg) : Hs P w K mg base 5 "_law_products" ["_law_hand_here", "_law_p", "_law_rows", "_law_columns", "_law_many"] [] (spProducts K) := by
  obtain ⟨fd, F⟩ := F__law_products T
  refine ⟨_, fd, [], g__law_products T, F.kp, okN F sc__law_products (fun vs H Q E h => ?_) (fun cdv A outer s H vs Q E hr h => ?_), F.bindsN fun _ _ _ _ _ _ us hl => match us, hl with | [_, _, _, _, _], _ => rfl, .nil⟩
  · obtain ⟨h, cc, p, R, C, m, rfl, _⟩ := h
    rfl
  · obtain ⟨h, cc, p, R, C, m, rfl, hp, r5, c5, hm, hH, q⟩ := h
    refine ⟨_, (pss_cons (ps_set (i := 5) sc__law_products.nd rfl (Or.inl rfl) (pe_lst pa_nil))
      (pss_cons (ps_for PassesOwn.never rfl (pi_range1 rfl (n_range T) (pa_cons (pv 4) pa_nil)) (pg_name (i := 6) sc__law_products.nd rfl (Or.inl rfl))
        (pss_cons (ps_set (i := 7) sc__law_products.nd rfl (Or.inl rfl) (pe_callTy call_tuple_of rfl (n_tuple T) (by decide +kernel) (pa_cons (pe_callH (H__law_numbers T) (hr.mono (by decide)) passL (pa_cons (pv 0) (pa_cons (pv 1) (pa_cons (pv 2) pa_nil)))) pa_nil)))
          (pss_cons (ps_set (i := 8) sc__law_products.nd rfl (Or.inl rfl) (pe_callTy call_tuple_of rfl (n_tuple T) (by decide +kernel) (pa_cons (pe_callH (H__law_numbers T) (hr.mono (by decide)) passL (pa_cons (pv 0) (pa_cons (pv 1) (pa_cons (pv 3) pa_nil)))) pa_nil)))
          (pss_one (ps_expr (pe_bm PySem.F.plainAttrs_list PySem.F.slot_list_append PySem.F.type_list_append mt_append (pv 5) (pa_cons (pe_tup (pa_cons (pv 7) (pa_cons (pv 8) (pa_cons (pe_callH (H__law_number T) (hr.mono (by decide)) passL (pa_cons (pv 0) (pa_cons (pv 1) pa_nil))) (pa_cons (pe_callH (H__law_number T) (hr.mono (by decide)) passL (pa_cons (pv 0) (pa_cons (pv 1) pa_nil))) pa_nil))))) pa_nil)))))))
      (pss_one (ps_ret (pv 5))))), ?_⟩
    refine ⟨by show 0 ≤ sizeLine; exact Nat.zero_le _, fun L hL => ?_⟩
    obtain ⟨nL, nLc⟩ := hH.ne hL
    have nLm : L ∉ [h] := fun z => nL (List.mem_singleton.mp z)
    refine ⟨_, rfl, _, rfl, by omega, by omega, for_it (walk_range (n := m))
      (fun i σ H' => ∃ (Pp : List (Pr (Car p))) (acc : List V) (o6 o7 o8 : Option V), σ = [some (.ref h), some (.int (p : Int)), some (.int (R : Int)), some (.int (C : Int)), some (.int (m : Int)), some (.ref L), o6, o7, o8] ∧ Pp.length = i ∧ Pok Pp R C ∧ PSz 2 Pp ∧ LAt K [h] H L acc (Pp.map prD) H' ∧ HandAt H' h cc)
      ⟨[], [], none, none, none, rfl, rfl, fun q hq => (nomatch hq), fun q hq => (nomatch hq), LAt.new hL, hH.put nL nLc⟩ (fun i σ H' hi _ => trivial) (fun i x σ H1 H2 hi hP hY => ?_) (fun σ H' hP => ?_)⟩
    · obtain ⟨Pp, acc, o6, o7, o8, rfl, lP, ok, hz, B, hH1⟩ := hP
      obtain ⟨rfl, _⟩ := hY
      refine ⟨_, rfl, _, rfl, _, rfl, h, cc, p, R, rfl, hp, r5, hH1, fun us ua uw H3 lu zu hua hUA aU hH3 e3 => ?_⟩
      refine ⟨ua, uw, rfl, .inl ⟨SqL.of hUA, fun ut hut => ?_⟩⟩
      have B3 := (B.draw nL e3).same (Same.upd (o := .tup uw) hut)
      have hH4 := hH3.same (Same.upd (o := .tup uw) hut)
      have dU : Dp K (upd H3 ut (.tup uw)) (.ref ut) (rowD true us) := Dp.newT upd_same ((Same.upd hut).dpAll aU)
      refine ⟨_, rfl, _, rfl, _, rfl, h, cc, p, C, rfl, hp, c5, hH4, fun vs va vw H5 lv zv hva hVA aV hH5 e5 => ?_⟩
      refine ⟨va, vw, rfl, .inl ⟨SqL.of hVA, fun vt hvt => ?_⟩⟩
      have B5 := (B3.draw nL e5).same (Same.upd (o := .tup vw) hvt)
      have hH6 := hH5.same (Same.upd (o := .tup vw) hvt)
      have dU := (Same.upd (o := .tup vw) hvt).dp ((tp_row us).dp (fun _ _ => sqT_hand hH4 e5) dU)
      have dV : Dp K (upd H5 vt (.tup vw)) (.ref vt) (rowD true vs) := Dp.newT upd_same ((Same.upd hvt).dpAll aV)
      refine ⟨_, rfl, .inl ⟨rfl, acc, B5.sqL⟩, _, rfl, _, rfl, _, rfl, _, rfl, h, cc, p, rfl, hp, hH6, fun c v1 H7 zc d1 hH7 e7 => ?_⟩
      have B7 := B5.draw nL e7
      have dU := (tp_row us).dp (fun _ _ => sqT_hand hH6 e7) dU
      have dV := (tp_row vs).dp (fun _ _ => sqT_hand hH6 e7) dV
      refine ⟨_, rfl, _, rfl, h, cc, p, rfl, hp, hH7, fun d v2 H8 zd d2 hH8 e8 => ?_⟩
      have B8 := B7.draw nL e8
      have dU := (tp_row us).dp (fun _ _ => sqT_hand hH7 e8) dU
      have dV := (tp_row vs).dp (fun _ _ => sqT_hand hH7 e8) dV
      have d1 := num_hand hH7 e8 d1
      refine ⟨by show 4 ≤ sizeLine; exact Nat.le_of_lt (few (by decide)), fun t ht => ?_⟩
      have et := Same.upd (o := .tup [.ref ut, .ref vt, v1, v2]) ht
      have B9 := B8.same et
      have hH9 := hH8.same et
      have la := B9.len
      rw [List.length_map] at la
      refine ⟨L, acc, _, rfl, rfl, B9.at_, few (by omega), Pp ++ [⟨us, vs, c, d⟩], acc ++ [.ref t], _, _, _, rfl, by rw [List.length_append, lP]; rfl, fun q hq => ?_, fun q hq => ?_, ?_, hH9.put nL nLc⟩
      · rcases List.mem_append.mp hq with hq | hq
        · exact ok q hq
        · rw [List.mem_singleton.mp hq]
          exact ⟨lu, lv⟩
      · rcases List.mem_append.mp hq with hq | hq
        · exact hz q hq
        · rw [List.mem_singleton.mp hq]
          exact ⟨zu, zv, zc, zd⟩
      · rw [List.map_append]
        exact B9.push ((tp_pr _).off (lst2 hH9 B9.at_) (Dp.newT upd_same (.cons (et.dp dU) (.cons (et.dp dV) (.cons (et.dp d1) (.cons (et.dp d2) .nil))))))
    · obtain ⟨Pp, acc, o6, o7, o8, rfl, lP, ok, hz, B, hH1⟩ := hP
      exact ⟨_, rfl, q Pp _ _ lP ok hz (Dp.newL (by rw [off_out nLm]; exact B.at_) (Same.offLess.dpAll B.all)) hH1 (B.s.trans Same.offLess)⟩
/-- couples of taps and letters -/
def askD {p : Nat} (q : List (Car p) × List (Car p)) : PyData := .list [rowD false q.1, rowD false q.2]
def AskOk {p : Nat} (n : Nat) (q : List (Car p) × List (Car p)) : Prop := q.1.length = 2 ∧ q.2.length = n ∧ (∀ x ∈ q.1, Sz p 2 x) ∧ ∀ x ∈ q.2, Sz p 2 x
def spAsks (K : PySem.W.Frag) : Sp := fun vs H Q _ => ∃ (h c : Addr) (p n : Nat), vs = [.ref h, .int (p : Int), .int (n : Int)] ∧ Pm p ∧ n ≤ 5 ∧ HandAt H h c ∧ ∀ (As : List (List (Car p) × List (Car p))) v H', (∀ q ∈ As, AskOk n q) → Dp K (Off [h] H') v (.list (As.map askD)) → HandAt H' h c → Same (Off [h] H) (Off [h] H') → Q v H'
theorem H__law_asks (T : Txt K mg) : Hs P w K mg base 5 "_law_asks" ["_law_hand_here", "_law_p", "_law_many"] [] (spAsks K) := by
  obtain ⟨fd, F⟩ := F__law_asks T
  refine ⟨_, fd, [], g__law_asks T, F.kp, okN F sc__law_asks (fun vs H Q E h => ?_) (fun cdv A outer s H vs Q E hr h => ?_), F.bindsN fun _ _ _ _ _ _ us hl => match us, hl with | [_, _, _], _ => rfl, .nil⟩
  · obtain ⟨h, cc, p, n, rfl, _⟩ := h
    rfl
  · obtain ⟨h, cc, p, n, rfl, hp, n5, hH, q⟩ := h
    refine ⟨_, (pss_cons (ps_set (i := 3) sc__law_asks.nd rfl (Or.inl rfl) (pe_lst pa_nil))
      (pss_cons (ps_for PassesOwn.never rfl (pi_range1 rfl (n_range T) (pa_cons pe_int pa_nil)) (pg_name (i := 4) sc__law_asks.nd rfl (Or.inl rfl))
        (pss_one (ps_for PassesOwn.never rfl (pi_range1 rfl (n_range T) (pa_cons (pv 2) pa_nil)) (pg_name (i := 5) sc__law_asks.nd rfl (Or.inl rfl))
            (pss_one (ps_expr (pe_bm PySem.F.plainAttrs_list PySem.F.slot_list_append PySem.F.type_list_append mt_append (pv 3) (pa_cons (pe_lst (pa_cons (pe_callH (H__law_one_at T) (hr.mono (by decide)) passL (pa_cons (pv 1) (pa_cons pe_int (pa_cons (pv 4) pa_nil)))) (pa_cons (pe_callH (H__law_one_at T) (hr.mono (by decide)) passL (pa_cons (pv 1) (pa_cons (pv 2) (pa_cons (pv 5) pa_nil)))) pa_nil))) pa_nil)))))))
      (pss_cons (ps_for PassesOwn.never rfl (pi_range1 rfl (n_range T) (pa_cons pe_int pa_nil)) (pg_name (i := 6) sc__law_asks.nd rfl (Or.inl rfl))
        (pss_one (ps_expr (pe_bm PySem.F.plainAttrs_list PySem.F.slot_list_append PySem.F.type_list_append mt_append (pv 3) (pa_cons (pe_lst (pa_cons (pe_callH (H__law_numbers T) (hr.mono (by decide)) passL (pa_cons (pv 0) (pa_cons (pv 1) (pa_cons pe_int pa_nil)))) (pa_cons (pe_callH (H__law_numbers T) (hr.mono (by decide)) passL (pa_cons (pv 0) (pa_cons (pv 1) (pa_cons (pv 2) pa_nil)))) pa_nil))) pa_nil)))))
      (pss_one (ps_ret (pv 3)))))), ?_⟩
    refine ⟨by show 0 ≤ sizeLine; exact Nat.zero_le _, fun L hL => ?_⟩
    obtain ⟨nL, nLc⟩ := hH.ne hL
    have nLm : L ∉ [h] := fun z => nL (List.mem_singleton.mp z)
    -- a couple more
    have more : ∀ {H1 H2 H3 : Hp} {As : List (List (Car p) × List (Car p))} {acc : List V} {zs xs : List (Car p)} {za xa t : Addr} {zw xw : List V}, LAt K [h] H L acc (As.map askD) H1 → HandAt H1 h cc → (∀ q ∈ As, AskOk n q) → zs.length = 2 → (∀ x ∈ zs, Sz p 2 x) → xs.length = n → (∀ x ∈ xs, Sz p 2 x) →
        H1 za = none → H2 za = some (.lst zw) → DpAll K H2 zw (zs.map numD) → HandAt H2 h cc → Same (Off [h] H1) (Off [h] H2) → H2 xa = none → H3 xa = some (.lst xw) → DpAll K H3 xw (xs.map numD) → HandAt H3 h cc → Same (Off [h] H2) (Off [h] H3) → H3 t = none →
        LAt K [h] H L acc (As.map askD) (upd H3 t (.lst [.ref za, .ref xa])) ∧ HandAt (upd H3 t (.lst [.ref za, .ref xa])) h cc ∧ LAt K [h] H L (acc ++ [.ref t]) ((As ++ [(zs, xs)]).map askD) (upd (upd H3 t (.lst [.ref za, .ref xa])) L (.lst (acc ++ [.ref t]))) ∧ ∀ q ∈ As ++ [(zs, xs)], AskOk n q := by
      intro H1 H2 H3 As acc zs xs za xa t zw xw B hH1 hAs lz zz lx zx n1 hz aZ hH2 e2 n2 hx aX hH3 e3 ht
      have et := Same.upd (o := .lst [.ref za, .ref xa]) ht
      have B2 := B.draw nL e2
      have B3 := B2.draw nL e3
      have B4 := B3.same et
      have hH4 := hH3.same et
      have nza := (hH1.ne n1).1
      have nzaL : za ≠ L := fun e => by
        subst e
        rw [B.at_] at n1
        exact nomatch n1
      have nxa := (hH2.ne n2).1
      have nxaL : xa ≠ L := fun e => by
        subst e
        rw [B2.at_] at n2
        exact nomatch n2
      have mz : za ∉ [L, h] := fun z => by
        rcases List.mem_cons.mp z with z | z
        · exact nzaL z
        · exact nza (List.mem_singleton.mp z)
      have mx : xa ∉ [L, h] := fun z => by
        rcases List.mem_cons.mp z with z | z
        · exact nxaL z
        · exact nxa (List.mem_singleton.mp z)
      have mt : t ∉ [L, h] := fun z => by
        rcases List.mem_cons.mp z with z | z
        · subst z
          rw [B3.at_] at ht
          exact nomatch ht
        · exact (hH3.ne ht).1 (List.mem_singleton.mp z)
      refine ⟨B4, hH4, ?_, fun q hq => ?_⟩
      · rw [List.map_append]
        refine B4.push (Dp.newL (by rw [off_out mt, upd_same]) (.cons ?_ (.cons ?_ .nil)))
        · exact row_off (lst2 hH4 B4.at_) mz (et _ _ (keepO e3 nza hz)) (et.dpAll (dpAll_tp (n := 1) (fun _ _ => sqT_hand hH2 e3) (tp_map _) aZ))
        · exact row_off (lst2 hH4 B4.at_) mx (et _ _ hx) (et.dpAll aX)
      · rcases List.mem_append.mp hq with hq | hq
        · exact hAs q hq
        · rw [List.mem_singleton.mp hq]
          exact ⟨lz, lx, zz, zx⟩
    refine ⟨_, rfl, by decide, by decide, for_it (walk_range (n := 2))
      (fun i σ H' => ∃ (As : List (List (Car p) × List (Car p))) (acc : List V) (o4 o5 o6 : Option V), σ = [some (.ref h), some (.int (p : Int)), some (.int (n : Int)), some (.ref L), o4, o5, o6] ∧ As.length ≤ i * 5 ∧ (∀ q ∈ As, AskOk n q) ∧ LAt K [h] H L acc (As.map askD) H' ∧ HandAt H' h cc)
      ⟨[], [], none, none, none, rfl, Nat.le_refl _, fun q hq => (nomatch hq), LAt.new hL, hH.put nL nLc⟩ (fun i σ H' hi _ => trivial) (fun i x σ H1 H2 hi hP hY => ?_) (fun σ H' hP => ?_)⟩
    · obtain ⟨As, acc, o4, o5, o6, rfl, lA, hAs, B, hH1⟩ := hP
      obtain ⟨rfl, ex⟩ := hY
      obtain rfl : x = .int (i : Int) := by rw [ex]; exact rng0 i
      refine ⟨_, rfl, _, rfl, by omega, by omega, for_it (walk_range (n := n))
        (fun j σ H' => ∃ (As : List (List (Car p) × List (Car p))) (acc : List V) (o5 o6 : Option V), σ = [some (.ref h), some (.int (p : Int)), some (.int (n : Int)), some (.ref L), some (.int (i : Int)), o5, o6] ∧ As.length ≤ i * 5 + j ∧ (∀ q ∈ As, AskOk n q) ∧ LAt K [h] H L acc (As.map askD) H' ∧ HandAt H' h cc)
        ⟨As, acc, o5, o6, rfl, lA, hAs, B, hH1⟩ (fun i σ H' hi _ => trivial) (fun j x σ H3 H4 hj hP hY => ?_) (fun σ H' hP => ?_)⟩
      · obtain ⟨As, acc, o5, o6, rfl, lA, hAs, B, hH1⟩ := hP
        obtain ⟨rfl, ex⟩ := hY
        obtain rfl : x = .int (j : Int) := by rw [ex]; exact rng0 j
        refine ⟨_, rfl, .inl ⟨rfl, acc, B.sqL⟩, _, rfl, _, rfl, p, 2, i, rfl, hp, by decide, fun zs za zw H5 lz zz hza hZA aZ e5 => ?_⟩
        refine ⟨_, rfl, _, rfl, _, rfl, p, n, j, rfl, hp, n5, fun xs xa xw H6 lx zx hxa hXA aX e6 => ⟨by show 2 ≤ sizeLine; decide, fun t ht => ?_⟩⟩
        obtain ⟨B7, hH7, B8, hA8⟩ := more B hH1 hAs lz zz lx zx hza hZA aZ (hH1.same e5) (Same.off e5) hxa hXA aX (hH1.same (e5.trans e6)) (Same.off e6) ht
        have la := B7.len
        rw [List.length_map] at la
        exact ⟨L, acc, _, rfl, rfl, B7.at_, few (by omega), As ++ [(zs, xs)], acc ++ [.ref t], _, _, rfl, by rw [List.length_append]; show As.length + 1 ≤ _; omega, hA8, B8, hH7.put nL nLc⟩
      · obtain ⟨As, acc, o5, o6, rfl, lA, hAs, B, hH1⟩ := hP
        exact ⟨As, acc, _, _, _, rfl, by omega, hAs, B, hH1⟩
    · obtain ⟨As, acc, o4, o5, o6, rfl, lA, hAs, B, hH1⟩ := hP
      refine ⟨_, rfl, by decide, by decide, for_it (walk_range (n := 2))
        (fun i σ H' => ∃ (As : List (List (Car p) × List (Car p))) (acc : List V) (o4 o5 o6 : Option V), σ = [some (.ref h), some (.int (p : Int)), some (.int (n : Int)), some (.ref L), o4, o5, o6] ∧ As.length ≤ 10 + i ∧ (∀ q ∈ As, AskOk n q) ∧ LAt K [h] H L acc (As.map askD) H' ∧ HandAt H' h cc)
        ⟨As, acc, o4, o5, o6, rfl, lA, hAs, B, hH1⟩ (fun i σ H' hi _ => trivial) (fun i x σ H3 H4 hi hP hY => ?_) (fun σ H' hP => ?_)⟩
      · obtain ⟨As, acc, o4, o5, o6, rfl, lA, hAs, B, hH1⟩ := hP
        obtain ⟨rfl, _⟩ := hY
        refine ⟨_, rfl, .inl ⟨rfl, acc, B.sqL⟩, _, rfl, _, rfl, h, cc, p, 2, rfl, hp, by decide, hH1, fun zs za zw H5 lz zz hza hZA aZ hH5 e5 => ?_⟩
        refine ⟨_, rfl, _, rfl, _, rfl, h, cc, p, n, rfl, hp, n5, hH5, fun xs xa xw H6 lx zx hxa hXA aX hH6 e6 => ⟨by show 2 ≤ sizeLine; decide, fun t ht => ?_⟩⟩
        obtain ⟨B7, hH7, B8, hA8⟩ := more B hH1 hAs lz zz lx zx hza hZA aZ hH5 e5 hxa hXA aX hH6 e6 ht
        have la := B7.len
        rw [List.length_map] at la
        exact ⟨L, acc, _, rfl, rfl, B7.at_, few (by omega), As ++ [(zs, xs)], acc ++ [.ref t], _, _, _, rfl, by rw [List.length_append]; show As.length + 1 ≤ _; omega, hA8, B8, hH7.put nL nLc⟩
      · obtain ⟨As, acc, o4, o5, o6, rfl, lA, hAs, B, hH1⟩ := hP
        exact ⟨_, rfl, q As _ _ hAs (Dp.newL (by rw [off_out nLm]; exact B.at_) (Same.offLess.dpAll B.all)) hH1 (B.s.trans Same.offLess)⟩
end
end K21
set_option maxRecDepth 100000
set_option maxHeartbeats 4000000
namespace K21
open PySem PySem.Spec PyProof.Rows L2
/-! ## exceptions caught -/
/-- whatever the slots are -/
def WAll (n : Nat) (W : WX) : XK := fun cls d H => ∀ σ : L2.St, σ.length = n → W cls d σ H
theorem passAll {X : Cx} {W : WX} (tk : Takes X W) : Passes (L2.CX X.prog X.w) X (WAll X.N.length W) :=
  fun _ σ _ _ e s' I c => tk e s' (XE.of_call I (fun _ _ _ h => h σ I.len) c)
theorem passAllN (n : Nat) {X : Cx} (hn : X.N.length = n) {W : WX} (tk : Takes X W) : Passes (L2.CX X.prog X.w) X (WAll n W) := by
  subst hn
  exact passAll tk
/-- an instance that is called, its class with a __call__ -/
def tCallI (C : Addr) (sp : Sp) (E : XK) (tf : TE) (t : TA) : TE := fun σ H Q => tf σ H fun y H1 => ∃ a, y = V.ref a ∧ t σ H1 fun vs H2 => (∃ dx fs, H2 a = some (.ins C dx fs)) ∧ sp (V.ref a :: vs) H2 Q E
theorem pe_callI {X : Cx} {CX : CXT} {k : Nat} {C m : Addr} {sp : Sp} {E : XK} {fe e : Expr} {es : List Expr} {tf : TE} {t : TA} {pos : Pos} (hf : PE X fe tf) (c : StX.CallO X.K C m) (F : FnR X.prog X.w X.K X.mg X.base CX k m sp) (hr : Room k X.A) (hx : Passes CX X E) (ha : PA X (e :: es) t)
    (ht : eval (.Call fe (e :: es) [] pos) X.env = (do callWith pos (← eval fe X.env) [] (backTo pos (starEach (e :: es) X.env)) (backToKw pos (keywordEach [] X.env))) := by rfl)
    (he : starEach (e :: es) X.env = (false, eval e X.env) :: starEach es X.env := by rfl) (hpl : (backTo pos (starEach es X.env)).any (·.1) = false := by rfl) : PE X (.Call fe (e :: es) [] pos) (tCallI C sp E tf t) := by
  refine ⟨fun pins s σ H Q I h => Call_ (thn (hf.run pins s σ H _ I h) fun u s1 ⟨y, H1, I1, ry, a, ey, q⟩ => ?_) ht⟩
  subst ey
  cases ry
  refine StX.callO_with (thn (ha.run pos pins s1 σ H1 _ I1 q) fun us s2 ⟨vs, H2, I2, r, hi, q2⟩ => ?_) he hpl
  have hi2 : StX.InsC X H2 a C := .inr hi
  obtain ⟨ox, od, J, hd⟩ := StX.insC_at I2 hi2
  exact ⟨⟨C, ox, od, J, hd⟩, StX.run_callO c F hr hx I2 hi2 r q2⟩
/-- except A: .. / except B as n: .. -/
def wTwo (K : PySem.W.Frag) (c1 c2 : Value) (i : Nat) (t1 t2 : Addr → Value → Option Addr → TS) (Wout : WX) (D : Ends) : WX := fun cls d σ H =>
  ∃ b, PySem.W.exmOne K cls c1 = some b ∧ (b = true → ∀ a, H a = none → t1 a cls d D σ H) ∧ (b = false → wAs K c2 i t2 Wout D cls d σ H)
section
variable {X : Cx} {x1 x2 n : Str} {c1 c2 : Value} {i : Nat} {body su1 su2 : List Stmt} {b1 b2 : Stmt} {np1 np2 pos p1 p2 : Pos} {tb : WX → TS} {t1 t2 : Addr → Value → Option Addr → TS} {Wout : WX}
theorem ps_try_two (hst : X.stack = X.env :: X.outer) (hfr : X.env.frame = some X.env.locals) (hN : X.N.Nodup) (hi : X.N[i]? = some n) (hln : X.env.kindOf n = some .local) (hc1 : Names X x1 c1) (hc2 : Names X x2 c2) (tk : Takes X Wout)
    (hb : ∀ (W : WX) (pn : List (Addr × Obj)) (xe : Value → Shared → Prop), Takes (X.tr pn xe) W → PassesOwn (model X.prog X.w) X.A X.env xe → PSs (X.tr pn xe) body (tb W))
    (h1 : ∀ (a : Addr) (oe : Obj) (cls : Value) (d : Option Addr) (pn : List (Addr × Obj)), Zc cls d oe → (∃ vs, oe.data = .fields vs) → PSs (X.suite a ((a, oe) :: pn)) (b1 :: su1) (t1 a cls d))
    (h2 : ∀ (a : Addr) (oe : Obj) (cls : Value) (d : Option Addr) (pn : List (Addr × Obj)), Zc cls d oe → (∃ vs, oe.data = .fields vs) → PSs (X.suite a ((a, oe) :: pn)) (b2 :: su2) (t2 a cls d)) :
    PS X (.Try body [.ExceptHandler (some (.Name x1 np1)) none (b1 :: su1) p1, .ExceptHandler (some (.Name x2 np2)) (some n) (b2 :: su2) p2] [] [] pos) (fun D σ H => tb (wTwo X.K c1 c2 i t1 t2 Wout D) D σ H) := by
  refine ⟨fun pins s σ H D I hw => ?_⟩
  have okX := I.ok
  have frm : X.A.frames = some (X.env :: X.outer) := by rw [okX.frames, hst]
  have lcn : Loc X.env.scope n := .inl hln
  refine wpAny_Try_except ?_
  refine wpAny_mono ((hb (wTwo X.K c1 c2 i t1 t2 Wout D) (X.pn ++ pins) _ (fun u s' thrown => ?_) PassesOwn.looking).run [] s σ H D (I.toTry _) hw) (fun fl s1 went => ?_) (fun e s1 he => he)
  rotate_left
  · cases fl with
    | next => obtain ⟨σ', H', J, z⟩ := went; exact wpAny_execs_nil ⟨σ', H', J.ofTry okX, z⟩
    | brk => obtain ⟨σ', H', J, z⟩ := went; exact ⟨σ', H', J.ofTry okX, z⟩
    | cont => obtain ⟨σ', H', J, z⟩ := went; exact ⟨σ', H', J.ofTry okX, z⟩
    | ret u => obtain ⟨v, σ', H', J, r, z⟩ := went; exact ⟨v, σ', H', J.ofTry okX, r, z⟩
  · obtain ⟨ea, Bh, sI, pq, σt, Ht, cls, d, rfl, Jt, news, kept, sky0, nHt, ost, agt, k1, hk1, yes1, no1⟩ := thrown
    have Ji : Inv X pins σt Ht sI := Jt.ofTry okX
    have sky1 : Sky Bh (X.env :: X.outer) ea (Zc cls d) X.env.locals s'.heap := by rw [← hst]; exact sky0
    show wpAny (model X.prog X.w) X.A (noteFrame (.ref ea) X.env) _ _ _
    refine Sky.land Zc.steady frm hfr sky1 fun g fly up1 => ?_
    have Jg : Inv X pins σt Ht { s' with heap := g } := Ji.landed news fly.1 (kept.trans up1) ost agt
    obtain ⟨og, _, hog, hzg, hdg⟩ := fly.there
    have away : ea ∉ frs (X.env :: X.outer) := fun hm => by
      obtain ⟨_, o2, e2, q2⟩ := fly.2.2.1.mem hm
      rw [hog] at e2
      cases e2
      exact q2 _ hdg
    have notL : ea ≠ X.env.locals := fun z => away (List.mem_filterMap.mpr ⟨X.env, List.mem_cons_self, by rw [hfr, z]⟩)
    have notF : ea ∉ X.fs := fun hm => by
      obtain ⟨e, he, q⟩ := List.mem_filterMap.mp hm
      exact away (List.mem_filterMap.mpr ⟨e, List.mem_cons_of_mem _ he, q⟩)
    have Sg := Jg.suite hog hdg nHt notL notF
    have kindE : PySem.W.Looks (model X.prog X.w) g (typeOf (.ref ea)) cls := fun A Q E s k q => wpAny_typeOf_ref (k _ _ hog) (by rw [hzg.1]; exact q)
    have named : ∀ {x : Str} {c : Value} {np : Pos} {Q : Value → Shared → Prop} {E : Value → Shared → Prop}, Names X x c → Q c { s' with heap := g } → wpAny (model X.prog X.w) (X.A.mark (some (.ref ea))) (eval (.Name x np) X.env) Q E { s' with heap := g } := fun {x c np Q E} hc q => by
      obtain ⟨hg, hdb, hm | ⟨hm, hv, hnn⟩⟩ := hc
      · exact ld_glob (X := X.suite ea ((ea, og) :: (X.pn ++ pins))) Sg hg hm q hdb
      · exact ld_blt (X := X.suite ea ((ea, og) :: (X.pn ++ pins))) Sg hg hm hv q hnn hdb
    refine wpAny_handleBy_cons (codeAny_handlers_test ?_) (by intro q; cases q)
    refine named hc1 ((PySem.W.exm_one (M := model X.prog X.w) Jg.kIn kindE hk1).here ?_)
    cases k1 with
    | true =>
      refine codeAny_handlers_suite ?_
      refine HandSPX.lands_againZ fly fun g2 fly2 up2 => ?_
      obtain ⟨o2, _, ho2, hz2, hd2⟩ := fly2.there
      have J2 : Inv X pins σt Ht { s' with heap := g2 } := Ji.landed news fly2.1 ((kept.trans up1).trans up2) ost agt
      have S2 := J2.suite ho2 hd2 nHt notL notF
      refine wpAny_mono ((h1 ea o2 cls d (X.pn ++ pins) hz2 ⟨_, hd2⟩).run [] _ _ Ht _ S2 (yes1 rfl ea nHt)) (fun fl s6 went => ?_) (fun _ _ z => False.elim z)
      cases fl with
      | next => obtain ⟨σ', H', J, z⟩ := went; exact ⟨σ', H', J.unsuite okX, z⟩
      | brk => obtain ⟨σ', H', J, z⟩ := went; exact ⟨σ', H', J.unsuite okX, z⟩
      | cont => obtain ⟨σ', H', J, z⟩ := went; exact ⟨σ', H', J.unsuite okX, z⟩
      | ret u => obtain ⟨v, σ', H', J, r, z⟩ := went; exact ⟨v, σ', H', J.unsuite okX, r, z⟩
    | false =>
      obtain ⟨k2, hk2, yes2, no2⟩ := no1 rfl
      show wpAny _ X.A (handleBy (.ref ea) X.env [.ExceptHandler (some (.Name x2 np2)) (some n) (b2 :: su2) p2]) _ _ _
      refine wpAny_handleBy_cons (codeAny_handlers_test ?_) (by intro q; cases q)
      refine named hc2 ((PySem.W.exm_one (M := model X.prog X.w) Jg.kIn kindE hk2).here ?_)
      cases k2 with
      | true =>
        refine codeAny_handlers_suite_as ?_
        refine HandSPX.lands_againZ fly fun g2 fly2 up2 => ?_
        obtain ⟨o2, _, ho2, hz2, hd2⟩ := fly2.there
        have J2 : Inv X pins σt Ht { s' with heap := g2 } := Ji.landed news fly2.1 ((kept.trans up1).trans up2) ost agt
        have S2 := J2.suite ho2 hd2 nHt notL notF
        refine store_ok (X := X.suite ea ((ea, o2) :: (X.pn ++ pins))) (v := .ref ea) S2 hN hi lcn rfl (fun s5 S5 => ?_) (.inr hln)
        refine wpAny_mono ((h2 ea o2 cls d (X.pn ++ pins) hz2 ⟨_, hd2⟩).run [] s5 _ Ht _ S5 (yes2 rfl ea nHt)) (fun fl s6 went => ?_) (fun _ _ z => False.elim z)
        have over : ∀ {σ6 : L2.St} {H6 : Hp} {Z : Shared → Prop}, Inv (X.suite ea ((ea, o2) :: (X.pn ++ pins))) [] σ6 H6 s6 → (∀ s7, Inv X pins (σ6.set i none) H6 s7 → Z s7) →
            wpAny (model X.prog X.w) X.A (do bindName X.env n .none; unbindBehindTheSuite X.env n p2) (fun _ s7 => Z s7) X.xe s6 := fun S6 hq => gone_ok (S6.unsuite okX) hN hi hln hq
        cases fl with
        | next => obtain ⟨σ', H', J, z⟩ := went; exact over J fun s7 J7 => ⟨_, _, J7, z⟩
        | brk => obtain ⟨σ', H', J, z⟩ := went; exact over J fun s7 J7 => ⟨_, _, J7, z⟩
        | cont => obtain ⟨σ', H', J, z⟩ := went; exact over J fun s7 J7 => ⟨_, _, J7, z⟩
        | ret u => obtain ⟨v, σ', H', J, r, z⟩ := went; exact over J fun s7 J7 => ⟨_, _, _, J7, r, z⟩
      | false =>
        show wpAny _ X.A (handleBy (.ref ea) X.env []) _ _ _
        refine wpAny_handleBy_nil ?_
        obtain ⟨_, _, _, oe, vs, Tb, oT, ts', he, hz, hd, hT1, hr⟩ := id fly
        unfold PySem.passOn
        refine wpAny_bind (wpAny_field he hd hT1 ?_)
        rw [if_neg (show ¬ ((Value.ref Tb == Value.none) = true) from by simp)]
        have fin : wpAny (model X.prog X.w) X.A (setFlight (.ref ea) X.env.frame) (fun _ s4 => wpAny (model X.prog X.w) X.A (throw (.ref ea) : Sem Flow) (SP X pins D) X.xe s4) X.xe { s' with heap := g } := by
          rw [hfr]
          refine HandSPX.setFlight_upZ fly fun g4 held up4 => wpAny_throw (tk _ _ ?_)
          exact ⟨ea, Bh, sI, pins, σt, Ht, cls, d, rfl, Ji, news, (kept.trans up1).trans up4, .inr (.inr (by rw [hst]; exact held)), nHt, ost, agt, no2 rfl⟩
        first
          | exact wpAny_bind (wpAny_pure (wpAny_bind fin))
          | exact wpAny_bind fin
end
end K21
set_option maxRecDepth 100000
set_option maxHeartbeats 4000000
namespace K21
open PySem PySem.Spec PyProof.Rows L2
theorem pi_listK (K : PySem.W.Frag) {X : Cx} (hK : X.K = K) {tg l : Expr} {tl : TE} (hl : PE X l tl) : PI X tg l (iList K tl) := by
  subst hK
  exact pi_list hl
def scOf : Expr → Scope
  | .ListComp _ _ sc _ => sc
  | _ => defScope (.Pass ⟨0, 0, 0, 0⟩)
def argOf : Stmt → Expr
  | .Return (some (.Call _ (a :: _) _ _)) _ => a
  | _ => .Constant .none 0 ⟨0, 0, 0, 0⟩
section
variable {P : Program} {w : World} {K : PySem.W.Frag} {mg : Str → Option Value} {base : Heap}
/-! ## the law: exact equality -/
/-- ints in short tuples -/
def Tq : Nat → PyData → Prop
  | 0, d => ∃ i, d = .int i
  | n + 1, d => (∃ i, d = .int i) ∨ ∃ ds, d = .tuple ds ∧ ds.length ≤ 1000 ∧ ∀ e ∈ ds, Tq n e
theorem Tq.int {n : Nat} (i : Int) : Tq n (.int i) := by
  cases n with
  | zero => exact ⟨i, rfl⟩
  | succ n => exact .inl ⟨i, rfl⟩
theorem Tq.up : ∀ {n m : Nat} {d : PyData}, Tq n d → n ≤ m → Tq m d
  | 0, m, d, ⟨i, e⟩, _ => by rw [e]; exact Tq.int i
  | n + 1, m, d, .inl ⟨i, e⟩, _ => by rw [e]; exact Tq.int i
  | n + 1, m + 1, d, .inr ⟨ds, e, hl, h⟩, l => .inr ⟨ds, e, hl, fun x hx => Tq.up (h x hx) (Nat.le_of_succ_le_succ l)⟩
theorem tq_num : ∀ {p : Nat} (x : Car p), Tq 1 (numD x)
  | 0, x => .inr ⟨_, rfl, by show 2 ≤ 1000; decide, fun e he => by
    simp only [List.mem_cons, List.not_mem_nil, or_false] at he
    rcases he with he | he
    · exact ⟨_, he⟩
    · exact ⟨_, he⟩⟩
  | n + 1, x => Tq.int _
theorem tq_row {p : Nat} {xs : List (Car p)} (h : xs.length ≤ 1000) : Tq 2 (rowD true xs) := .inr ⟨_, rfl, by rw [List.length_map]; exact h, fun e he => by
  obtain ⟨x, _, rfl⟩ := List.mem_map.mp he
  exact tq_num x⟩
theorem tq_pr {p R C : Nat} {q : Pr (Car p)} (hu : q.u.length = R) (hv : q.v.length = C) (r5 : R ≤ 5) (c5 : C ≤ 5) : Tq 3 (prD q) := .inr ⟨_, rfl, by show 4 ≤ 1000; decide, fun e he => by
  simp only [List.mem_cons, List.not_mem_nil, or_false] at he
  rcases he with rfl | rfl | rfl | rfl
  · exact tq_row (by omega)
  · exact tq_row (by omega)
  · exact (tq_num _).up (by decide)
  · exact (tq_num _).up (by decide)⟩
theorem tq_ab {p R C : Nat} {q : Pr (Car p)} (hu : q.u.length = R) (hv : q.v.length = C) (r5 : R ≤ 5) (c5 : C ≤ 5) : Tq 3 (abD q) := .inr ⟨_, rfl, by show 3 ≤ 1000; decide, fun e he => by
  simp only [List.mem_cons, List.not_mem_nil, or_false] at he
  rcases he with rfl | rfl | rfl
  · refine .inr ⟨_, rfl, by show 2 ≤ 1000; decide, fun e he => ?_⟩
    simp only [List.mem_cons, List.not_mem_nil, or_false] at he
    rcases he with rfl | rfl
    · exact tq_num _
    · exact tq_num _
  · exact tq_row (by omega)
  · exact tq_row (by omega)⟩
theorem tq_map {α : Type} {f : α → PyData} {n : Nat} {xs : List α} (hl : xs.length ≤ 1000) (h : ∀ x ∈ xs, Tq n (f x)) : Tq (n + 1) (.tuple (xs.map f)) := .inr ⟨_, rfl, by rw [List.length_map]; exact hl, fun e he => by
  obtain ⟨x, hx, rfl⟩ := List.mem_map.mp he
  exact h x hx⟩
def spEx (K : PySem.W.Frag) (n : Nat) : Sp := fun vs H Q _ => ∃ (d : PyData) (v1 v2 : V), vs = [v1, v2] ∧ Tq n d ∧ Dp K H v1 d ∧ Dp K H v2 d ∧ ∀ H', Same H H' → Q (.bl true) H'
theorem H_exact (T : Txt K mg) : ∀ n : Nat, Hs P w K mg base (n + 1) "_law_exact" ["_law_told", "_law_due"] [] (spEx K n)
  | 0 => by
    obtain ⟨fd, F⟩ := F__law_exact T
    refine ⟨_, fd, [], g__law_exact T, F.kp, okN F sc__law_exact (fun vs H Q E h => ?_) (fun cdv A outer s H vs Q E hr h => ?_), F.bindsN fun _ _ _ _ _ _ us hl => match us, hl with | [_, _], _ => rfl, .nil⟩
    · obtain ⟨d, v1, v2, rfl, _⟩ := h
      rfl
    · obtain ⟨d, v1, v2, rfl, ⟨i, rfl⟩, d1, d2, q⟩ := h
      refine ⟨_, (pss_cons (ps_if (pt_val (pe_callB call_isi rfl (n_isinstance T) (by decide +kernel) (pa_cons (pv 1) (pa_cons (pe_bltn (v := .ty "tuple") rfl (n_tuple T) (by decide +kernel) rfl) pa_nil))))
        (pss_cons ps_never
          (pss_one ps_never))
        pss_nil)
      (pss_cons (ps_if (pt_cmp (pc_isN (pv 1)))
        (pss_one (ps_ret (pe_cmp (pc_isN (pv 0)))))
        pss_nil)
      (pss_one (ps_ret (pe_and (pe_callB call_isi rfl (n_isinstance T) (by decide +kernel) (pa_cons (pv 0) (pa_cons (pe_bltn (v := .ty "int") rfl (n_int T) (by decide +kernel) rfl) pa_nil))) (pe_and (pe_not (pe_callB call_isi rfl (n_isinstance T) (by decide +kernel) (pa_cons (pv 0) (pa_cons (pe_bltn (v := .ty "bool") rfl (n_bool T) (by decide +kernel) rfl) pa_nil)))) (pe_one (pe_cmp (pc_eqI (pv 0) (pv 1)))))))))), ?_⟩
      obtain rfl := d1.int_inv
      obtain rfl := d2.int_inv
      refine ⟨_, rfl, _, _, _, _, _, rfl, .ty _, .base (.int i), kit_ty (r := false) (by decide +kernel), _, rfl, iteF ?_⟩
      refine ⟨_, rfl, _, rfl, iteF ?_⟩
      refine ⟨_, rfl, _, _, _, _, _, rfl, .ty _, .base (.int i), kit_ty (r := true) (by decide +kernel), true, rfl, iteT ?_⟩
      refine ⟨_, rfl, _, _, _, _, _, rfl, .ty _, .base (.int i), kit_ty (r := false) (by decide +kernel), false, rfl, true, rfl, iteT ?_⟩
      refine ⟨_, rfl, _, rfl, i, i, rfl, rfl, ?_⟩
      show Q (.bl (decide (i = i))) H
      rw [decide_eq_true rfl]
      exact q _ (Same.refl _)
  | n + 1 => by
    have IH := H_exact T n
    obtain ⟨fd, F⟩ := F__law_exact T
    refine ⟨_, fd, [], g__law_exact T, F.kp, okN F sc__law_exact (fun vs H Q E h => ?_) (fun cdv A outer s H vs Q E hr h => ?_), F.bindsN fun _ _ _ _ _ _ us hl => match us, hl with | [_, _], _ => rfl, .nil⟩
    · obtain ⟨d, v1, v2, rfl, _⟩ := h
      rfl
    · obtain ⟨d, v1, v2, rfl, hT, d1, d2, q⟩ := h
      refine ⟨_, (pss_cons (ps_if (pt_val (pe_callB call_isi rfl (n_isinstance T) (by decide +kernel) (pa_cons (pv 1) (pa_cons (pe_bltn (v := .ty "tuple") rfl (n_tuple T) (by decide +kernel) rfl) pa_nil))))
        (pss_cons (ps_if (PW.pt (pw_or (pt_not (pt_val (pe_callB call_isi rfl (n_isinstance T) (by decide +kernel) (pa_cons (pv 0) (pa_cons (pe_bltn (v := .ty "tuple") rfl (n_tuple T) (by decide +kernel) rfl) pa_nil))))) (pw_or1 (pt_cmp (pc_neI (pe_callB call_len rfl (n_len T) PySem.boot_len (pa_cons (pv 0) pa_nil)) (pe_callB call_len rfl (n_len T) PySem.boot_len (pa_cons (pv 1) pa_nil)))))))
            (pss_one (ps_ret pe_bl))
            pss_nil)
          (pss_one (ps_ret (pe_cmpR (op_eqD hr.units) (pe_lc (own := [("_law_k", 2)]) rfl sc__law_exact.nd (pi_range1 rfl (n_range T) (pa_cons (pe_callB call_len rfl (n_len T) PySem.boot_len (pa_cons (pv 1) pa_nil)) pa_nil)) (blkOk_by (own := [("_law_k", 2)]) (N := N__law_exact) (sc := defScope s__law_exact) (by decide +kernel)) (fun _ _ _ _ _ => (pg_name (i := 2) sc__law_exact.nd rfl (Or.inl rfl))) (fun _ _ _ _ _ => pts_one (pt_not (pt_val (pe_callH IH hr passL (pa_cons (pe_ix (ix_tupK K rfl) (pv 0) (pv 2) (fun _ _ => rfl)) (pa_cons (pe_ix (ix_tupK K rfl) (pv 1) (pv 2) (fun _ _ => rfl)) pa_nil)))))) (fun _ _ _ _ _ => (pv 2))) (pe_lst pa_nil) (nomark _)))))
        pss_nil)
      (pss_cons (ps_if (pt_cmp (pc_isN (pv 1)))
        (pss_one (ps_ret (pe_cmp (pc_isN (pv 0)))))
        pss_nil)
      (pss_one (ps_ret (pe_and (pe_callB call_isi rfl (n_isinstance T) (by decide +kernel) (pa_cons (pv 0) (pa_cons (pe_bltn (v := .ty "int") rfl (n_int T) (by decide +kernel) rfl) pa_nil))) (pe_and (pe_not (pe_callB call_isi rfl (n_isinstance T) (by decide +kernel) (pa_cons (pv 0) (pa_cons (pe_bltn (v := .ty "bool") rfl (n_bool T) (by decide +kernel) rfl) pa_nil)))) (pe_one (pe_cmp (pc_eqI (pv 0) (pv 1)))))))))), ?_⟩
      rcases hT with ⟨i, rfl⟩ | ⟨ds, rfl, hl, ht⟩
      · obtain rfl := d1.int_inv
        obtain rfl := d2.int_inv
        refine ⟨_, rfl, _, _, _, _, _, rfl, .ty _, .base (.int i), kit_ty (r := false) (by decide +kernel), _, rfl, iteF ?_⟩
        refine ⟨_, rfl, _, rfl, iteF ?_⟩
        refine ⟨_, rfl, _, _, _, _, _, rfl, .ty _, .base (.int i), kit_ty (r := true) (by decide +kernel), true, rfl, iteT ?_⟩
        refine ⟨_, rfl, _, _, _, _, _, rfl, .ty _, .base (.int i), kit_ty (r := false) (by decide +kernel), false, rfl, true, rfl, iteT ?_⟩
        refine ⟨_, rfl, _, rfl, i, i, rfl, rfl, ?_⟩
        show Q (.bl (decide (i = i))) H
        rw [decide_eq_true rfl]
        exact q _ (Same.refl _)
      · obtain ⟨a, ws, rfl, s1, a1⟩ := d1.tup_inv
        obtain ⟨b, us, rfl, s2, a2⟩ := d2.tup_inv
        have l1 := a1.len
        have l2 := a2.len
        refine ⟨_, rfl, _, _, _, _, _, rfl, .ty _, tyT s2, kit_ty (r := true) (by decide +kernel), _, rfl, iteT ?_⟩
        refine ⟨_, rfl, _, _, _, _, _, rfl, .ty _, tyT s1, kit_ty (r := true) (by decide +kernel), _, rfl, iteF ?_⟩
        refine ⟨_, rfl, _, _, rfl, sqT_len s1, _, rfl, _, _, rfl, sqT_len s2, _, _, rfl, rfl, false, congrArg (fun z => V.bl (!z)) (decide_eq_true (by omega)), iteF ?_⟩
        refine ⟨_, rfl, _, _, rfl, sqT_len s2, _, rfl, by omega, by omega, fun D hD => ?_⟩
        refine lc_it (walk_range (n := us.length)) (fun i H' => Same H H' ∧ H' D = some (.lst [])) ⟨Same.upd hD, upd_same⟩ (fun i H' _ _ => trivial) (fun i v H2 H3 hi hP hY => ?_) (fun H2 hP => ?_)
        · obtain ⟨e, hD2⟩ := hP
          obtain ⟨rfl, ex⟩ := hY
          obtain rfl : v = .int (i : Int) := by rw [ex]; exact rng0 i
          obtain ⟨y, hy⟩ : ∃ y, us[i]? = some y := ⟨_, List.getElem?_eq_getElem hi⟩
          obtain ⟨dd, hdd, dy⟩ := a2.of hy
          obtain ⟨x, hx, dx⟩ := a1.get hdd
          refine ⟨rfl, _, rfl, _, rfl, _, _, _, _, rfl, rfl, Same.sqT e s1, atI_nat (j := i) hx, _, rfl, _, rfl, _, _, _, _, rfl, rfl, Same.sqT e s2, atI_nat (j := i) hy, dd, x, y, rfl, ht dd (List.mem_of_getElem? hdd), e.dp dx, e.dp dy, fun H4 e4 => ⟨_, rfl, iteF ⟨e.trans e4, e4 _ _ hD2⟩⟩⟩
        · obtain ⟨e, hD2⟩ := hP
          refine ⟨by show 0 ≤ sizeLine; exact Nat.zero_le _, fun l hl => ?_⟩
          refine ⟨.list [], .list [], Dp.newL ((Same.upd hl) _ _ hD2) .nil, Dp.newL upd_same .nil, by decide +kernel, by decide +kernel, ?_⟩
          have e1 : PyData.eqv (.list []) (.list []) = true := by decide +kernel
          rw [e1]
          exact q _ (e.trans (Same.upd hl))
end
end K21
set_option maxRecDepth 100000
set_option maxHeartbeats 4000000
namespace K21
open PySem PySem.Spec PyProof.Rows L2
section
variable {P : Program} {w : World} {K : PySem.W.Frag} {mg : Str → Option Value} {base : Heap}
theorem tab_table {p R C : Nat} (Pp : List (Pr (Car p))) (w : Pr (Car p) → Car p) : Tab (table Pp w R C) R C := by
  refine ⟨by unfold table; simp, fun r hr => ?_⟩
  unfold table at hr
  obtain ⟨i, _, rfl⟩ := List.mem_map.mp hr
  simp
/-- a row of a table of tuples -/
theorem tab_get {H : Hp} {p R C : Nat} {Pp : List (Pr (Car p))} {w : Pr (Car p) → Car p} {ws : List V} {i : Nat} (h : DpAll K H ws ((table Pp w R C).map (rowD true))) (hi : i < R) : ∃ b us, ws[i]? = some (.ref b) ∧ SqT K H b us ∧ DpAll K H us (((List.range C).map fun j => cell Pp w i j).map numD) := by
  have e : (table Pp w R C)[i]? = some ((List.range C).map fun j => cell Pp w i j) := by
    unfold table
    rw [List.getElem?_map, List.getElem?_range hi]
    rfl
  obtain ⟨v, hv, d⟩ := h.get (i := i) (d := rowD true ((List.range C).map fun j => cell Pp w i j)) (by rw [List.getElem?_map, e]; rfl)
  obtain ⟨b, us, rfl, s, a⟩ := Dp.tup_inv d
  exact ⟨b, us, hv, s, a⟩
theorem sz_cell2 {p R C : Nat} {Pp : List (Pr (Car p))} {w : Pr (Car p) → Car p} (ok : Pok Pp R C) (hl : Pp.length ≤ 12) (hz : PSz 2 Pp) (hw : w = (·.c) ∨ w = (·.d)) {i j : Nat} (hi : i < R) (hj : j < C) : Sz p 85 (cell Pp w i j) := by
  have := sz_cell (k := Pp.length) ok hl hz hw hi hj
  rw [List.take_length] at this
  exact this
theorem sz_mix {p R C : Nat} {Pp : List (Pr (Car p))} (ok : Pok Pp R C) (hl : Pp.length ≤ 12) (hz : PSz 2 Pp) {z0 z1 : Car p} (s0 : Sz p 2 z0) (s1 : Sz p 2 z1) {i j : Nat} (hi : i < R) (hj : j < C) : Sz p 175 (mixc Pp z0 z1 i j) :=
  Sz.add (n := 87) (m := 87) (Sz.mul (n := 2) (m := 85) s0 (sz_cell2 ok hl hz (.inl rfl) hi hj)) (Sz.mul (n := 2) (m := 85) s1 (sz_cell2 ok hl hz (.inr rfl) hi hj))
/-- the program's products, small -/
def PpOk {p : Nat} (Pp : List (Pr (Car p))) (R C : Nat) : Prop := Pok Pp R C ∧ Pp.length ≤ 12 ∧ PSz 2 Pp
def spAt (K : PySem.W.Frag) : Sp := fun vs H Q _ => ∃ (p R C : Nat) (Pp : List (Pr (Car p))) (z0 z1 : Car p) (v1 v2 w0 w1 : V), vs = [.int (p : Int), v1, v2, w0, w1] ∧ Pm p ∧ PpOk Pp R C ∧ 1 ≤ R ∧ R ≤ 5 ∧ C ≤ 5 ∧ Dp K H v1 (tabD (table Pp (·.c) R C)) ∧ Dp K H v2 (tabD (table Pp (·.d) R C)) ∧ Dp K H w0 (numD z0) ∧ Dp K H w1 (numD z1) ∧ Sz p 2 z0 ∧ Sz p 2 z1 ∧
  ∀ v' H', Same H H' → Dp K H' v' (.list ((mixT Pp R C z0 z1).map (rowD false))) → Q v' H'
theorem H__law_at (T : Txt K mg) : Hs P w K mg base 4 "_law_at" ["_law_p", "_law_first", "_law_second", "_law_one", "_law_other"] [] (spAt K) := by
  obtain ⟨fd, F⟩ := F__law_at T
  refine ⟨_, fd, [], g__law_at T, F.kp, okN F sc__law_at (fun vs H Q E h => ?_) (fun cdv A outer s H vs Q E hr h => ?_), F.bindsN fun _ _ _ _ _ _ us hl => match us, hl with | [_, _, _, _, _], _ => rfl, .nil⟩
  · obtain ⟨p, R, C, Pp, z0, z1, v1, v2, w0, w1, rfl, _⟩ := h
    rfl
  · obtain ⟨p, R, C, Pp, z0, z1, v1, v2, w0, w1, rfl, hp, hP, r1, r5, c5, d1, d2, dz0, dz1, s0, s1, q⟩ := h
    obtain ⟨ok, hl, hz⟩ := hP
    refine ⟨_, (pss_cons (ps_set (i := 5) sc__law_at.nd rfl (Or.inl rfl) (pe_lst pa_nil))
      (pss_cons (ps_for PassesOwn.never rfl (pi_range1 rfl (n_range T) (pa_cons (pe_callB call_len rfl (n_len T) PySem.boot_len (pa_cons (pv 1) pa_nil)) pa_nil)) (pg_name (i := 6) sc__law_at.nd rfl (Or.inl rfl))
        (pss_cons (ps_set (i := 7) sc__law_at.nd rfl (Or.inl rfl) (pe_lst pa_nil))
          (pss_cons (ps_for PassesOwn.never rfl (pi_range1 rfl (n_range T) (pa_cons (pe_callB call_len rfl (n_len T) PySem.boot_len (pa_cons (pe_ix ix_tup (pv 1) pe_int (fun _ _ => rfl)) pa_nil)) pa_nil)) (pg_name (i := 8) sc__law_at.nd rfl (Or.inl rfl))
            (pss_one (ps_expr (pe_bm PySem.F.plainAttrs_list PySem.F.slot_list_append PySem.F.type_list_append mt_append (pv 7) (pa_cons (pe_callH (H__law_plus T) (hr.mono (by decide)) passL (pa_cons (pv 0) (pa_cons (pe_callH (H__law_times T) (hr.mono (by decide)) passL (pa_cons (pv 0) (pa_cons (pv 3) (pa_cons (pe_ix ix_tup (pe_ix ix_tup (pv 1) (pv 6) (fun _ _ => rfl)) (pv 8) (fun _ _ => rfl)) pa_nil)))) (pa_cons (pe_callH (H__law_times T) (hr.mono (by decide)) passL (pa_cons (pv 0) (pa_cons (pv 4) (pa_cons (pe_ix ix_tup (pe_ix ix_tup (pv 2) (pv 6) (fun _ _ => rfl)) (pv 8) (fun _ _ => rfl)) pa_nil)))) pa_nil)))) pa_nil)))))
          (pss_one (ps_expr (pe_bm PySem.F.plainAttrs_list PySem.F.slot_list_append PySem.F.type_list_append mt_append (pv 5) (pa_cons (pv 7) pa_nil)))))))
      (pss_one (ps_ret (pv 5))))), ?_⟩
    obtain ⟨b1, ws1, rfl, S1, A1⟩ := Dp.tup_inv d1
    obtain ⟨b2, ws2, rfl, S2, A2⟩ := Dp.tup_inv d2
    have l1 : ws1.length = R := by rw [A1.len, List.length_map, (tab_table Pp _).1]
    refine ⟨by show 0 ≤ sizeLine; exact Nat.zero_le _, fun L hL => ?_⟩
    have e0 := Same.upd (o := .lst []) hL
    refine ⟨_, rfl, _, _, rfl, sqT_len (Same.sqT e0 S1), _, rfl, by omega, by omega, ?_⟩
    rw [l1]
    refine for_it (walk_range (n := R))
      (fun i σ H' => ∃ (acc : List V) (o6 o7 o8 : Option V), σ = [some (.int (p : Int)), some (.ref b1), some (.ref b2), some w0, some w1, some (.ref L), o6, o7, o8] ∧ LAt K [] H L acc (((List.range i).map fun a => (List.range C).map fun j => mixc Pp z0 z1 a j).map (rowD false)) H')
      ⟨[], none, none, none, rfl, LAt.new hL⟩ (fun i σ H' hi _ => trivial) (fun i x σ H1 H2 hi hP hY => ?_) (fun σ H' hP => ?_)
    · obtain ⟨acc, o6, o7, o8, rfl, B⟩ := hP
      obtain ⟨rfl, ex⟩ := hY
      obtain rfl : x = .int (i : Int) := by rw [ex]; exact rng0 i
      refine ⟨by show 0 ≤ sizeLine; exact Nat.zero_le _, fun r hr2 => ?_⟩
      have er := Same.upd (o := .lst []) hr2
      have EB := B.sq0.trans er
      obtain ⟨c0, us0, g0, S0, A0⟩ := tab_get A1 (i := 0) (by omega)
      have lus0 : us0.length = C := by rw [row_len A0]; simp
      refine ⟨_, rfl, _, _, _, _, rfl, rfl, Same.sqT EB S1, atI_nat (j := 0) g0, _, _, rfl, sqT_len (Same.sqT EB S0), _, rfl, by omega, by omega, ?_⟩
      rw [lus0]
      obtain ⟨ca, usa, ga, Sa, Aa⟩ := tab_get A1 (i := i) hi
      obtain ⟨cb, usb, gb, Sb, Ab⟩ := tab_get A2 (i := i) hi
      refine for_it (walk_range (n := C))
        (fun j σ H' => ∃ (acc2 : List V) (o8 : Option V), σ = [some (.int (p : Int)), some (.ref b1), some (.ref b2), some w0, some w1, some (.ref L), some (.int (i : Int)), some (.ref r), o8] ∧ LAt K [] H2 r acc2 (((List.range j).map fun j => mixc Pp z0 z1 i j).map numD) H')
        ⟨[], o8, rfl, LAt.new hr2⟩ (fun i σ H' hi _ => trivial) (fun j x σ H3 H4 hj hP hY => ?_) (fun σ H' hP => ?_)
      · obtain ⟨acc2, o8, rfl, B2⟩ := hP
        obtain ⟨rfl, ex⟩ := hY
        obtain rfl : x = .int (j : Int) := by rw [ex]; exact rng0 j
        have E := B.sq0.trans B2.sq0
        obtain ⟨x1, hx1, dx1⟩ := row_get Aa (i := j) (by simp; exact hj)
        obtain ⟨x2, hx2, dx2⟩ := row_get Ab (i := j) (by simp; exact hj)
        rw [getD_map_range _ _ hj] at dx1 dx2
        have sc1 := sz_cell2 ok hl hz (w := (·.c)) (.inl rfl) hi hj
        have sc2 := sz_cell2 ok hl hz (w := (·.d)) (.inr rfl) hi hj
        refine ⟨_, rfl, .inl ⟨rfl, acc2, B2.sqL⟩, _, rfl, _, rfl, _, rfl, _, rfl, _, rfl, _, _, _, _, rfl, rfl, Same.sqT E S1, atI_nat (j := i) ga, _, rfl, _, _, _, _, rfl, rfl, Same.sqT E Sa, atI_nat (j := j) hx1, p, z0, _, w0, x1, rfl, hp.2, E.dp dz0, E.dp dx1, s0.mono (by decide), sc1.mono (by decide), fun t1 H5 e5 d5 => ?_⟩
        have E5 := E.trans e5
        refine ⟨_, rfl, _, rfl, _, rfl, _, rfl, _, _, _, _, rfl, rfl, Same.sqT E5 S2, atI_nat (j := i) gb, _, rfl, _, _, _, _, rfl, rfl, Same.sqT E5 Sb, atI_nat (j := j) hx2, p, z1, _, w1, x2, rfl, hp.2, E5.dp dz1, E5.dp dx2, s1.mono (by decide), sc2.mono (by decide), fun t2 H6 e6 d6 => ?_⟩
        refine ⟨p, _, _, t1, t2, rfl, hp.2, e6.dp d5, d6, (Sz.mul (n := 2) (m := 85) s0 sc1).mono (by decide), (Sz.mul (n := 2) (m := 85) s1 sc2).mono (by decide), fun t3 H7 e7 d7 => ?_⟩
        have B3 := B2.same ((e5.trans e6).trans e7)
        have la := B3.len
        rw [List.length_map, List.length_map, List.length_range] at la
        refine ⟨r, acc2, _, rfl, rfl, B3.at_, few (by omega), acc2 ++ [t3], _, rfl, ?_⟩
        rw [List.range_succ, List.map_append, List.map_append]
        exact B3.push ((tp_num _).off B3.lst1 d7)
      · obtain ⟨acc2, o8, rfl, B2⟩ := hP
        have B3 := B.same B2.sq0
        have la := B3.len
        rw [List.length_map, List.length_map, List.length_range] at la
        refine ⟨_, rfl, .inl ⟨rfl, acc, B3.sqL⟩, _, rfl, L, acc, _, rfl, rfl, B3.at_, few (by omega), acc ++ [.ref r], _, _, _, rfl, ?_⟩
        rw [List.range_succ, List.map_append, List.map_append]
        have nr : r ∉ [L] := fun z => by
          rw [List.mem_singleton.mp z, B.at_] at hr2
          exact nomatch hr2
        exact B3.push (row_off B3.lst1 nr B2.at_ (Same.ofOff.dpAll B2.all))
    · obtain ⟨acc, o6, o7, o8, rfl, B⟩ := hP
      exact ⟨_, rfl, q _ _ B.sq0 (Dp.newL B.at_ (Same.ofOff.dpAll B.all))⟩
/-- the names of the outer comprehension -/
def scT : Scope := { kind := .function, names := [(".0", .local), ("_law_j", .cell), ("_law_dot", .globalImplicit), ("_law_both", .cell), ("_law_letters", .cell), ("_law_p", .cell)], isGenerator := false, isCoroutine := false }
def spLTurn (K : PySem.W.Frag) : Sp := fun vs H Q _ => ∃ (p R C : Nat) (Pp : List (Pr (Car p))) (z0 z1 : Car p) (xs : List (Car p)) (v1 v2 tv lv : V) (s : Str), vs = [.int (p : Int), v1, v2, .str s, tv, lv] ∧ Pm p ∧ PpOk Pp R C ∧ 1 ≤ R ∧ R ≤ 5 ∧ C ≤ 5 ∧ Dp K H v1 (tabD (table Pp (·.c) R C)) ∧ Dp K H v2 (tabD (table Pp (·.d) R C)) ∧ Dp K H tv (rowD false [z0, z1]) ∧ Dp K H lv (rowD false xs) ∧ Sz p 2 z0 ∧ Sz p 2 z1 ∧ (∀ x ∈ xs, Sz p 2 x) ∧
  ((s = "x" ∧ xs.length = C ∧ ∀ v' H', Same H H' → Dp K H' v' (rowD true (turnX Pp R z0 z1 xs)) → Q v' H') ∨ (s = "y" ∧ xs.length = R ∧ ∀ v' H', Same H H' → Dp K H' v' (rowD true (turnY Pp C z0 z1 xs)) → Q v' H'))
theorem H__law_turned (T : Txt K mg) : Hs P w K mg base 5 "_law_turned" ["_law_p", "_law_first", "_law_second", "_law_side_here", "_law_taps", "_law_letters"] [] (spLTurn K) := by
  obtain ⟨fd, F⟩ := F__law_turned T
  refine ⟨_, fd, [], g__law_turned T, F.kp, okN F sc__law_turned (fun vs H Q E h => ?_) (fun cdv A outer s H vs Q E hr h => ?_), F.bindsN fun _ _ _ _ _ _ us hl => match us, hl with | [_, _, _, _, _, _], _ => rfl, .nil⟩
  · obtain ⟨p, R, C, Pp, z0, z1, xs, v1, v2, tv, lv, s, rfl, _⟩ := h
    rfl
  · obtain ⟨p, R, C, Pp, z0, z1, xs, v1, v2, tv, lv, s, rfl, hp, hP, r1, r5, c5, d1, d2, dt, dl, s0, s1, zx, q⟩ := h
    refine ⟨_, (pss_cons (ps_set (i := 6) sc__law_turned.nd rfl (Or.inr rfl) (pe_callH (H__law_at T) (hr.mono (by decide)) passL (pa_cons (pv 0) (pa_cons (pv 1) (pa_cons (pv 2) (pa_cons (pe_ix ix_list (pv 4) pe_int (fun _ _ => rfl)) (pa_cons (pe_ix ix_list (pv 4) pe_int (fun _ _ => rfl)) pa_nil)))))))
      (pss_cons (ps_if (pt_cmpR op_eq (pv 3) pe_str (nomark _))
        (pss_one (ps_ret (pe_callTy call_tuple_of rfl (n_tuple T) (by decide +kernel) (pa_cons (pe_lc (own := [("_law_row", 8)]) rfl sc__law_turned.nd (pi_list (pv 6)) (blkOk_by (own := [("_law_row", 8)]) (N := N__law_turned) (sc := defScope s__law_turned) (by decide +kernel)) (fun _ _ _ _ _ => (pg_name (i := 8) sc__law_turned.nd rfl (Or.inl rfl))) (fun _ _ _ _ _ => pts_nil) (fun _ _ _ _ _ => (pe_callH (H__law_dot T) (hr.mono (by decide)) passL (pa_cons (pv 0) (pa_cons (pv 8) (pa_cons (pv 5) pa_nil)))))) pa_nil))))
        pss_nil)
      (pss_one (ps_ret (pe_callTy call_tuple_of rfl (n_tuple T) (by decide +kernel) (pa_cons (pe_lc (own := [("_law_j", 7)]) rfl sc__law_turned.nd (pi_range1 rfl (n_range T) (pa_cons (pe_callB call_len rfl (n_len T) PySem.boot_len (pa_cons (pe_ix ix_list (pv 6) pe_int (fun _ _ => rfl)) pa_nil)) pa_nil)) (blkOk_by (own := [("_law_j", 7)]) (N := N__law_turned) (sc := defScope s__law_turned) (by decide +kernel)) (fun _ _ _ _ _ => (pg_name (i := 7) sc__law_turned.nd rfl (Or.inr rfl))) (fun _ _ _ _ _ => pts_nil) (fun _ _ _ _ _ => (pe_callH (H__law_dot T) (hr.mono (by decide)) passL (pa_cons (pv 0) (pa_cons (pe_lc (own := [("_law_row", 8)]) rfl sc__law_turned.nd (pi_listK K rfl (pv 6)) (blkOk_by (own := [("_law_row", 8)]) (N := N__law_turned) (sc := scT) (by decide +kernel)) (fun _ _ _ _ _ => (pg_name (i := 8) sc__law_turned.nd rfl (Or.inl rfl))) (fun _ _ _ _ _ => pts_nil) (fun _ _ _ _ _ => (pe_ix (ix_listK K rfl) (pv 8) (pv 7) (fun _ _ => rfl)))) (pa_cons (pv 5) pa_nil)))))) pa_nil)))))), ?_⟩
    obtain ⟨ok, hl, hz⟩ := id hP
    obtain ⟨tb, tw, rfl, sT, aT⟩ := Dp.seq (k := false) dt
    obtain ⟨c0, hc0, dc0⟩ := row_get aT (i := 0) (by show 0 < 2; decide)
    obtain ⟨c1, hc1, dc1⟩ := row_get aT (i := 1) (by show 1 < 2; decide)
    refine ⟨_, rfl, _, rfl, _, rfl, _, rfl, _, _, _, _, rfl, rfl, sT, atI_nat (j := 0) hc0, _, rfl, _, _, _, _, rfl, rfl, sT, atI_nat (j := 1) hc1, p, R, C, Pp, z0, z1, v1, v2, c0, c1, rfl, hp, hP, r1, r5, c5, d1, d2, dc0, dc1, s0, s1, fun both H1 e1 db => ?_⟩
    obtain ⟨b, ws, rfl, sB, aB⟩ := Dp.seq (k := false) db
    have lw : ws.length = R := by rw [aB.len, List.length_map]; unfold mixT; simp
    have dl1 := e1.dp dl
    have rowi : ∀ {H' : Hp} {i : Nat}, Same H1 H' → i < R → ∃ rb rw, ws[i]? = some (.ref rb) ∧ SqL K H' rb rw ∧ DpAll K H' rw (((List.range C).map fun j => mixc Pp z0 z1 i j).map numD) := fun {H' i} e hi => by
      have e2 : (mixT Pp R C z0 z1)[i]? = some ((List.range C).map fun j => mixc Pp z0 z1 i j) := by
        unfold mixT
        rw [List.getElem?_map, List.getElem?_range hi]
        rfl
      obtain ⟨v, hv, d⟩ := aB.get (i := i) (d := rowD false ((List.range C).map fun j => mixc Pp z0 z1 i j)) (by rw [List.getElem?_map, e2]; rfl)
      obtain ⟨rb, rw_, rfl, s, a⟩ := Dp.seq (k := false) (e.dp d)
      exact ⟨rb, rw_, hv, s, a⟩
    rcases q with ⟨rfl, lx, q⟩ | ⟨rfl, lx, q⟩
    · refine ⟨_, rfl, rfl, _, rfl, iteT ⟨_, rfl, b, rfl, ⟨ws, sB⟩, fun D hD => ?_⟩⟩
      refine lc_it (walk_list (xs := ws)) (fun i H' => ∃ acc, LAt K [] H1 D acc (((List.range i).map fun i => dot ((List.range C).map fun j => mixc Pp z0 z1 i j) xs).map numD) H') ⟨[], LAt.new hD⟩ (fun i H' _ ⟨acc, B⟩ => Same.seq B.sq0 sB) (fun i v H2 H3 hi hPv hY => ?_) (fun H2 hPv => ?_)
      · obtain ⟨acc, B⟩ := hPv
        obtain ⟨rfl, ev⟩ := hY
        obtain ⟨rb, rw_, hrb, sr, ar⟩ := rowi B.sq0 (i := i) (by omega)
        have ev2 : some (.ref rb) = some v := hrb.symm.trans ev
        obtain rfl := Option.some.inj ev2
        refine ⟨rfl, _, rfl, _, rfl, _, rfl, p, (List.range C).map fun j => mixc Pp z0 z1 i j, xs, 175, 2, .ref rb, lv, rfl, hp.1, hp.2, .lst sr ar, B.sq0.dp dl1, by simp [lx], by simp; exact c5, fun y hy => ?_, zx, by decide, by decide, by decide, fun r H4 e4 d4 => ?_⟩
        · obtain ⟨j, hj, rfl⟩ := List.mem_map.mp hy
          exact sz_mix ok hl hz s0 s1 (by omega) (List.mem_range.mp hj)
        · have B4 := B.same e4
          have la := B4.len
          rw [List.length_map, List.length_map, List.length_range] at la
          refine ⟨acc, B4.at_, few (by omega), acc ++ [r], ?_⟩
          rw [List.range_succ, List.map_append, List.map_append]
          exact B4.push ((tp_num _).off B4.lst1 d4)
      · obtain ⟨acc, B⟩ := hPv
        refine ⟨D, acc, rfl, .inl ⟨B.sqL, fun l hl2 => q _ _ ((e1.trans B.sq0).trans (Same.upd hl2)) ?_⟩⟩
        have a3 := (Same.upd (o := .tup acc) hl2).dpAll ((Same.ofOff (M := [D]) (H := H2)).dpAll B.all)
        rw [lw, lawX ok z0 z1 lx] at a3
        exact Dp.newT upd_same a3
    · obtain ⟨rb0, rw0, hrb0, sr0, ar0⟩ := rowi (Same.refl H1) (i := 0) (by omega)
      have lr0 : rw0.length = C := by rw [row_len ar0]; simp
      refine ⟨_, rfl, rfl, _, rfl, iteF ⟨_, rfl, _, _, _, _, rfl, rfl, sB, atI_nat (j := 0) hrb0, _, _, rfl, sqL_len sr0, _, rfl, by omega, by omega, fun D hD => ?_⟩⟩
      rw [lr0]
      refine lc_it (walk_range (n := C)) (fun j H' => ∃ acc, LAt K [] H1 D acc (((List.range j).map fun j => dot ((List.range R).map fun i => mixc Pp z0 z1 i j) xs).map numD) H') ⟨[], LAt.new hD⟩ (fun i H' _ _ => trivial) (fun j v H2 H3 hj hPv hY => ?_) (fun H2 hPv => ?_)
      · obtain ⟨acc, B⟩ := hPv
        obtain ⟨rfl, ex⟩ := hY
        obtain rfl : v = .int (j : Int) := by rw [ex]; exact rng0 j
        refine ⟨rfl, _, rfl, _, rfl, b, rfl, ⟨ws, Same.seq B.sq0 sB⟩, fun D2 hD2 => ?_⟩
        refine lc_it (walk_list (xs := ws)) (fun i H' => ∃ acc2, LAt K [] H3 D2 acc2 (((List.range i).map fun i => mixc Pp z0 z1 i j).map numD) H') ⟨[], LAt.new hD2⟩ (fun i H' _ ⟨acc, B2⟩ => Same.seq (B.sq0.trans B2.sq0) sB) (fun i v H4 H5 hi hPv hY => ?_) (fun H4 hPv => ?_)
        · obtain ⟨acc2, B2⟩ := hPv
          obtain ⟨rfl, ev⟩ := hY
          obtain ⟨rb, rw_, hrb, sr, ar⟩ := rowi (B.sq0.trans B2.sq0) (i := i) (by omega)
          have ev2 : some (.ref rb) = some v := hrb.symm.trans ev
          obtain rfl := Option.some.inj ev2
          obtain ⟨y, hy, dy⟩ := row_get ar (i := j) (by simp; exact hj)
          rw [getD_map_range _ _ hj] at dy
          have la := B2.len
          rw [List.length_map, List.length_map, List.length_range] at la
          refine ⟨rfl, _, rfl, _, rfl, _, _, _, _, rfl, rfl, sr, atI_nat (j := j) hy, acc2, B2.at_, few (by omega), acc2 ++ [y], ?_⟩
          rw [List.range_succ, List.map_append, List.map_append]
          exact B2.push ((tp_num _).off B2.lst1 dy)
        · obtain ⟨acc2, B2⟩ := hPv
          have a4 := (Same.ofOff (M := [D2]) (H := H4)).dpAll B2.all
          rw [lw] at a4
          refine ⟨_, rfl, p, (List.range R).map fun i => mixc Pp z0 z1 i j, xs, 175, 2, .ref D2, lv, rfl, hp.1, hp.2, Dp.newL B2.at_ a4, (B.sq0.trans B2.sq0).dp dl1, by simp [lx], by simp; exact r5, fun y hy => ?_, zx, by decide, by decide, by decide, fun r H5 e5 d5 => ?_⟩
          · obtain ⟨i, hi, rfl⟩ := List.mem_map.mp hy
            exact sz_mix ok hl hz s0 s1 (List.mem_range.mp hi) hj
          · have B5 := (B.same B2.sq0).same e5
            have la := B5.len
            rw [List.length_map, List.length_map, List.length_range] at la
            refine ⟨acc, B5.at_, few (by omega), acc ++ [r], ?_⟩
            rw [List.range_succ, List.map_append, List.map_append]
            exact B5.push ((tp_num _).off B5.lst1 d5)
      · obtain ⟨acc, B⟩ := hPv
        refine ⟨D, acc, rfl, .inl ⟨B.sqL, fun l hl2 => q _ _ ((e1.trans B.sq0).trans (Same.upd hl2)) ?_⟩⟩
        have a3 := (Same.upd (o := .tup acc) hl2).dpAll ((Same.ofOff (M := [D]) (H := H2)).dpAll B.all)
        rw [lawY ok z0 z1 lx] at a3
        exact Dp.newT upd_same a3
end
end K21
set_option maxRecDepth 100000
set_option maxHeartbeats 4000000
namespace K21
open PySem PySem.Spec PyProof.Rows L2
section
variable {P : Program} {w : World} {K : PySem.W.Frag} {mg : Str → Option Value} {base : Heap}
/-! ## the law: refusals -/
def resD : Option (Str × Nat) → PyData
  | none => .none
  | some (s, j) => .tuple [.str s, .int (j : Int)]
/-- what a use answers: nothing, or the first place that is wrong -/
def Due (K : PySem.W.Frag) (H : Hp) (p n : Nat) (v1 v2 : V) (res : Option (Str × Nat)) : Prop :=
  (∃ (k1 k2 : Bool) (z0 z1 : Car p) (xs : List (Car p)), Dp K H v1 (rowD k1 [z0, z1]) ∧ Dp K H v2 (rowD k2 xs) ∧ xs.length = n ∧ Sz p 2 z0 ∧ Sz p 2 z1 ∧ (∀ x ∈ xs, Sz p 2 x) ∧ res = none) ∨
  (∃ j, Fault K H p 2 v1 j ∧ res = some (("taps" : Str), j)) ∨ (∃ (k1 : Bool) (zs : List (Car p)) (j : Nat), Dp K H v1 (rowD k1 zs) ∧ zs.length = 2 ∧ Fault K H p n v2 j ∧ res = some (("letters" : Str), j))
theorem FRc (T : Txt K mg) : FnR P w K mg base (L2.CX P w) 6 (He.ma K (He.ga K "About") "__call__") (spCall K) := by
  obtain ⟨fd, F, b⟩ := HM_About_call (P := P) (w := w) (base := base) T
  exact (F.raw b .nil).imp fun vs H Q E h => by
    rw [List.append_nil]
    exact h
def spLCall (K : PySem.W.Frag) : Sp := fun vs H Q _ => ∃ (a f : Addr) (p nl nr : Nat) (b : Str) (A : List (Pr (Car p))) (v1 v2 : V) (res : Option (Str × Nat)), vs = [.ref a, v1, v2] ∧ AboutAt K H a f p b nl nr A ∧ Pok A nl nr ∧ nl ≤ 5 ∧ 1 ≤ nr ∧ nr ≤ 5 ∧ A.length ≤ 12 ∧ PSz 2 A ∧ Due K H p nl v1 v2 res ∧ ∀ v' H', Same H H' → Dp K H' v' (resD res) → Q v' H'
theorem H__law_call (T : Txt K mg) : Hs P w K mg base 7 "_law_call" ["_law_about", "_law_taps", "_law_letters"] [] (spLCall K) := by
  obtain ⟨fd, F⟩ := F__law_call T
  have FR := FRc (P := P) (w := w) (base := base) T
  refine ⟨_, fd, [], g__law_call T, F.kp, okN F sc__law_call (fun vs H Q E h => ?_) (fun cdv A outer s H vs Q E hr h => ?_), F.bindsN fun _ _ _ _ _ _ us hl => match us, hl with | [_, _, _], _ => rfl, .nil⟩
  · obtain ⟨a, f, p, nl, nr, b, A, v1, v2, res, rfl, _⟩ := h
    rfl
  · obtain ⟨a, f, p, nl, nr, b, Pp, v1, v2, res, rfl, hA, ok, l5, r1, r5, hl, hz, hd, q⟩ := h
    refine ⟨_, (pss_cons (ps_try_as (i := 3) (Wout := fun _ _ _ _ => False) rfl rfl sc__law_call.nd rfl rfl ⟨rfl, by decide, Or.inl (g_BadLetters T)⟩ takes0
        (fun W pn xe tk _ => (pss_one (ps_expr (pe_callI (pv 0) (co_About T) FR (hr.mono (by decide)) (passAllN 4 rfl tk) (pa_cons (pv 1) (pa_cons (pv 2) pa_nil))))))
        (fun a oe cls d pn hz hf => (pss_one (ps_ret (pe_tup (pa_cons (pe_xf (xf_BadLetters T) (na_BadLetters_what T) hz hf (pv 3) rfl) (pa_cons (pe_xf (xf_BadLetters T) (na_BadLetters_index T) hz hf (pv 3) rfl) pa_nil)))))))
      (pss_one (ps_ret pe_non))), ?_⟩
    obtain ⟨dx, vp, hI, _, _⟩ := id hA
    rcases hd with ⟨k1, k2, z0, z1, xs, d1, d2, lx, s0, s1, zx, rfl⟩ | ⟨j, hf, rfl⟩ | ⟨k1, zs, j, d1, lz, hf, rfl⟩
    · refine ⟨_, rfl, a, rfl, _, rfl, _, rfl, ⟨dx, _, hI⟩, a, f, p, nl, nr, b, Pp, v1, v2, rfl, hA, ok, l5, r1, r5, hl, hz, .inl ⟨k1, k2, z0, z1, xs, d1, d2, lx, s0, s1, zx, fun v' H' e d => ?_⟩⟩
      exact q _ _ e .non
    · refine ⟨_, rfl, a, rfl, _, rfl, _, rfl, ⟨dx, _, hI⟩, a, f, p, nl, nr, b, Pp, v1, v2, rfl, hA, ok, l5, r1, r5, hl, hz, .inr (.inl ⟨j, hf, fun d H' e hx σ hσ => ⟨true, ex_BadLetters_BadLetters T, fun _ ea hea => ?_, fun z => nomatch z⟩⟩)⟩
      have sl : (σ.set 3 (some (.ref ea)))[3]? = some (some (.ref ea)) := List.getElem?_set_self (by omega)
      refine ⟨_, sl, rfl, rfl, d, _, _, rfl, hx, rfl, _, sl, rfl, rfl, d, _, _, rfl, hx, rfl, by show 2 ≤ sizeLine; decide, fun t ht => q _ _ (e.trans (Same.upd ht)) (Dp.newT upd_same (.cons (.str _) (.cons (.int _) .nil)))⟩
    · refine ⟨_, rfl, a, rfl, _, rfl, _, rfl, ⟨dx, _, hI⟩, a, f, p, nl, nr, b, Pp, v1, v2, rfl, hA, ok, l5, r1, r5, hl, hz, .inr (.inr ⟨k1, zs, j, d1, lz, hf, fun d H' e hx σ hσ => ⟨true, ex_BadLetters_BadLetters T, fun _ ea hea => ?_, fun z => nomatch z⟩⟩)⟩
      have sl : (σ.set 3 (some (.ref ea)))[3]? = some (some (.ref ea)) := List.getElem?_set_self (by omega)
      refine ⟨_, sl, rfl, rfl, d, _, _, rfl, hx, rfl, _, sl, rfl, rfl, d, _, _, rfl, hx, rfl, by show 2 ≤ sizeLine; decide, fun t ht => q _ _ (e.trans (Same.upd ht)) (Dp.newT upd_same (.cons (.str _) (.cons (.int _) .nil)))⟩
def spLPlain (K : PySem.W.Frag) : Sp := fun vs H Q _ => ∃ (a f : Addr) (p R C : Nat) (t1 t2 : List (List (Car p))) (by_ v1 v2 : V) (res : Option (Str × Nat)), vs = [.ref a, by_, v1, v2] ∧ PairAt K H a f p t1 t2 R C ∧ Tab t1 R C ∧ Tab t2 R C ∧ R ≤ 5 ∧ C ≤ 5 ∧ TSz 100 t1 ∧ TSz 100 t2 ∧
  ((Odd by_ ∧ res = some (("side" : Str), 0)) ∨ (by_ = .str "y" ∧ Due K H p R v1 v2 res) ∨ (by_ = .str "x" ∧ Due K H p C v1 v2 res)) ∧ ∀ v' H', Same H H' → Dp K H' v' (resD res) → Q v' H'
theorem H__law_plainly (T : Txt K mg) : Hs P w K mg base 7 "_law_plainly" ["_law_pair", "_law_side_here", "_law_taps", "_law_letters"] [] (spLPlain K) := by
  obtain ⟨fd, F⟩ := F__law_plainly T
  refine ⟨_, fd, [], g__law_plainly T, F.kp, okN F sc__law_plainly (fun vs H Q E h => ?_) (fun cdv A outer s H vs Q E hr h => ?_), F.bindsN fun _ _ _ _ _ _ us hl => match us, hl with | [_, _, _, _], _ => rfl, .nil⟩
  · obtain ⟨a, f, p, R, C, t1, t2, by_, v1, v2, res, rfl, _⟩ := h
    rfl
  · obtain ⟨a, f, p, R, C, t1, t2, by_, v1, v2, res, rfl, hA, T1, T2, r5, c5, z1, z2, h, q⟩ := h
    refine ⟨_, (pss_cons (ps_try_two (i := 4) (Wout := fun _ _ _ _ => False) rfl rfl sc__law_plainly.nd rfl rfl ⟨rfl, by decide, Or.inl (g_BadSide T)⟩ ⟨rfl, by decide, Or.inl (g_BadLetters T)⟩ takes0
        (fun W pn xe tk _ => (pss_one (ps_expr (pe_callH (H_about_plain T) (hr.mono (by decide)) (passAllN 5 rfl tk) (pa_cons (pv 0) (pa_cons (pv 1) (pa_cons (pv 2) (pa_cons (pv 3) pa_nil))))))))
        (fun a oe cls d pn hz hf => (pss_one (ps_ret (pe_tup (pa_cons pe_str (pa_cons pe_int pa_nil))))))
        (fun a oe cls d pn hz hf => (pss_one (ps_ret (pe_tup (pa_cons (pe_xf (xf_BadLetters T) (na_BadLetters_what T) hz hf (pv 4) rfl) (pa_cons (pe_xf (xf_BadLetters T) (na_BadLetters_index T) hz hf (pv 4) rfl) pa_nil)))))))
      (pss_one (ps_ret pe_non))), ?_⟩
    refine ⟨_, rfl, _, rfl, _, rfl, _, rfl, a, f, p, R, C, t1, t2, by_, v1, v2, rfl, hA, T1, T2, r5, c5, z1, z2, ?_⟩
    -- what the second clause makes of it
    have told : ∀ (what : Str) (j : Nat) (d : Addr) (H' : Hp), Same H H' → H' d = some (.xd [("index", .int (j : Int)), ("what", .str what)]) → res = some (what, j) → ∀ t, H' t = none → Q (.ref t) (upd H' t (.tup [.str what, .int (j : Int)])) := fun what j d H' e hx hres t ht => by
      subst hres
      exact q _ _ (e.trans (Same.upd ht)) (Dp.newT upd_same (.cons (.str _) (.cons (.int _) .nil)))
    rcases h with ⟨ho, rfl⟩ | ⟨rfl, hd⟩ | ⟨rfl, hd⟩
    · refine .inr ⟨ho, fun H' e σ hσ => ⟨true, ex_BadSide_BadSide T, fun _ ea hea => ⟨by show 2 ≤ sizeLine; decide, fun t ht => ?_⟩, fun z => nomatch z⟩⟩
      exact q _ _ (e.trans (Same.upd ht)) (Dp.newT upd_same (.cons (.str _) (.cons (.int _) .nil)))
    · refine .inl ⟨R, C, colOf, .inl ⟨rfl, rfl, rfl, rfl⟩, ?_⟩
      rcases hd with ⟨k1, k2, w0, w1, xs, d1, d2, lx, s0, s1, zx, rfl⟩ | ⟨j, hf, hres⟩ | ⟨k1, zs, j, d1, lz, hf, hres⟩
      · exact .inl ⟨k1, k2, w0, w1, xs, d1, d2, lx, s0, s1, zx, fun v' H' e d => q _ _ e .non⟩
      · refine .inr (.inl ⟨j, hf, fun d H' e hx σ hσ => ⟨false, ex_BadLetters_BadSide T, fun z => (nomatch z), fun _ => ⟨true, ex_BadLetters_BadLetters T, fun _ ea hea => ?_, fun z => nomatch z⟩⟩⟩)
        have sl : (σ.set 4 (some (.ref ea)))[4]? = some (some (.ref ea)) := List.getElem?_set_self (by omega)
        exact ⟨_, sl, rfl, rfl, d, _, _, rfl, hx, rfl, _, sl, rfl, rfl, d, _, _, rfl, hx, rfl, by show 2 ≤ sizeLine; decide, fun t ht => told _ j d H' e hx hres t ht⟩
      · refine .inr (.inr ⟨k1, zs, j, d1, lz, hf, fun d H' e hx σ hσ => ⟨false, ex_BadLetters_BadSide T, fun z => (nomatch z), fun _ => ⟨true, ex_BadLetters_BadLetters T, fun _ ea hea => ?_, fun z => nomatch z⟩⟩⟩)
        have sl : (σ.set 4 (some (.ref ea)))[4]? = some (some (.ref ea)) := List.getElem?_set_self (by omega)
        exact ⟨_, sl, rfl, rfl, d, _, _, rfl, hx, rfl, _, sl, rfl, rfl, d, _, _, rfl, hx, rfl, by show 2 ≤ sizeLine; decide, fun t ht => told _ j d H' e hx hres t ht⟩
    · refine .inl ⟨C, R, rowOf, .inr ⟨rfl, rfl, rfl, rfl⟩, ?_⟩
      rcases hd with ⟨k1, k2, w0, w1, xs, d1, d2, lx, s0, s1, zx, rfl⟩ | ⟨j, hf, hres⟩ | ⟨k1, zs, j, d1, lz, hf, hres⟩
      · exact .inl ⟨k1, k2, w0, w1, xs, d1, d2, lx, s0, s1, zx, fun v' H' e d => q _ _ e .non⟩
      · refine .inr (.inl ⟨j, hf, fun d H' e hx σ hσ => ⟨false, ex_BadLetters_BadSide T, fun z => (nomatch z), fun _ => ⟨true, ex_BadLetters_BadLetters T, fun _ ea hea => ?_, fun z => nomatch z⟩⟩⟩)
        have sl : (σ.set 4 (some (.ref ea)))[4]? = some (some (.ref ea)) := List.getElem?_set_self (by omega)
        exact ⟨_, sl, rfl, rfl, d, _, _, rfl, hx, rfl, _, sl, rfl, rfl, d, _, _, rfl, hx, rfl, by show 2 ≤ sizeLine; decide, fun t ht => told _ j d H' e hx hres t ht⟩
      · refine .inr (.inr ⟨k1, zs, j, d1, lz, hf, fun d H' e hx σ hσ => ⟨false, ex_BadLetters_BadSide T, fun z => (nomatch z), fun _ => ⟨true, ex_BadLetters_BadLetters T, fun _ ea hea => ?_, fun z => nomatch z⟩⟩⟩)
        have sl : (σ.set 4 (some (.ref ea)))[4]? = some (some (.ref ea)) := List.getElem?_set_self (by omega)
        exact ⟨_, sl, rfl, rfl, d, _, _, rfl, hx, rfl, _, sl, rfl, rfl, d, _, _, rfl, hx, rfl, by show 2 ≤ sizeLine; decide, fun t ht => told _ j d H' e hx hres t ht⟩
def spSided (K : PySem.W.Frag) : Sp := fun vs H Q _ => ∃ (a f : Addr) (p R C : Nat) (Pp : List (Pr (Car p))) (v : V), vs = [.ref a, v] ∧ ProgAt K H a f p R C Pp ∧ Pp.length ≤ 30 ∧ Odd v ∧ ∀ v' H', Same H H' → Dp K H' v' (resD (some (("side" : Str), 0))) → Q v' H'
theorem H__law_sided (T : Txt K mg) : Hs P w K mg base 5 "_law_sided" ["_law_program", "_law_side_here"] [] (spSided K) := by
  obtain ⟨fd, F⟩ := F__law_sided T
  obtain ⟨fdT, TF, _, TK, gT, TB⟩ := FT (P := P) (w := w) (base := base) T
  refine ⟨_, fd, [], g__law_sided T, F.kp, okN F sc__law_sided (fun vs H Q E h => ?_) (fun cdv A outer s H vs Q E hr h => ?_), F.bindsN fun _ _ _ _ _ _ us hl => match us, hl with | [_, _], _ => rfl, .nil⟩
  · obtain ⟨a, f, p, R, C, Pp, v, rfl, _⟩ := h
    rfl
  · obtain ⟨a, f, p, R, C, Pp, v, rfl, hA, hl, ho, q⟩ := h
    refine ⟨_, (pss_cons (ps_try_only (Wout := fun _ _ _ _ => False) rfl rfl ⟨rfl, by decide, Or.inl (g_BadSide T)⟩ takes0
        (fun W pn xe tk _ => (pss_one (ps_expr (pe_callN TF (hr.mono (by decide)) rfl (g_turned_about T) TK TB (passAllN 2 rfl tk) (pa_cons (pv 0) pa_nil) (pk_cons (pv 1) pk_nil)))))
        (fun a oe cls d pn hz hf => (pss_one (ps_ret (pe_tup (pa_cons pe_str (pa_cons pe_int pa_nil)))))))
      (pss_one (ps_ret pe_non))), ?_⟩
    refine ⟨_, rfl, _, rfl, rfl, rfl, a, f, p, R, C, Pp, v, rfl, hA, hl, .inr (.inr ⟨ho, fun H' e σ hσ => ⟨true, ex_BadSide_BadSide T, fun _ ea hea => ⟨by show 2 ≤ sizeLine; decide, fun t ht => ?_⟩, fun z => nomatch z⟩⟩)⟩
    exact q _ _ (e.trans (Same.upd ht)) (Dp.newT upd_same (.cons (.str _) (.cons (.int _) .nil)))
end
end K21
set_option maxRecDepth 100000
set_option maxHeartbeats 4000000
namespace K21
open PySem PySem.Spec PyProof.Rows L2
section
variable {P : Program} {w : World} {K : PySem.W.Frag} {mg : Str → Option Value} {base : Heap}
/-! ## the law: a side -/
section
variable {H : Hp} {h c : Addr}
theorem ins_off {a C dx : Addr} {fs : List (Str × V)} (hH : HandAt H h c) (hA : H a = some (.ins C dx fs)) : Off [h] H a = some (.ins C dx fs) := by
  rw [off_out]
  · exact hA
  · intro z
    obtain ⟨l, hl⟩ := hH.lst
    rw [List.mem_singleton.mp z, hl] at hA
    exact nomatch hA
theorem FigAt.off {a : Addr} {p : Nat} (hH : HandAt H h c) (q : FigAt K H a p) : FigAt K (Off [h] H) a p := by
  obtain ⟨hp, dx, vz, vo, h1, h2, h3⟩ := q
  exact ⟨hp, dx, vz, vo, ins_off hH h1, (tp_num _).off hH.lst1 h2, (tp_num _).off hH.lst1 h3⟩
theorem AboutAt.off {a f : Addr} {p nl nr : Nat} {b : Str} {A : List (Pr (Car p))} (hH : HandAt H h c) (q : AboutAt K H a f p b nl nr A) : AboutAt K (Off [h] H) a f p b nl nr A := by
  obtain ⟨dx, v, h1, h2, h3⟩ := q
  exact ⟨dx, v, ins_off hH h1, h2.off hH, (tp_abs A).off hH.lst1 h3⟩
theorem ProgAt.off {a f : Addr} {p R C : Nat} {Pp : List (Pr (Car p))} (hH : HandAt H h c) (q : ProgAt K H a f p R C Pp) : ProgAt K (Off [h] H) a f p R C Pp := by
  obtain ⟨dx, v, h1, h2, h3⟩ := q
  exact ⟨dx, v, ins_off hH h1, h2.off hH, (tp_prs Pp).off hH.lst1 h3⟩
theorem PairAt.off {a f : Addr} {p R C : Nat} {t1 t2 : List (List (Car p))} (hH : HandAt H h c) (q : PairAt K H a f p t1 t2 R C) : PairAt K (Off [h] H) a f p t1 t2 R C := by
  obtain ⟨dx, v1, v2, h1, h2, h3, h4⟩ := q
  exact ⟨dx, v1, v2, ins_off hH h1, h2.off hH, (tp_tab t1).off hH.lst1 h3, (tp_tab t2).off hH.lst1 h4⟩
theorem row_hand {p : Nat} {H' : Hp} {v : V} {xs : List (Car p)} (hH : HandAt H h c) (e : Same (Off [h] H) (Off [h] H')) (d : Dp K H v (rowD true xs)) : Dp K H' v (rowD true xs) := (tp_row xs).dp (fun _ _ => sqT_hand hH e) d
end
theorem turn_flip {p R : Nat} {Pp : List (Pr (Car p))} {z0 z1 : Car p} {ys : List (Car p)} : turnY (Pp.map flipP) R z0 z1 ys = turnX Pp R z0 z1 ys := by
  unfold turnY turnX
  refine List.map_congr_left fun j _ => ?_
  rw [S_map]
  rfl
theorem plain_y {p R C : Nat} {Pp : List (Pr (Car p))} (ok : Pok Pp R C) {z0 z1 : Car p} {xs : List (Car p)} (hx : xs.length = R) : plainT C colOf (table Pp (·.c) R C) (table Pp (·.d) R C) z0 z1 xs = turnY Pp C z0 z1 xs := by
  rw [← plainY ok z0 z1 hx]
  unfold plainT
  refine List.map_congr_left fun j hj => ?_
  have e : ∀ w : Pr (Car p) → Car p, colOf (table Pp w R C) j = (List.range R).map fun i => cell Pp w i j := fun w => by
    unfold colOf table
    rw [List.map_map]
    refine List.map_congr_left fun i _ => ?_
    exact getD_map_range _ _ (List.mem_range.mp hj)
  rw [e, e]
theorem plain_x {p R C : Nat} {Pp : List (Pr (Car p))} (ok : Pok Pp R C) {z0 z1 : Car p} {xs : List (Car p)} (hx : xs.length = C) : plainT R rowOf (table Pp (·.c) R C) (table Pp (·.d) R C) z0 z1 xs = turnX Pp R z0 z1 xs := by
  rw [← plainX ok z0 z1 hx]
  unfold plainT
  refine List.map_congr_left fun i hi => ?_
  have e : ∀ w : Pr (Car p) → Car p, rowOf (table Pp w R C) i = (List.range C).map fun j => cell Pp w i j := fun w => by
    unfold rowOf table
    exact getD_map_range _ _ (List.mem_range.mp hi)
  rw [e, e]
theorem tsz_table {p R C : Nat} {Pp : List (Pr (Car p))} {w : Pr (Car p) → Car p} (ok : Pok Pp R C) (hl : Pp.length ≤ 12) (hz : PSz 2 Pp) (hw : w = (·.c) ∨ w = (·.d)) : TSz 100 (table Pp w R C) := fun r hr x hx => by
  unfold table at hr
  obtain ⟨i, hi, rfl⟩ := List.mem_map.mp hr
  obtain ⟨j, hj, rfl⟩ := List.mem_map.mp hx
  exact (sz_cell2 ok hl hz hw (List.mem_range.mp hi) (List.mem_range.mp hj)).mono (by decide)
theorem flip_ok {p R C : Nat} {Pp : List (Pr (Car p))} (h : PpOk Pp R C) : PpOk (Pp.map flipP) C R := by
  obtain ⟨h1, h2, h3⟩ := h
  refine ⟨fun q hq => ?_, by rw [List.length_map]; exact h2, fun q hq => ?_⟩
  · obtain ⟨x, hx, rfl⟩ := List.mem_map.mp hq
    exact ⟨(h1 x hx).2, (h1 x hx).1⟩
  · obtain ⟨x, hx, rfl⟩ := List.mem_map.mp hq
    obtain ⟨a, b, c, d⟩ := h3 x hx
    exact ⟨b, a, c, d⟩
theorem ne_list {p : Nat} {zs : List (Car p)} (h : zs.length = 2) : ∃ z0 z1, zs = [z0, z1] := match zs, h with
  | [a, b], _ => ⟨a, b, rfl⟩
theorem H_turned_about (T : Txt K mg) : Hs P w K mg base 4 "turned_about" ["program", "by"] [.str "y"] (spTurn K) := by
  obtain ⟨fdT, TF, ⟨ds, r, b⟩, TK, _⟩ := FT (P := P) (w := w) (base := base) T
  exact ⟨_, fdT, ds, g_turned_about T, TK, TF, b, r⟩
def spSide2 (K : PySem.W.Frag) : Sp := fun vs H Q _ => ∃ (h c a f b g : Addr) (p R C : Nat) (Pp : List (Pr (Car p))) (s : Str), vs = [.ref h, .int (p : Int), .ref a, .ref b, .str s] ∧ Pm p ∧ HandAt H h c ∧ ProgAt K (Off [h] H) a f p R C Pp ∧ PairAt K (Off [h] H) b g p (table Pp (·.c) R C) (table Pp (·.d) R C) R C ∧ PpOk Pp R C ∧ Sides p R C ∧ (s = "y" ∨ s = "x") ∧
  ∀ H', HandAt H' h c → Same (Off [h] H) (Off [h] H') → Q (.bl true) H'
theorem H__law_side (T : Txt K mg) : Hs P w K mg base 9 "_law_side" ["_law_hand_here", "_law_p", "_law_program", "_law_pair", "_law_side_here"] [] (spSide2 K) := by
  obtain ⟨fd, F⟩ := F__law_side T
  obtain ⟨fdT, TF, _, TK, gT, TB⟩ := FT (P := P) (w := w) (base := base) T
  obtain ⟨fdE, FE, BE⟩ := HM_Figures_eq (P := P) (w := w) (base := base) T
  obtain ⟨fdP, PF, PB⟩ := HM_Program_eq (P := P) (w := w) (base := base) T
  obtain ⟨fB, fdB, cB, mB, BF, BB⟩ := HM_About_back (P := P) (w := w) (base := base) T
  have FR := FRc (P := P) (w := w) (base := base) T
  refine ⟨_, fd, [], g__law_side T, F.kp, okN F sc__law_side (fun vs H Q E h => ?_) (fun cdv A outer s H vs Q E hr h => ?_), F.bindsN fun _ _ _ _ _ _ us hl => match us, hl with | [_, _, _, _, _], _ => rfl, .nil⟩
  · obtain ⟨h, cc, a, f, b, g, p, R, C, Pp, s, rfl, _⟩ := h
    rfl
  · obtain ⟨h, cc, a, f, b, g, p, R, C, Pp, s, rfl, hp, hH, hP, hB, hK, hS, hs, q⟩ := h
    refine ⟨_, (pss_cons (ps_set (i := 5) sc__law_side.nd rfl (Or.inl rfl) (pe_callN TF (hr.mono (by decide)) rfl (g_turned_about T) TK TB passL (pa_cons (pv 2) pa_nil) (pk_cons (pv 4) pk_nil)))
      (pss_cons (ps_set (i := 6) sc__law_side.nd rfl (Or.inl rfl) (pe_ifExp (pt_cmpR op_eq (pv 4) pe_str (nomark _)) (pe_fld (pv 3) rfl) (pe_fld (pv 3) rfl)))
      (pss_cons (ps_if (PW.pt (pw_or (pt_cmpR op_ne (pe_fld (pv 5) rfl) (pv 4) (nomark _)) (pw_or1 (pt_not (pt_val (pe_callH (H_exact T 4) (hr.mono (by decide)) passL (pa_cons (pe_tup (pa_cons (pe_fld (pv 5) rfl) (pa_cons (pe_fld (pv 5) rfl) pa_nil))) (pa_cons (pe_tup (pa_cons (pv 6) (pa_cons (pe_op op_sub (pe_op op_add (pe_fld (pv 3) rfl) (pe_fld (pv 3) rfl)) (pv 6)) pa_nil))) pa_nil))))))))
        (pss_one (ps_ret pe_bl))
        pss_nil)
      (pss_cons (ps_set (i := 7) sc__law_side.nd rfl (Or.inl rfl) (pe_callTy call_tuple_of rfl (n_tuple T) (by decide +kernel) (pa_cons (pe_lc (own := [("_law_u", 11), ("_law_v", 12), ("_law_c", 13), ("_law_d", 14)]) rfl sc__law_side.nd (pi_tup (pe_fld (pv 2) rfl)) (blkOk_by (own := [("_law_u", 11), ("_law_v", 12), ("_law_c", 13), ("_law_d", 14)]) (N := N__law_side) (sc := defScope s__law_side) (by decide +kernel)) (fun _ _ _ _ _ => (pg_tupK (n := 4) K rfl rfl (pgs_cons (pg_name (i := 11) sc__law_side.nd rfl (Or.inl rfl)) (pgs_cons (pg_name (i := 12) sc__law_side.nd rfl (Or.inl rfl)) (pgs_cons (pg_name (i := 13) sc__law_side.nd rfl (Or.inl rfl)) (pgs_cons (pg_name (i := 14) sc__law_side.nd rfl (Or.inl rfl)) pgs_nil)))))) (fun _ _ _ _ _ => pts_nil) (fun _ _ _ _ _ => (pe_ifExp (pt_cmpR op_eq (pv 4) pe_str (nomark _)) (pe_tup (pa_cons (pe_tup (pa_cons (pv 13) (pa_cons (pv 14) pa_nil))) (pa_cons (pv 11) (pa_cons (pv 12) pa_nil)))) (pe_tup (pa_cons (pe_tup (pa_cons (pv 13) (pa_cons (pv 14) pa_nil))) (pa_cons (pv 12) (pa_cons (pv 11) pa_nil))))))) pa_nil)))
      (pss_cons (ps_if (PW.pt (pw_or (pt_not (pt_cmpR (op_eqI FE (me_Figures_eq T).at_ (me_Figures_eq T).fn BE (hr.mono (by decide))) (pe_fld (pv 5) rfl) (pe_fld (pv 2) rfl) (nomark _))) (pw_or1 (pt_not (pt_val (pe_callH (H_exact T 4) (hr.mono (by decide)) passL (pa_cons (pe_fld (pv 5) rfl) (pa_cons (pv 7) pa_nil))))))))
        (pss_one (ps_ret pe_bl))
        pss_nil)
      (pss_cons (ps_for PassesOwn.never rfl (pi_list (pe_callH (H__law_asks T) (hr.mono (by decide)) passL (pa_cons (pv 0) (pa_cons (pv 1) (pa_cons (pv 6) pa_nil))))) (pg_lst rfl (pgs_cons (pg_name (i := 8) sc__law_side.nd rfl (Or.inl rfl)) (pgs_cons (pg_name (i := 9) sc__law_side.nd rfl (Or.inl rfl)) pgs_nil)))
        (pss_cons (ps_set (i := 7) sc__law_side.nd rfl (Or.inl rfl) (pe_callH (H__law_turned T) (hr.mono (by decide)) passL (pa_cons (pv 1) (pa_cons (pe_fld (pv 3) rfl) (pa_cons (pe_fld (pv 3) rfl) (pa_cons (pv 4) (pa_cons (pv 8) (pa_cons (pv 9) pa_nil))))))))
          (pss_cons (ps_if (pt_not (pt_val (pe_callH (H_exact T 4) (hr.mono (by decide)) passL (pa_cons (pe_callI (pv 5) (co_About T) FR (hr.mono (by decide)) passL (pa_cons (pe_callH (H__law_list T) (hr.mono (by decide)) passL (pa_cons (pv 0) (pa_cons (pv 8) pa_nil))) (pa_cons (pe_callH (H__law_list T) (hr.mono (by decide)) passL (pa_cons (pv 0) (pa_cons (pv 9) pa_nil))) pa_nil))) (pa_cons (pv 7) pa_nil)))))
            (pss_one (ps_ret pe_bl))
            pss_nil)
          (pss_one (ps_if (pt_not (pt_val (pe_callH (H_exact T 4) (hr.mono (by decide)) passL (pa_cons (pe_callH (H_about_plain T) (hr.mono (by decide)) passL (pa_cons (pv 3) (pa_cons (pv 4) (pa_cons (pe_callH (H__law_list T) (hr.mono (by decide)) passL (pa_cons (pv 0) (pa_cons (pv 8) pa_nil))) (pa_cons (pe_callH (H__law_list T) (hr.mono (by decide)) passL (pa_cons (pv 0) (pa_cons (pv 9) pa_nil))) pa_nil))))) (pa_cons (pv 7) pa_nil)))))
            (pss_one (ps_ret pe_bl))
            pss_nil)))))
      (pss_cons (ps_set (i := 10) sc__law_side.nd rfl (Or.inl rfl) (pe_meth0 (pv 5) cB mB BF (hr.mono (by decide)) BB .nil passL))
      (pss_one (ps_ret (pe_and (pe_cmpR (op_eqI PF (me_Program_eq T).at_ (me_Program_eq T).fn PB (hr.mono (by decide))) (pv 10) (pv 2) (nomark _)) (pe_one (pe_callH (H_exact T 4) (hr.mono (by decide)) passL (pa_cons (pe_fld (pv 10) rfl) (pa_cons (pe_fld (pv 2) rfl) pa_nil)))))))))))))), ?_⟩
    obtain ⟨ok, hl, hz⟩ := id hK
    obtain ⟨okF, hlF, hzF⟩ := flip_ok hK
    obtain ⟨r1, r5, c1, c5, hpp⟩ := id hS
    have hlF2 : (Pp.map flipP).length ≤ 12 := hlF
    obtain ⟨ax0, vp, hA, hF, dp⟩ := id hP
    obtain ⟨bx, w1, w2, hBb, hG, dw1, dw2⟩ := id hB
    obtain ⟨fx, _, _, hf⟩ : ∃ fx vz vo, Off [h] H f = some (.ins (He.ga K "Figures") fx [("prime", .int (p : Int)), ("zero", vz), ("one", vo)]) := by
      obtain ⟨_, fx, vz, vo, hf, _, _⟩ := id hF
      exact ⟨fx, vz, vo, hf⟩
    have tqA : Tq 4 (.tuple (Pp.map abD)) := tq_map (by omega) fun q hq => tq_ab (ok q hq).1 (ok q hq).2 r5 c5
    have tqF : Tq 4 (.tuple ((Pp.map flipP).map abD)) := tq_map (by omega) fun q hq => tq_ab (okF q hq).1 (okF q hq).2 c5 r5
    have tqP : Tq 4 (.tuple (Pp.map prD)) := tq_map (by omega) fun q hq => tq_pr (ok q hq).1 (ok q hq).2 r5 c5
    rcases hs with rfl | rfl
    · refine ⟨_, rfl, _, rfl, rfl, rfl, a, f, p, R, C, Pp, _, rfl, hP.same Same.ofOff, by omega, .inl ⟨rfl, fun ab H1 e1 hAb => ?_⟩⟩
      have E1 := Same.off (M := [h]) e1
      have hH1 := hH.same e1
      obtain ⟨abx, abv, hab, _, dab⟩ := id hAb
      have hB1 := (E1.trans Same.ofOff) _ _ hBb
      have hP1 := (E1.trans Same.ofOff) _ _ hA
      refine ⟨_, rfl, rfl, _, rfl, iteT ⟨_, rfl, b, _, bx, _, _, rfl, hB1, cl_Pair T, na_Pair_rows T, rfl, ?_⟩⟩
      -- its form
      refine ⟨_, rfl, ab, _, abx, _, _, rfl, hab, cl_About T, na_About_by T, rfl, _, rfl, rfl, false, congrArg (fun z => V.bl (!z)) (decide_eq_true rfl), iteF ?_⟩
      refine ⟨_, rfl, ab, _, abx, _, _, rfl, hab, cl_About T, na_About_letters T, rfl, _, rfl, ab, _, abx, _, _, rfl, hab, cl_About T, na_About_results T, rfl, by show 2 ≤ sizeLine; decide, fun t1 ht1 => ?_⟩
      have e2 := Same.upd (o := .tup [.int (R : Int), .int (C : Int)]) ht1
      refine ⟨_, rfl, _, rfl, b, _, bx, _, _, rfl, e2 _ _ hB1, cl_Pair T, na_Pair_rows T, rfl, _, rfl, b, _, bx, _, _, rfl, e2 _ _ hB1, cl_Pair T, na_Pair_columns T, rfl, _, _, rfl, rfl, _, rfl, _, _, rfl, rfl, by show 2 ≤ sizeLine; decide, fun t2 ht2 => ?_⟩
      have e3 := Same.upd (o := .tup [.int (R : Int), .int ((R : Int) + (C : Int) - (R : Int))]) ht2
      refine ⟨.tuple [.int (R : Int), .int (C : Int)], .ref t1, .ref t2, rfl, .inr ⟨_, rfl, by show 2 ≤ 1000; decide, fun e he => ?_⟩, Dp.newT (e3 _ _ upd_same) (.cons (.int _) (.cons (.int _) .nil)), ?_, fun H3 e4 => ⟨_, rfl, iteF ?_⟩⟩
      · simp only [List.mem_cons, List.not_mem_nil, or_false] at he
        rcases he with rfl | rfl
        · exact Tq.int _
        · exact Tq.int _
      · refine Dp.newT (vs := [.int (R : Int), .int (C : Int)]) ?_ (.cons (.int _) (.cons (.int _) .nil))
        rw [upd_same]
        exact congrArg (fun z : Int => some (HO.tup [.int (R : Int), .int z])) (show (R : Int) + (C : Int) - (R : Int) = (C : Int) by omega)
      have e13 := e2.trans (e3.trans e4)
      have e03 := e1.trans e13
      have E3 := Same.off (M := [h]) e03
      have hH3 := hH.same e03
      have aT : ∃ pb ws, vp = .ref pb ∧ SqT K (Off [h] H) pb ws ∧ DpAll K (Off [h] H) ws (Pp.map prD) := Dp.tup_inv dp
      obtain ⟨pb, ws, rfl, sT, aT⟩ := aT
      have lw : ws.length = Pp.length := by rw [aT.len, List.length_map]
      have sT3 : SqT K H3 pb ws := Same.sqT (E3.trans Same.ofOff) sT
      -- what is due
      refine ⟨_, rfl, a, _, ax0, _, _, rfl, (E3.trans Same.ofOff) _ _ hA, cl_Program T, na_Program_products T, rfl, pb, rfl, ⟨ws, sT3⟩, fun D hD => ?_⟩
      refine lc_it (walk_tup (xs := ws)) (fun i H' => ∃ acc, LAt K [] H3 D acc ((Pp.take i).map fun q => abD q) H') ⟨[], LAt.new hD⟩ (fun i H' _ ⟨acc, B⟩ => Same.sqT B.sq0 sT3) (fun i v H4 H5 hi hPv hY => ?_) (fun H4 hPv => ?_)
      · obtain ⟨acc, B⟩ := hPv
        obtain ⟨rfl, ev⟩ := hY
        obtain ⟨dd, hd, dv⟩ := aT.of ev
        obtain ⟨x, hx, rfl⟩ := map_at hd
        obtain ⟨xb, u, z, c, e, rfl, sP, du, dz, dc, de⟩ := pr_inv dv
        have E := (E3.trans Same.ofOff).trans B.sq0
        refine ⟨xb, [u, z, c, e], rfl, Same.sqT E sP, rfl, u, [z, c, e], rfl, z, [c, e], rfl, c, [e], rfl, e, [], rfl, rfl, rfl, ?_⟩
        refine ⟨_, rfl, rfl, _, rfl, iteT ⟨_, rfl, _, rfl, by show 2 ≤ sizeLine; decide, fun t ht => ⟨_, rfl, _, rfl, by show 3 ≤ sizeLine; exact Nat.le_of_lt (few (by decide)), fun t2 ht2 => ?_⟩⟩⟩
        have B3 := (B.same (Same.upd (o := .tup [c, e]) ht)).same (Same.upd (o := .tup [.ref t, u, z]) ht2)
        have la := B3.len
        rw [List.length_map, List.length_take] at la
        refine ⟨acc, B3.at_, few (by omega), acc ++ [.ref t2], ?_⟩
        rw [take_snoc hx, List.map_append]
        have q1 := E.trans (Same.upd (o := .tup [c, e]) ht)
        have q2 := Same.upd (o := .tup [.ref t, u, z]) ht2
        refine B3.push ((tp_ab x).off B3.lst1 ?_)
        exact Dp.newT upd_same (.cons (q2.dp (Dp.newT upd_same (.cons (q1.dp dc) (.cons (q1.dp de) .nil)))) (.cons (q2.dp (q1.dp du)) (.cons (q2.dp (q1.dp dz)) .nil)))
      obtain ⟨acc, B⟩ := hPv
      refine ⟨D, acc, rfl, .inl ⟨B.sqL, fun du hdu => ?_⟩⟩
      have dDue : Dp K (upd H4 du (.tup acc)) (.ref du) (.tuple (Pp.map abD)) := by
        have q2 := (Same.upd (o := .tup acc) hdu).dpAll ((Same.ofOff (M := [D]) (H := H4)).dpAll B.all)
        rw [List.take_of_length_le (by omega)] at q2
        exact Dp.newT upd_same (q2)
      have e5 := B.sq0.trans (Same.upd (o := .tup acc) hdu)
      have e05 := e03.trans e5
      have E5 := Same.off (M := [h]) e05
      have hH5 := hH.same e05
      have hab5 := (e13.trans e5) _ _ hab
      have F5 : FigAt K (upd H4 du (.tup acc)) f p := hF.same (E5.trans Same.ofOff)
      have hf5 := (E5.trans Same.ofOff) _ _ hf
      refine ⟨_, rfl, ab, _, abx, _, _, rfl, hab5, cl_About T, na_About_figures T, rfl, _, rfl, a, _, ax0, _, _, rfl, (E5.trans Same.ofOff) _ _ hA, cl_Program T, na_Program_figures T, rfl, f, f, fx, fx, _, _, rfl, rfl, hf5, hf5, f, f, p, rfl, F5, F5, true, rfl, _, rfl, iteF ?_⟩
      refine ⟨_, rfl, ab, _, abx, _, _, rfl, hab5, cl_About T, na_About_products T, rfl, _, rfl, _, abv, .ref du, rfl, tqA, (e13.trans e5).dp dab, dDue, fun H6 e6 => ⟨_, rfl, iteF ?_⟩⟩
      have e06 := e05.trans e6
      have E6 := Same.off (M := [h]) e06
      have hH6 := hH.same e06
      have hAb6 : AboutAt K (Off [h] H6) ab f p _ R C Pp := (hAb.same ((e13.trans e5).trans e6)).off hH6
      -- the asks
      refine ⟨_, rfl, _, rfl, _, rfl, h, cc, p, R, rfl, hp, r5, hH6, fun As av H7 hAs dAs hH7 E7 => ?_⟩
      have E07 := E6.trans E7
      obtain ⟨al, aw, rfl, sA, aA⟩ := Dp.seq (k := false) dAs
      have hAb7 := hAb6.same E7
      have hP7 := hP.same E07
      have hB7 := hB.same E07
      refine ⟨al, rfl, ⟨aw, Same.seq Same.ofOff sA⟩, for_it (walk_list (xs := aw))
        (fun i σ H' => ∃ o7 o8 o9, σ = [some (.ref h), some (.int (p : Int)), some (.ref a), some (.ref b), some (.str "y"), some (.ref ab), some (.int (R : Int)), o7, o8, o9, none, none, none, none, none] ∧ HandAt H' h cc ∧ Same (Off [h] H7) (Off [h] H'))
        ⟨_, none, none, rfl, hH7, Same.refl _⟩ (fun i σ H' hi ⟨_, _, _, _, _, e⟩ => Same.seq (e.trans Same.ofOff) sA) (fun i x σ H8 H9 hi hPv hY => ?_) (fun σ H' hPv => ?_)⟩
      · obtain ⟨o7, o8, o9, rfl, hH8, E8⟩ := hPv
        obtain ⟨rfl, ev⟩ := hY
        obtain ⟨dd, hd, dv⟩ := aA.of ev
        obtain ⟨ak, hak, rfl⟩ := map_at hd
        obtain ⟨lz, lx, zz, zx⟩ := hAs ak (List.mem_of_getElem? hak)
        obtain ⟨zs, xs⟩ := ak
        obtain ⟨z0, z1, rfl⟩ := ne_list lz
        obtain ⟨xb, xw, rfl, sX, aX⟩ := Dp.seq (k := false) (E8.dp dv)
        obtain ⟨tv, xw, rfl, dtv, aX⟩ := aX.cons_inv
        obtain ⟨lv, xw, rfl, dlv, aX⟩ := aX.cons_inv
        obtain rfl := aX.nil_inv
        have s0 : Sz p 2 z0 := zz z0 (by simp)
        have s1 : Sz p 2 z1 := zz z1 (by simp)
        refine ⟨xb, [tv, lv], rfl, Same.seq Same.ofOff sX, rfl, tv, [lv], rfl, lv, [], rfl, rfl, ?_⟩
        obtain ⟨bx, w1, w2, hBb, hG, dw1, dw2⟩ := hB7.same E8
        have hB8 := Same.ofOff _ _ hBb
        refine ⟨_, rfl, _, rfl, b, _, bx, _, _, rfl, hB8, cl_Pair T, na_Pair_first T, rfl, _, rfl, b, _, bx, _, _, rfl, hB8, cl_Pair T, na_Pair_second T, rfl, _, rfl, _, rfl, _, rfl, p, R, C, Pp, z0, z1, xs, w1, w2, tv, lv, _, rfl, hp, hK, r1, r5, c5, Same.ofOff.dp dw1, Same.ofOff.dp dw2, Same.ofOff.dp dtv, Same.ofOff.dp dlv, s0, s1, zx, .inr ⟨rfl, lx, fun dv H10 e10 ddv => ?_⟩⟩
        have hH10 := hH8.same e10
        have E10 := Same.off (M := [h]) e10
        have hA10 := (hAb7.same E8).same E10
        refine ⟨_, rfl, ab, rfl, _, rfl, _, rfl, h, cc, tv, _, rfl, hH10, E10.dp dtv, fun k1 t1 H11 d11 hH11 E11 => ?_⟩
        have ddv := row_hand hH10 E11 ddv
        refine ⟨_, rfl, _, rfl, h, cc, lv, _, rfl, hH11, E11.dp (E10.dp dlv), fun k2 l1 H12 d12 hH12 E12 => ?_⟩
        have ddv := row_hand hH11 E12 ddv
        have hA12 := (hA10.same E11).same E12
        obtain ⟨abx, abv, hab, _, _⟩ := id hA12
        refine ⟨⟨abx, _, Same.ofOff _ _ hab⟩, ab, f, p, R, C, _, Pp, t1, l1, rfl, hA12.same Same.ofOff, ok, r5, c1, c5, hl, hz, .inl ⟨k1, k2, z0, z1, xs, Same.ofOff.dp (E12.dp d11), Same.ofOff.dp d12, lx, s0, s1, zx, fun rv H13 e13 drv => ?_⟩⟩
        have ddv := e13.dp ddv
        have hH13 := hH12.same e13
        refine ⟨_, rfl, _, rv, dv, rfl, (tq_row (by unfold turnY; simp; omega)).up (by decide), drv, ddv, fun H14 e14 => ⟨_, rfl, iteF ?_⟩⟩
        have ddv := e14.dp ddv
        have hH14 := hH13.same e14
        have E14 := (((E10.trans E11).trans E12).trans (Same.off e13)).trans (Same.off (M := [h]) e14)
        refine ⟨_, rfl, _, rfl, _, rfl, _, rfl, h, cc, tv, _, rfl, hH14, E14.dp dtv, fun k1 t1 H15 d15 hH15 E15 => ?_⟩
        have ddv := row_hand hH14 E15 ddv
        refine ⟨_, rfl, _, rfl, h, cc, lv, _, rfl, hH15, E15.dp (E14.dp dlv), fun k2 l1 H16 d16 hH16 E16 => ?_⟩
        have ddv := row_hand hH15 E16 ddv
        have E816 := (E14.trans E15).trans E16
        refine ⟨b, g, p, R, C, _, _, _, t1, l1, rfl, ((hB7.same E8).same E816).same Same.ofOff, tab_table _ _, tab_table _ _, r5, c5, tsz_table ok hl hz (.inl rfl), tsz_table ok hl hz (.inr rfl), .inl ⟨R, C, colOf, .inl ⟨rfl, rfl, rfl, rfl⟩, .inl ⟨k1, k2, z0, z1, xs, Same.ofOff.dp (E16.dp d15), Same.ofOff.dp d16, lx, s0, s1, zx, fun rv H17 e17 drv => ?_⟩⟩⟩
        have ddv := e17.dp ddv
        have hH17 := hH16.same e17
        rw [plain_y ok lx] at drv
        refine ⟨_, rfl, _, rv, dv, rfl, (tq_row (by unfold turnY; simp; omega)).up (by decide), drv, ddv, fun H18 e18 => ⟨_, rfl, iteF ⟨_, _, _, rfl, hH17.same e18, ?_⟩⟩⟩
        exact ((E8.trans E816).trans (Same.off e17)).trans (Same.off e18)
      · obtain ⟨o7, o8, o9, rfl, hH8, E8⟩ := hPv
        have hA8 := (hAb7.same E8).same Same.ofOff
        obtain ⟨abx, abv, hab, _, _⟩ := id hA8
        refine ⟨_, rfl, ab, abx, _, rfl, hab, rfl, ab, f, p, R, C, _, Pp, rfl, hA8, (by omega), ok, hS, ⟨c1, c5, r1, r5, by omega⟩, .inl ⟨rfl, fun bk H9 e9 hBk => ?_⟩⟩
        skip
        have hP9 : ProgAt K H9 a f p R C Pp := ((hP7.same E8).same Same.ofOff).same e9
        obtain ⟨kx, kv, hk, _, dk⟩ := id hBk
        obtain ⟨px, pv9, hp9, _, dp9⟩ := id hP9
        refine ⟨_, rfl, _, rfl, bk, a, kx, px, _, _, rfl, rfl, hk, hp9, bk, a, f, f, p, R, C, Pp, rfl, hBk, hP9, true, rfl, true, rfl, iteT ?_⟩
        refine ⟨_, rfl, bk, _, kx, _, _, rfl, hk, cl_Program T, na_Program_products T, rfl, _, rfl, a, _, px, _, _, rfl, hp9, cl_Program T, na_Program_products T, rfl, _, kv, pv9, rfl, tqP, dk, dp9, fun H10 e10 => ?_⟩
        exact q _ ((hH8.same e9).same e10) (((E07.trans E8).trans (Same.off e9)).trans (Same.off e10))
    · refine ⟨_, rfl, _, rfl, rfl, rfl, a, f, p, R, C, Pp, _, rfl, hP.same Same.ofOff, by omega, .inr (.inl ⟨rfl, fun ab H1 e1 hAb => ?_⟩)⟩
      have E1 := Same.off (M := [h]) e1
      have hH1 := hH.same e1
      obtain ⟨abx, abv, hab, _, dab⟩ := id hAb
      have hB1 := (E1.trans Same.ofOff) _ _ hBb
      have hP1 := (E1.trans Same.ofOff) _ _ hA
      refine ⟨_, rfl, rfl, _, rfl, iteF ⟨_, rfl, b, _, bx, _, _, rfl, hB1, cl_Pair T, na_Pair_columns T, rfl, ?_⟩⟩
      -- its form
      refine ⟨_, rfl, ab, _, abx, _, _, rfl, hab, cl_About T, na_About_by T, rfl, _, rfl, rfl, false, congrArg (fun z => V.bl (!z)) (decide_eq_true rfl), iteF ?_⟩
      refine ⟨_, rfl, ab, _, abx, _, _, rfl, hab, cl_About T, na_About_letters T, rfl, _, rfl, ab, _, abx, _, _, rfl, hab, cl_About T, na_About_results T, rfl, by show 2 ≤ sizeLine; decide, fun t1 ht1 => ?_⟩
      have e2 := Same.upd (o := .tup [.int (C : Int), .int (R : Int)]) ht1
      refine ⟨_, rfl, _, rfl, b, _, bx, _, _, rfl, e2 _ _ hB1, cl_Pair T, na_Pair_rows T, rfl, _, rfl, b, _, bx, _, _, rfl, e2 _ _ hB1, cl_Pair T, na_Pair_columns T, rfl, _, _, rfl, rfl, _, rfl, _, _, rfl, rfl, by show 2 ≤ sizeLine; decide, fun t2 ht2 => ?_⟩
      have e3 := Same.upd (o := .tup [.int (C : Int), .int ((R : Int) + (C : Int) - (C : Int))]) ht2
      refine ⟨.tuple [.int (C : Int), .int (R : Int)], .ref t1, .ref t2, rfl, .inr ⟨_, rfl, by show 2 ≤ 1000; decide, fun e he => ?_⟩, Dp.newT (e3 _ _ upd_same) (.cons (.int _) (.cons (.int _) .nil)), ?_, fun H3 e4 => ⟨_, rfl, iteF ?_⟩⟩
      · simp only [List.mem_cons, List.not_mem_nil, or_false] at he
        rcases he with rfl | rfl
        · exact Tq.int _
        · exact Tq.int _
      · refine Dp.newT (vs := [.int (C : Int), .int (R : Int)]) ?_ (.cons (.int _) (.cons (.int _) .nil))
        rw [upd_same]
        exact congrArg (fun z : Int => some (HO.tup [.int (C : Int), .int z])) (show (R : Int) + (C : Int) - (C : Int) = (R : Int) by omega)
      have e13 := e2.trans (e3.trans e4)
      have e03 := e1.trans e13
      have E3 := Same.off (M := [h]) e03
      have hH3 := hH.same e03
      have aT : ∃ pb ws, vp = .ref pb ∧ SqT K (Off [h] H) pb ws ∧ DpAll K (Off [h] H) ws (Pp.map prD) := Dp.tup_inv dp
      obtain ⟨pb, ws, rfl, sT, aT⟩ := aT
      have lw : ws.length = Pp.length := by rw [aT.len, List.length_map]
      have sT3 : SqT K H3 pb ws := Same.sqT (E3.trans Same.ofOff) sT
      -- what is due
      refine ⟨_, rfl, a, _, ax0, _, _, rfl, (E3.trans Same.ofOff) _ _ hA, cl_Program T, na_Program_products T, rfl, pb, rfl, ⟨ws, sT3⟩, fun D hD => ?_⟩
      refine lc_it (walk_tup (xs := ws)) (fun i H' => ∃ acc, LAt K [] H3 D acc ((Pp.take i).map fun q => abD (flipP q)) H') ⟨[], LAt.new hD⟩ (fun i H' _ ⟨acc, B⟩ => Same.sqT B.sq0 sT3) (fun i v H4 H5 hi hPv hY => ?_) (fun H4 hPv => ?_)
      · obtain ⟨acc, B⟩ := hPv
        obtain ⟨rfl, ev⟩ := hY
        obtain ⟨dd, hd, dv⟩ := aT.of ev
        obtain ⟨x, hx, rfl⟩ := map_at hd
        obtain ⟨xb, u, z, c, e, rfl, sP, du, dz, dc, de⟩ := pr_inv dv
        have E := (E3.trans Same.ofOff).trans B.sq0
        refine ⟨xb, [u, z, c, e], rfl, Same.sqT E sP, rfl, u, [z, c, e], rfl, z, [c, e], rfl, c, [e], rfl, e, [], rfl, rfl, rfl, ?_⟩
        refine ⟨_, rfl, rfl, _, rfl, iteF ⟨_, rfl, _, rfl, by show 2 ≤ sizeLine; decide, fun t ht => ⟨_, rfl, _, rfl, by show 3 ≤ sizeLine; exact Nat.le_of_lt (few (by decide)), fun t2 ht2 => ?_⟩⟩⟩
        have B3 := (B.same (Same.upd (o := .tup [c, e]) ht)).same (Same.upd (o := .tup [.ref t, z, u]) ht2)
        have la := B3.len
        rw [List.length_map, List.length_take] at la
        refine ⟨acc, B3.at_, few (by omega), acc ++ [.ref t2], ?_⟩
        rw [take_snoc hx, List.map_append]
        have q1 := E.trans (Same.upd (o := .tup [c, e]) ht)
        have q2 := Same.upd (o := .tup [.ref t, z, u]) ht2
        refine B3.push ((tp_ab (flipP x)).off B3.lst1 ?_)
        exact Dp.newT upd_same (.cons (q2.dp (Dp.newT upd_same (.cons (q1.dp dc) (.cons (q1.dp de) .nil)))) (.cons (q2.dp (q1.dp dz)) (.cons (q2.dp (q1.dp du)) .nil)))
      obtain ⟨acc, B⟩ := hPv
      refine ⟨D, acc, rfl, .inl ⟨B.sqL, fun du hdu => ?_⟩⟩
      have dDue : Dp K (upd H4 du (.tup acc)) (.ref du) (.tuple ((Pp.map flipP).map abD)) := by
        have q2 := (Same.upd (o := .tup acc) hdu).dpAll ((Same.ofOff (M := [D]) (H := H4)).dpAll B.all)
        rw [List.take_of_length_le (by omega)] at q2
        exact Dp.newT upd_same (by rw [List.map_map]; exact q2)
      have e5 := B.sq0.trans (Same.upd (o := .tup acc) hdu)
      have e05 := e03.trans e5
      have E5 := Same.off (M := [h]) e05
      have hH5 := hH.same e05
      have hab5 := (e13.trans e5) _ _ hab
      have F5 : FigAt K (upd H4 du (.tup acc)) f p := hF.same (E5.trans Same.ofOff)
      have hf5 := (E5.trans Same.ofOff) _ _ hf
      refine ⟨_, rfl, ab, _, abx, _, _, rfl, hab5, cl_About T, na_About_figures T, rfl, _, rfl, a, _, ax0, _, _, rfl, (E5.trans Same.ofOff) _ _ hA, cl_Program T, na_Program_figures T, rfl, f, f, fx, fx, _, _, rfl, rfl, hf5, hf5, f, f, p, rfl, F5, F5, true, rfl, _, rfl, iteF ?_⟩
      refine ⟨_, rfl, ab, _, abx, _, _, rfl, hab5, cl_About T, na_About_products T, rfl, _, rfl, _, abv, .ref du, rfl, tqF, (e13.trans e5).dp dab, dDue, fun H6 e6 => ⟨_, rfl, iteF ?_⟩⟩
      have e06 := e05.trans e6
      have E6 := Same.off (M := [h]) e06
      have hH6 := hH.same e06
      have hAb6 : AboutAt K (Off [h] H6) ab f p _ C R (Pp.map flipP) := (hAb.same ((e13.trans e5).trans e6)).off hH6
      -- the asks
      refine ⟨_, rfl, _, rfl, _, rfl, h, cc, p, C, rfl, hp, c5, hH6, fun As av H7 hAs dAs hH7 E7 => ?_⟩
      have E07 := E6.trans E7
      obtain ⟨al, aw, rfl, sA, aA⟩ := Dp.seq (k := false) dAs
      have hAb7 := hAb6.same E7
      have hP7 := hP.same E07
      have hB7 := hB.same E07
      refine ⟨al, rfl, ⟨aw, Same.seq Same.ofOff sA⟩, for_it (walk_list (xs := aw))
        (fun i σ H' => ∃ o7 o8 o9, σ = [some (.ref h), some (.int (p : Int)), some (.ref a), some (.ref b), some (.str "x"), some (.ref ab), some (.int (C : Int)), o7, o8, o9, none, none, none, none, none] ∧ HandAt H' h cc ∧ Same (Off [h] H7) (Off [h] H'))
        ⟨_, none, none, rfl, hH7, Same.refl _⟩ (fun i σ H' hi ⟨_, _, _, _, _, e⟩ => Same.seq (e.trans Same.ofOff) sA) (fun i x σ H8 H9 hi hPv hY => ?_) (fun σ H' hPv => ?_)⟩
      · obtain ⟨o7, o8, o9, rfl, hH8, E8⟩ := hPv
        obtain ⟨rfl, ev⟩ := hY
        obtain ⟨dd, hd, dv⟩ := aA.of ev
        obtain ⟨ak, hak, rfl⟩ := map_at hd
        obtain ⟨lz, lx, zz, zx⟩ := hAs ak (List.mem_of_getElem? hak)
        obtain ⟨zs, xs⟩ := ak
        obtain ⟨z0, z1, rfl⟩ := ne_list lz
        obtain ⟨xb, xw, rfl, sX, aX⟩ := Dp.seq (k := false) (E8.dp dv)
        obtain ⟨tv, xw, rfl, dtv, aX⟩ := aX.cons_inv
        obtain ⟨lv, xw, rfl, dlv, aX⟩ := aX.cons_inv
        obtain rfl := aX.nil_inv
        have s0 : Sz p 2 z0 := zz z0 (by simp)
        have s1 : Sz p 2 z1 := zz z1 (by simp)
        refine ⟨xb, [tv, lv], rfl, Same.seq Same.ofOff sX, rfl, tv, [lv], rfl, lv, [], rfl, rfl, ?_⟩
        obtain ⟨bx, w1, w2, hBb, hG, dw1, dw2⟩ := hB7.same E8
        have hB8 := Same.ofOff _ _ hBb
        refine ⟨_, rfl, _, rfl, b, _, bx, _, _, rfl, hB8, cl_Pair T, na_Pair_first T, rfl, _, rfl, b, _, bx, _, _, rfl, hB8, cl_Pair T, na_Pair_second T, rfl, _, rfl, _, rfl, _, rfl, p, R, C, Pp, z0, z1, xs, w1, w2, tv, lv, _, rfl, hp, hK, r1, r5, c5, Same.ofOff.dp dw1, Same.ofOff.dp dw2, Same.ofOff.dp dtv, Same.ofOff.dp dlv, s0, s1, zx, .inl ⟨rfl, lx, fun dv H10 e10 ddv => ?_⟩⟩
        have hH10 := hH8.same e10
        have E10 := Same.off (M := [h]) e10
        have hA10 := (hAb7.same E8).same E10
        refine ⟨_, rfl, ab, rfl, _, rfl, _, rfl, h, cc, tv, _, rfl, hH10, E10.dp dtv, fun k1 t1 H11 d11 hH11 E11 => ?_⟩
        have ddv := row_hand hH10 E11 ddv
        refine ⟨_, rfl, _, rfl, h, cc, lv, _, rfl, hH11, E11.dp (E10.dp dlv), fun k2 l1 H12 d12 hH12 E12 => ?_⟩
        have ddv := row_hand hH11 E12 ddv
        have hA12 := (hA10.same E11).same E12
        obtain ⟨abx, abv, hab, _, _⟩ := id hA12
        refine ⟨⟨abx, _, Same.ofOff _ _ hab⟩, ab, f, p, C, R, _, (Pp.map flipP), t1, l1, rfl, hA12.same Same.ofOff, okF, c5, r1, r5, hlF, hzF, .inl ⟨k1, k2, z0, z1, xs, Same.ofOff.dp (E12.dp d11), Same.ofOff.dp d12, lx, s0, s1, zx, fun rv H13 e13 drv => ?_⟩⟩
        have ddv := e13.dp ddv
        have hH13 := hH12.same e13
        refine ⟨_, rfl, _, rv, dv, rfl, (tq_row (by unfold turnX; simp; omega)).up (by decide), by rw [← turn_flip]; exact drv, ddv, fun H14 e14 => ⟨_, rfl, iteF ?_⟩⟩
        have ddv := e14.dp ddv
        have hH14 := hH13.same e14
        have E14 := (((E10.trans E11).trans E12).trans (Same.off e13)).trans (Same.off (M := [h]) e14)
        refine ⟨_, rfl, _, rfl, _, rfl, _, rfl, h, cc, tv, _, rfl, hH14, E14.dp dtv, fun k1 t1 H15 d15 hH15 E15 => ?_⟩
        have ddv := row_hand hH14 E15 ddv
        refine ⟨_, rfl, _, rfl, h, cc, lv, _, rfl, hH15, E15.dp (E14.dp dlv), fun k2 l1 H16 d16 hH16 E16 => ?_⟩
        have ddv := row_hand hH15 E16 ddv
        have E816 := (E14.trans E15).trans E16
        refine ⟨b, g, p, R, C, _, _, _, t1, l1, rfl, ((hB7.same E8).same E816).same Same.ofOff, tab_table _ _, tab_table _ _, r5, c5, tsz_table ok hl hz (.inl rfl), tsz_table ok hl hz (.inr rfl), .inl ⟨C, R, rowOf, .inr ⟨rfl, rfl, rfl, rfl⟩, .inl ⟨k1, k2, z0, z1, xs, Same.ofOff.dp (E16.dp d15), Same.ofOff.dp d16, lx, s0, s1, zx, fun rv H17 e17 drv => ?_⟩⟩⟩
        have ddv := e17.dp ddv
        have hH17 := hH16.same e17
        rw [plain_x ok lx] at drv
        refine ⟨_, rfl, _, rv, dv, rfl, (tq_row (by unfold turnX; simp; omega)).up (by decide), drv, ddv, fun H18 e18 => ⟨_, rfl, iteF ⟨_, _, _, rfl, hH17.same e18, ?_⟩⟩⟩
        exact ((E8.trans E816).trans (Same.off e17)).trans (Same.off e18)
      · obtain ⟨o7, o8, o9, rfl, hH8, E8⟩ := hPv
        have hA8 := (hAb7.same E8).same Same.ofOff
        obtain ⟨abx, abv, hab, _, _⟩ := id hA8
        refine ⟨_, rfl, ab, abx, _, rfl, hab, rfl, ab, f, p, C, R, _, (Pp.map flipP), rfl, hA8, (by omega), okF, ⟨c1, c5, r1, r5, by omega⟩, hS, .inr ⟨rfl, fun bk H9 e9 hBk => ?_⟩⟩
        rw [List.map_map, show (flipP ∘ flipP : Pr (Car p) → Pr (Car p)) = id from rfl, List.map_id] at hBk
        have hP9 : ProgAt K H9 a f p R C Pp := ((hP7.same E8).same Same.ofOff).same e9
        obtain ⟨kx, kv, hk, _, dk⟩ := id hBk
        obtain ⟨px, pv9, hp9, _, dp9⟩ := id hP9
        refine ⟨_, rfl, _, rfl, bk, a, kx, px, _, _, rfl, rfl, hk, hp9, bk, a, f, f, p, R, C, Pp, rfl, hBk, hP9, true, rfl, true, rfl, iteT ?_⟩
        refine ⟨_, rfl, bk, _, kx, _, _, rfl, hk, cl_Program T, na_Program_products T, rfl, _, rfl, a, _, px, _, _, rfl, hp9, cl_Program T, na_Program_products T, rfl, _, kv, pv9, rfl, tqP, dk, dp9, fun H10 e10 => ?_⟩
        exact q _ ((hH8.same e9).same e10) (((E07.trans E8).trans (Same.off e9)).trans (Same.off e10))
end
end K21
set_option maxRecDepth 100000
set_option maxHeartbeats 4000000
namespace K21
open PySem PySem.Spec PyProof.Rows L2
section
variable {P : Program} {w : World} {K : PySem.W.Frag} {mg : Str → Option Value} {base : Heap}
theorem sz_run {p R C : Nat} {Pp : List (Pr (Car p))} {w : Pr (Car p) → Car p} {xs ys : List (Car p)} (h : PpOk Pp R C) (r5 : R ≤ 5) (c5 : C ≤ 5) (hw : w = (·.c) ∨ w = (·.d)) (zx : ∀ x ∈ xs, Sz p 2 x) (zy : ∀ y ∈ ys, Sz p 2 y) : Sz p 661 (runC Pp w xs ys) := by
  obtain ⟨ok, hl, hz⟩ := h
  unfold runC
  refine (Sz.sum (n := 54) fun q hq => ?_).mono (by have : Pp.length * 55 ≤ 12 * 55 := Nat.mul_le_mul_right _ hl; omega)
  obtain ⟨z1, z2, z3, z4⟩ := hz q hq
  have zw : Sz p 2 (w q) := by
    rcases hw with rfl | rfl
    · exact z3
    · exact z4
  exact Sz.mul (n := 2) (m := 52) zw (Sz.mul (n := 26) (m := 26) ((sz_dot (k := 5) z1 zx (by have := (ok q hq).1; omega)).mono (by decide)) ((sz_dot (k := 5) z2 zy (by have := (ok q hq).2; omega)).mono (by decide)))
theorem sz_turn {p R C : Nat} {Pp : List (Pr (Car p))} {z0 z1 : Car p} {xs : List (Car p)} (h : PpOk Pp R C) (r5 : R ≤ 5) (s0 : Sz p 2 z0) (s1 : Sz p 2 z1) (zx : ∀ x ∈ xs, Sz p 2 x) : ∀ t ∈ turnY Pp C z0 z1 xs, Sz p 457 t := fun t ht => by
  obtain ⟨ok, hl, hz⟩ := h
  unfold turnY at ht
  obtain ⟨j, hj, rfl⟩ := List.mem_map.mp ht
  refine (Sz.sum (n := 37) fun q hq => ?_).mono (by have : Pp.length * 38 ≤ 12 * 38 := Nat.mul_le_mul_right _ hl; omega)
  obtain ⟨y1, y2, y3, y4⟩ := hz q hq
  refine Sz.mul (n := 35) (m := 2) (Sz.mul (n := 9) (m := 26) (Sz.add (n := 4) (m := 4) (Sz.mul (n := 2) (m := 2) y3 s0) (Sz.mul (n := 2) (m := 2) y4 s1)) ((sz_dot (k := 5) y1 zx (by have := (ok q hq).1; omega)).mono (by decide))) ?_
  have hj2 := List.mem_range.mp hj
  rw [getD_at (by rw [(ok q hq).2]; exact hj2)]
  exact y2 _ (List.getElem_mem _)
/-- a row of the list a in the heap without h -/
theorem row_new {H H' : Hp} {h c a : Addr} {p : Nat} {ws : List V} {xs : List (Car p)} (hH : HandAt H h c) (ha : H a = none) (hH' : HandAt H' h c) (hA : H' a = some (.lst ws)) (aX : DpAll K H' ws (xs.map numD)) : Dp K (Off [h] H') (.ref a) (rowD false xs) :=
  row_off hH'.lst1 (fun z => (hH.ne ha).1 (List.mem_singleton.mp z)) hA aX
def spThree (K : PySem.W.Frag) : Sp := fun vs H Q _ => ∃ (h c a f : Addr) (p R C : Nat) (Pp : List (Pr (Car p))), vs = [.ref h, .int (p : Int), .ref a, .int (R : Int), .int (C : Int)] ∧ Pm p ∧ HandAt H h c ∧ ProgAt K (Off [h] H) a f p R C Pp ∧ PpOk Pp R C ∧ Sides p R C ∧
  ∀ H', HandAt H' h c → Same (Off [h] H) (Off [h] H') → Q (.bl true) H'
theorem H__law_three (T : Txt K mg) : Hs P w K mg base 7 "_law_three" ["_law_hand_here", "_law_p", "_law_program", "_law_rows", "_law_columns"] [] (spThree K) := by
  obtain ⟨fd, F⟩ := F__law_three T
  obtain ⟨fdT, TF, _, TK, gT, TB⟩ := FT (P := P) (w := w) (base := base) T
  have FR := FRc (P := P) (w := w) (base := base) T
  refine ⟨_, fd, [], g__law_three T, F.kp, okN F sc__law_three (fun vs H Q E h => ?_) (fun cdv A outer s H vs Q E hr h => ?_), F.bindsN fun _ _ _ _ _ _ us hl => match us, hl with | [_, _, _, _, _], _ => rfl, .nil⟩
  · obtain ⟨h, cc, a, f, p, R, C, Pp, rfl, _⟩ := h
    rfl
  · obtain ⟨h, cc, a, f, p, R, C, Pp, rfl, hp, hH, hP, hK, hS, q⟩ := h
    refine ⟨_, (pss_cons (ps_set (i := 5) sc__law_three.nd rfl (Or.inl rfl) (pe_callH (H__law_numbers T) (hr.mono (by decide)) passL (pa_cons (pv 0) (pa_cons (pv 1) (pa_cons pe_int pa_nil)))))
      (pss_cons (ps_set (i := 6) sc__law_three.nd rfl (Or.inl rfl) (pe_callH (H__law_numbers T) (hr.mono (by decide)) passL (pa_cons (pv 0) (pa_cons (pv 1) (pa_cons (pv 3) pa_nil)))))
      (pss_cons (ps_set (i := 7) sc__law_three.nd rfl (Or.inl rfl) (pe_callH (H__law_numbers T) (hr.mono (by decide)) passL (pa_cons (pv 0) (pa_cons (pv 1) (pa_cons (pv 4) pa_nil)))))
      (pss_cons (ps_set (i := 8) sc__law_three.nd rfl (Or.inl rfl) (pe_callH (H__law_dot T) (hr.mono (by decide)) passL (pa_cons (pv 1) (pa_cons (pv 5) (pa_cons (pe_callTy call_list_of rfl (n_list T) (by decide +kernel) (pa_cons (pe_methH (pv 2) (HM_Program_run T) (hr.mono (by decide)) passL (pa_cons (pv 6) (pa_cons (pv 7) pa_nil))) pa_nil)) pa_nil)))))
      (pss_cons (ps_set (i := 9) sc__law_three.nd rfl (Or.inl rfl) (pe_callH (H__law_dot T) (hr.mono (by decide)) passL (pa_cons (pv 1) (pa_cons (pv 7) (pa_cons (pe_callTy call_list_of rfl (n_list T) (by decide +kernel) (pa_cons (pe_callI (pe_callH (H_turned_about T) (hr.mono (by decide)) passL (pa_cons (pv 2) pa_nil)) (co_About T) FR (hr.mono (by decide)) passL (pa_cons (pv 5) (pa_cons (pv 6) pa_nil))) pa_nil)) pa_nil)))))
      (pss_one (ps_ret (pe_and (pe_cmpR (op_eqD hr.units) (pv 8) (pv 9) (nomark _)) (pe_one (pe_cmpR (op_eqD hr.units) (pv 8) (pe_callH (H__law_dot T) (hr.mono (by decide)) passL (pa_cons (pv 1) (pa_cons (pv 6) (pa_cons (pe_callTy call_list_of rfl (n_list T) (by decide +kernel) (pa_cons (pe_callI (pe_callN TF (hr.mono (by decide)) rfl (g_turned_about T) TK TB passL (pa_cons (pv 2) pa_nil) (pk_cons pe_str pk_nil)) (co_About T) FR (hr.mono (by decide)) passL (pa_cons (pv 5) (pa_cons (pv 7) pa_nil))) pa_nil)) pa_nil)))) (nomark _))))))))))), ?_⟩
    obtain ⟨ok, hl, hz⟩ := id hK
    have hKF := flip_ok hK
    obtain ⟨r1, r5, c1, c5, hpp⟩ := id hS
    refine ⟨_, rfl, _, rfl, h, cc, p, 2, rfl, hp, by decide, hH, fun zs za zw H1 lz zz nza hza aZ hH1 E1 => ?_⟩
    have dz1 := row_new hH nza hH1 hza aZ
    refine ⟨_, rfl, _, rfl, _, rfl, h, cc, p, R, rfl, hp, r5, hH1, fun xs xa xw H2 lx zx nxa hxa aX hH2 E2 => ?_⟩
    have dx2 := row_new hH1 nxa hH2 hxa aX
    refine ⟨_, rfl, _, rfl, _, rfl, h, cc, p, C, rfl, hp, c5, hH2, fun ys ya yw H3 ly zy nya hya aY hH3 E3 => ?_⟩
    have dy3 := row_new hH2 nya hH3 hya aY
    have E03 := (E1.trans E2).trans E3
    have dZ := Same.ofOff.dp (E3.dp (E2.dp dz1))
    have dX := Same.ofOff.dp (E3.dp dx2)
    have dY := Same.ofOff.dp dy3
    have hP3 : ProgAt K H3 a f p R C Pp := (hP.same E03).same Same.ofOff
    obtain ⟨z0, z1, rfl⟩ := ne_list lz
    have s0 : Sz p 2 z0 := zz z0 (by simp)
    have s1 : Sz p 2 z1 := zz z1 (by simp)
    obtain ⟨ax, vp, hA, _, _⟩ := id hP3
    -- z and run
    refine ⟨_, rfl, _, rfl, _, rfl, a, ax, _, rfl, hA, rfl, _, rfl, _, rfl, a, f, p, R, C, Pp, false, false, xs, ys, .ref xa, .ref ya, rfl, hP3, dX, dY, lx, ly, ok, r5, c5, hl, hz, zx, zy, fun rv H4 e4 d4 => ?_⟩
    obtain ⟨rb, rws, rfl, sR, aR⟩ := Dp.tup_inv d4
    refine ⟨rb, rws, rfl, .inr sR, fun l hl4 => ?_⟩
    have e5 := Same.upd (o := .lst rws) hl4
    have e35 := e4.trans e5
    refine ⟨p, [z0, z1], [runC Pp (·.c) xs ys, runC Pp (·.d) xs ys], 2, 661, .ref za, .ref l, rfl, hp.1, hp.2, e35.dp dZ, Dp.newL upd_same (e5.dpAll aR), rfl, by show 2 ≤ 5; decide, zz, fun y hy => ?_, by decide, by decide, by decide, fun one H6 e6 d6 => ?_⟩
    · simp only [List.mem_cons, List.not_mem_nil, or_false] at hy
      rcases hy with rfl | rfl
      · exact sz_run hK r5 c5 (.inl rfl) zx zy
      · exact sz_run hK r5 c5 (.inr rfl) zx zy
    have e36 := e35.trans e6
    -- y and the turned one
    refine ⟨_, rfl, _, rfl, _, rfl, a, f, p, R, C, Pp, _, rfl, hP3.same e36, by omega, .inl ⟨rfl, fun ab H7 e7 hAb => ?_⟩⟩
    have e37 := e36.trans e7
    obtain ⟨abx, abv, hab, _, _⟩ := id hAb
    refine ⟨ab, rfl, _, rfl, _, rfl, ⟨abx, _, hab⟩, ab, f, p, R, C, _, Pp, .ref za, .ref xa, rfl, hAb, ok, r5, c1, c5, hl, hz, .inl ⟨false, false, z0, z1, xs, e37.dp dZ, e37.dp dX, lx, s0, s1, zx, fun tv H8 e8 d8 => ?_⟩⟩
    obtain ⟨tb, tws, rfl, sTb, aTb⟩ := Dp.tup_inv d8
    refine ⟨tb, tws, rfl, .inr sTb, fun l2 hl8 => ?_⟩
    have e9 := Same.upd (o := .lst tws) hl8
    have e39 := (e37.trans e8).trans e9
    refine ⟨p, ys, turnY Pp C z0 z1 xs, 2, 457, .ref ya, .ref l2, rfl, hp.1, hp.2, e39.dp dY, Dp.newL upd_same (e9.dpAll aTb), by unfold turnY; simp; exact ly, by omega, zy, sz_turn hK r5 s0 s1 zx, by decide, by decide, by decide, fun oth H10 e10 d10 => ?_⟩
    rw [threeY ok z0 z1 lx ly] at d10
    have e3a := e39.trans e10
    have d6a : Dp K H10 one (numD (dot [z0, z1] [runC Pp (·.c) xs ys, runC Pp (·.d) xs ys])) := (((e7.trans e8).trans e9).trans e10).dp d6
    refine ⟨_, rfl, _, rfl, _, _, d6a, d10, (tp_num _).shaped (by decide), (tp_num _).shaped (by decide), true, congrArg V.bl (tp_num _).refl, iteT ?_⟩
    -- x and the other side's
    refine ⟨_, rfl, _, rfl, _, rfl, _, rfl, rfl, rfl, a, f, p, R, C, Pp, _, rfl, hP3.same e3a, by omega, .inr (.inl ⟨rfl, fun ab2 H11 e11 hAb2 => ?_⟩)⟩
    have e3b := e3a.trans e11
    obtain ⟨abx2, abv2, hab2, _, _⟩ := id hAb2
    refine ⟨ab2, rfl, _, rfl, _, rfl, ⟨abx2, _, hab2⟩, ab2, f, p, C, R, _, Pp.map flipP, .ref za, .ref ya, rfl, hAb2, hKF.1, c5, r1, r5, hKF.2.1, hKF.2.2, .inl ⟨false, false, z0, z1, ys, e3b.dp dZ, e3b.dp dY, ly, s0, s1, zy, fun tv H12 e12 d12 => ?_⟩⟩
    obtain ⟨tb, tws, rfl, sTb, aTb⟩ := Dp.tup_inv d12
    refine ⟨tb, tws, rfl, .inr sTb, fun l2 hl12 => ?_⟩
    have e13 := Same.upd (o := .lst tws) hl12
    have e3d := (e3b.trans e12).trans e13
    refine ⟨p, xs, turnY (Pp.map flipP) R z0 z1 ys, 2, 457, .ref xa, .ref l2, rfl, hp.1, hp.2, e3d.dp dX, Dp.newL upd_same (e13.dpAll aTb), by unfold turnY; simp; exact lx, by omega, zx, sz_turn hKF c5 s0 s1 zy, by decide, by decide, by decide, fun oth2 H14 e14 d14 => ?_⟩
    rw [turn_flip, threeX ok z0 z1 lx ly] at d14
    refine ⟨_, _, (((e11.trans e12).trans e13).trans e14).dp d6a, d14, (tp_num _).shaped (by decide), (tp_num _).shaped (by decide), ?_⟩
    rw [(tp_num _).refl]
    exact q _ (hH3.same (e3d.trans e14)) (E03.trans (Same.off (e3d.trans e14)))
end
end K21
set_option maxRecDepth 100000
set_option maxHeartbeats 4000000
namespace K21
open PySem PySem.Spec PyProof.Rows L2
section
variable {P : Program} {w : World} {K : PySem.W.Frag} {mg : Str → Option Value} {base : Heap}
def resOk : Option (Str × Nat) → Bool
  | none => true
  | some (s, _) => PyData.strOk s
theorem res_lay : ∀ res : Option (Str × Nat), resOk res = true → PyData.canLay0 (resD res) = true
  | none, _ => rfl
  | some (s, j), h => by
    have h : PyData.strOk s = true := h
    unfold resD
    simp [PyData.canLay0, PyData.canLayAll0, h]
theorem res_shaped : ∀ res : Option (Str × Nat), resOk res = true → SeqAt.shaped (resD res) = true
  | none, _ => rfl
  | some (s, j), h => by
    have h : PyData.strOk s = true := h
    unfold SeqAt.shaped resD
    simp [PyData.canLay0, PyData.canLayAll0, PyData.depth, PyData.depthAll, h]
theorem res_refl (res : Option (Str × Nat)) (h : resOk res = true) : PyData.eqv (resD res) (resD res) = true := SeqAt.eqv_refl _ (res_lay res h)
theorem ok_side : resOk (some (("side" : Str), 0)) = true := by decide +kernel
theorem ok_taps (j : Nat) : resOk (some (("taps" : Str), j)) = true := show PyData.strOk "taps" = true by decide +kernel
theorem ok_letters (j : Nat) : resOk (some (("letters" : Str), j)) = true := show PyData.strOk "letters" = true by decide +kernel
theorem due_same {H H' : Hp} {p n : Nat} {v1 v2 : V} {res : Option (Str × Nat)} (e : Same H H') (h : Due K H p n v1 v2 res) : Due K H' p n v1 v2 res := by
  rcases h with ⟨k1, k2, z0, z1, xs, d1, d2, h⟩ | ⟨j, hf, h⟩ | ⟨k1, zs, j, d1, lz, hf, h⟩
  · exact .inl ⟨k1, k2, z0, z1, xs, e.dp d1, e.dp d2, h⟩
  · exact .inr (.inl ⟨j, hf.same e, h⟩)
  · exact .inr (.inr ⟨k1, zs, j, e.dp d1, lz, hf.same e, h⟩)
def spRef (K : PySem.W.Frag) : Sp := fun vs H Q _ => ∃ (h c a f b g : Addr) (p R C : Nat) (Pp : List (Pr (Car p))), vs = [.ref h, .int (p : Int), .ref a, .ref b] ∧ Pm p ∧ HandAt H h c ∧ ProgAt K (Off [h] H) a f p R C Pp ∧ PairAt K (Off [h] H) b g p (table Pp (·.c) R C) (table Pp (·.d) R C) R C ∧ PpOk Pp R C ∧ Sides p R C ∧
  ∀ H', HandAt H' h c → Same (Off [h] H) (Off [h] H') → Q (.bl true) H'
theorem H__law_refusals (T : Txt K mg) : Hs P w K mg base 8 "_law_refusals" ["_law_hand_here", "_law_p", "_law_program", "_law_pair"] [] (spRef K) := by
  obtain ⟨fd, F⟩ := F__law_refusals T
  obtain ⟨fdT, TF, _, TK, gT, TB⟩ := FT (P := P) (w := w) (base := base) T
  refine ⟨_, fd, [], g__law_refusals T, F.kp, okN F sc__law_refusals (fun vs H Q E h => ?_) (fun cdv A outer s H vs Q E hr h => ?_), F.bindsN fun _ _ _ _ _ _ us hl => match us, hl with | [_, _, _, _], _ => rfl, .nil⟩
  · obtain ⟨h, cc, a, f, b, g, p, R, C, Pp, rfl, _⟩ := h
    rfl
  · obtain ⟨h, cc, a, f, b, g, p, R, C, Pp, rfl, hp, hH, hP, hB, hK, hS, q⟩ := h
    refine ⟨_, (pss_cons (ps_set (i := 4) sc__law_refusals.nd rfl (Or.inl rfl) (pe_ix ix_tup (pe_tup (pa_cons pe_str (pa_cons pe_str (pa_cons pe_str (pa_cons pe_non (pa_cons pe_int (pa_cons pe_str pa_nil))))))) (pe_callH (H__law_take T) (hr.mono (by decide)) passL (pa_cons (pv 0) (pa_cons pe_int pa_nil))) (fun _ _ => rfl)))
      (pss_cons (ps_if (PW.pt (pw_or (pt_cmpR (op_neD hr.units) (pe_callH (H__law_sided T) (hr.mono (by decide)) passL (pa_cons (pv 2) (pa_cons (pv 4) pa_nil))) (pe_tup (pa_cons pe_str (pa_cons pe_int pa_nil))) (nomark _)) (pw_or1 (pt_cmpR op_ne (pe_fld (pe_callH (H_turned_about T) (hr.mono (by decide)) passL (pa_cons (pv 2) pa_nil)) rfl) pe_str (nomark _)))))
        (pss_one (ps_ret pe_bl))
        pss_nil)
      (pss_cons (ps_set (i := 5) sc__law_refusals.nd rfl (Or.inl rfl) (pe_ix ix_tup (pe_tup (pa_cons pe_str (pa_cons pe_str pa_nil))) (pe_callH (H__law_take T) (hr.mono (by decide)) passL (pa_cons (pv 0) (pa_cons pe_int pa_nil))) (fun _ _ => rfl)))
      (pss_cons (ps_set (i := 6) sc__law_refusals.nd rfl (Or.inl rfl) (pe_ifExp (pt_cmpR op_eq (pv 5) pe_str (nomark _)) (pe_fld (pv 3) rfl) (pe_fld (pv 3) rfl)))
      (pss_cons (ps_set (i := 7) sc__law_refusals.nd rfl (Or.inl rfl) (pe_callN TF (hr.mono (by decide)) rfl (g_turned_about T) TK TB passL (pa_cons (pv 2) pa_nil) (pk_cons (pv 5) pk_nil)))
      (pss_cons (ps_asg (pe_callH (H__law_spoilt T) (hr.mono (by decide)) passL (pa_cons (pv 0) (pa_cons (pv 1) (pa_cons pe_int pa_nil)))) (pg_lst rfl (pgs_cons (pg_name (i := 8) sc__law_refusals.nd rfl (Or.inl rfl)) (pgs_cons (pg_name (i := 9) sc__law_refusals.nd rfl (Or.inl rfl)) pgs_nil))))
      (pss_cons (ps_asg (pe_callH (H__law_spoilt T) (hr.mono (by decide)) passL (pa_cons (pv 0) (pa_cons (pv 1) (pa_cons (pv 6) pa_nil)))) (pg_lst rfl (pgs_cons (pg_name (i := 10) sc__law_refusals.nd rfl (Or.inl rfl)) (pgs_cons (pg_name (i := 11) sc__law_refusals.nd rfl (Or.inl rfl)) pgs_nil))))
      (pss_cons (ps_par (i := 12) (j := 13) (by rfl) sc__law_refusals.nd rfl rfl (by decide) rfl rfl (pa_cons (pe_callH (H__law_numbers T) (hr.mono (by decide)) passL (pa_cons (pv 0) (pa_cons (pv 1) (pa_cons pe_int pa_nil)))) (pa_cons (pe_callH (H__law_numbers T) (hr.mono (by decide)) passL (pa_cons (pv 0) (pa_cons (pv 1) (pa_cons (pv 6) pa_nil)))) pa_nil)) (by rfl))
      (pss_cons (ps_if (pt_cmpR (op_neD hr.units) (pe_callH (H__law_plainly T) (hr.mono (by decide)) passL (pa_cons (pv 3) (pa_cons (pv 4) (pa_cons (pv 8) (pa_cons (pv 10) pa_nil))))) (pe_tup (pa_cons pe_str (pa_cons pe_int pa_nil))) (nomark _))
        (pss_one (ps_ret pe_bl))
        pss_nil)
      (pss_cons (ps_for PassesOwn.never rfl (pi_tup (pe_tup (pa_cons (pe_tup (pa_cons (pv 8) (pa_cons (pv 10) (pa_cons (pe_tup (pa_cons pe_str (pa_cons (pv 9) pa_nil))) pa_nil)))) (pa_cons (pe_tup (pa_cons (pv 8) (pa_cons (pv 13) (pa_cons (pe_tup (pa_cons pe_str (pa_cons (pv 9) pa_nil))) pa_nil)))) (pa_cons (pe_tup (pa_cons (pv 12) (pa_cons (pv 10) (pa_cons (pe_tup (pa_cons pe_str (pa_cons (pv 11) pa_nil))) pa_nil)))) (pa_cons (pe_tup (pa_cons (pv 12) (pa_cons (pv 13) (pa_cons pe_non pa_nil)))) pa_nil)))))) (pg_tup rfl (pgs_cons (pg_name (i := 14) sc__law_refusals.nd rfl (Or.inl rfl)) (pgs_cons (pg_name (i := 15) sc__law_refusals.nd rfl (Or.inl rfl)) (pgs_cons (pg_name (i := 16) sc__law_refusals.nd rfl (Or.inl rfl)) pgs_nil))))
        (pss_one (ps_if (PW.pt (pw_or (pt_cmpR (op_neD hr.units) (pe_callH (H__law_call T) (hr.mono (by decide)) passL (pa_cons (pv 7) (pa_cons (pv 14) (pa_cons (pv 15) pa_nil)))) (pv 16) (nomark _)) (pw_or1 (pt_cmpR (op_neD hr.units) (pe_callH (H__law_plainly T) (hr.mono (by decide)) passL (pa_cons (pv 3) (pa_cons (pv 5) (pa_cons (pv 14) (pa_cons (pv 15) pa_nil))))) (pv 16) (nomark _)))))
            (pss_one (ps_ret pe_bl))
            pss_nil)))
      (pss_one (ps_ret pe_bl)))))))))))), ?_⟩
    obtain ⟨ok, hl, hz⟩ := id hK
    have hKF := flip_ok hK
    obtain ⟨r1, r5, c1, c5, hpp⟩ := id hS
    have t1 := tab_table (R := R) (C := C) Pp (·.c)
    have t2 := tab_table (R := R) (C := C) Pp (·.d)
    have z1 := tsz_table (R := R) (C := C) ok hl hz (.inl rfl)
    have z2 := tsz_table (R := R) (C := C) ok hl hz (.inr rfl)
    -- an odd side
    refine ⟨by show 6 ≤ sizeLine; exact Nat.le_of_lt (few (by decide)), fun t ht => ?_⟩
    have e0 := Same.upd (o := .tup [.str "z", .str "", .str "xy", .non, .int 0, .str "Y"]) ht
    refine ⟨_, rfl, h, cc, 6, rfl, by decide, by decide, hH.same e0, fun vi H1 hvi hH1 E1 => ?_⟩
    obtain ⟨ov, hov, odd⟩ : ∃ ov, [V.str "z", .str "", .str "xy", .non, .int 0, .str "Y"][vi]? = some ov ∧ Odd ov := ⟨_, List.getElem?_eq_getElem hvi, List.getElem_mem _⟩
    refine ⟨_, _, _, _, rfl, rfl, .inl (.inl (keepO E1 (hH.some ht) upd_same)), atI_nat (j := vi) hov, ?_⟩
    have E01 := (Same.off (M := [h]) e0).trans E1
    refine ⟨_, rfl, _, rfl, a, f, p, R, C, Pp, ov, rfl, (hP.same E01).same Same.ofOff, by omega, odd, fun sv H2 e2 d2 => ?_⟩
    refine ⟨by show 2 ≤ sizeLine; decide, fun tt htt => ?_⟩
    have e3 := Same.upd (o := .tup [.str "side", .int 0]) htt
    refine ⟨resD (some (("side" : Str), 0)), resD (some (("side" : Str), 0)), e3.dp d2, Dp.newT upd_same (.cons (.str _) (.cons (.int _) .nil)), res_shaped _ ok_side, res_shaped _ ok_side, false, congrArg (fun z => V.bl (!z)) (res_refl _ ok_side), iteF ?_⟩
    have e23 := e2.trans e3
    have E03 := E01.trans (Same.off (M := [h]) e23)
    have hH3 := hH1.same e23
    refine ⟨_, rfl, a, f, p, R, C, Pp, _, rfl, (hP.same E03).same Same.ofOff, by omega, .inl ⟨rfl, fun ab H4 e4 hAb => ?_⟩⟩
    obtain ⟨abx, abv, hab, _, _⟩ := id hAb
    refine ⟨ab, _, abx, _, _, rfl, hab, cl_About T, na_About_by T, rfl, rfl, false, congrArg (fun z => V.bl (!z)) (decide_eq_true rfl), iteF ?_⟩
    have E04 := E03.trans (Same.off (M := [h]) e4)
    have hH4 := hH3.same e4
    -- a side
    refine ⟨by show 2 ≤ sizeLine; decide, fun ts hts => ?_⟩
    have e5 := Same.upd (o := .tup [.str "y", .str "x"]) hts
    refine ⟨_, rfl, h, cc, 2, rfl, by decide, by decide, hH4.same e5, fun si H6 hsi hH6 E6 => ?_⟩
    have hts6 := keepO E6 (hH4.some hts) upd_same
    have E06 := (E04.trans (Same.off (M := [h]) e5)).trans E6
    have hP6 := hP.same E06
    have hB6 := hB.same E06
    obtain ⟨bx, w1, w2, hBb, hG, dw1, dw2⟩ := id hB6
    have hB66 := Same.ofOff _ _ hBb
    have cs : si = 0 ∨ si = 1 := by omega
    rcases cs with rfl | rfl
    · refine ⟨_, _, _, _, rfl, rfl, .inl (.inl hts6), atI_nat (j := 0) rfl, ?_⟩
      refine ⟨_, rfl, rfl, _, rfl, iteT ⟨_, rfl, b, _, bx, _, _, rfl, hB66, cl_Pair T, na_Pair_rows T, rfl, ?_⟩⟩
      refine ⟨_, rfl, _, rfl, rfl, rfl, a, f, p, R, C, Pp, _, rfl, hP6.same Same.ofOff, by omega, .inl ⟨rfl, fun ab H7 e7 hAb => ?_⟩⟩
      have hH7 := hH6.same e7
      have hAb7 := hAb.off hH7
      refine ⟨_, rfl, _, rfl, h, cc, p, 2, rfl, hp, by decide, by decide, hH7, fun la tv ja H8 nla hla fA hH8 E8 => ?_⟩
      refine ⟨la, [tv, .int (ja : Int)], rfl, SqL.of hla, rfl, tv, [.int (ja : Int)], rfl, .int (ja : Int), [], rfl, rfl, ?_⟩
      refine ⟨_, rfl, _, rfl, _, rfl, h, cc, p, R, rfl, hp, r1, r5, hH8, fun lb lv jb H9 nlb hlb fB hH9 E9 => ?_⟩
      refine ⟨lb, [lv, .int (jb : Int)], rfl, SqL.of hlb, rfl, lv, [.int (jb : Int)], rfl, .int (jb : Int), [], rfl, rfl, ?_⟩
      have fA := fA.same E9
      refine ⟨_, rfl, _, rfl, h, cc, p, 2, rfl, hp, by decide, hH9, fun zs za zw H10 lz zz nza hza aZ hH10 E10 => ?_⟩
      have dz := row_new hH9 nza hH10 hza aZ
      refine ⟨_, rfl, _, rfl, _, rfl, h, cc, p, R, rfl, hp, r5, hH10, fun xs xa xw H11 lx zx nxa hxa aX hH11 E11 => ?_⟩
      have dx := row_new hH10 nxa hH11 hxa aX
      have dz := E11.dp dz
      have fA := (fA.same E10).same E11
      have fB := (fB.same E10).same E11
      have E711 := ((E8.trans E9).trans E10).trans E11
      have E611 := (Same.off (M := [h]) e7).trans E711
      have hA11 := (hAb7.same E711).same Same.ofOff
      have hB11 := (hB6.same E611).same Same.ofOff
      obtain ⟨z0, z1', rfl⟩ := ne_list lz
      have s0 : Sz p 2 z0 := zz z0 (by simp)
      have s1 : Sz p 2 z1' := zz z1' (by simp)
      refine ⟨_, _, rfl, ?_⟩
      refine ⟨_, rfl, _, rfl, _, rfl, _, rfl, b, g, p, R, C, _, _, ov, tv, lv, some (("side" : Str), 0), rfl, hB11, t1, t2, r5, c5, z1, z2, .inl ⟨odd, rfl⟩, fun sv H12 e12 d12 => ?_⟩
      refine ⟨by show 2 ≤ sizeLine; decide, fun tt htt => ?_⟩
      have e13 := Same.upd (o := .tup [.str "side", .int 0]) htt
      refine ⟨resD (some (("side" : Str), 0)), resD (some (("side" : Str), 0)), e13.dp d12, Dp.newT upd_same (.cons (.str _) (.cons (.int _) .nil)), res_shaped _ ok_side, res_shaped _ ok_side, false, congrArg (fun z => V.bl (!z)) (res_refl _ ok_side), iteF ?_⟩
      -- the four uses
      refine ⟨_, rfl, _, rfl, _, rfl, by show 2 ≤ sizeLine; decide, fun d1 hd1 => ⟨by show 3 ≤ sizeLine; exact Nat.le_of_lt (few (by decide)), fun q1 hq1 => ?_⟩⟩
      refine ⟨_, rfl, _, rfl, _, rfl, by show 2 ≤ sizeLine; decide, fun d2' hd2 => ⟨by show 3 ≤ sizeLine; exact Nat.le_of_lt (few (by decide)), fun q2 hq2 => ?_⟩⟩
      refine ⟨_, rfl, _, rfl, _, rfl, by show 2 ≤ sizeLine; decide, fun d3 hd3 => ⟨by show 3 ≤ sizeLine; exact Nat.le_of_lt (few (by decide)), fun q3 hq3 => ?_⟩⟩
      refine ⟨_, rfl, _, rfl, by show 3 ≤ sizeLine; exact Nat.le_of_lt (few (by decide)), fun q4 hq4 => ⟨by show 4 ≤ sizeLine; exact Nat.le_of_lt (few (by decide)), fun q5 hq5 => ?_⟩⟩
      have g1 := Same.upd (o := .tup [.str "taps", .int (ja : Int)]) hd1
      have g2 := Same.upd (o := .tup [tv, lv, .ref d1]) hq1
      have g3 := Same.upd (o := .tup [.str "taps", .int (ja : Int)]) hd2
      have g4 := Same.upd (o := .tup [tv, .ref xa, .ref d2']) hq2
      have g5 := Same.upd (o := .tup [.str "letters", .int (jb : Int)]) hd3
      have g6 := Same.upd (o := .tup [.ref za, lv, .ref d3]) hq3
      have g7 := Same.upd (o := .tup [.ref za, .ref xa, .non]) hq4
      have g8 := Same.upd (o := .tup [.ref q1, .ref q2, .ref q3, .ref q4]) hq5
      have G78 := g7.trans g8
      have G68 := g6.trans G78
      have G58 := g5.trans G68
      have G48 := g4.trans G58
      have G38 := g3.trans G48
      have G28 := g2.trans G38
      have G18 := g1.trans G28
      have eU := (e12.trans e13).trans G18
      have uses : ∀ (i : Nat) (x : V), [V.ref q1, .ref q2, .ref q3, .ref q4][i]? = some x → ∃ qa fv sv dv res, x = .ref qa ∧ upd _ q5 (.tup [.ref q1, .ref q2, .ref q3, .ref q4]) qa = some (.tup [fv, sv, dv]) ∧ Due K (upd _ q5 (.tup [.ref q1, .ref q2, .ref q3, .ref q4])) p R fv sv res ∧ Dp K (upd _ q5 (.tup [.ref q1, .ref q2, .ref q3, .ref q4])) dv (resD res) ∧ resOk res = true := fun i x hx => by
        have hi : i < 4 := (List.getElem?_eq_some_iff.mp hx).1
        have cs : i = 0 ∨ i = 1 ∨ i = 2 ∨ i = 3 := by omega
        rcases cs with rfl | rfl | rfl | rfl
        · obtain rfl := Option.some.inj hx
          exact ⟨q1, tv, lv, .ref d1, some (("taps" : Str), ja), rfl, G38 _ _ upd_same, .inr (.inl ⟨ja, (fA.same Same.ofOff).same eU, rfl⟩), Dp.newT (G28 _ _ upd_same) (.cons (.str _) (.cons (.int _) .nil)), ok_taps ja⟩
        · obtain rfl := Option.some.inj hx
          exact ⟨q2, tv, .ref xa, .ref d2', some (("taps" : Str), ja), rfl, G58 _ _ upd_same, .inr (.inl ⟨ja, (fA.same Same.ofOff).same eU, rfl⟩), Dp.newT (G48 _ _ upd_same) (.cons (.str _) (.cons (.int _) .nil)), ok_taps ja⟩
        · obtain rfl := Option.some.inj hx
          exact ⟨q3, .ref za, lv, .ref d3, some (("letters" : Str), jb), rfl, G78 _ _ upd_same, .inr (.inr ⟨false, [z0, z1'], jb, eU.dp (Same.ofOff.dp dz), rfl, (fB.same Same.ofOff).same eU, rfl⟩), Dp.newT (G68 _ _ upd_same) (.cons (.str _) (.cons (.int _) .nil)), ok_letters jb⟩
        · obtain rfl := Option.some.inj hx
          exact ⟨q4, .ref za, .ref xa, .non, none, rfl, g8 _ _ upd_same, .inl ⟨false, false, z0, z1', xs, eU.dp (Same.ofOff.dp dz), eU.dp (Same.ofOff.dp dx), lx, s0, s1, zx, rfl⟩, .non, rfl⟩
      refine ⟨q5, rfl, ⟨_, .inl (.inl upd_same)⟩, for_it (walk_tup (xs := [.ref q1, .ref q2, .ref q3, .ref q4]))
        (fun i σ H' => ∃ o14 o15 o16, σ = [some (.ref h), some (.int (p : Int)), some (.ref a), some (.ref b), some ov, some (.str "y"), some (.int (R : Int)), some (.ref ab), some tv, some (.int (ja : Int)), some lv, some (.int (jb : Int)), some (.ref za), some (.ref xa), o14, o15, o16] ∧ Same (upd _ q5 (.tup [.ref q1, .ref q2, .ref q3, .ref q4])) H')
        ⟨none, none, none, rfl, Same.refl _⟩ (fun i σ H' hi ⟨_, _, _, _, e⟩ => .inl (.inl (e _ _ upd_same))) (fun i x σ H13 H14 hi hPv hY => ?_) (fun σ H' hPv => ?_)⟩
      · obtain ⟨o14, o15, o16, rfl, e14⟩ := hPv
        obtain ⟨rfl, ev⟩ := hY
        obtain ⟨qa, fv, sv, dv, res, rfl, hqa, hdue, hdv, hok⟩ := uses i x ev
        refine ⟨qa, [fv, sv, dv], rfl, .inl (.inl (e14 _ _ hqa)), rfl, fv, [sv, dv], rfl, sv, [dv], rfl, dv, [], rfl, rfl, ?_⟩
        have eU14 := eU.trans e14
        refine ⟨_, rfl, _, rfl, _, rfl, ab, f, p, R, C, _, Pp, fv, sv, res, rfl, hA11.same eU14, ok, r5, c1, c5, hl, hz, due_same e14 hdue, fun rv H15 e15 d15 => ?_⟩
        refine ⟨_, rfl, _, _, d15, e15.dp (e14.dp hdv), res_shaped _ hok, res_shaped _ hok, false, congrArg (fun z => V.bl (!z)) (res_refl _ hok), iteF ?_⟩
        refine ⟨_, rfl, _, rfl, _, rfl, _, rfl, b, g, p, R, C, _, _, _, fv, sv, res, rfl, hB11.same (eU14.trans e15), t1, t2, r5, c5, z1, z2, .inr (.inl ⟨rfl, due_same (e14.trans e15) hdue⟩), fun rv2 H16 e16 d16 => ?_⟩
        exact ⟨_, rfl, _, _, d16, e16.dp (e15.dp (e14.dp hdv)), res_shaped _ hok, res_shaped _ hok, false, congrArg (fun z => V.bl (!z)) (res_refl _ hok), iteF ⟨_, _, _, rfl, (e14.trans e15).trans e16⟩⟩
      · obtain ⟨o14, o15, o16, rfl, e14⟩ := hPv
        have eF := eU.trans e14
        exact q _ (hH11.same eF) ((E06.trans E611).trans (Same.off eF))
    · refine ⟨_, _, _, _, rfl, rfl, .inl (.inl hts6), atI_nat (j := 1) rfl, ?_⟩
      refine ⟨_, rfl, rfl, _, rfl, iteF ⟨_, rfl, b, _, bx, _, _, rfl, hB66, cl_Pair T, na_Pair_columns T, rfl, ?_⟩⟩
      refine ⟨_, rfl, _, rfl, rfl, rfl, a, f, p, R, C, Pp, _, rfl, hP6.same Same.ofOff, by omega, .inr (.inl ⟨rfl, fun ab H7 e7 hAb => ?_⟩)⟩
      have hH7 := hH6.same e7
      have hAb7 := hAb.off hH7
      refine ⟨_, rfl, _, rfl, h, cc, p, 2, rfl, hp, by decide, by decide, hH7, fun la tv ja H8 nla hla fA hH8 E8 => ?_⟩
      refine ⟨la, [tv, .int (ja : Int)], rfl, SqL.of hla, rfl, tv, [.int (ja : Int)], rfl, .int (ja : Int), [], rfl, rfl, ?_⟩
      refine ⟨_, rfl, _, rfl, _, rfl, h, cc, p, C, rfl, hp, c1, c5, hH8, fun lb lv jb H9 nlb hlb fB hH9 E9 => ?_⟩
      refine ⟨lb, [lv, .int (jb : Int)], rfl, SqL.of hlb, rfl, lv, [.int (jb : Int)], rfl, .int (jb : Int), [], rfl, rfl, ?_⟩
      have fA := fA.same E9
      refine ⟨_, rfl, _, rfl, h, cc, p, 2, rfl, hp, by decide, hH9, fun zs za zw H10 lz zz nza hza aZ hH10 E10 => ?_⟩
      have dz := row_new hH9 nza hH10 hza aZ
      refine ⟨_, rfl, _, rfl, _, rfl, h, cc, p, C, rfl, hp, c5, hH10, fun xs xa xw H11 lx zx nxa hxa aX hH11 E11 => ?_⟩
      have dx := row_new hH10 nxa hH11 hxa aX
      have dz := E11.dp dz
      have fA := (fA.same E10).same E11
      have fB := (fB.same E10).same E11
      have E711 := ((E8.trans E9).trans E10).trans E11
      have E611 := (Same.off (M := [h]) e7).trans E711
      have hA11 := (hAb7.same E711).same Same.ofOff
      have hB11 := (hB6.same E611).same Same.ofOff
      obtain ⟨z0, z1', rfl⟩ := ne_list lz
      have s0 : Sz p 2 z0 := zz z0 (by simp)
      have s1 : Sz p 2 z1' := zz z1' (by simp)
      refine ⟨_, _, rfl, ?_⟩
      refine ⟨_, rfl, _, rfl, _, rfl, _, rfl, b, g, p, R, C, _, _, ov, tv, lv, some (("side" : Str), 0), rfl, hB11, t1, t2, r5, c5, z1, z2, .inl ⟨odd, rfl⟩, fun sv H12 e12 d12 => ?_⟩
      refine ⟨by show 2 ≤ sizeLine; decide, fun tt htt => ?_⟩
      have e13 := Same.upd (o := .tup [.str "side", .int 0]) htt
      refine ⟨resD (some (("side" : Str), 0)), resD (some (("side" : Str), 0)), e13.dp d12, Dp.newT upd_same (.cons (.str _) (.cons (.int _) .nil)), res_shaped _ ok_side, res_shaped _ ok_side, false, congrArg (fun z => V.bl (!z)) (res_refl _ ok_side), iteF ?_⟩
      -- the four uses
      refine ⟨_, rfl, _, rfl, _, rfl, by show 2 ≤ sizeLine; decide, fun d1 hd1 => ⟨by show 3 ≤ sizeLine; exact Nat.le_of_lt (few (by decide)), fun q1 hq1 => ?_⟩⟩
      refine ⟨_, rfl, _, rfl, _, rfl, by show 2 ≤ sizeLine; decide, fun d2' hd2 => ⟨by show 3 ≤ sizeLine; exact Nat.le_of_lt (few (by decide)), fun q2 hq2 => ?_⟩⟩
      refine ⟨_, rfl, _, rfl, _, rfl, by show 2 ≤ sizeLine; decide, fun d3 hd3 => ⟨by show 3 ≤ sizeLine; exact Nat.le_of_lt (few (by decide)), fun q3 hq3 => ?_⟩⟩
      refine ⟨_, rfl, _, rfl, by show 3 ≤ sizeLine; exact Nat.le_of_lt (few (by decide)), fun q4 hq4 => ⟨by show 4 ≤ sizeLine; exact Nat.le_of_lt (few (by decide)), fun q5 hq5 => ?_⟩⟩
      have g1 := Same.upd (o := .tup [.str "taps", .int (ja : Int)]) hd1
      have g2 := Same.upd (o := .tup [tv, lv, .ref d1]) hq1
      have g3 := Same.upd (o := .tup [.str "taps", .int (ja : Int)]) hd2
      have g4 := Same.upd (o := .tup [tv, .ref xa, .ref d2']) hq2
      have g5 := Same.upd (o := .tup [.str "letters", .int (jb : Int)]) hd3
      have g6 := Same.upd (o := .tup [.ref za, lv, .ref d3]) hq3
      have g7 := Same.upd (o := .tup [.ref za, .ref xa, .non]) hq4
      have g8 := Same.upd (o := .tup [.ref q1, .ref q2, .ref q3, .ref q4]) hq5
      have G78 := g7.trans g8
      have G68 := g6.trans G78
      have G58 := g5.trans G68
      have G48 := g4.trans G58
      have G38 := g3.trans G48
      have G28 := g2.trans G38
      have G18 := g1.trans G28
      have eU := (e12.trans e13).trans G18
      have uses : ∀ (i : Nat) (x : V), [V.ref q1, .ref q2, .ref q3, .ref q4][i]? = some x → ∃ qa fv sv dv res, x = .ref qa ∧ upd _ q5 (.tup [.ref q1, .ref q2, .ref q3, .ref q4]) qa = some (.tup [fv, sv, dv]) ∧ Due K (upd _ q5 (.tup [.ref q1, .ref q2, .ref q3, .ref q4])) p C fv sv res ∧ Dp K (upd _ q5 (.tup [.ref q1, .ref q2, .ref q3, .ref q4])) dv (resD res) ∧ resOk res = true := fun i x hx => by
        have hi : i < 4 := (List.getElem?_eq_some_iff.mp hx).1
        have cs : i = 0 ∨ i = 1 ∨ i = 2 ∨ i = 3 := by omega
        rcases cs with rfl | rfl | rfl | rfl
        · obtain rfl := Option.some.inj hx
          exact ⟨q1, tv, lv, .ref d1, some (("taps" : Str), ja), rfl, G38 _ _ upd_same, .inr (.inl ⟨ja, (fA.same Same.ofOff).same eU, rfl⟩), Dp.newT (G28 _ _ upd_same) (.cons (.str _) (.cons (.int _) .nil)), ok_taps ja⟩
        · obtain rfl := Option.some.inj hx
          exact ⟨q2, tv, .ref xa, .ref d2', some (("taps" : Str), ja), rfl, G58 _ _ upd_same, .inr (.inl ⟨ja, (fA.same Same.ofOff).same eU, rfl⟩), Dp.newT (G48 _ _ upd_same) (.cons (.str _) (.cons (.int _) .nil)), ok_taps ja⟩
        · obtain rfl := Option.some.inj hx
          exact ⟨q3, .ref za, lv, .ref d3, some (("letters" : Str), jb), rfl, G78 _ _ upd_same, .inr (.inr ⟨false, [z0, z1'], jb, eU.dp (Same.ofOff.dp dz), rfl, (fB.same Same.ofOff).same eU, rfl⟩), Dp.newT (G68 _ _ upd_same) (.cons (.str _) (.cons (.int _) .nil)), ok_letters jb⟩
        · obtain rfl := Option.some.inj hx
          exact ⟨q4, .ref za, .ref xa, .non, none, rfl, g8 _ _ upd_same, .inl ⟨false, false, z0, z1', xs, eU.dp (Same.ofOff.dp dz), eU.dp (Same.ofOff.dp dx), lx, s0, s1, zx, rfl⟩, .non, rfl⟩
      refine ⟨q5, rfl, ⟨_, .inl (.inl upd_same)⟩, for_it (walk_tup (xs := [.ref q1, .ref q2, .ref q3, .ref q4]))
        (fun i σ H' => ∃ o14 o15 o16, σ = [some (.ref h), some (.int (p : Int)), some (.ref a), some (.ref b), some ov, some (.str "x"), some (.int (C : Int)), some (.ref ab), some tv, some (.int (ja : Int)), some lv, some (.int (jb : Int)), some (.ref za), some (.ref xa), o14, o15, o16] ∧ Same (upd _ q5 (.tup [.ref q1, .ref q2, .ref q3, .ref q4])) H')
        ⟨none, none, none, rfl, Same.refl _⟩ (fun i σ H' hi ⟨_, _, _, _, e⟩ => .inl (.inl (e _ _ upd_same))) (fun i x σ H13 H14 hi hPv hY => ?_) (fun σ H' hPv => ?_)⟩
      · obtain ⟨o14, o15, o16, rfl, e14⟩ := hPv
        obtain ⟨rfl, ev⟩ := hY
        obtain ⟨qa, fv, sv, dv, res, rfl, hqa, hdue, hdv, hok⟩ := uses i x ev
        refine ⟨qa, [fv, sv, dv], rfl, .inl (.inl (e14 _ _ hqa)), rfl, fv, [sv, dv], rfl, sv, [dv], rfl, dv, [], rfl, rfl, ?_⟩
        have eU14 := eU.trans e14
        refine ⟨_, rfl, _, rfl, _, rfl, ab, f, p, C, R, _, (Pp.map flipP), fv, sv, res, rfl, hA11.same eU14, hKF.1, c5, r1, r5, hKF.2.1, hKF.2.2, due_same e14 hdue, fun rv H15 e15 d15 => ?_⟩
        refine ⟨_, rfl, _, _, d15, e15.dp (e14.dp hdv), res_shaped _ hok, res_shaped _ hok, false, congrArg (fun z => V.bl (!z)) (res_refl _ hok), iteF ?_⟩
        refine ⟨_, rfl, _, rfl, _, rfl, _, rfl, b, g, p, R, C, _, _, _, fv, sv, res, rfl, hB11.same (eU14.trans e15), t1, t2, r5, c5, z1, z2, .inr (.inr ⟨rfl, due_same (e14.trans e15) hdue⟩), fun rv2 H16 e16 d16 => ?_⟩
        exact ⟨_, rfl, _, _, d16, e16.dp (e15.dp (e14.dp hdv)), res_shaped _ hok, res_shaped _ hok, false, congrArg (fun z => V.bl (!z)) (res_refl _ hok), iteF ⟨_, _, _, rfl, (e14.trans e15).trans e16⟩⟩
      · obtain ⟨o14, o15, o16, rfl, e14⟩ := hPv
        have eF := eU.trans e14
        exact q _ (hH11.same eF) ((E06.trans E611).trans (Same.off eF))
end
end K21
set_option maxRecDepth 100000
set_option maxHeartbeats 4000000
namespace K21
open PySem PySem.Spec PyProof.Rows L2
section
variable {P : Program} {w : World} {K : PySem.W.Frag} {mg : Str → Option Value} {base : Heap}
theorem pm_of {p : Nat} (h : p ∈ [0, 2, 3, 5, 7, 11, 13]) : Pm p := by
  simp only [List.mem_cons, List.not_mem_nil, or_false] at h
  unfold Pm
  omega
def spLaw (K : PySem.W.Frag) : Sp := fun vs H Q _ => ∃ (a : Addr) (ns : List Int), vs = [.ref a] ∧ ns.length ≤ 1000 ∧ SqL K H a (ns.map V.int) ∧ ∀ H', Q (.bl true) H'
theorem ok_law (T : Txt K mg) {fd : FuncData} (F : FunD K "law" "law" (defArgs s_law) (defBody s_law) (defScope s_law) [] [] (He.ga K "law") fd) : FnOk P w K mg base CX0 10 (He.ga K "law") fd ["_law_script"] (spLaw K) := by
  refine okN0 F sc_law (fun vs H Q E h => ?_) (fun cdv A outer s H vs Q E hr h => ?_)
  · obtain ⟨a, ns, rfl, _⟩ := h
    rfl
  · obtain ⟨a, ns, rfl, hl, hS, q⟩ := h
    refine ⟨_, (pss_cons (ps_set (i := 1) sc_law.nd rfl (Or.inl rfl) (pe_callH (H__law_hand T) (hr.mono (by decide)) passL (pa_cons (pv 0) pa_nil)))
      (pss_cons (ps_set (i := 2) sc_law.nd rfl (Or.inl rfl) (pe_callH (H__law_figures T) (hr.mono (by decide)) passL (pa_cons (pv 1) pa_nil)))
      (pss_cons (ps_set (i := 3) sc_law.nd rfl (Or.inl rfl) (pe_makeH (HC_Figures T) (hr.mono (by decide)) passL (pa_cons (pv 2) pa_nil)))
      (pss_cons (ps_set (i := 4) sc_law.nd rfl (Or.inl rfl) (pe_callH (H__law_size T) (hr.mono (by decide)) passL (pa_cons (pv 1) (pa_cons (pv 2) (pa_cons pe_int pa_nil)))))
      (pss_cons (ps_set (i := 5) sc_law.nd rfl (Or.inl rfl) (pe_callH (H__law_size T) (hr.mono (by decide)) passL (pa_cons (pv 1) (pa_cons (pv 2) (pa_cons pe_int pa_nil)))))
      (pss_cons (ps_set (i := 6) sc_law.nd rfl (Or.inl rfl) (pe_callH (H__law_products T) (hr.mono (by decide)) passL (pa_cons (pv 1) (pa_cons (pv 2) (pa_cons (pv 4) (pa_cons (pv 5) (pa_cons (pe_ix ix_tup (pe_tup (pa_cons pe_int (pa_cons pe_int (pa_cons pe_int (pa_cons pe_int (pa_cons pe_int (pa_cons pe_int (pa_cons pe_int (pa_cons pe_int (pa_cons pe_int (pa_cons pe_int (pa_cons pe_int (pa_cons pe_int pa_nil))))))))))))) (pe_callH (H__law_take T) (hr.mono (by decide)) passL (pa_cons (pv 1) (pa_cons pe_int pa_nil))) (fun _ _ => rfl)) pa_nil)))))))
      (pss_cons (ps_set (i := 7) sc_law.nd rfl (Or.inl rfl) (pe_makeH (HC_Program T) (hr.mono (by decide)) passL (pa_cons (pv 3) (pa_cons (pv 4) (pa_cons (pv 5) (pa_cons (pe_callH (H__law_list T) (hr.mono (by decide)) passL (pa_cons (pv 1) (pa_cons (pv 6) pa_nil))) pa_nil))))))
      (pss_cons (ps_set (i := 8) sc_law.nd rfl (Or.inl rfl) (pe_callH (H__law_tuple T) (hr.mono (by decide)) passL (pa_cons (pe_callH (H__law_summed T) (hr.mono (by decide)) passL (pa_cons (pv 2) (pa_cons (pv 4) (pa_cons (pv 5) (pa_cons (pv 6) (pa_cons pe_int pa_nil)))))) pa_nil)))
      (pss_cons (ps_set (i := 9) sc_law.nd rfl (Or.inl rfl) (pe_makeH (HC_Pair T) (hr.mono (by decide)) passL (pa_cons (pv 3) (pa_cons (pv 8) (pa_cons (pe_callH (H__law_tuple T) (hr.mono (by decide)) passL (pa_cons (pe_callH (H__law_summed T) (hr.mono (by decide)) passL (pa_cons (pv 2) (pa_cons (pv 4) (pa_cons (pv 5) (pa_cons (pv 6) (pa_cons pe_int pa_nil)))))) pa_nil)) pa_nil)))))
      (pss_cons (ps_for PassesOwn.never rfl (pi_tup (pe_tup (pa_cons pe_str (pa_cons pe_str pa_nil)))) (pg_name (i := 10) sc_law.nd rfl (Or.inl rfl))
        (pss_one (ps_if (pt_not (pt_val (pe_callH (H__law_side T) (hr.mono (by decide)) passL (pa_cons (pv 1) (pa_cons (pv 2) (pa_cons (pv 7) (pa_cons (pv 9) (pa_cons (pv 10) pa_nil))))))))
            (pss_one (ps_ret pe_bl))
            pss_nil)))
      (pss_cons (ps_if (pt_not (pt_val (pe_callH (H__law_three T) (hr.mono (by decide)) passL (pa_cons (pv 1) (pa_cons (pv 2) (pa_cons (pv 7) (pa_cons (pv 4) (pa_cons (pv 5) pa_nil))))))))
        (pss_one (ps_ret pe_bl))
        pss_nil)
      (pss_one (ps_ret (pe_callH (H__law_refusals T) (hr.mono (by decide)) passL (pa_cons (pv 1) (pa_cons (pv 2) (pa_cons (pv 7) (pa_cons (pv 9) pa_nil)))))))))))))))))), ?_⟩
    refine ⟨_, rfl, a, ns, rfl, hS, hl, fun h cc H1 e1 nh hH1 => ?_⟩
    refine ⟨_, rfl, h, cc, rfl, hH1, fun p H2 hp hH2 E2 => ?_⟩
    have hpm := pm_of hp
    -- figures
    refine ⟨_, rfl, fun f fx hf hfx ne => ⟨H2, f, fx, p, rfl, hp, (Same.upd (o := .own f) hfx).trans (Same.upd (o := .ins (He.ga K "Figures") fx []) (by rw [upd_ne (Ne.symm ne)]; exact hf)), hf, upd_same, fun H3 e3 hF3 => ⟨rfl, ?_⟩⟩⟩
    have hH3 := hH2.same e3
    have F3 := hF3.off hH3
    refine ⟨_, rfl, _, rfl, h, cc, p, rfl, hpm, hH3, fun R H4 r1 r5 rp hH4 E4 => ?_⟩
    refine ⟨_, rfl, _, rfl, h, cc, p, rfl, hpm, hH4, fun C H5 c1 c5 cp hH5 E5 => ?_⟩
    have hS5 : Sides p R C := ⟨r1, r5, c1, c5, by omega⟩
    -- products
    refine ⟨_, rfl, _, rfl, _, rfl, _, rfl, by show 12 ≤ sizeLine; exact Nat.le_of_lt (few (by decide)), fun t ht => ?_⟩
    have e6 := Same.upd (o := .tup [.int 0, .int 1, .int 2, .int 3, .int 3, .int 4, .int 4, .int 5, .int 6, .int 12, .int 2, .int 3]) ht
    refine ⟨_, rfl, h, cc, 12, rfl, by decide, by decide, hH5.same e6, fun mi H7 hmi hH7 E7 => ?_⟩
    obtain ⟨m, hm, m12⟩ : ∃ m : Nat, [V.int 0, .int 1, .int 2, .int 3, .int 3, .int 4, .int 4, .int 5, .int 6, .int 12, .int 2, .int 3][mi]? = some (.int (m : Int)) ∧ m ≤ 12 := by
      have cs : mi = 0 ∨ mi = 1 ∨ mi = 2 ∨ mi = 3 ∨ mi = 4 ∨ mi = 5 ∨ mi = 6 ∨ mi = 7 ∨ mi = 8 ∨ mi = 9 ∨ mi = 10 ∨ mi = 11 := by omega
      rcases cs with rfl | rfl | rfl | rfl | rfl | rfl | rfl | rfl | rfl | rfl | rfl | rfl
      · exact ⟨0, rfl, by decide⟩
      · exact ⟨1, rfl, by decide⟩
      · exact ⟨2, rfl, by decide⟩
      · exact ⟨3, rfl, by decide⟩
      · exact ⟨3, rfl, by decide⟩
      · exact ⟨4, rfl, by decide⟩
      · exact ⟨4, rfl, by decide⟩
      · exact ⟨5, rfl, by decide⟩
      · exact ⟨6, rfl, by decide⟩
      · exact ⟨12, rfl, by decide⟩
      · exact ⟨2, rfl, by decide⟩
      · exact ⟨3, rfl, by decide⟩
    refine ⟨_, _, _, _, rfl, rfl, .inl (.inl (keepO E7 (hH5.some ht) upd_same)), atI_nat (j := mi) hm, ?_⟩
    refine ⟨h, cc, p, R, C, m, rfl, hpm, r5, c5, m12, hH7, fun Pp pv H8 lP ok hz dP hH8 E8 => ?_⟩
    have hl12 : Pp.length ≤ 12 := by omega
    have hK : PpOk Pp R C := ⟨ok, hl12, hz⟩
    have E38 := (((E4.trans E5).trans (Same.off e6)).trans E7).trans E8
    -- the program
    refine ⟨_, rfl, _, rfl, _, rfl, _, rfl, _, rfl, h, cc, pv, _, rfl, hH8, dP, fun k lv H9 dL hH9 E9 => ?_⟩
    have E39 := E38.trans E9
    refine fun a2 ax ha2 hax ne2 => ⟨H9, a2, ax, f, p, R, C, Pp, k, lv, rfl, (Same.upd (o := .own a2) hax).trans (Same.upd (o := .ins (He.ga K "Program") ax []) (by rw [upd_ne (Ne.symm ne2)]; exact ha2)), ha2, upd_same, (F3.same E39).same Same.ofOff, Same.ofOff.dp dL, ok, by omega, hS5, fun H10 e10 hP10 => ⟨rfl, ?_⟩⟩
    have hH10 := hH9.same e10
    have E10 := Same.off (M := [h]) e10
    have dP10 := Same.ofOff.dp (E10.dp (E9.dp dP))
    have F10 := (F3.same (E39.trans E10)).same Same.ofOff
    -- its tables
    refine ⟨_, rfl, _, rfl, _, rfl, _, rfl, p, R, C, 2, Pp, (·.c), pv, rfl, hpm.1, hpm.2, r5, c5, dP10, ok, hl12, hz, .inl ⟨rfl, rfl⟩, fun s1 H11 e11 d11 => ?_⟩
    refine ⟨p, _, s1, rfl, d11, by rw [(tab_table Pp _).1]; omega, fun t1 H12 e12 d12 => ?_⟩
    have e1012 := e11.trans e12
    refine ⟨_, rfl, _, rfl, _, rfl, _, rfl, _, rfl, _, rfl, p, R, C, 3, Pp, (·.d), pv, rfl, hpm.1, hpm.2, r5, c5, e1012.dp dP10, ok, hl12, hz, .inr ⟨rfl, rfl⟩, fun s2 H13 e13 d13 => ?_⟩
    refine ⟨p, _, s2, rfl, d13, by rw [(tab_table Pp _).1]; omega, fun t2 H14 e14 d14 => ?_⟩
    have e1214 := e13.trans e14
    have e1014 := e1012.trans e1214
    refine fun b bx hb hbx ne3 => ⟨H14, b, bx, f, p, R, C, _, _, t1, t2, rfl, (Same.upd (o := .own b) hbx).trans (Same.upd (o := .ins (He.ga K "Pair") bx []) (by rw [upd_ne (Ne.symm ne3)]; exact hb)), hb, upd_same, F10.same e1014, e1214.dp d12, d14, tab_table _ _, tab_table _ _, r1, r5, c1, c5, hS5.2.2.2.2, fun H15 e15 hB15 => ⟨rfl, ?_⟩⟩
    have e1015 := e1014.trans e15
    have hH15 := hH10.same e1015
    have hP15 := (hP10.same e1015).off hH15
    have hB15 := hB15.off hH15
    -- both sides
    refine ⟨by show 2 ≤ sizeLine; decide, fun ts hts => ?_⟩
    have e16 := Same.upd (o := .tup [.str "y", .str "x"]) hts
    have nts := hH15.some hts
    have hs16 : SqT K (upd H15 ts (.tup [.str "y", .str "x"])) ts [.str "y", .str "x"] := .inl (.inl upd_same)
    have hH16 := hH15.same e16
    have hP16 := hP15.same (Same.off e16)
    have hB16 := hB15.same (Same.off e16)
    refine ⟨ts, rfl, ⟨_, hs16⟩, for_it (walk_tup (xs := [.str "y", .str "x"]))
      (fun i σ H' => ∃ o10, σ = [some (.ref a), some (.ref h), some (.int (p : Int)), some (.ref f), some (.int (R : Int)), some (.int (C : Int)), some pv, some (.ref a2), some t1, some (.ref b), o10] ∧ HandAt H' h cc ∧ Same (Off [h] (upd H15 ts (.tup [.str "y", .str "x"]))) (Off [h] H'))
      ⟨none, rfl, hH16, Same.refl _⟩ (fun i σ H' hi ⟨_, _, _, e⟩ => sqT_hand hH16 e hs16) (fun i x σ H17 H18 hi hPv hY => ?_) (fun σ H' hPv => ?_)⟩
    · obtain ⟨o10, rfl, hH17, E17⟩ := hPv
      obtain ⟨rfl, ev⟩ := hY
      obtain ⟨sx, rfl, hsx⟩ : ∃ sx : Str, x = .str sx ∧ (sx = "y" ∨ sx = "x") := by
        have cs : i = 0 ∨ i = 1 := by
          have : i < 2 := hi
          omega
        rcases cs with rfl | rfl
        · exact ⟨_, (Option.some.inj ev).symm, .inl rfl⟩
        · exact ⟨_, (Option.some.inj ev).symm, .inr rfl⟩
      refine ⟨_, rfl, _, rfl, _, rfl, _, rfl, _, rfl, h, cc, a2, f, b, f, p, R, C, Pp, sx, rfl, hpm, hH17, hP16.same E17, hB16.same E17, hK, hS5, hsx, fun H19 hH19 E19 => ⟨_, rfl, iteF ⟨_, rfl, hH19, E17.trans E19⟩⟩⟩
    · obtain ⟨o10, rfl, hH17, E17⟩ := hPv
      refine ⟨_, rfl, _, rfl, _, rfl, _, rfl, _, rfl, h, cc, a2, f, p, R, C, Pp, rfl, hpm, hH17, hP16.same E17, hK, hS5, fun H19 hH19 E19 => ⟨_, rfl, iteF ?_⟩⟩
      exact ⟨_, rfl, _, rfl, _, rfl, _, rfl, h, cc, a2, f, b, f, p, R, C, Pp, rfl, hpm, hH19, (hP16.same E17).same E19, (hB16.same E17).same E19, hK, hS5, fun H20 hH20 E20 => q H20⟩
end
end K21
set_option maxRecDepth 100000
set_option maxHeartbeats 0
namespace K21
open PySem PySem.Spec PyProof.Rows L2
/-! ## the head: where the facts are read -/
def ads : List Addr := [3, 2, 194, 193, 187, 201, 200, 208, 207, 215, 214, 222, 221, 229, 228, 236, 235, 397, 396, 392, 404, 403, 411, 410, 425, 424, 507, 506, 514, 513, 519, 518, 615, 614, 620, 619, 626, 625, 621, 631, 630, 671, 670, 678, 677, 685, 684, 692, 691, 699, 698, 706, 705, 713, 712, 720, 719, 727, 726, 732, 731, 737, 736, 744, 743, 751, 750, 758, 757, 765, 764, 770, 769, 777, 776, 782, 781, 789, 788, 796, 795, 801, 800, 808, 807, 813, 812, 820, 819, 827, 826, 834, 833, 841, 840, 848, 847, 853, 852, 860, 859, 867, 866, 874, 873, 345, 344, 265, 264, 272, 271, 279, 278, 293, 292, 335, 334, 496, 495, 444, 443, 604, 603, 538, 537, 545, 544, 566, 565, 660, 659, 645, 644, 652, 651, 657, 656, 108, 107, 105, 104, 184, 183, 181, 180, 31, 30, 244]
abbrev AlE : Type := He.AlD × Bool
def obsE (g : Addr → Option Obj) : AlE := (He.obsD fa fn (He.frG g ads), ex (He.frG g ads))
def valE : AlE := (He.valD fn, true)
abbrev R : PySem.W.OpenRow := PySem.W.OpenLaw.row PySem.Challenge.rw_sparedproducts_k21_whole_programs_turned
def hk : PySem.W.Hook where
  α := AlE
  obs := fun s => obsE s.heap.get?
  val := fun _ => valE
  says := fun _ h => ∃ K : PySem.W.Frag, K.In h ∧ He.SaysD fa fn K ∧ ex K = true
  of := fun _ _ e => ⟨_, He.frG_in, congrArg (fun z : AlE => z.1) e, congrArg (fun z : AlE => z.2) e⟩
  keeps := fun _ _ _ ⟨K, hK, c⟩ k => ⟨K, PySem.W.Frag.In.keeps hK k, c⟩
def ob (s : PySem.W.SharedT) : AlE := obsE (HandSHeadRun.getT s)
theorem ob_eq (s : PySem.W.SharedT) : ob s = hk.obs s.abs := by
  have e : HandSHeadRun.getT s = s.abs.heap.get? := funext (HandSHeadRun.getT_eq s)
  show obsE (HandSHeadRun.getT s) = obsE s.abs.heap.get?
  rw [e]
def loose : List PySem.Str := (["_wall", "__name__", "PairError", "DividedByNought", "BadFigures", "BadTable", "BadLetters", "BadPair", "BadProgram", "NotOnce", "BadSide", "is_whole", "is_sequence", "common_divisor", "is_ratio", "lowest_terms", "ratio_plus", "ratio_times", "ratio_over", "KNOWN_PRIMES", "rest_undone", "Figures", "flipped_table", "row_times", "table_times", "reduced_rests", "whole_row", "thin_row"] : List PySem.Str) ++ (["reduced_wholes", "rank_of", "MOST_ROWS", "check_table", "first_wrong", "check_letters", "check_once", "dot_of", "answer_of", "Pair", "MOST_PRODUCTS", "check_side", "check_product", "scaled_row", "summed_table", "Program", "check_by", "summed_rows", "turned_about", "about_plain", "About", "_law_hand", "_law_mixed", "_law_take", "_law_num", "_law_gcd", "_law_ratio", "_law_plus"] : List PySem.Str) ++ (["_law_times", "_law_dot", "_law_tuple", "_law_blank", "_law_summed", "_law_figures", "_law_number", "_law_size", "_law_numbers", "_law_list", "_law_exact", "_law_none", "_law_spoilt", "_law_one_at", "_law_at", "_law_turned", "_law_products", "_law_call", "_law_plainly", "_law_sided", "_law_asks", "_law_side", "_law_three", "_law_refusals"] : List PySem.Str)
theorem run (w : World) : HandSHeadRun.RunEq R (PySem.W.view R.prog [88]) hk ob 20000 loose w := by
  intro os
  kernel_rfl
end K21
set_option maxRecDepth 100000
set_option maxHeartbeats 0
namespace K21
open PySem PySem.Spec PyProof.Rows L2
theorem law_facts {P : Program} {w : World} {K : PySem.W.Frag} {h : Heap} {mg : Str → Option Value} {f : Addr} (X : K.In h) (G : h.Ns mainGlobals mg) (hfa : mg ("law" : Str) = some (.ref f)) (c : He.SaysD fa fn K) (m : ex K = true) :
    ∃ fd : FuncData, (∀ (s : Shared) (v : Value), BindsTo s fd ⟨[v], []⟩ [("_law_script", v)]) ∧ ∀ base : Heap, K.In base → base.Ns mainGlobals mg → FnOk P w K mg base CX0 10 f fd ["_law_script"] (spLaw K) := by
  have T : Txt K mg := ⟨⟨h, X, G⟩, c, m⟩
  obtain ⟨fd, F⟩ := F_law T
  have e := hfa.symm.trans (g_law T)
  cases e
  have b := FunD.bindsA (ps := ["_law_script"]) F fun _ _ _ _ _ _ us hl => match us, hl with | [_], _ => rfl
  exact ⟨fd, fun s v => b s [v] rfl, fun base _ _ => ok_law T F⟩
end K21
open PySem PySem.W PySem.Calls PyProof.Rows
theorem PySem.Challenge.cw_sparedproducts_k21_whole_programs_turned_holds : PySem.Challenge.rw_sparedproducts_k21_whole_programs_turned.Holds := by
  w_on; o_law
  refine HandSHeadRun.head_any (r := OpenLaw.row PySem.Challenge.rw_sparedproducts_k21_whole_programs_turned) (q := view (OpenLaw.row PySem.Challenge.rw_sparedproducts_k21_whole_programs_turned).prog [88]) (H := K21.hk) (ob := K21.ob) (M := 20000) (loose := K21.loose) (d := HandSHeadRun.topDef (OpenLaw.row PySem.Challenge.rw_sparedproducts_k21_whole_programs_turned).prog 88) (kwd := []) K21.ob_eq
    (by kernel_rfl) (fun s => by kernel_rfl) K21.run (by kernel_rfl) (by kernel_rfl) (by kernel_rfl) (by rfl) (by first | assumption | decide +kernel) (by decide +kernel) ⟨rfl, rfl, rfl, rfl, rfl, by decide +kernel⟩ ?hw ?hc
  case hw => w_witness2
  case hc =>
    refine L2.walk_ofE (l := PySem.Challenge.rw_sparedproducts_k21_whole_programs_turned) (n := 63) (k := 10) (x := "_law_script") (CX := L2.CX0) rfl (by decide) (by kernel_rfl) ⟨rfl, by decide, by decide⟩ ?F (fun _ _ _ _ z => z)
    intro w mg fa h Y G hmg0
    obtain ⟨K, KX, c, m⟩ := Y
    have hmg : mg ("law" : PySem.Str) = some (.ref fa) := by
      have e : (HandSHeadRun.topDef (OpenLaw.row PySem.Challenge.rw_sparedproducts_k21_whole_programs_turned).prog 88).name = ("law" : PySem.Str) := by kernel_rfl
      rw [← e]
      exact hmg0
    obtain ⟨fd, hb, hF⟩ := K21.law_facts (P := (PySem.Challenge.rw_sparedproducts_k21_whole_programs_turned).prog) (w := w) KX G hmg c m
    exact ⟨K, fd, K21.spLaw K, KX, hb, fun H a ns hl _ hS => ⟨a, ns, rfl, Nat.le_trans hl (by decide), hS, fun _ => rfl⟩, hF⟩

import PyProof.Rows.All
import Wide.All
import OpenK.AllK
import Wide.FinOn
import PySem.Challenge.RW_nn0244_01

open PySem PySem.W PyProof.Rows
set_option Elab.async false
set_option maxRecDepth 100000
set_option rowWalk.seconds 0
namespace Mine
set_option maxRecDepth 100000 in
set_option maxHeartbeats 8000000 in
open_top hd for PySem.Challenge.rw_nn0244_01
end Mine
namespace Mine
/-- a number of a row, nought beyond its end -/
def coef (R : List Int) (k : Nat) : Int := R.getD k 0
/-- the first n turns of the product of two rows -/
def mulTo (a b : List Int) : Nat → Nat → Int
  | 0, _ => 0
  | n + 1, k => mulTo a b n k + (if n ≤ k then coef a n * coef b (k - n) else 0)
def mulIn (a b : List Int) (i j k : Nat) : Int := mulTo a b i k + (if i ≤ k ∧ k - i < j then coef a i * coef b (k - i) else 0)
theorem coef_out {R : List Int} {k : Nat} (h : R.length ≤ k) : coef R k = 0 := by
  unfold coef; rw [List.getD_eq_getElem?_getD, List.getElem?_eq_none h]; rfl
theorem coef_set {R : List Int} {p : Nat} {v : Int} (h : p < R.length) (k : Nat) : coef (R.set p v) k = if k = p then v else coef R k := by
  unfold coef
  rw [List.getD_eq_getElem?_getD, List.getD_eq_getElem?_getD, List.getElem?_set]
  by_cases e : p = k
  · subst e; simp [h]
  · simp [e, Ne.symm e]
theorem coef_replicate (n k : Nat) : coef (List.replicate n 0) k = 0 := by
  unfold coef
  rw [List.getD_eq_getElem?_getD, List.getElem?_replicate]
  split <;> rfl
theorem mulIn_zero (a b : List Int) (i k : Nat) : mulIn a b i 0 k = mulTo a b i k := by
  unfold mulIn; simp
theorem mulIn_full (a b : List Int) (i k : Nat) : mulIn a b i b.length k = mulTo a b (i + 1) k := by
  unfold mulIn
  rw [mulTo]
  by_cases h : i ≤ k
  · by_cases h2 : k - i < b.length
    · simp [h, h2]
    · rw [coef_out (Nat.not_lt.mp h2)]; simp
  · simp [h]
theorem mulIn_succ {a b R : List Int} {i j : Nat} (hR : i + j < R.length) (h : ∀ k, coef R k = mulIn a b i j k) (k : Nat) :
    coef (R.set (i + j) (coef R (i + j) + coef a i * coef b j)) k = mulIn a b i (j + 1) k := by
  rw [coef_set hR]
  by_cases e : k = i + j
  · subst e
    rw [if_pos rfl, h]
    unfold mulIn
    have h1 : ¬ (i ≤ i + j ∧ i + j - i < j) := by omega
    have h2 : i ≤ i + j ∧ i + j - i < j + 1 := by omega
    rw [if_neg h1, if_pos h2, show i + j - i = j by omega]
    omega
  · rw [if_neg e, h]
    unfold mulIn
    have : (i ≤ k ∧ k - i < j) ↔ (i ≤ k ∧ k - i < j + 1) := by omega
    simp only [this]
/-- the product of two rows -/
def mulL (a b : List Int) : List Int := (List.range (a.length + b.length - 1)).map (mulTo a b a.length)
theorem row_eq {R : List Int} {n : Nat} {f : Nat → Int} (hl : R.length = n) (h : ∀ k, coef R k = f k) : R = (List.range n).map f := by
  refine List.ext_getElem (by simp [hl]) fun i h1 h2 => ?_
  simp only [List.getElem_map, List.getElem_range]
  rw [← h i]
  unfold coef
  rw [List.getD_eq_getElem?_getD, List.getElem?_eq_getElem h1]; rfl
theorem mulL_length (a b : List Int) : (mulL a b).length = a.length + b.length - 1 := by unfold mulL; simp
end Mine
namespace Mine
def PieceL (R : List Int) : Prop := 2 ≤ R.length ∧ R.length ≤ 4 ∧ (∀ x ∈ R, -9 ≤ x ∧ x ≤ 9) ∧ 1 ≤ coef R (R.length - 1)
/-- the products of some of the rows, as _law_lots lists them -/
def lotsL (Ps : List (List Int)) : List (List Int) := Ps.foldl (fun F P => F ++ F.map (fun R => mulL R P)) [[1]]
theorem lotsL_nil : lotsL [] = [[1]] := rfl
theorem lotsL_snoc (Ps : List (List Int)) (P : List Int) : lotsL (Ps ++ [P]) = lotsL Ps ++ (lotsL Ps).map (fun R => mulL R P) := by
  unfold lotsL; rw [List.foldl_append]; rfl
theorem lotsL_take {Ps : List (List Int)} {i : Nat} {P : List Int} (h : Ps[i]? = some P) : lotsL (Ps.take (i + 1)) = lotsL (Ps.take i) ++ (lotsL (Ps.take i)).map (fun R => mulL R P) := by
  rw [List.take_add_one, h]
  exact lotsL_snoc _ _
theorem mul_bd {x y A B : Int} (h1 : -A ≤ x) (h2 : x ≤ A) (h3 : -B ≤ y) (h4 : y ≤ B) : -(A * B) ≤ x * y ∧ x * y ≤ A * B := by
  have a1 := Int.mul_nonneg (a := A - x) (b := B - y) (by omega) (by omega)
  have a2 := Int.mul_nonneg (a := A + x) (b := B + y) (by omega) (by omega)
  have a3 := Int.mul_nonneg (a := A - x) (b := B + y) (by omega) (by omega)
  have a4 := Int.mul_nonneg (a := A + x) (b := B - y) (by omega) (by omega)
  have e1 : (A - x) * (B - y) = A * B - A * y - x * B + x * y := by grind
  have e2 : (A + x) * (B + y) = A * B + A * y + x * B + x * y := by grind
  have e3 : (A - x) * (B + y) = A * B + A * y - x * B - x * y := by grind
  have e4 : (A + x) * (B - y) = A * B - A * y + x * B - x * y := by grind
  omega
theorem coef_bd {R : List Int} {B : Int} (h0 : 0 ≤ B) (h : ∀ x ∈ R, -B ≤ x ∧ x ≤ B) (k : Nat) : -B ≤ coef R k ∧ coef R k ≤ B := by
  by_cases hk : k < R.length
  · unfold coef
    rw [List.getD_eq_getElem?_getD, List.getElem?_eq_getElem hk]
    exact h _ (List.getElem_mem hk)
  · rw [coef_out (Nat.not_lt.mp hk)]; omega
theorem mulTo_bd {a b : List Int} {A B : Int} (hA : 0 ≤ A) (hB : 0 ≤ B) (ha : ∀ x ∈ a, -A ≤ x ∧ x ≤ A) (hb : ∀ x ∈ b, -B ≤ x ∧ x ≤ B) (k : Nat) :
    ∀ n : Nat, -(n * (A * B)) ≤ mulTo a b n k ∧ mulTo a b n k ≤ n * (A * B)
  | 0 => by simp [mulTo]
  | n + 1 => by
    have ih := mulTo_bd hA hB ha hb k n
    have hAB : 0 ≤ A * B := Int.mul_nonneg hA hB
    have e : ((n + 1 : Nat) : Int) * (A * B) = n * (A * B) + A * B := by rw [Int.natCast_add, Int.add_mul]; simp
    rw [mulTo, e]
    by_cases h : n ≤ k
    · rw [if_pos h]
      have c1 := coef_bd hA ha n
      have c2 := coef_bd hB hb (k - n)
      have := mul_bd c1.1 c1.2 c2.1 c2.2
      omega
    · rw [if_neg h]; omega
theorem mulL_bd {a b : List Int} {A B : Int} (hA : 0 ≤ A) (hB : 0 ≤ B) (ha : ∀ x ∈ a, -A ≤ x ∧ x ≤ A) (hb : ∀ x ∈ b, -B ≤ x ∧ x ≤ B) : ∀ x ∈ mulL a b, -(a.length * (A * B)) ≤ x ∧ x ≤ a.length * (A * B) := by
  intro x hx
  unfold mulL at hx
  obtain ⟨k, _, rfl⟩ := List.mem_map.mp hx
  exact mulTo_bd hA hB ha hb k _
def bd : Nat → Int
  | 0 => 1
  | 1 => 9
  | 2 => 324
  | _ => 20412
theorem bd_pos : ∀ i, 0 ≤ bd i
  | 0 => by decide
  | 1 => by decide
  | 2 => by decide
  | _ + 3 => by show (0 : Int) ≤ 20412; decide
theorem bd_mono {i : Nat} (hi : i ≤ 2) {R : List Int} (h : ∀ x ∈ R, -bd i ≤ x ∧ x ≤ bd i) : ∀ x ∈ R, -bd (i + 1) ≤ x ∧ x ≤ bd (i + 1) := by
  intro x hx
  have := h x hx
  match i, hi with
  | 0, _ => simp only [bd] at this ⊢; omega
  | 1, _ => simp only [bd] at this ⊢; omega
  | 2, _ => simp only [bd] at this ⊢; omega
structure RowOK (i : Nat) (R : List Int) : Prop where
  lo : 1 ≤ R.length
  hi : R.length ≤ 3 * i + 1
  bd : ∀ x ∈ R, -bd i ≤ x ∧ x ≤ bd i
theorem RowOK.next {i : Nat} (hi : i ≤ 2) {R : List Int} (h : RowOK i R) : RowOK (i + 1) R := ⟨h.lo, by have := h.hi; omega, bd_mono hi h.bd⟩
theorem RowOK.mul {i : Nat} (hi : i ≤ 2) {R P : List Int} (h : RowOK i R) (hP : PieceL P) : RowOK (i + 1) (mulL R P) := by
  obtain ⟨p1, p2, p3, _⟩ := hP
  have h1 := h.lo
  have h2 := h.hi
  refine ⟨by rw [mulL_length]; omega, by rw [mulL_length]; omega, fun x hx => ?_⟩
  have := mulL_bd (bd_pos i) (by decide) h.bd p3 x hx
  have hl : (R.length : Int) * (Mine.bd i * 9) ≤ ((3 * i + 1 : Nat) : Int) * (Mine.bd i * 9) := Int.mul_le_mul_of_nonneg_right (by omega) (Int.mul_nonneg (bd_pos i) (by decide))
  have hb : ((3 * i + 1 : Nat) : Int) * (Mine.bd i * 9) ≤ Mine.bd (i + 1) := by
    match i, hi with
    | 0, _ => decide
    | 1, _ => decide
    | 2, _ => decide
  omega
theorem lots_ok : ∀ {Ps : List (List Int)} {i : Nat}, i ≤ Ps.length → Ps.length ≤ 3 → (∀ P ∈ Ps, PieceL P) → ∀ R ∈ lotsL (Ps.take i), RowOK i R := by
  intro Ps i
  induction i with
  | zero =>
    intro _ _ _ R hR
    rw [List.take_zero, lotsL_nil, List.mem_singleton] at hR
    subst hR
    exact ⟨by decide, by decide, by decide⟩
  | succ i ih =>
    intro hi hl hP R hR
    have hlt : i < Ps.length := by omega
    rw [lotsL_take (List.getElem?_eq_getElem hlt)] at hR
    have ih' := ih (by omega) hl hP
    rcases List.mem_append.mp hR with h | h
    · exact (ih' R h).next (by omega)
    · obtain ⟨S, hS, rfl⟩ := List.mem_map.mp h
      exact (ih' S hS).mul (by omega) (hP _ (List.getElem_mem hlt))
theorem bd_small : ∀ i, bd i ≤ 20412
  | 0 => by decide
  | 1 => by decide
  | 2 => by decide
  | _ + 3 => by show (20412 : Int) ≤ 20412; decide
theorem RowOK.times {i : Nat} (hi : i ≤ 2) {R P : List Int} (h : RowOK i R) (hP : PieceL P) : (1 ≤ R.length ∧ R.length ≤ 20) ∧ (1 ≤ P.length ∧ P.length ≤ 20) ∧ ∀ x ∈ R, -(2 ^ 40) < x ∧ x < 2 ^ 40 := by
  have := bd_small i
  have h2 := h.hi
  refine ⟨⟨h.lo, by omega⟩, ⟨by have := hP.1; omega, by have := hP.2.1; omega⟩, fun x hx => ?_⟩
  have := h.bd x hx
  omega
theorem RowOK.small {i : Nat} {R : List Int} (h : RowOK i R) : ∀ x ∈ R, -(2 ^ 20) < x ∧ x < 2 ^ 20 := by
  have := bd_small i
  intro x hx
  have := h.bd x hx
  omega
theorem lotsL_length : ∀ Ps : List (List Int), (lotsL Ps).length = 2 ^ Ps.length := by
  intro Ps
  have : ∀ n, ∀ Ps : List (List Int), Ps.length = n → (lotsL Ps).length = 2 ^ n := by
    intro n
    induction n with
    | zero => intro Ps h; rw [List.length_eq_zero_iff.mp h]; rfl
    | succ n ih =>
      intro Ps h
      have hne : Ps ≠ [] := fun e => by rw [e] at h; cases h
      rw [← List.dropLast_concat_getLast hne, lotsL_snoc, List.length_append, List.length_map, ih _ (by rw [List.length_dropLast, h]; rfl), Nat.pow_succ]
      omega
  exact this _ Ps rfl
end Mine
namespace Mine
/-- the sum of the first n numbers -/
def sm (f : Nat → Rat) : Nat → Rat
  | 0 => 0
  | n + 1 => sm f n + f n
theorem sm_congr {f g : Nat → Rat} : ∀ {n : Nat}, (∀ i, i < n → f i = g i) → sm f n = sm g n
  | 0, _ => rfl
  | n + 1, h => by rw [sm, sm, sm_congr (n := n) fun i hi => h i (by omega), h n (by omega)]
theorem sm_zero {f : Nat → Rat} : ∀ {n : Nat}, (∀ i, i < n → f i = 0) → sm f n = 0
  | 0, _ => rfl
  | n + 1, h => by rw [sm, sm_zero (n := n) fun i hi => h i (by omega), h n (by omega)]; grind
theorem sm_add (f g : Nat → Rat) : ∀ n : Nat, sm (fun i => f i + g i) n = sm f n + sm g n
  | 0 => by simp only [sm]; grind
  | n + 1 => by simp only [sm]; rw [sm_add f g n]; grind
theorem sm_mul (c : Rat) (f : Nat → Rat) : ∀ n : Nat, sm (fun i => c * f i) n = c * sm f n
  | 0 => by simp only [sm]; grind
  | n + 1 => by simp only [sm]; rw [sm_mul c f n]; grind
theorem sm_split (f : Nat → Rat) (a : Nat) : ∀ b : Nat, sm f (a + b) = sm f a + sm (fun s => f (a + s)) b
  | 0 => by simp only [sm, Nat.add_zero]; grind
  | b + 1 => by rw [← Nat.add_assoc, sm, sm, sm_split f a b]; grind
theorem sm_head (f : Nat → Rat) : ∀ n : Nat, sm f (n + 1) = f 0 + sm (fun i => f (i + 1)) n
  | 0 => by simp only [sm]; grind
  | n + 1 => by rw [sm, sm_head f n, sm]; grind
theorem sm_rev (f : Nat → Rat) : ∀ n : Nat, sm f n = sm (fun i => f (n - 1 - i)) n
  | 0 => rfl
  | n + 1 => by
    rw [sm, sm_head, sm_rev f n]
    have : sm (fun i => f (n - 1 - i)) n = sm (fun i => f (n + 1 - 1 - (i + 1))) n := sm_congr fun i hi => by
      rw [show n - 1 - i = n + 1 - 1 - (i + 1) by omega]
    rw [this]
    show _ = f (n + 1 - 1 - 0) + _
    rw [show n + 1 - 1 - 0 = n by omega]
    grind
theorem sm_swap (f : Nat → Nat → Rat) (m : Nat) : ∀ n : Nat, sm (fun i => sm (fun j => f i j) m) n = sm (fun j => sm (fun i => f i j) n) m
  | 0 => (sm_zero fun i _ => rfl).symm
  | n + 1 => by
    rw [sm, sm_swap f m n, ← sm_add]
    exact sm_congr fun j _ => rfl
theorem sm_nonneg {f : Nat → Rat} (h : ∀ i, 0 ≤ f i) : ∀ n : Nat, 0 ≤ sm f n
  | 0 => by simp only [sm]; grind
  | n + 1 => by have := sm_nonneg h n; have := h n; simp only [sm]; grind
theorem sm_one_le {f : Nat → Rat} (h : ∀ i, 0 ≤ f i) {t : Nat} : ∀ {n : Nat}, t < n → f t ≤ sm f n
  | n + 1, ht => by
    have h0 := sm_nonneg h n
    have h1 := h n
    simp only [sm]
    by_cases e : t = n
    · subst e; grind
    · have := sm_one_le h (t := t) (n := n) (by omega)
      grind
theorem rat_abs {x M : Rat} (hM : 0 ≤ M) (h : x * x ≤ M * M) : -M ≤ x ∧ x ≤ M := by
  have key : ∀ y : Rat, y * y ≤ M * M → y ≤ M := by
    intro y hy
    apply Rat.not_lt.mp
    intro hlt
    have h1 : 0 < y - M := by grind
    have h2 : 0 < y + M := by grind
    have h3 := Rat.mul_pos h1 h2
    grind
  refine ⟨?_, key x h⟩
  have := key (-x) (by grind)
  grind
/-- the number of x^i and x^j together -/
def gap (i j : Nat) : Nat := (i - j) + (j - i)
theorem gap_symm (i j : Nat) : gap i j = gap j i := by unfold gap; omega
/-- u held against x^j -/
def Lf (p u : Nat → Rat) (n j : Nat) : Rat := sm (fun i => u i * p (gap i j)) n
def Bf (p u v : Nat → Rat) (n : Nat) : Rat := sm (fun j => v j * Lf p u n j) n
theorem Bf_symm (p u v : Nat → Rat) (n : Nat) : Bf p u v n = Bf p v u n := by
  unfold Bf Lf
  have h1 : ∀ a b : Nat → Rat, sm (fun j => b j * sm (fun i => a i * p (gap i j)) n) n = sm (fun j => sm (fun i => b j * (a i * p (gap i j))) n) n :=
    fun a b => sm_congr fun j _ => (sm_mul _ _ _).symm
  rw [h1, h1, sm_swap]
  refine sm_congr fun j _ => sm_congr fun i _ => ?_
  rw [gap_symm]; grind
theorem Lf_lin (p u v : Nat → Rat) (c : Rat) (n j : Nat) : Lf p (fun i => u i + c * v i) n j = Lf p u n j + c * Lf p v n j := by
  unfold Lf
  rw [← sm_mul, ← sm_add]
  exact sm_congr fun i _ => by grind
theorem Bf_lin (p u v w : Nat → Rat) (c : Rat) (n : Nat) : Bf p w (fun i => u i + c * v i) n = Bf p w u n + c * Bf p w v n := by
  unfold Bf
  rw [← sm_mul, ← sm_add]
  exact sm_congr fun i _ => by grind
theorem Bf_short {p u : Nat → Rat} {n : Nat} (h : u n = 0) : Bf p u u (n + 1) = Bf p u u n := by
  unfold Bf
  rw [sm, h]
  have : ∀ j, Lf p u (n + 1) j = Lf p u n j := fun j => by unfold Lf; rw [sm, h]; grind
  have e : sm (fun j => u j * Lf p u (n + 1) j) n = sm (fun j => u j * Lf p u n j) n := sm_congr fun j _ => by rw [this]
  rw [e]; grind
def Bk : Nat → Rat
  | 0 => 1
  | 1 => 1
  | n + 2 => 2 * Bk (n + 1)
theorem Bk_pos : ∀ n : Nat, 1 ≤ Bk n
  | 0 => by simp only [Bk]; grind
  | 1 => by simp only [Bk]; grind
  | n + 2 => by have := Bk_pos (n + 1); simp only [Bk]; grind
/-- the monic row of degree k that stands upright on all lower ones -/
structure Phi (p : Nat → Rat) (k : Nat) (f : Nat → Rat) : Prop where
  top : f k = 1
  bd : ∀ i, i ≤ k → -Bk k ≤ f i ∧ f i ≤ Bk k
  orth : ∀ j, j < k → Lf p f (k + 1) j = 0
  e : 1 ≤ Lf p f (k + 1) k
theorem Phi.norm {p f : Nat → Rat} {k : Nat} (top : f k = 1) (orth : ∀ j, j < k → Lf p f (k + 1) j = 0) : Bf p f f (k + 1) = Lf p f (k + 1) k := by
  unfold Bf
  rw [sm, top, sm_zero fun j hj => by rw [orth j hj]; grind]
  grind
theorem unit_mul {a x B : Rat} (h1 : -1 ≤ a) (h2 : a ≤ 1) (h3 : -B ≤ x) (h4 : x ≤ B) : -B ≤ a * x ∧ a * x ≤ B := by
  have a1 := Rat.mul_nonneg (a := 1 - a) (b := B - x) (by grind) (by grind)
  have a2 := Rat.mul_nonneg (a := 1 + a) (b := B + x) (by grind) (by grind)
  have a3 := Rat.mul_nonneg (a := 1 - a) (b := B + x) (by grind) (by grind)
  have a4 := Rat.mul_nonneg (a := 1 + a) (b := B - x) (by grind) (by grind)
  constructor <;> grind
/-- every square is at least that of the top number -/
def PosQ (p : Nat → Rat) : Prop := ∀ (u : Nat → Rat) (n : Nat), u n * u n ≤ Bf p u u (n + 1)
theorem phi_zero {p : Nat → Rat} (hp : PosQ p) : Phi p 0 (fun _ => 1) := by
  refine ⟨rfl, fun i _ => ⟨by simp only [Bk]; grind, by simp only [Bk]; grind⟩, fun j hj => absurd hj (by omega), ?_⟩
  have := hp (fun _ => 1) 0
  rw [Phi.norm rfl fun j hj => absurd hj (by omega)] at this
  grind
theorem phi_step {p : Nat → Rat} (hp : PosQ p) {k : Nat} {f : Nat → Rat} (P : Phi p k f) : ∃ g, Phi p (k + 1) g := by
  obtain ⟨top, bd, orth, he⟩ := P
  generalize hE : Lf p f (k + 1) k = E at he
  obtain ⟨b, hb⟩ : ∃ b, b = sm (fun i => f i * p (i + 1)) (k + 1) := ⟨_, rfl⟩
  obtain ⟨a, ha⟩ : ∃ a, a = b / E := ⟨_, rfl⟩
  have hE0 : E ≠ 0 := by grind
  have hab : a * E = b := by grind
  obtain ⟨sh, hsh⟩ : ∃ sh : Nat → Rat, sh = fun i => if i = 0 then 0 else f (i - 1) := ⟨_, rfl⟩
  obtain ⟨rv, hrv⟩ : ∃ rv : Nat → Rat, rv = fun i => if i ≤ k then f (k - i) else 0 := ⟨_, rfl⟩
  have hs0 : Lf p sh (k + 2) 0 = b := by
    unfold Lf
    rw [sm_head, hb, hsh]
    have : sm (fun i => (if i + 1 = 0 then 0 else f (i + 1 - 1)) * p (gap (i + 1) 0)) (k + 1) = sm (fun i => f i * p (i + 1)) (k + 1) := sm_congr fun i _ => by
      rw [if_neg (by omega), show gap (i + 1) 0 = i + 1 by unfold gap; omega]; rfl
    rw [this]
    simp only [if_true]
    grind
  have hs1 : ∀ j, Lf p sh (k + 2) (j + 1) = Lf p f (k + 1) j := by
    intro j
    unfold Lf
    rw [sm_head, hsh]
    have : sm (fun i => (if i + 1 = 0 then 0 else f (i + 1 - 1)) * p (gap (i + 1) (j + 1))) (k + 1) = sm (fun i => f i * p (gap i j)) (k + 1) := sm_congr fun i _ => by
      rw [if_neg (by omega), show gap (i + 1) (j + 1) = gap i j by unfold gap; omega]; rfl
    rw [this]
    simp only [if_true]
    grind
  have hr : ∀ j, Lf p rv (k + 2) j = sm (fun i => f i * p (gap (k - i) j)) (k + 1) := by
    intro j
    unfold Lf
    rw [sm, hrv]
    have : sm (fun i => (if i ≤ k then f (k - i) else 0) * p (gap i j)) (k + 1) = sm (fun i => f i * p (gap (k - i) j)) (k + 1) := by
      rw [sm_rev (fun i => f i * p (gap (k - i) j))]
      refine sm_congr fun i hi => ?_
      rw [if_pos (by omega), show k + 1 - 1 - i = k - i by omega, show k - (k - i) = i by omega]
    rw [this]
    simp only []
    rw [if_neg (by omega)]
    grind
  have hr0 : ∀ j, j ≤ k → Lf p rv (k + 2) j = Lf p f (k + 1) (k - j) := by
    intro j hj
    rw [hr]
    unfold Lf
    exact sm_congr fun i hi => by rw [show gap (k - i) j = gap i (k - j) by unfold gap; omega]
  have hr1 : Lf p rv (k + 2) (k + 1) = b := by
    rw [hr, hb]
    exact sm_congr fun i hi => by rw [show gap (k - i) (k + 1) = i + 1 by unfold gap; omega]
  obtain ⟨g, hg⟩ : ∃ g : Nat → Rat, g = fun i => sh i + (-a) * rv i := ⟨_, rfl⟩
  have hL : ∀ j, Lf p g (k + 2) j = Lf p sh (k + 2) j + (-a) * Lf p rv (k + 2) j := fun j => by rw [hg]; exact Lf_lin _ _ _ _ _ _
  have gtop : g (k + 1) = 1 := by
    rw [hg, hsh, hrv]
    simp only []
    rw [if_neg (by omega), if_neg (by omega), show k + 1 - 1 = k by omega, top]
    grind
  have gorth : ∀ j, j < k + 1 → Lf p g (k + 1 + 1) j = 0 := by
    intro j hj
    show Lf p g (k + 2) j = 0
    rw [hL, hr0 j (by omega)]
    match j, hj with
    | 0, _ => rw [hs0, show k - 0 = k by omega, hE]; grind
    | j + 1, hj => rw [hs1, orth j (by omega), orth (k - (j + 1)) (by omega)]; grind
  have gE : Lf p g (k + 1 + 1) (k + 1) = E - a * b := by
    show Lf p g (k + 2) (k + 1) = _
    rw [hL, hs1, hr1, hE]; grind
  have gpos : 1 ≤ E - a * b := by
    have := hp g (k + 1)
    rw [Phi.norm gtop gorth, gE, gtop] at this
    grind
  have ha1 : a * a ≤ 1 * 1 := by
    apply Rat.not_lt.mp
    intro hlt
    have h1 : 0 < a * a - 1 := by grind
    have h2 := Rat.mul_pos h1 (show 0 < E by grind)
    have h3 : a * b = a * a * E := by rw [← hab]; grind
    rw [h3] at gpos
    have h4 : (a * a - 1) * E = a * a * E - E := by grind
    rw [h4] at h2
    clear hL hs0 hs1 hr hr0 hr1 hg hsh hrv hp gE gorth gtop hab ha hb h3 h4 h1 orth bd hE hlt top
    generalize a * a * E = z at *
    grind
  obtain ⟨al, ah⟩ := rat_abs (by grind) ha1
  refine ⟨g, gtop, fun i hi => ?_, gorth, by rw [gE]; exact gpos⟩
  have hgi : g i = sh i + (-a) * rv i := by rw [hg]
  have hB := Bk_pos k
  by_cases h0 : i = 0
  · have e1 : sh i = 0 := by rw [hsh]; simp [h0]
    have e2 : rv i = f k := by rw [hrv]; simp [h0]
    rw [hgi, e1, e2, top]
    have := Bk_pos (k + 1)
    constructor <;> grind
  · have e1 : sh i = f (i - 1) := by rw [hsh]; simp [h0]
    by_cases h1 : i ≤ k
    · have e2 : rv i = f (k - i) := by rw [hrv]; simp [h1]
      rw [hgi, e1, e2]
      have b1 := bd (i - 1) (by omega)
      have b2 := bd (k - i) (by omega)
      have b3 := unit_mul (a := -a) (by grind) (by grind) b2.1 b2.2
      have e3 : Bk (k + 1) = 2 * Bk k := by
        match k, h1, h0 with
        | 0, h1, h0 => omega
        | k + 1, _, _ => rfl
      rw [e3]
      constructor <;> grind
    · have e2 : rv i = 0 := by rw [hrv]; simp [h1]
      rw [hgi, e1, e2, show i - 1 = k by omega, top]
      have := Bk_pos (k + 1)
      constructor <;> grind
theorem phi_all {p : Nat → Rat} (hp : PosQ p) : ∀ k : Nat, ∃ f, Phi p k f
  | 0 => ⟨_, phi_zero hp⟩
  | k + 1 => by obtain ⟨f, hf⟩ := phi_all hp k; exact phi_step hp hf
theorem Bk_succ : ∀ n : Nat, Bk (n + 1) = 2 ^ n
  | 0 => by simp only [Bk]; grind
  | n + 1 => by
    show 2 * Bk (n + 1) = _
    rw [Bk_succ n]; grind
/-- the bound -/
theorem bound_q {p : Nat → Rat} (hp : PosQ p) : ∀ (n : Nat) (g : Nat → Rat) (M : Rat), 0 ≤ M → Bf p g g (n + 1) ≤ M * M → ∀ i, i ≤ n → -(2 ^ n * M) ≤ g i ∧ g i ≤ 2 ^ n * M
  | 0, g, M, hM, hQ, i, hi => by
    have h1 := hp g 0
    have e : i = 0 := by omega
    subst e
    have := rat_abs (x := g 0) hM (by grind)
    constructor <;> grind
  | n + 1, g, M, hM, hQ, i, hi => by
    have h1 := hp g (n + 1)
    have htop := rat_abs (x := g (n + 1)) hM (by grind)
    obtain ⟨f, hf⟩ := phi_all hp (n + 1)
    obtain ⟨c, hc⟩ : ∃ c, c = g (n + 1) := ⟨_, rfl⟩
    obtain ⟨g', hg'⟩ : ∃ g' : Nat → Rat, g' = fun i => g i + (-c) * f i := ⟨_, rfl⟩
    have g0 : g' (n + 1) = 0 := by rw [hg']; simp only []; rw [hf.top, hc]; grind
    have eg : g = fun i => g' i + c * f i := by funext i; rw [hg']; grind
    have hcross : Bf p f g' (n + 2) = 0 := by
      unfold Bf
      rw [sm, g0, sm_zero fun j hj => by rw [hf.orth j hj]; grind]
      grind
    have hff : 1 ≤ Bf p f f (n + 2) := by
      have : Bf p f f (n + 1 + 1) = _ := Phi.norm hf.top hf.orth
      show 1 ≤ Bf p f f (n + 1 + 1)
      rw [this]; exact hf.e
    have hgg : Bf p g g (n + 2) = Bf p g' g' (n + 2) + c * c * Bf p f f (n + 2) := by
      have e1 : Bf p g g (n + 2) = Bf p g g' (n + 2) + c * Bf p g f (n + 2) := by
        conv => lhs; arg 3; rw [eg]
        exact Bf_lin _ _ _ _ _ _
      have e2 : Bf p g' g (n + 2) = Bf p g' g' (n + 2) + c * Bf p g' f (n + 2) := by
        conv => lhs; rw [eg]
        exact Bf_lin _ _ _ _ _ _
      have e3 : Bf p f g (n + 2) = Bf p f g' (n + 2) + c * Bf p f f (n + 2) := by
        conv => lhs; rw [eg]
        exact Bf_lin _ _ _ _ _ _
      rw [e1, Bf_symm p g g', e2, Bf_symm p g f, e3, Bf_symm p g' f, hcross]
      grind
    have hQ' : Bf p g' g' (n + 1) ≤ M * M := by
      rw [← Bf_short g0]
      have hQ2 : Bf p g g (n + 2) ≤ M * M := hQ
      have hcc : 0 ≤ c * c := by
        rcases Rat.le_total (a := 0) (b := c) with h | h
        · exact Rat.mul_nonneg h h
        · have := Rat.mul_nonneg (a := -c) (b := -c) (by grind) (by grind)
          grind
      have := Rat.mul_nonneg hcc (show 0 ≤ Bf p f f (n + 2) by grind)
      show Bf p g' g' (n + 2) ≤ M * M
      grind
    have ih := bound_q hp n g' M hM hQ'
    have hMn : M ≤ 2 ^ n * M := by
      have h2 : (1 : Rat) ≤ 2 ^ n := by rw [← Bk_succ]; exact Bk_pos _
      have := Rat.mul_nonneg (a := 2 ^ n - 1) (b := M) (by grind) hM
      grind
    have e2 : (2 : Rat) ^ (n + 1) * M = 2 ^ n * M + 2 ^ n * M := by grind
    rw [e2]
    by_cases he : i = n + 1
    · subst he
      constructor <;> grind
    · have b1 := ih i (by omega)
      have b2 := hf.bd i (by omega)
      rw [Bk_succ] at b2
      have hgi : g i = g' i + c * f i := by rw [hg']; grind
      have b3 : -(2 ^ n * M) ≤ c * f i ∧ c * f i ≤ 2 ^ n * M := by
        have hc1 : -M ≤ c ∧ c ≤ M := by rw [hc]; exact htop
        have a1 := Rat.mul_nonneg (a := M - c) (b := 2 ^ n - f i) (by grind) (by grind)
        have a2 := Rat.mul_nonneg (a := M + c) (b := 2 ^ n + f i) (by grind) (by grind)
        have a3 := Rat.mul_nonneg (a := M - c) (b := 2 ^ n + f i) (by grind) (by grind)
        have a4 := Rat.mul_nonneg (a := M + c) (b := 2 ^ n - f i) (by grind) (by grind)
        constructor <;> grind
      constructor <;> grind
end Mine
namespace Mine

/-- what a call of the def at f gives, wherever it is called: a value and the ledger behind it -/
def Cl (w : World) (n : Nat) (f : Addr) (news : List (Addr × Obj)) (vs : List Value) (Out : Value → List (Addr × Obj) → Prop) : Prop :=
  ∀ (mean : ExcName → Option Value) (mg mb : Str → Option Value) (dp un : Nat) (gd : Option (List Code)) (cn : Str) (cs : Scope) (a : Addr) (ccd : Value) (cl : List (Str × Addr)) (outer : List Env) (A₀ : Around) (base h₀ : Heap) (L : Addr) (m : Str → Option Value) (s : Shared) (Q E : Value → Shared → Prop),
    Below A₀ base outer h₀ → Fr h₀ L s.heap m → (hd.heap_39 (World.params w)).In h₀ → News h₀ L s.heap news → Top hd.view_39 (looseW hd.view_39 []) mean mg mb h₀ → cs.kind = .function → dp + n < recursionLimit → un + 10 * n < cLine →
    (∀ r news' h' tk', Fr h₀ L h' m → News h₀ L h' news' → Out r news' → Q r { s with heap := h', toks := tk' }) →
    wpAny (model (RowW.prog (OpenRow.toRowW (OpenLaw.row PySem.Challenge.rw_nn0244_01))) w) (ktrTop dp un gd cn cs L a ccd cl outer) (call (.ref f) vs) Q E s
theorem Cl.use {w : World} {n : Nat} {f : Addr} {news : List (Addr × Obj)} {vs : List Value} {Out : Value → List (Addr × Obj) → Prop}
    {mean : ExcName → Option Value} {mg mb : Str → Option Value} {dp un : Nat} {gd : Option (List Code)} {cn : Str} {cs : Scope} {a : Addr} {ccd : Value} {cl : List (Str × Addr)} {outer : List Env} {A₀ : Around} {base h₀ : Heap} {L : Addr} {m : Str → Option Value} {s : Shared} {Q E : Value → Shared → Prop}
    (C : Cl w n f news vs Out) (B : Below A₀ base outer h₀) (F : Fr h₀ L s.heap m) (X : (hd.heap_39 (World.params w)).In h₀) (N : News h₀ L s.heap news) (T : Top hd.view_39 (looseW hd.view_39 []) mean mg mb h₀) (hk : cs.kind = .function) (hdp : dp + n < recursionLimit) (hun : un + 10 * n < cLine)
    (ret : ∀ r news' h' tk', Fr h₀ L h' m → News h₀ L h' news' → Out r news' → Q r { s with heap := h', toks := tk' }) :
    wpAny (model (RowW.prog (OpenRow.toRowW (OpenLaw.row PySem.Challenge.rw_nn0244_01))) w) (ktrTop dp un gd cn cs L a ccd cl outer) (call (.ref f) vs) Q E s :=
  C _ _ _ _ _ _ _ _ _ _ _ _ _ _ _ _ _ _ _ _ B F X N T hk hdp hun ret

/-- a step that is done by hand: the walk's lines leave it -/
structure Hold (P : Prop) : Prop where
  out : P
theorem news_dup {h₀ h : Heap} {L : Addr} {q : Addr × Obj} {news : List (Addr × Obj)} (N : News h₀ L h news) (hq : q ∈ news) : News h₀ L h (q :: news) := fun p hp => by
  rcases List.mem_cons.mp hp with rfl | hp
  · exact N _ hq
  · exact N _ hp
theorem news_sub {h₀ h : Heap} {L : Addr} {news news' : List (Addr × Obj)} (N : News h₀ L h news) (hs : ∀ p ∈ news', p ∈ news) : News h₀ L h news' := fun p hp => N p (hs p hp)

theorem news_mid {h₀ h : Heap} {L : Addr} {a b : Addr × Obj} {r : List (Addr × Obj)} (N : News h₀ L h (a :: b :: r)) : News h₀ L h (a :: r) := fun p hp => N p (by
  rcases List.mem_cons.mp hp with rfl | hp
  · exact List.mem_cons_self
  · exact List.mem_cons_of_mem _ (List.mem_cons_of_mem _ hp))

theorem mul_ok {a b : Int} (h1 : -(2 ^ 63) < a) (h2 : a < 2 ^ 63) : IntMulOk a b := IntMulOk.of_left (intBits_le_64 (by omega) (by omega))
theorem mul_ok2 {a b : Int} (h1 : -(2 ^ 63) < b) (h2 : b < 2 ^ 63) : IntMulOk a b := IntMulOk.of_right (intBits_le_64 (by omega) (by omega))
/-- the sum of squares -/
def sq (fs : List Int) : Int := (fs.map (fun x => x * x)).sum
theorem mul_self_nonneg' (x : Int) : 0 ≤ x * x := by
  rcases Int.le_total 0 x with h | h
  · exact Int.mul_nonneg h h
  · have := Int.mul_nonneg (a := -x) (b := -x) (by omega) (by omega)
    rwa [Int.neg_mul_neg] at this
theorem mul_self_le {x B : Int} (h1 : -B ≤ x) (h2 : x ≤ B) : x * x ≤ B * B := by
  have h : 0 ≤ (B - x) * (B + x) := Int.mul_nonneg (by omega) (by omega)
  have e : (B - x) * (B + x) = B * B - x * x := by grind
  omega
theorem sq_nonneg (fs : List Int) : 0 ≤ sq fs := by
  unfold sq
  induction fs with
  | nil => simp
  | cons x r ih => simp only [List.map_cons, List.sum_cons]; have := mul_self_nonneg' x; omega
theorem sq_bound {B : Int} {fs : List Int} (hb : ∀ x ∈ fs, -B ≤ x ∧ x ≤ B) : sq fs ≤ fs.length * (B * B) := by
  unfold sq
  induction fs with
  | nil => simp
  | cons x r ih =>
    simp only [List.map_cons, List.sum_cons, List.length_cons]
    have h1 := ih fun y hy => hb y (List.mem_cons_of_mem _ hy)
    have h2 := hb x List.mem_cons_self
    have h3 := mul_self_le h2.1 h2.2
    have e : ((r.length + 1 : Nat) : Int) * (B * B) = r.length * (B * B) + B * B := by
      rw [Int.natCast_add, Int.add_mul]; simp
    omega
theorem sq_small {fs : List Int} (hn2 : fs.length ≤ 64) (hb : ∀ x ∈ fs, -(2 ^ 20) < x ∧ x < 2 ^ 20) : sq fs < 2 ^ 60 := by
  have h := sq_bound (B := 2 ^ 20) fun x hx => ⟨by have := hb x hx; omega, by have := hb x hx; omega⟩
  omega
end Mine
namespace Mine
/-- the row a as a sum of shifts -/
def op : List Int → (Nat → Int) → Nat → Int
  | [], _, _ => 0
  | x :: a, f, k => x * f k + (if k = 0 then 0 else op a f (k - 1))
def dlt (k : Nat) : Int := if k = 0 then 1 else 0
theorem op_lin (a : List Int) (f g : Nat → Int) (c : Int) : ∀ k, op a (fun i => c * f i + g i) k = c * op a f k + op a g k := by
  induction a with
  | nil => intro k; simp [op]
  | cons x a ih =>
    intro k
    simp only [op]
    by_cases h : k = 0
    · simp only [h, if_true]; grind
    · rw [if_neg h, if_neg h, if_neg h, ih]; grind
theorem op_shift (a : List Int) (f : Nat → Int) : ∀ k, op a (fun i => if i = 0 then 0 else f (i - 1)) k = if k = 0 then 0 else op a f (k - 1) := by
  induction a with
  | nil => intro k; simp [op]
  | cons x a ih =>
    intro k
    simp only [op]
    by_cases h : k = 0
    · simp only [h, if_true]; grind
    · rw [if_neg h, if_neg h, if_neg h, ih]
theorem op_congr (a : List Int) {f g : Nat → Int} (h : ∀ k, f k = g k) (k : Nat) : op a f k = op a g k := by
  rw [show f = g from funext h]
theorem op_comm (a b : List Int) (f : Nat → Int) : ∀ k, op a (op b f) k = op b (op a f) k := by
  induction a with
  | nil =>
    intro k
    have : op [] f = fun _ => 0 := by funext k; rfl
    rw [this]
    show (0 : Int) = _
    have h := op_lin b f f (-1) k
    have h2 : (fun i => -1 * f i + f i) = fun _ => (0 : Int) := by funext i; grind
    rw [h2] at h
    rw [h]; grind
  | cons x a ih =>
    intro k
    have e : op (x :: a) f = fun i => x * f i + (fun i => if i = 0 then 0 else op a f (i - 1)) i := by funext i; rfl
    rw [e, op_lin, op_shift]
    simp only [op]
    by_cases h : k = 0
    · simp only [h, if_true]
    · rw [if_neg h, if_neg h, ih]
theorem coef_cons_zero (x : Int) (a : List Int) : coef (x :: a) 0 = x := rfl
theorem coef_cons_succ (x : Int) (a : List Int) (k : Nat) : coef (x :: a) (k + 1) = coef a k := by unfold coef; simp
theorem coef_nil (k : Nat) : coef [] k = 0 := by unfold coef; simp
theorem op_dlt (a : List Int) : ∀ k, op a dlt k = coef a k := by
  induction a with
  | nil => intro k; rw [coef_nil]; rfl
  | cons x a ih =>
    intro k
    cases k with
    | zero => rw [coef_cons_zero]; simp [op, dlt]
    | succ k => rw [coef_cons_succ, ← ih]; simp [op, dlt]
theorem op_symm (a b : List Int) (k : Nat) : op a (coef b) k = op b (coef a) k := by
  rw [← funext (op_dlt b), ← funext (op_dlt a)]; exact op_comm a b dlt k
theorem mulTo_cons (x : Int) (a b : List Int) (k : Nat) : ∀ n, mulTo (x :: a) b (n + 1) k = x * coef b k + (if k = 0 then 0 else mulTo a b n (k - 1))
  | 0 => by simp [mulTo, coef_cons_zero]
  | n + 1 => by
    rw [mulTo, mulTo_cons x a b k n, coef_cons_succ]
    by_cases h : k = 0
    · simp [h]
    · rw [if_neg h, if_neg h, mulTo]
      by_cases h2 : n ≤ k - 1
      · rw [if_pos h2, if_pos (by omega), show k - (n + 1) = k - 1 - n by omega]; omega
      · rw [if_neg h2, if_neg (by omega)]; omega
theorem mulTo_op (a b : List Int) : ∀ k, mulTo a b a.length k = op a (coef b) k := by
  induction a with
  | nil => intro k; rfl
  | cons x a ih =>
    intro k
    rw [List.length_cons, mulTo_cons]
    simp only [op]
    rw [ih]
/-- where the numbers of the row end, its product ends -/
theorem op_top (f : Nat → Int) (n : Nat) (hf : ∀ k, n < k → f k = 0) : ∀ a : List Int, a ≠ [] → op a f (a.length - 1 + n) = coef a (a.length - 1) * f n
  | [], h => absurd rfl h
  | [x], _ => by simp [op, coef]
  | x :: y :: t, _ => by
    have ih := op_top f n hf (y :: t) (by simp)
    simp only [List.length_cons, Nat.add_sub_cancel] at ih ⊢
    rw [op, if_neg (by omega), hf _ (by omega), coef_cons_succ, show t.length + 1 + n - 1 = t.length + n by omega, ih]
    omega
theorem op_end (f : Nat → Int) (n : Nat) (hf : ∀ k, n < k → f k = 0) : ∀ (a : List Int) (k : Nat), a.length + n ≤ k → op a f k = 0
  | [], _, _ => rfl
  | x :: t, k, hk => by
    simp only [List.length_cons] at hk
    rw [op, if_neg (by omega), hf _ (by omega), op_end f n hf t (k - 1) (by omega)]
    omega
theorem coef_map {n k : Nat} (f : Nat → Int) (h : k < n) : coef ((List.range n).map f) k = f k := by
  unfold coef
  rw [List.getD_eq_getElem?_getD]
  simp [h]
theorem coef_mulL {a b : List Int} (ha : 1 ≤ a.length) (hb : 1 ≤ b.length) (k : Nat) : coef (mulL a b) k = op a (coef b) k := by
  by_cases h : k < a.length + b.length - 1
  · unfold mulL
    rw [coef_map _ h, mulTo_op]
  · rw [coef_out (by rw [mulL_length]; omega)]
    exact (op_end (coef b) (b.length - 1) (fun k hk => coef_out (by omega)) a k (by omega)).symm
/-- a row with a lead -/
structure Led (a : List Int) : Prop where
  len : 1 ≤ a.length
  top : 1 ≤ coef a (a.length - 1)
theorem Led.mul {a b : List Int} (ha : Led a) (hb : Led b) : Led (mulL a b) := by
  have h1 := ha.len
  have h2 := hb.len
  refine ⟨by rw [mulL_length]; omega, ?_⟩
  rw [coef_mulL h1 h2, mulL_length, show a.length + b.length - 1 - 1 = a.length - 1 + (b.length - 1) by omega,
    op_top (coef b) (b.length - 1) (fun k hk => coef_out (by omega)) a (by intro e; rw [e] at h1; simp at h1)]
  have := Int.mul_le_mul ha.top hb.top (by omega) (by have := ha.top; omega)
  omega
/-- R is a part of W: W is R times a row with a lead -/
structure Part (R W : List Int) : Prop where
  r : Led R
  ex : ∃ H, Led H ∧ W.length = R.length + H.length - 1 ∧ ∀ k, coef W k = op R (coef H) k
theorem Part.one : Part [1] [1] := ⟨⟨by simp, by simp [coef]⟩, [1], ⟨by simp, by simp [coef]⟩, by simp, fun k => by
  cases k with
  | zero => simp [op, coef]
  | succ k => simp [op, coef]⟩
theorem Part.keep {R W P : List Int} (h : Part R W) (hW : Led W) (hP : Led P) : Part R (mulL W P) := by
  obtain ⟨hR, H, hH, hl, hc⟩ := h
  have := hR.len
  have := hH.len
  have := hP.len
  have := hW.len
  refine ⟨hR, mulL P H, hP.mul hH, by rw [mulL_length, mulL_length]; omega, fun k => ?_⟩
  rw [coef_mulL (by omega) (by omega), op_symm, funext hc, op_comm, op_congr _ fun k => (coef_mulL hP.len hH.len k).symm]
theorem Part.times {R W P : List Int} (h : Part R W) (hW : Led W) (hP : Led P) : Part (mulL R P) (mulL W P) := by
  obtain ⟨hR, H, hH, hl, hc⟩ := h
  have := hR.len
  have := hH.len
  have := hP.len
  have := hW.len
  refine ⟨hR.mul hP, H, hH, by rw [mulL_length, mulL_length]; omega, fun k => ?_⟩
  rw [coef_mulL (by omega) (by omega), op_symm, funext hc, op_symm (mulL R P), funext (fun k => coef_mulL hR.len hP.len k), funext (fun k => op_symm R P k), op_comm, op_comm H P, funext (fun k => op_symm H R k), op_comm P R]
theorem PieceL.led {P : List Int} (h : PieceL P) : Led P := ⟨by have := h.1; omega, h.2.2.2⟩
theorem lotsL_ne (Ps : List (List Int)) : lotsL Ps ≠ [] := by
  intro e
  have := lotsL_length Ps
  rw [e] at this
  have h : 0 < 2 ^ Ps.length := Nat.pow_pos (by omega)
  simp only [List.length_nil] at this
  omega
def wholeL (Ps : List (List Int)) : List Int := (lotsL Ps).getLastD []
theorem wholeL_snoc (Ps : List (List Int)) (P : List Int) : wholeL (Ps ++ [P]) = mulL (wholeL Ps) P := by
  unfold wholeL
  have h := lotsL_ne Ps
  rw [lotsL_snoc]
  rw [← List.dropLast_concat_getLast h, List.map_append, List.map_singleton, ← List.append_assoc, List.getLastD_concat, List.getLastD_concat]
theorem parts : ∀ n, ∀ Ps : List (List Int), Ps.length = n → (∀ P ∈ Ps, PieceL P) → Led (wholeL Ps) ∧ ∀ R ∈ lotsL Ps, Part R (wholeL Ps) := by
  intro n
  induction n with
  | zero =>
    intro Ps h _
    rw [List.length_eq_zero_iff.mp h]
    refine ⟨⟨by simp [wholeL, lotsL_nil], by simp [wholeL, lotsL_nil, coef]⟩, fun R hR => ?_⟩
    rw [lotsL_nil, List.mem_singleton] at hR
    subst hR
    exact Part.one
  | succ n ih =>
    intro Ps h hP
    have hne : Ps ≠ [] := fun e => by rw [e] at h; cases h
    obtain ⟨Qs, P, rfl⟩ : ∃ Qs P, Ps = Qs ++ [P] := ⟨_, _, (List.dropLast_concat_getLast hne).symm⟩
    obtain ⟨i1, i2⟩ := ih Qs (by simpa using h) fun P hp => hP P (List.mem_append_left _ hp)
    have hp := (hP P (by simp)).led
    rw [wholeL_snoc, lotsL_snoc]
    refine ⟨i1.mul hp, fun R hR => ?_⟩
    rcases List.mem_append.mp hR with h | h
    · exact (i2 R h).keep i1 hp
    · obtain ⟨S, hS, rfl⟩ := List.mem_map.mp h
      exact (i2 S hS).times i1 hp
/-- the numbers of h, shifted i steps -/
def hs (h : Nat → Rat) (i t : Nat) : Rat := if i ≤ t then h (t - i) else 0
def cv (h u : Nat → Rat) (n t : Nat) : Rat := sm (fun i => u i * hs h i t) n
def rho (h : Nat → Rat) (l d : Nat) : Rat := sm (fun t => h t * h (t + d)) l
theorem hs_rho_le {h : Nat → Rat} {l : Nat} (hl : ∀ k, l ≤ k → h k = 0) {i j T : Nat} (hj : j ≤ i) (hT : i + l ≤ T) : sm (fun t => hs h i t * hs h j t) T = rho h l (gap i j) := by
  obtain ⟨d, rfl⟩ : ∃ d, T = i + (l + d) := ⟨T - i - l, by omega⟩
  rw [sm_split, sm_split, sm_zero fun t ht => by unfold hs; rw [if_neg (by omega)]; grind]
  have h2 : sm (fun s => hs h i (i + (l + s)) * hs h j (i + (l + s))) d = 0 := sm_zero fun t ht => by
    unfold hs; rw [if_pos (by omega), hl _ (by omega)]; grind
  rw [h2]
  have h3 : sm (fun s => hs h i (i + s) * hs h j (i + s)) l = rho h l (gap i j) := sm_congr fun s hs' => by
    unfold hs
    rw [if_pos (by omega), if_pos (by omega), show i + s - i = s by omega, show i + s - j = s + gap i j by unfold gap; omega]
  rw [h3]; grind
theorem hs_rho {h : Nat → Rat} {l : Nat} (hl : ∀ k, l ≤ k → h k = 0) {i j T : Nat} (hi : i + l ≤ T) (hj : j + l ≤ T) : sm (fun t => hs h i t * hs h j t) T = rho h l (gap i j) := by
  rcases Nat.le_total j i with hc | hc
  · exact hs_rho_le hl hc hi
  · rw [gap_symm, ← hs_rho_le hl hc hj]
    exact sm_congr fun t _ => by grind
theorem cv_sq {h : Nat → Rat} {l : Nat} (hl : ∀ k, l ≤ k → h k = 0) (u : Nat → Rat) {n T : Nat} (hT : n + l ≤ T) : sm (fun t => cv h u n t * cv h u n t) T = Bf (rho h l) u u n := by
  have e1 : sm (fun t => cv h u n t * cv h u n t) T = sm (fun t => sm (fun j => cv h u n t * (u j * hs h j t)) n) T := sm_congr fun t _ => by
    rw [sm_mul]; rfl
  rw [e1, sm_swap]
  refine sm_congr fun j hj => ?_
  have e2 : sm (fun t => cv h u n t * (u j * hs h j t)) T = u j * sm (fun t => sm (fun i => u i * (hs h i t * hs h j t)) n) T := by
    rw [← sm_mul]
    refine sm_congr fun t _ => ?_
    have e3 : sm (fun i => u i * (hs h i t * hs h j t)) n = hs h j t * cv h u n t := by
      unfold cv
      rw [← sm_mul]
      exact sm_congr fun i _ => by grind
    rw [e3]; grind
  rw [e2, sm_swap]
  have e4 : sm (fun i => sm (fun t => u i * (hs h i t * hs h j t)) T) n = Lf (rho h l) u n j := sm_congr fun i hi => by
    rw [sm_mul, hs_rho hl (by omega) (by omega)]
  rw [e4]
theorem rho_pos {h : Nat → Rat} {l : Nat} (hl : ∀ k, l ≤ k → h k = 0) (h1 : 1 ≤ l) (hc : 1 ≤ h (l - 1) * h (l - 1)) : PosQ (rho h l) := by
  intro u n
  rw [← cv_sq hl u (Nat.le_refl (n + 1 + l))]
  have hsq : ∀ x : Rat, 0 ≤ x * x := fun x => by
    rcases Rat.le_total (a := 0) (b := x) with h | h
    · exact Rat.mul_nonneg h h
    · have := Rat.mul_nonneg (a := -x) (b := -x) (by grind) (by grind)
      grind
  have h2 := sm_one_le (f := fun t => cv h u (n + 1) t * cv h u (n + 1) t) (fun t => hsq _) (t := n + (l - 1)) (n := n + 1 + l) (by omega)
  have h3 : cv h u (n + 1) (n + (l - 1)) = u n * h (l - 1) := by
    unfold cv
    rw [sm, sm_zero fun i hi => by unfold hs; rw [if_pos (by omega), hl _ (by omega)]; grind]
    unfold hs
    rw [if_pos (by omega), show n + (l - 1) - n = l - 1 by omega]; grind
  simp only [h3] at h2
  have h4 := Rat.mul_nonneg (hsq (u n)) (show 0 ≤ h (l - 1) * h (l - 1) - 1 by grind)
  have e : u n * h (l - 1) * (u n * h (l - 1)) = u n * u n * (h (l - 1) * h (l - 1)) := by grind
  rw [e] at h2
  grind
def qf (a : List Int) (k : Nat) : Rat := ((coef a k : Int) : Rat)
theorem cast_zero : ((0 : Int) : Rat) = 0 := rfl
theorem mulTo_cv (a b : List Int) (k : Nat) : ∀ n, ((mulTo a b n k : Int) : Rat) = cv (qf b) (qf a) n k
  | 0 => rfl
  | n + 1 => by
    rw [mulTo, Rat.intCast_add, mulTo_cv a b k n]
    unfold cv
    rw [sm]
    by_cases h : n ≤ k
    · rw [if_pos h, Rat.intCast_mul]; unfold hs; rw [if_pos h]; rfl
    · rw [if_neg h]; unfold hs; rw [if_neg h, cast_zero]; grind
theorem sq_sm : ∀ a : List Int, ((sq a : Int) : Rat) = sm (fun t => qf a t * qf a t) a.length
  | [] => rfl
  | x :: a => by
    rw [List.length_cons, sm_head]
    have e : sq (x :: a) = x * x + sq a := by unfold sq; simp
    rw [e, Rat.intCast_add, Rat.intCast_mul, sq_sm a]
    have e2 : sm (fun i => qf (x :: a) (i + 1) * qf (x :: a) (i + 1)) a.length = sm (fun t => qf a t * qf a t) a.length := sm_congr fun i _ => by
      unfold qf; rw [coef_cons_succ]
    rw [e2]; rfl
theorem two_pow (n : Nat) : (((2 : Int) ^ n : Int) : Rat) = 2 ^ n := by
  induction n with
  | zero => rfl
  | succ n ih => rw [Int.pow_succ, Rat.intCast_mul, ih]; have : ((2 : Int) : Rat) = 2 := rfl; rw [this]; grind
theorem two_le {a b : Nat} (h : a ≤ b) : (2 : Int) ^ a ≤ 2 ^ b := by
  obtain ⟨d, rfl⟩ := Nat.exists_eq_add_of_le h
  have h1 : (0 : Int) < 2 ^ a := Int.pow_pos (by omega)
  have h2 : (0 : Int) < 2 ^ d := Int.pow_pos (by omega)
  rw [Int.pow_add]
  have := Int.mul_le_mul_of_nonneg_left (show (1 : Int) ≤ 2 ^ d by omega) (show (0 : Int) ≤ 2 ^ a by omega)
  omega
/-- the law: no number of a part is beyond the bound of the whole -/
theorem part_bound {R W : List Int} (h : Part R W) {x : Int} (hx : 0 ≤ x) (hq : sq W ≤ x * x) (k : Nat) :
    -(2 ^ (W.length - 1) * x) ≤ coef R k ∧ coef R k ≤ 2 ^ (W.length - 1) * x := by
  obtain ⟨hR, H, hH, hl, hc⟩ := h
  have l1 := hR.len
  have l2 := hH.len
  have hl0 : ∀ k, H.length ≤ k → qf H k = 0 := fun k hk => by unfold qf; rw [coef_out hk]; rfl
  have h1 : (1 : Rat) ≤ qf H (H.length - 1) * qf H (H.length - 1) := by
    have : (1 : Int) ≤ coef H (H.length - 1) * coef H (H.length - 1) := by
      have := Int.mul_le_mul hH.top hH.top (by omega) (by have := hH.top; omega)
      omega
    have := Rat.intCast_le_intCast.mpr this
    rw [Rat.intCast_mul] at this
    exact this
  have hp := rho_pos hl0 l2 h1
  have e1 : ((sq W : Int) : Rat) = Bf (rho (qf H) H.length) (qf R) (qf R) (R.length - 1 + 1) := by
    rw [sq_sm, show R.length - 1 + 1 = R.length by omega, ← cv_sq hl0 (qf R) (Nat.le_refl (R.length + H.length)), show R.length + H.length = W.length + 1 by omega]
    have e2 : ∀ t, cv (qf H) (qf R) R.length t = qf W t := fun t => by rw [← mulTo_cv, mulTo_op]; unfold qf; rw [hc]
    have e3 : sm (fun t => cv (qf H) (qf R) R.length t * cv (qf H) (qf R) R.length t) (W.length + 1) = sm (fun t => qf W t * qf W t) (W.length + 1) := sm_congr fun t _ => by rw [e2]
    rw [e3, sm]
    have : qf W W.length = 0 := by unfold qf; rw [coef_out (Nat.le_refl _)]; rfl
    rw [this]; grind
  have hq2 : Bf (rho (qf H) H.length) (qf R) (qf R) (R.length - 1 + 1) ≤ (x : Rat) * (x : Rat) := by
    rw [← e1, ← Rat.intCast_mul]; exact Rat.intCast_le_intCast.mpr hq
  have hx2 : (0 : Rat) ≤ (x : Rat) := Rat.intCast_le_intCast.mpr hx
  have hpow : (2 : Int) ^ (R.length - 1) * x ≤ 2 ^ (W.length - 1) * x :=
    Int.mul_le_mul_of_nonneg_right (two_le (by omega)) hx
  by_cases hk : k ≤ R.length - 1
  · have := bound_q hp (R.length - 1) (qf R) x hx2 hq2 k hk
    rw [← two_pow, ← Rat.intCast_mul, ← Rat.intCast_neg] at this
    have a1 := Rat.intCast_le_intCast.mp this.1
    have a2 := Rat.intCast_le_intCast.mp this.2
    omega
  · rw [coef_out (by omega)]
    have : 0 ≤ (2 : Int) ^ (W.length - 1) * x := Int.mul_nonneg (Int.pow_nonneg (by omega)) hx
    omega
end Mine
namespace Mine
theorem seq_last {n : Nat} (h : 1 ≤ n) : seqIndex? (-1) n = some (n - 1) := by
  unfold seqIndex?
  simp only [show ((-1 : Int) < 0) by decide, if_true]
  rw [if_pos (by simp; omega)]
  congr 1; omega
structure LotsOK (W : List Int) (Rs : List (List Int)) : Prop where
  led : Led W
  len : W.length ≤ 10
  small : ∀ x ∈ W, -(2 ^ 20) < x ∧ x < 2 ^ 20
  rows : ∀ R ∈ Rs, Part R W ∧ 1 ≤ R.length ∧ R.length ≤ 10 ∧ ∀ x ∈ R, -(2 ^ 20) < x ∧ x < 2 ^ 20
theorem lots_facts {Ps : List (List Int)} (hl : Ps.length ≤ 3) (hP : ∀ P ∈ Ps, PieceL P) : LotsOK (wholeL Ps) (lotsL Ps) := by
  obtain ⟨h1, h2⟩ := parts _ Ps rfl hP
  have h3 := lots_ok (Nat.le_refl Ps.length) hl hP
  rw [List.take_length] at h3
  have hm : wholeL Ps ∈ lotsL Ps := by
    unfold wholeL
    have hne := lotsL_ne Ps
    generalize lotsL Ps = F at hne
    obtain ⟨A, a, rfl⟩ : ∃ A a, F = A ++ [a] := ⟨_, _, (List.dropLast_concat_getLast hne).symm⟩
    rw [List.getLastD_concat]; simp
  have h4 := h3 _ hm
  refine ⟨h1, ?_, h4.small, fun R hR => ⟨h2 R hR, (h3 R hR).lo, ?_, (h3 R hR).small⟩⟩
  · have := h4.hi; omega
  · have := (h3 R hR).hi; omega
/-- the least whole number not below the root is one -/
theorem root_le {x y n : Int} (hy : 0 ≤ y) (h1 : n ≤ y * y) (h2 : x = 0 ∨ (x - 1) * (x - 1) < n) : x ≤ y := by
  rcases h2 with h | h
  · omega
  · apply Int.not_lt.mp
    intro hlt
    have := mul_self_le (x := y) (B := x - 1) (by omega) (by omega)
    omega
theorem root_one {x y n : Int} (hx : 0 ≤ x) (hy : 0 ≤ y) (h1 : n ≤ y * y) (h2 : x = 0 ∨ (x - 1) * (x - 1) < n) (h3 : n ≤ x * x) (h4 : y = 0 ∨ (y - 1) * (y - 1) < n) : x = y := by
  have := root_le hy h1 h2
  have := root_le hx h3 h4
  omega
theorem sq_pos {W : List Int} (h : Led W) : 1 ≤ sq W := by
  have h1 : ∀ (W : List Int) (k : Nat), coef W k * coef W k ≤ sq W := by
    intro W
    induction W with
    | nil => intro k; rw [coef_nil]; exact Int.le_refl 0
    | cons x r ih =>
      intro k
      have e : sq (x :: r) = x * x + sq r := by unfold sq; simp
      rw [e]
      cases k with
      | zero => rw [coef_cons_zero]; have := sq_nonneg r; omega
      | succ k => rw [coef_cons_succ]; have := ih k; have := mul_self_nonneg' x; omega
  have := h1 W (W.length - 1)
  have := Int.mul_le_mul h.top h.top (by omega) (by have := h.top; omega)
  omega
end Mine
namespace Mine
theorem part_abs {R W : List Int} (h : Part R W) {x M : Int} (hx : 0 ≤ x) (hq : sq W ≤ x * x) (hM : M ∈ R.map (fun k' => if k' < 0 then -k' else k')) : M ≤ 2 ^ (W.length - 1) * x := by
  obtain ⟨y, hy, rfl⟩ := List.mem_map.mp hM
  obtain ⟨k, hk, e⟩ := List.mem_iff_getElem.mp hy
  have h2 := part_bound h hx hq k
  have e2 : coef R k = y := by unfold coef; rw [List.getD_eq_getElem?_getD, List.getElem?_eq_getElem hk, e]; rfl
  rw [e2] at h2
  split <;> omega
theorem pow_fdiv (n : Nat) (x : Int) : ((2 : Int) ^ n * x).fdiv (2 ^ n) = x := by
  have h : (0 : Int) < 2 ^ n := Int.pow_pos (by omega)
  rw [Int.fdiv_eq_ediv_of_nonneg _ (by omega), Int.mul_ediv_cancel_left _ (by omega)]
theorem num_bd {a b c : Int} (h1 : 0 ≤ a) (h2 : a < 76924) (h3 : 0 ≤ b) (h4 : b < 76924) (h5 : 0 ≤ c) (h6 : c < 3) : 0 ≤ a * b + c ∧ a * b + c < 2 ^ 60 := by
  have := Int.mul_nonneg h1 h3
  have := mul_bd (x := a) (y := b) (A := 76924) (B := 76924) (by omega) (by omega) (by omega) (by omega)
  omega
theorem prime_bd {y : Int} (h1 : 0 ≤ y) (h2 : y < 4) : (2 : Int) ≤ List.getD ([2, 3, 5, 13] : List Int) y.toNat 0 ∧ List.getD ([2, 3, 5, 13] : List Int) y.toNat 0 ≤ (13 : Int) := by
  have : y = 0 ∨ y = 1 ∨ y = 2 ∨ y = 3 := by omega
  rcases this with rfl | rfl | rfl | rfl <;> decide
end Mine
namespace Mine
-- lemmas for ceil_root
theorem cr_le {h n : Int} (h1 : 1 ≤ h) (h2 : h * h < n) : h < n := by
  have : h * 1 ≤ h * h := Int.mul_le_mul_of_nonneg_left h1 (by omega)
  omega
theorem cr_s1 {h n : Int} (h1 : 1 ≤ h) (h2 : h * h < n) : 1 ≤ 2 * h ∧ 2 * h ≤ 2 * n + 1 := by
  have := cr_le h1 h2; omega
theorem cr_m1 {h n : Int} (h1 : 1 ≤ h) (h2 : h * h < n) : (n - 2 * h).toNat < (n - h).toNat := by
  have := cr_le h1 h2; omega
theorem cr_mid {l h : Int} (h1 : l < h) : l ≤ (l + h).fdiv 2 ∧ (l + h).fdiv 2 < h := by
  rw [Int.fdiv_eq_ediv_of_nonneg _ (by decide : (0:Int) ≤ 2)]; omega
theorem cr_s2 {l h n : Int} (h0 : 0 ≤ l) (h1 : l < h) (h2 : h ≤ 2 * n + 1) (h3 : n ≤ h * h) (h4 : (l + h).fdiv 2 * (l + h).fdiv 2 < n) :
    0 ≤ (l + h).fdiv 2 + 1 ∧ (l + h).fdiv 2 + 1 ≤ h ∧ h ≤ 2 * n + 1 ∧ n ≤ h * h ∧ ((l + h).fdiv 2 + 1 = 0 ∨ ((l + h).fdiv 2 + 1 - 1) * ((l + h).fdiv 2 + 1 - 1) < n) := by
  have := cr_mid h1
  refine ⟨by omega, by omega, h2, h3, .inr ?_⟩
  rw [Int.add_sub_cancel]; exact h4
theorem cr_m2 {l h : Int} (h1 : l < h) : (h - ((l + h).fdiv 2 + 1)).toNat < (h - l).toNat := by
  have := cr_mid h1; omega
theorem cr_s3 {l h n : Int} (h0 : 0 ≤ l) (h1 : l < h) (h2 : h ≤ 2 * n + 1) (h4 : ¬ (l + h).fdiv 2 * (l + h).fdiv 2 < n) (h5 : l = 0 ∨ (l - 1) * (l - 1) < n) :
    0 ≤ l ∧ l ≤ (l + h).fdiv 2 ∧ (l + h).fdiv 2 ≤ 2 * n + 1 ∧ n ≤ (l + h).fdiv 2 * (l + h).fdiv 2 ∧ (l = 0 ∨ (l - 1) * (l - 1) < n) := by
  have := cr_mid h1
  exact ⟨h0, by omega, by omega, by omega, h5⟩
theorem cr_m3 {l h : Int} (h1 : l < h) : ((l + h).fdiv 2 - l).toNat < (h - l).toNat := by
  have := cr_mid h1; omega
theorem cr_s0 {h n : Int} (h1 : 1 ≤ h) (h2 : h ≤ 2 * n + 1) (h3 : ¬ h * h < n) : 0 ≤ (0 : Int) ∧ (0 : Int) ≤ h ∧ h ≤ 2 * n + 1 ∧ n ≤ h * h ∧ ((0 : Int) = 0 ∨ ((0 : Int) - 1) * (0 - 1) < n) :=
  ⟨by omega, by omega, h2, by omega, .inl rfl⟩
theorem cr_mul {l h n : Int} (h0 : 0 ≤ l) (h1 : l < h) (h2 : h ≤ 2 * n + 1) (h3 : n < 2 ^ 60) {b : Int} : IntMulOk ((l + h).fdiv 2) b := by
  have := cr_mid h1
  exact mul_ok (by omega) (by omega)
theorem cr_end {l h n : Int} (h2 : ¬ l < h) (h1 : l ≤ h) (h3 : n ≤ h * h) : n ≤ l * l := by
  have : l = h := by omega
  subst this; exact h3
section
local macro_rules | `(tactic| walk_at "binaryOp Mult int int") => `(tactic| (k_here; (with_reducible show wpAny _ _ (binaryOp Operator.Mult (Value.int (Int.fdiv _ _) _) _) _ _ _); refine mul_int ?_ (cr_mul (by assumption) (by assumption) (by assumption) (by assumption))))
local macro_rules | `(tactic| walk_at "binaryOp Mult int int") => `(tactic| (k_here; refine mul_int ?_ (mul_ok (by omega) (by omega))))
set_option maxHeartbeats 4000000 in
theorem ceil_root_c (w : World) (n : Int) (tn : Tok) (news : List (Addr × Obj)) (h0 : 0 ≤ n) (h1 : n < 2 ^ 60) :
    Cl w 2 21 news [.int n tn] (fun r news' => news' = news ∧ ∃ x t, r = .int x t ∧ 0 ≤ x ∧ n ≤ x * x ∧ (x = 0 ∨ (x - 1) * (x - 1) < n) ∧ x ≤ 2 * n + 1) := by
  w_top off
  k_with_none
  k_with "exec While Compare cons nil" => k_while_given ["n"] (fun n script high => 1 ≤ high ∧ high ≤ 2*n+1) (fun n script high => (n - high).toNat) "high"
  k_with "exec While Compare cons nil" => k_while_given ["n"] (fun n script low high => 0 ≤ low ∧ low ≤ high ∧ high ≤ 2*n+1 ∧ n ≤ high*high ∧ (low = 0 ∨ (low-1)*(low-1) < n)) (fun n script low high => (high - low).toNat) "low" "high"
  k_with "state" => exact cr_s1 (by assumption) (by assumption)
  k_with "state" => exact cr_s2 (by assumption) (by assumption) (by assumption) (by assumption) (by assumption)
  k_with "state" => exact cr_s3 (by assumption) (by assumption) (by assumption) (by assumption) (by assumption)
  k_with "state" => exact cr_s0 (by assumption) (by assumption) (by assumption)
  k_with "measure" => exact cr_m1 (by assumption) (by assumption)
  k_with "measure" => exact cr_m2 (by assumption)
  k_with "measure" => exact cr_m3 (by assumption)
  unfold Cl
  intro mean mg mb dp un gd cn cs a ccd cl outer A₀ base h₀ L m s Q E B F X N T hk hdp hun hret
  refine wpAny_call ?_
  k_dflt cell_enter
  k_steps
  refine hret _ news _ _ (by assumption) (news_sub (by assumption) fun p hp => List.mem_cons_of_mem _ hp) ⟨rfl, _, _, rfl, by assumption, cr_end (by assumption) (by assumption) (by assumption), by assumption, by omega⟩
end
end Mine
namespace Mine
section
variable {prog : Program} {w : World} {A : Around} {E : Value → Shared → Prop} {s : Shared} {env : Env} {h₀ : Heap} {target : Expr} {body : List Stmt} {Q : Flow → Shared → Prop}

theorem allObj_mono : ∀ {ws : List (Addr × String)} {k k' : List (Addr × Obj) → Prop}, AllObj ws k → (∀ its, Objs ws its → k its → k' its) → AllObj ws k'
  | [], _, _, h, f => f [] trivial h
  | (a, n) :: r, k, k', h, f => fun o ho => allObj_mono (ws := r) (h o ho) fun its hi hk => f ((a, o) :: its) ⟨⟨rfl, ho⟩, hi⟩ hk

theorem objs2 {a b : Addr} {x y : String} : ∀ {own : List (Addr × Obj)}, Objs [(a, x), (b, y)] own → ∃ o1 o2, own = [(a, o1), (b, o2)] ∧ o1.cls = .type x ∧ o2.cls = .type y
  | [], h => (show False from h).elim
  | [_], h => (show False from h.2).elim
  | [(a', o1), (b', o2)], h => by
    obtain ⟨⟨e1, h1⟩, ⟨e2, h2⟩, _⟩ := h
    exact ⟨o1, o2, by rw [show a' = a from e1, show b' = b from e2], h1, h2⟩
  | _ :: _ :: _ :: _, h => (show False from h.2.2).elim

/-- behind a turn: the list d may hold another object, all else is as it was -/
def EnEnd (h₀ : Heap) (L : Addr) (s : Shared) (own : List (Addr × Obj)) (stored : List Str) (m₀ : Str → Option Value) (d : Addr) (rest : List (Addr × Obj)) (J : Obj → Prop) (s₃ : Shared) : Prop :=
  ∃ h' tk' m' o', s₃ = { s with heap := h', toks := tk' } ∧ Fr h₀ L h' m' ∧ News h₀ L h' (own ++ (d, o') :: rest) ∧ (∀ z, stored.contains z = false → m' z = m₀ z) ∧ J o'
def EnPost (h₀ : Heap) (L : Addr) (s : Shared) (own : List (Addr × Obj)) (stored : List Str) (m₀ : Str → Option Value) (d : Addr) (rest : List (Addr × Obj)) (J : Obj → Prop) (Q : Flow → Shared → Prop) (f : Flow) (s₃ : Shared) : Prop :=
  match f with
  | .ret v => Q (.ret v) s₃
  | .brk => Q .next s₃
  | _ => EnEnd h₀ L s own stored m₀ d rest J s₃

theorem enum_rest {I : Addr} {stored : List Str} {m₀ : Str → Option Value} {d : Addr} {rest : List (Addr × Obj)} {keep : List (Addr × Obj)} (J : Nat → Obj → Prop) (hlt : ∀ p ∈ rest, p.1 < I) (hd : d < I) (hkeep : ∀ o, SubL keep ((d, o) :: rest))
    (ws : List (Addr × String)) (hws : ∀ q ∈ ws, I ≤ q.1) (vs : List Value)
    (turn : ∀ i v T t o (u : Str → Option Value) own h tk, vs[i]? = some v → J i o → Objs ws own → IsTup h T #[.int (i : Int) t, v] → Fr h₀ env.locals h (fun z => if stored.contains z then u z else m₀ z) → News h₀ env.locals h (own ++ (d, o) :: rest) →
      wpAny (model prog w) A (assign target env (.ref T)) (fun _ s₂ => wpAny (model prog w) A (execs body env) (EnPost h₀ env.locals { s with heap := h, toks := tk } own stored m₀ d rest (J (i + 1)) Q) E s₂) E { s with heap := h, toks := tk })
    (done : ∀ o (u : Str → Option Value) h tk, J vs.length o → Fr h₀ env.locals h (fun z => if stored.contains z then u z else m₀ z) → News h₀ env.locals h ((d, o) :: rest) → Q .next { s with heap := h, toks := tk }) :
    ∀ (us : List Value) (i : Nat) (o : Obj) (m : Str → Option Value), i + us.length = vs.length → (∀ j, us[j]? = vs[i + j]?) → (∀ z, stored.contains z = false → m z = m₀ z) → J i o →
      ItemsRest prog w A E h₀ env target body Q s ws keep (enumItems i us) m ((d, o) :: rest) := by
  have em : ∀ m : Str → Option Value, (∀ z, stored.contains z = false → m z = m₀ z) → (fun z => if stored.contains z then m z else m₀ z) = m := fun m hm => by
    funext z
    cases hz : stored.contains z with
    | true => simp
    | false => simp [hm z hz]
  intro us
  induction us with
  | nil =>
    intro i o m hi hu hm hJ
    have hi' : i = vs.length := by simpa using hi
    subst hi'
    refine ItemsRest.zero fun h tk F N => ?_
    exact done o m h tk hJ (by rw [em m hm]; exact F) N
  | cons v r ih =>
    intro i o m hi hu hm hJ
    refine ItemsRest.pair fun T t h tk hT F => ?_
    have hv : vs[i]? = some v := by have := hu 0; simpa using this.symm
    have key : ∀ own, Objs ws own → (News h₀ env.locals h (own ++ (d, o) :: rest) →
      wpAny (model prog w) A (assign target env (.ref T)) (fun _ s₂ => wpAny (model prog w) A (execs body env) (UnrPostW h₀ env.locals { s with heap := h, toks := tk } own (fun m' n' => SubL keep n' ∧ ItemsRest prog w A E h₀ env target body Q s ws keep (enumItems (i + 1) r) m' n') Q) E s₂) E { s with heap := h, toks := tk }) := by
      intro own ho N
      have hown : ∀ q ∈ own, I ≤ q.1 := fun q hq => by
        have h1 : q.1 ∈ own.map (·.1) := List.mem_map.mpr ⟨q, hq, rfl⟩
        rw [ho.map] at h1
        obtain ⟨x, hx, e⟩ := List.mem_map.mp h1
        rw [← e]; exact hws x hx
      refine wpAny_mono (turn i v T t o m own h tk hv hJ ho hT (by rw [em m hm]; exact F) N) (fun _ s₂ h₂ => wpAny_mono h₂ (fun f s₃ p => ?_) fun _ _ e => e) fun _ _ e => e
      have fin : EnEnd h₀ env.locals { s with heap := h, toks := tk } own stored m₀ d rest (J (i + 1)) s₃ → UnrEndW h₀ env.locals { s with heap := h, toks := tk } own (fun m' n' => SubL keep n' ∧ ItemsRest prog w A E h₀ env target body Q s ws keep (enumItems (i + 1) r) m' n') s₃ := by
        rintro ⟨h', tk', m', o', rfl, F', N', hm', hJ'⟩
        refine ⟨h', tk', m', (d, o') :: rest, rfl, F', N', ?_, hkeep o', ih (i + 1) o' m' ?_ ?_ hm' hJ'⟩
        · intro p hp q hq e
          have h1 : p.1 < I := by
            rcases List.mem_cons.mp hp with rfl | hp
            · exact hd
            · exact hlt p hp
          exact absurd (e ▸ h1) (Nat.not_lt.mpr (hown q hq))
        · simp only [List.length_cons] at hi; omega
        · intro j
          have := hu (j + 1)
          rw [show i + 1 + j = i + (j + 1) by omega]
          simpa using this
      cases f with
      | ret v => exact p
      | brk => exact p
      | next => exact fin p
      | cont => exact fin p
    clear hv
    generalize hws' : ws = ws'
    rw [hws'] at key
    have all : ∀ (ws₂ : List (Addr × String)) (k : List (Addr × Obj) → Prop), (∀ own, Objs ws₂ own → k own) → AllObj ws₂ k := by
      intro ws₂
      induction ws₂ with
      | nil => exact fun k hk => hk [] trivial
      | cons q r ih2 => exact fun k hk o ho => ih2 _ fun its hi => hk ((q.1, o) :: its) ⟨⟨rfl, ho⟩, hi⟩
    exact all ws' _ key

theorem enum_inv {l d : Addr} {lo o₀ : Obj} {vs : List Value} {n : Nat} {elts : List Expr} {k : Nat} {pos : Pos} {m₀ : Str → Option Value} {rest : List (Addr × Obj)} (stored : List Str) (J : Nat → Obj → Prop)
    (hh : A.handled = none) (F : Fr h₀ env.locals s.heap m₀) (N : News h₀ env.locals s.heap ((d, o₀) :: rest)) (hm : (l, lo) ∈ rest) (hc : lo.cls = .type "list") (hdt : lo.data = .seq vs.toArray n) (hJ : J 0 o₀)
    (turn : ∀ I oE oI i v T t o (u : Str → Option Value) h tk, oE.cls = .type "enumerate" → oI.cls = .type "list_iterator" → (∀ p ∈ rest, p.1 < I) → d < I → vs[i]? = some v → J i o → IsTup h T #[.int (i : Int) t, v] → Fr h₀ env.locals h (fun z => if stored.contains z then u z else m₀ z) → News h₀ env.locals h ((I + 1, oE) :: (I, oI) :: (d, o) :: rest) →
      wpAny (model prog w) A (assign (.Tuple elts k pos) env (.ref T)) (fun _ s₂ => wpAny (model prog w) A (execs body env) (EnPost h₀ env.locals { s with heap := h, toks := tk } [(I + 1, oE), (I, oI)] stored m₀ d rest (J (i + 1)) Q) E s₂) E { s with heap := h, toks := tk })
    (done : ∀ o (u : Str → Option Value) h tk, J vs.length o → Fr h₀ env.locals h (fun z => if stored.contains z then u z else m₀ z) → News h₀ env.locals h ((d, o) :: rest) → Q .next { s with heap := h, toks := tk }) :
    wpAny (model prog w) A (call (.type "enumerate") [.ref l]) (fun xv s₁ => wpAny (model prog w) A (pyIter xv) (fun it s₂ => TurnsAt prog w A h₀ env (.Tuple elts k pos) body Q E it s₂) E s₁) E s := by
  refine ktu_enum (xs := enumItems 0 vs) hh F N (List.mem_cons_of_mem _ hm) hc hdt rfl fun I hI => ?_
  refine enum_rest (keep := [(l, lo)]) (d := d) (stored := stored) (m₀ := m₀) (I := I) J (fun p hp => hI p (List.mem_cons_of_mem _ hp)) (hI (d, o₀) List.mem_cons_self) (fun o => And.intro (List.mem_cons_of_mem _ hm) trivial) _ ?_ vs ?_ done vs 0 o₀ m₀ (by simp) (by simp) (fun _ _ => rfl) hJ
  · intro q hq
    rcases List.mem_cons.mp hq with rfl | hq
    · exact Nat.le_succ I
    · rw [List.mem_singleton.mp hq]; exact Nat.le_refl _
  · intro i v T t o u own h tk hv hJ ho hT F' N'
    obtain ⟨o1, o2, rfl, c1, c2⟩ := objs2 ho
    exact turn _ o1 o2 i v T t o u h tk c1 c2 (fun p hp => hI p (List.mem_cons_of_mem _ hp)) (hI (d, o₀) List.mem_cons_self) hv hJ hT F' N'
end
end Mine
namespace Mine
open PyProof.Rows.LCg in
theorem comp_inv {prog : Program} {w : World} {A : Around} {s : Shared} {h₀ : Heap} {L : Addr} {m : Str → Option Value} {env : Env} {elt : Expr} {x : Str} {scope : Scope} {cl : List (Str × Addr)} {S : List (Addr × Obj) → Prop} {P : Nat → Value → Prop} {Fin : List Value → List (Addr × Obj) → Prop} {news : List (Addr × Obj)}
    {n : Nat} (J : Nat → List Value → List (Addr × Obj) → Prop) (h0 : J 0 [] news)
    (turn : ∀ i ys news v I oI C oC D m₂ h tk (E' : Value → Shared → Prop), i < n → P i v → J i ys news → NsObj oC m₂ → m₂ x = some v → Fr h₀ L h m → News h₀ L h ((I, oI) :: (C, oC) :: (D, lst ys) :: news) → Off3 I C D news → ((@Ne Nat I C) ∧ (@Ne Nat I D) ∧ (@Ne Nat C D)) →
      wpAny (model prog w) A (eval elt (compEnvC scope cl C env)) (CompEnd h₀ L m { s with heap := h, toks := tk } I oI C oC D (lst ys) S (fun y news' => J (i + 1) (ys ++ [y]) news')) E' { s with heap := h, toks := tk })
    (fin : ∀ ys news, J n ys news → Fin ys news) : CompRest prog w A h₀ L m env elt x scope cl s S P Fin n 0 [] news := by
  have all : ∀ k i ys news, i + k = n → J i ys news → CompRest prog w A h₀ L m env elt x scope cl s S P Fin k i ys news := by
    intro k
    induction k with
    | zero =>
      intro i ys news hi hJ
      have hi' : i = n := by omega
      subst hi'
      exact CompRest.zero (fin ys news hJ)
    | succ k ih =>
      intro i ys news hi hJ
      refine CompRest.succ ?_
      intro v I oI C oC D m₂ h tk E' hP hC hx F N off ne
      refine wpAny_mono (turn i ys news v I oI C oC D m₂ h tk E' (by omega) hP hJ hC hx F N off ne) (fun y s₂ hq => ?_) fun _ _ e => e
      obtain ⟨h', tk', nw, e, F', N', off', hS, hJ'⟩ := hq
      exact ⟨h', tk', nw, e, F', N', off', hS, ih (i + 1) _ _ (by omega) hJ'⟩
  exact all n 0 [] news (by omega) h0

open PyProof.Rows.LCg PyProof.Rows.LCt in
theorem compT_inv {prog : Program} {w : World} {A : Around} {s : Shared} {h₀ : Heap} {L : Addr} {m : Str → Option Value} {env : Env} {ct elt : Expr} {x : Str} {scope : Scope} {cl : List (Str × Addr)} {S : List (Addr × Obj) → Prop} {P : Nat → Value → Prop} {Fin : List Value → List (Addr × Obj) → Prop} {news : List (Addr × Obj)}
    {n : Nat} (J : Nat → List Value → List (Addr × Obj) → Prop) (h0 : J 0 [] news)
    (turn : ∀ i ys news v I oI C oC D m₂ h tk (E' : Value → Shared → Prop), i < n → P i v → J i ys news → NsObj oC m₂ → m₂ x = some v → Fr h₀ L h m → News h₀ L h ((I, oI) :: (C, oC) :: (D, lst ys) :: news) → Off3 I C D news → ((@Ne Nat I C) ∧ (@Ne Nat I D) ∧ (@Ne Nat C D)) →
      wpAny (model prog w) A (isTrue ct (compEnvC scope cl C env) (eval ct (compEnvC scope cl C env))) (fun ok s' => if ok = true then
        wpAny (model prog w) A (eval elt (compEnvC scope cl C env)) (CompEnd h₀ L m { s with heap := h, toks := tk } I oI C oC D (lst ys) S (fun y news' => J (i + 1) (ys ++ [y]) news')) E' s'
        else CompEnd h₀ L m { s with heap := h, toks := tk } I oI C oC D (lst ys) S (fun _ news' => J (i + 1) ys news') Value.none s') E' { s with heap := h, toks := tk })
    (fin : ∀ ys news, J n ys news → Fin ys news) : CompRestT prog w A h₀ L m env ct elt x scope cl s S P Fin n 0 [] news := by
  have all : ∀ k i ys news, i + k = n → J i ys news → CompRestT prog w A h₀ L m env ct elt x scope cl s S P Fin k i ys news := by
    intro k
    induction k with
    | zero =>
      intro i ys news hi hJ
      have hi' : i = n := by omega
      subst hi'
      exact CompRestT.zero (fin ys news hJ)
    | succ k ih =>
      intro i ys news hi hJ
      refine CompRestT.succ ?_
      intro v I oI C oC D m₂ h tk E' hP hC hx F N off ne
      refine wpAny_mono (turn i ys news v I oI C oC D m₂ h tk E' (by omega) hP hJ hC hx F N off ne) (fun ok s₂ hq => ?_) fun _ _ e => e
      cases ok with
      | true =>
        simp only [if_true] at hq ⊢
        refine wpAny_mono hq (fun y s₃ hq => ?_) fun _ _ e => e
        obtain ⟨h', tk', nw, e, F', N', off', hS, hJ'⟩ := hq
        exact ⟨h', tk', nw, e, F', N', off', hS, ih (i + 1) _ _ (by omega) hJ'⟩
      | false =>
        simp only [Bool.false_eq_true, if_false] at hq ⊢
        obtain ⟨h', tk', nw, e, F', N', off', hS, hJ'⟩ := hq
        exact ⟨h', tk', nw, e, F', N', off', hS, ih (i + 1) _ _ (by omega) hJ'⟩
  exact all n 0 [] news (by omega) h0
end Mine
namespace Mine
section
variable {prog : Program} {w : World} {A : Around} {E : Value → Shared → Prop} {s : Shared} {env : Env} {h₀ : Heap} {target : Expr} {body : List Stmt} {Q : Flow → Shared → Prop}
theorem objs1 {a : Addr} {x : String} : ∀ {own : List (Addr × Obj)}, Objs [(a, x)] own → ∃ o1, own = [(a, o1)] ∧ o1.cls = .type x
  | [], h => (show False from h).elim
  | [(a', o1)], h => by
    obtain ⟨⟨e1, h1⟩, _⟩ := h
    exact ⟨o1, by rw [show a' = a from e1], h1⟩
  | _ :: _ :: _, h => (show False from h.2).elim

def LiEnd (h₀ : Heap) (L : Addr) (s : Shared) (I : Addr) (oI : Obj) (q : Addr × Obj) (y : Str) (stored : List Str) (m₀ : Str → Option Value) (J : Value → List (Addr × Obj) → Prop) (s₃ : Shared) : Prop :=
  ∃ h' tk' m' news' vy', s₃ = { s with heap := h', toks := tk' } ∧ Fr h₀ L h' m' ∧ News h₀ L h' ((I, oI) :: news') ∧ (∀ p ∈ news', p.1 ≠ I) ∧ q ∈ news' ∧ m' y = some vy' ∧ (∀ z, z ≠ y → stored.contains z = false → m' z = m₀ z) ∧ J vy' news'
def LiPost (h₀ : Heap) (L : Addr) (s : Shared) (I : Addr) (oI : Obj) (q : Addr × Obj) (y : Str) (stored : List Str) (m₀ : Str → Option Value) (J : Value → List (Addr × Obj) → Prop) (Q : Flow → Shared → Prop) (f : Flow) (s₃ : Shared) : Prop :=
  match f with
  | .ret v => Q (.ret v) s₃
  | .brk => Q .next s₃
  | _ => LiEnd h₀ L s I oI q y stored m₀ J s₃

theorem list_inv {ax : Addr} {lo : Obj} {vs : List Value} {n : Nat} {m₀ : Str → Option Value} {news₀ : List (Addr × Obj)} (y : Str) (stored : List Str) (J : Nat → Value → List (Addr × Obj) → Prop) {vy₀ : Value}
    (hh : A.handled = none) (F : Fr h₀ env.locals s.heap m₀) (N : News h₀ env.locals s.heap news₀) (hm : (ax, lo) ∈ news₀) (hc : lo.cls = .type "list") (hd : lo.data = .seq vs.toArray n) (hy : m₀ y = some vy₀) (hJ : J 0 vy₀ news₀)
    (turn : ∀ I oI i v vy news (u : Str → Option Value) h tk, oI.cls = .type "list_iterator" → vs[i]? = some v → J i vy news → (ax, lo) ∈ news → (∀ p ∈ news, p.1 ≠ I) → Fr h₀ env.locals h (fun z => if z = y then some vy else if stored.contains z then u z else m₀ z) → News h₀ env.locals h ((I, oI) :: news) →
      wpAny (model prog w) A (assign target env v) (fun _ s₂ => wpAny (model prog w) A (execs body env) (LiPost h₀ env.locals { s with heap := h, toks := tk } I oI (ax, lo) y stored m₀ (J (i + 1)) Q) E s₂) E { s with heap := h, toks := tk })
    (done : ∀ vy news (u : Str → Option Value) h tk, J vs.length vy news → Fr h₀ env.locals h (fun z => if z = y then some vy else if stored.contains z then u z else m₀ z) → News h₀ env.locals h news → Q .next { s with heap := h, toks := tk }) :
    wpAny (model prog w) A (pyIter (.ref ax)) (fun it s₂ => TurnsAt prog w A h₀ env target body Q E it s₂) E s := by
  have em : ∀ (m : Str → Option Value) (vy : Value), m y = some vy → (∀ z, z ≠ y → stored.contains z = false → m z = m₀ z) → (fun z => if z = y then some vy else if stored.contains z then m z else m₀ z) = m := fun m vy h1 hm => by
    funext z
    by_cases hz : z = y
    · subst hz; simp [h1]
    · rw [if_neg hz]
      cases hq : stored.contains z with
      | true => simp
      | false => simp [hm z hz hq]
  refine iter_listTurns hh F N hm hc hd fun I hI => ?_
  have all : ∀ (us : List Value) (i : Nat) (vy : Value) (m : Str → Option Value) (news : List (Addr × Obj)), i + us.length = vs.length → (∀ j, us[j]? = vs[i + j]?) → m y = some vy → (∀ z, z ≠ y → stored.contains z = false → m z = m₀ z) → J i vy news → (ax, lo) ∈ news → (∀ p ∈ news, p.1 ≠ I) →
      ItemsRest prog w A E h₀ env target body Q s [(I, "list_iterator")] [(ax, lo)] (us.map .val) m news := by
    intro us
    induction us with
    | nil =>
      intro i vy m news hi hu h1 hm' hJ' _ _
      have hi' : i = vs.length := by simpa using hi
      subst hi'
      refine ItemsRest.zero fun h tk F N => ?_
      exact done vy news m h tk hJ' (by rw [em m vy h1 hm']; exact F) N
    | cons v r ih =>
      intro i vy m news hi hu h1 hm' hJ' hax hap
      refine ItemsRest.val fun h tk F => ?_
      have hv : vs[i]? = some v := by have := hu 0; simpa using this.symm
      refine AllObj.cons fun oI hcI => AllObj.nil fun N => ?_
      refine wpAny_mono (turn I oI i v vy news m h tk hcI hv hJ' hax hap (by rw [em m vy h1 hm']; exact F) N) (fun _ s₂ h₂ => wpAny_mono h₂ (fun f s₃ p => ?_) fun _ _ e => e) fun _ _ e => e
      have fin : LiEnd h₀ env.locals { s with heap := h, toks := tk } I oI (ax, lo) y stored m₀ (J (i + 1)) s₃ → UnrEndW h₀ env.locals { s with heap := h, toks := tk } [(I, oI)] (fun m' n' => SubL [(ax, lo)] n' ∧ ItemsRest prog w A E h₀ env target body Q s [(I, "list_iterator")] [(ax, lo)] (r.map .val) m' n') s₃ := by
        rintro ⟨h', tk', m', news', vy', rfl, F', N', hap', hax', hy', hm2, hJ2⟩
        refine ⟨h', tk', m', news', rfl, F', N', ?_, And.intro hax' trivial, ih (i + 1) vy' m' news' ?_ ?_ hy' hm2 hJ2 hax' hap'⟩
        · intro p hp q hq e
          rw [List.mem_singleton.mp hq] at e
          exact hap' p hp e
        · simp only [List.length_cons] at hi; omega
        · intro j
          have := hu (j + 1)
          rw [show i + 1 + j = i + (j + 1) by omega]
          simpa using this
      cases f with
      | ret v => exact p
      | brk => exact p
      | next => exact fin p
      | cont => exact fin p
  exact all vs 0 vy₀ m₀ news₀ (by simp) (by simp) hy (fun _ _ _ => rfl) hJ hm fun p hp => Nat.ne_of_lt (hI p hp)
end

/-- the values are references to rows of ints that the ledger bears -/
inductive RowsIn (news : List (Addr × Obj)) : List Value → List (List Int) → Prop
  | nil : RowsIn news [] []
  | cons {a : Addr} {vr : List Value} {kk : Nat} {R : List Int} {vs : List Value} {Rs : List (List Int)} : (a, W.listOf (List.toArray vr) kk) ∈ news → IntsAre vr R → RowsIn news vs Rs → RowsIn news (.ref a :: vs) (R :: Rs)
theorem RowsIn.mono {news news' : List (Addr × Obj)} (hs : ∀ p ∈ news, p ∈ news') {vs : List Value} {Rs : List (List Int)} (h : RowsIn news vs Rs) : RowsIn news' vs Rs := by
  induction h with
  | nil => exact .nil
  | cons hm hI _ ih => exact .cons (hs _ hm) hI ih
theorem RowsIn.append {news : List (Addr × Obj)} {vs ws : List Value} {Rs Ss : List (List Int)} (h : RowsIn news vs Rs) (h' : RowsIn news ws Ss) : RowsIn news (vs ++ ws) (Rs ++ Ss) := by
  induction h with
  | nil => exact h'
  | cons hm hI _ ih => exact .cons hm hI ih
theorem RowsIn.length {news : List (Addr × Obj)} {vs : List Value} {Rs : List (List Int)} (h : RowsIn news vs Rs) : vs.length = Rs.length := by
  induction h with
  | nil => rfl
  | cons _ _ _ ih => simp [ih]
theorem RowsIn.at {news : List (Addr × Obj)} {vs : List Value} {Rs : List (List Int)} (h : RowsIn news vs Rs) : ∀ {i : Nat} {v : Value}, vs[i]? = some v → ∃ a vr kk R, v = .ref a ∧ (a, W.listOf (List.toArray vr) kk) ∈ news ∧ IntsAre vr R ∧ Rs[i]? = some R := by
  induction h with
  | nil => intro i v hv; simp at hv
  | cons hm hI _ ih =>
    intro i v hv
    cases i with
    | zero => exact ⟨_, _, _, _, by simpa using hv.symm, hm, hI, by simp⟩
    | succ i => simpa using ih (by simpa using hv)
theorem RowsIn.snoc {news : List (Addr × Obj)} {vs : List Value} {Rs : List (List Int)} {a : Addr} {vr : List Value} {kk : Nat} {R : List Int} (h : RowsIn news vs Rs) (hm : (a, W.listOf (List.toArray vr) kk) ∈ news) (hI : IntsAre vr R) : RowsIn news (vs ++ [.ref a]) (Rs ++ [R]) :=
  h.append (.cons hm hI .nil)
end Mine
namespace Mine
section
local macro_rules | `(tactic| k_all) => `(tactic| assumption)
local macro_rules | `(tactic| walk_at "CompSrc") => `(tactic| k_extra "mysrc")
local macro_rules | `(tactic| walk_at "call ref") => `(tactic| k_extra "mycall")
local macro_rules | `(tactic| walk_at "binaryOp Mult int int") => `(tactic| (k_here; refine mul_int ?_ (mul_ok (by omega) (by omega))))
local macro_rules | `(tactic| walk_at "binaryOp Mult int int") => `(tactic| (k_here; refine mul_int ?_ (mul_ok2 (by omega) (by omega))))
set_option maxHeartbeats 4000000 in
theorem bound_of_c (w : World) (l : Addr) (kl : Nat) (vs : List Value) (fs : List Int) (news : List (Addr × Obj)) (hl : (l, W.listOf vs.toArray kl) ∈ news) (hI : IntsAre vs fs) (hn : 1 ≤ fs.length) (hn2 : fs.length ≤ 64) (hb : ∀ x ∈ fs, -(2 ^ 20) < x ∧ x < 2 ^ 20) :
    Cl w 3 26 news [.ref l] (fun r news' => news' = news ∧ ∃ x t, r = .int (2 ^ (fs.length - 1) * x) t ∧ 0 ≤ x ∧ sq fs ≤ x * x ∧ (x = 0 ∨ (x - 1) * (x - 1) < sq fs) ∧ x < 2 ^ 62) := by
  w_top off
  k_with_none
  k_with "mysrc" => (k_here; k_dflt (refine LCg.CompSrc.ledger (by rfl) (by k_asm) (by k_asm) (by k_mem) (by kcf_size) ?_; intro g'; (refine' kcf_list (fun x => x * x) hI (fun k' t' I' oI' C' oC' D' m' ys' h' tk' E' hk' hC' hx' F' N' off' ne' hMark' => ?_) ?_); (all_goals (try (have hb9 := hb _ hk'))); (all_goals (try (simp only [LCg.Off3, and_true] at off'))); kcf_last))
  k_with "mycall" => ((with_reducible show wpAny _ _ (call (Value.ref 21) _) _ _ _); k_dflt (refine' Cl.use (ceil_root_c w (sq fs) _ _ ?h0 ?h1) ?k1 ?k2 ?k3 ?k4 ?k5 ?kK ?kd ?ku ?_; (case h0 => exact sq_nonneg fs); (case h1 => exact sq_small hn2 hb); (case k1 => k_asm); (case k2 => k_asm); (case k3 => k_asm); (case k4 => k_asm); (case k5 => k_asm); (case kK => first | exact rfl | assumption); (case kd => ktr_room); (case ku => ktr_units)); intro r9 nw9 h9 tk9 F9 N9 O9; obtain ⟨rfl, x9, t9, rfl, h91, h92, h93, h94⟩ := O9; (have hsm := sq_small hn2 hb); (try dsimp only); (try k_fold))
  unfold Cl
  intro mean mg mb dp un gd cn cs a ccd cl outer A₀ base h₀ L m s Q E B F X N T hk hdp hun hret
  replace N := news_dup N hl
  refine wpAny_call ?_
  k_dflt cell_enter
  k_steps
  have e9 : Int.toNat ((fs.length : Int) - 1) = fs.length - 1 := by omega
  rw [e9]
  exact hret _ news _ _ (by assumption) (news_sub (by assumption) fun p hp => List.mem_cons_of_mem _ (List.mem_cons_of_mem _ hp)) ⟨rfl, _, _, rfl, h91, h92, h93, by omega⟩
end
end Mine
namespace Mine
section
local macro_rules | `(tactic| k_all) => `(tactic| assumption)
theorem nx_hi (x : Int) : (x.fmod 1000003).fdiv 13 < 76924 := by
  rw [Int.fmod_eq_emod_of_nonneg _ (by decide : (0:Int) ≤ 1000003), Int.fdiv_eq_ediv_of_nonneg _ (by decide : (0:Int) ≤ 13)]; omega
theorem nx_lo (x : Int) : 0 ≤ (x.fmod 1000003).fdiv 13 := by
  rw [Int.fmod_eq_emod_of_nonneg _ (by decide : (0:Int) ≤ 1000003), Int.fdiv_eq_ediv_of_nonneg _ (by decide : (0:Int) ≤ 13)]; omega
theorem nx_mo (x : Int) : 0 ≤ x.fmod 1000003 ∧ x.fmod 1000003 < 2 ^ 30 := by
  rw [Int.fmod_eq_emod_of_nonneg _ (by decide : (0:Int) ≤ 1000003)]; omega
/-- the box of the law's draws: its object -/
abbrev boxO (x : Int) (tx : Tok) (l : Addr) (c : Int) (tc : Tok) (kb : Nat) : Obj := W.listOf #[Value.int x tx, Value.ref l, Value.int c tc] kb
set_option maxHeartbeats 4000000 in
theorem next_c (w : World) (l box : Addr) (kl kb : Nat) (vs : List Value) (ns : List Int) (rest : List (Addr × Obj)) (x c : Int) (tx tc : Tok) (hl : (l, W.listOf vs.toArray kl) ∈ rest) (hI : IntsAre vs ns) (hn : 1 ≤ ns.length) (hn2 : ns.length ≤ 100) (hne : ∀ p ∈ rest, p.1 ≠ box) (hx : 0 ≤ x) (hc : 0 ≤ c) (hx2 : x < 2 ^ 30) :
    Cl w 2 40 ((box, boxO x tx l c tc kb) :: rest) [.ref box] (fun r news' => ∃ y t, r = .int y t ∧ 0 ≤ y ∧ y < 76924 ∧ ∃ x' c' tx' tc', 0 ≤ x' ∧ x' < 2 ^ 30 ∧ 0 ≤ c' ∧ news' = ((box, boxO x' tx' l c' tc' kb) :: rest)) := by
  w_top off
  k_with_none
  unfold Cl
  intro mean mg mb dp un gd cn cs a ccd cl outer A₀ base h₀ L m s Q E B F X N T hk hdp hun hret
  replace N : News h₀ L s.heap ((box, boxO x tx l c tc kb) :: (l, W.listOf vs.toArray kl) :: rest) := fun p hp => by
    rcases List.mem_cons.mp hp with rfl | hp
    · exact N _ (List.mem_cons_self)
    · rcases List.mem_cons.mp hp with rfl | hp
      · exact N _ (List.mem_cons_of_mem _ hl)
      · exact N _ (List.mem_cons_of_mem _ hp)
  have hlb : l ≠ box := hne _ hl
  refine wpAny_call ?_
  k_dflt cell_enter
  k_steps
  rename News _ _ _ _ => kN9
  exact hret _ _ _ _ (by assumption) (news_mid kN9) ⟨_, _, rfl, nx_lo _, nx_hi _, _, _, _, _, (nx_mo _).1, (nx_mo _).2, (by omega), rfl⟩
theorem next_u (w : World) {l box : Addr} {kl kb : Nat} {vs : List Value} {ns : List Int} {news : List (Addr × Obj)} {g : Obj → List (Addr × Obj)} {x c : Int} {tx tc : Tok} (U : UpdF box (boxO x tx l c tc kb) news g) (hl : (l, W.listOf vs.toArray kl) ∈ news) (hlb : l ≠ box) (hI : IntsAre vs ns) (hn : 1 ≤ ns.length) (hn2 : ns.length ≤ 100) (hx : 0 ≤ x ∧ x < 2 ^ 30) (hc : 0 ≤ c) :
    Cl w 2 40 news [.ref box] (fun r news' => ∃ y t, r = .int y t ∧ 0 ≤ y ∧ y < 76924 ∧ ∃ x' c' tx' tc', (0 ≤ x' ∧ x' < 2 ^ 30) ∧ 0 ≤ c' ∧ news' = g (boxO x' tx' l c' tc' kb)) := by
  obtain ⟨pre, post, rfl, hg, h1, h2⟩ := U.split
  have hl' : (l, W.listOf vs.toArray kl) ∈ pre ++ post := by
    rcases List.mem_append.mp hl with h | h
    · exact List.mem_append_left _ h
    · rcases List.mem_cons.mp h with h | h
      · exact absurd (congrArg Prod.fst h) hlb
      · exact List.mem_append_right _ h
  have C := next_c w l box kl kb vs ns (pre ++ post) x c tx tc hl' hI hn hn2 (fun p hp => (List.mem_append.mp hp).elim (h1 p) (h2 p)) hx.1 hc hx.2
  unfold Cl at C ⊢
  intro mean mg mb dp un gd cn cs a ccd cl outer A₀ base h₀ L m s Q E B F X N T hk hdp hun hret
  refine C mean mg mb dp un gd cn cs a ccd cl outer A₀ base h₀ L m s Q E B F X (news_sub N ?_) T hk hdp hun ?_
  · intro p hp
    simp only [List.mem_cons, List.mem_append] at hp ⊢
    rcases hp with h | h | h
    · exact .inr (.inl h)
    · exact .inl h
    · exact .inr (.inr h)
  · rintro r news' h' tk' F' N' ⟨y, t, rfl, hy, hy2, x', c', tx', tc', hx', hx2', hc', rfl⟩
    refine hret _ (g (boxO x' tx' l c' tc' kb)) _ _ F' ?_ ⟨y, t, rfl, hy, hy2, x', c', tx', tc', ⟨hx', hx2'⟩, hc', rfl⟩
    rw [hg]
    refine news_sub N' ?_
    intro p hp
    simp only [List.mem_cons, List.mem_append] at hp ⊢
    rcases hp with h | h | h
    · exact .inr (.inl h)
    · exact .inl h
    · exact .inr (.inr h)
end
end Mine
namespace Mine
/-- the object holds a row of n ints, told by their places -/
def RowIs (n : Nat) (f : Nat → Int) (o : Obj) : Prop := ∃ vr kk R, o = W.listOf (List.toArray vr) kk ∧ IntsAre vr R ∧ R.length = n ∧ ∀ k, coef R k = f k
theorem ints_rep (t : Tok) : ∀ n : Nat, IntsAre (List.replicate n (.int 0 t)) (List.replicate n 0)
  | 0 => .nil
  | n + 1 => .cons 0 t (ints_rep t n)
theorem row0 {n : Nat} {x : Int} {t : Tok} {kk : Nat} (hx : x.toNat = n) : RowIs n (fun _ => 0) (W.listOf (List.toArray (List.flatten (List.replicate x.toNat [.int 0 t]))) kk) := by
  refine ⟨_, _, List.replicate n 0, rfl, ?_, by simp, fun k => coef_replicate n k⟩
  rw [hx, List.flatten_replicate_singleton]
  exact ints_rep t n
theorem ints_item {vs : List Value} {ns : List Int} (h : IntsAre vs ns) {i : Nat} {v : Value} (hv : vs[i]? = some v) : ∃ x t, v = .int x t ∧ x ∈ ns ∧ x = coef ns i ∧ i < ns.length := by
  obtain ⟨x, t, e, hx⟩ := h.at i v hv
  refine ⟨x, t, e, List.mem_of_getElem? hx, ?_, ?_⟩
  · unfold coef; rw [List.getD_eq_getElem?_getD, hx]; rfl
  · exact (List.getElem?_eq_some_iff.mp hx).1
theorem news_rot3 {h₀ h : Heap} {L : Addr} {a b c : Addr × Obj} {r : List (Addr × Obj)} (N : News h₀ L h (a :: b :: c :: r)) : News h₀ L h (c :: a :: b :: r) := fun p hp => N p (by
  simp only [List.mem_cons] at hp ⊢
  rcases hp with h | h | h | h
  · exact .inr (.inr (.inl h))
  · exact .inl h
  · exact .inr (.inl h)
  · exact .inr (.inr (.inr h)))
theorem news_rot3' {h₀ h : Heap} {L : Addr} {a b c : Addr × Obj} {r : List (Addr × Obj)} (N : News h₀ L h (c :: a :: b :: r)) : News h₀ L h ([a, b] ++ c :: r) := fun p hp => N p (by
  simp only [List.cons_append, List.nil_append, List.mem_cons] at hp ⊢
  rcases hp with h | h | h | h
  · exact .inr (.inl h)
  · exact .inr (.inr (.inl h))
  · exact .inl h
  · exact .inr (.inr (.inr h)))
section
local macro_rules | `(tactic| k_all) => `(tactic| assumption)
local macro_rules | `(tactic| walk_at "exec For Tuple Call cons nil") => `(tactic| (k_here; (rename Fr _ _ _ _ => lF'); (with_unfolding_all refine' For_turns lF' ?_; k_whole)))
local macro_rules | `(tactic| walk_at "binaryOp Mult int int") => `(tactic| (k_here; refine mul_int ?_ (mul_ok (by omega) (by omega))))
set_option maxHeartbeats 4000000 in
theorem times_c (w : World) (la lb : Addr) (ka kb : Nat) (va vb : List Value) (as bs : List Int) (news : List (Addr × Obj)) (hla : (la, W.listOf va.toArray ka) ∈ news) (hlb : (lb, W.listOf vb.toArray kb) ∈ news) (hIa : IntsAre va as) (hIb : IntsAre vb bs) (hn : 1 ≤ as.length) (hn2 : as.length ≤ 20)  (hm : 1 ≤ bs.length) (hm2 : bs.length ≤ 20) (hb : ∀ x ∈ as, -(2 ^ 40) < x ∧ x < 2 ^ 40) :
    Cl w 3 52 news [.ref la, .ref lb] (fun r news' => ∃ l o, r = .ref l ∧ news' = (l, o) :: news ∧ (∀ p ∈ news, p.1 < l) ∧ RowIs (as.length + bs.length - 1) (mulTo as bs as.length) o) := by
  w_top off
  k_with_none
  unfold Cl
  intro mean mg mb dp un gd cn cs a ccd cl outer A₀ base h₀ L m s Q E B F X N T hk hdp hun hret
  have N0 := N
  replace N := news_dup (news_dup N hlb) (List.mem_cons_of_mem _ hla)
  refine wpAny_call ?_
  k_dflt cell_enter
  k_steps
  have hlv := hIa.length
  have hlv2 := hIb.length
  rename Fr _ _ _ _ => F1
  rename News _ _ _ _ => N1
  rename _ ∧ _ ∧ _ ∧ AllLt _ _ => hAll
  have hneD := ktn_ltOf hAll.2.2.2
  have hneD' : ∀ p ∈ news, p.1 ≠ _ := fun p hp => Nat.ne_of_lt (hneD p hp)
  with_unfolding_all refine enum_inv [Str.ofString "one", Str.ofString "left", Str.ofString "other", Str.ofString "right"] (fun i o => RowIs (as.length + bs.length - 1) (mulTo as bs i) o) rfl F1 N1 (lo := W.listOf va.toArray ka) (vs := va) (List.mem_cons_of_mem _ List.mem_cons_self) rfl rfl (row0 (by omega)) ?turn ?done
  case turn =>
    intro I oE oI i v T t o u h tk hcE hcI hlt hdI hv hJ hT F N
    replace hdI := ltN hdI
    obtain ⟨vr, kk, R, rfl, hR, hlen, hco⟩ := hJ
    obtain ⟨x, tx, rfl, hx, hxi, hi⟩ := ints_item hIa hv
    have hbx := hb x hx
    k_steps
    rename Fr _ _ _ _ => F2
    rename News _ _ _ _ => N2
    with_unfolding_all refine enum_inv [Str.ofString "other", Str.ofString "right"] (fun j o => RowIs (as.length + bs.length - 1) (mulIn as bs i j) o) rfl F2 (news_rot3 N2) (lo := W.listOf vb.toArray kb) (vs := vb) (List.mem_cons_of_mem _ (List.mem_cons_of_mem _ (List.mem_cons_of_mem _ (List.mem_cons_of_mem _ List.mem_cons_self)))) rfl rfl ⟨vr, kk, R, rfl, hR, hlen, fun k => by rw [hco k, mulIn_zero]⟩ ?turn2 ?done2
    case turn2 =>
      intro I2 oE2 oI2 j v2 T2 t2 o u2 h2 tk2 hcE2 hcI2 hlt2 hdI2 hv2 hJ2 hT2 F3 N3
      replace hdI2 := ltN hdI2
      obtain ⟨vr2, kk2, R2, rfl, hR2, hlen2, hco2⟩ := hJ2
      obtain ⟨y, ty, rfl, hy, hyi, hj⟩ := ints_item hIb hv2
      k_steps
      rename Fr _ _ _ _ => F4
      rename News _ _ _ _ => N4
      rename IntsAre (List.set _ _ _) _ => hR4
      refine ⟨_, _, _, _, rfl, F4, N4, ?_, ⟨_, _, _, rfl, hR4, ?_, ?_⟩⟩
      · intro z h3
        simp only [List.contains_cons, List.contains_nil, Bool.or_false, Bool.or_eq_false_iff, beq_eq_false_iff_ne, ne_eq] at h3
        simp [h3]
      · rw [List.length_set]; exact hlen2
      · have e9 : Int.toNat ((i : Int) + (j : Int)) = i + j := by omega
        rw [e9, hxi, hyi]
        exact mulIn_succ (by omega) hco2
    case done2 =>
      intro o u2 h2 tk2 hJ2 F3 N3
      k_steps
      refine ⟨_, _, _, _, rfl, F3, news_rot3' N3, ?_, ?_⟩
      · intro z h3
        simp only [List.contains_cons, List.contains_nil, Bool.or_false, Bool.or_eq_false_iff, beq_eq_false_iff_ne, ne_eq] at h3
        simp [h3]
      · obtain ⟨vr2, kk2, R2, rfl, hR2, hlen2, hco2⟩ := hJ2
        exact ⟨_, _, _, rfl, hR2, hlen2, fun k => by rw [hco2 k, hlv2, mulIn_full]⟩
  case done =>
    intro o u h tk hJ F2 N2
    k_steps
    rename Fr _ _ _ m => F9
    refine hret _ _ _ _ F9 (news_sub (news' := (_, o) :: news) (by assumption) ?_) ⟨_, _, rfl, rfl, hneD, ?_⟩
    · intro p hp
      rcases List.mem_cons.mp hp with rfl | hp
      · exact List.mem_cons_self
      · exact List.mem_cons_of_mem _ (List.mem_cons_of_mem _ (List.mem_cons_of_mem _ (List.mem_cons_of_mem _ hp)))
    · rw [hlv] at hJ; exact hJ
end
theorem times_k (w : World) {la lb : Addr} {ka kb : Nat} {va vb : List Value} {as bs : List Int} {news : List (Addr × Obj)} (hla : (la, W.listOf va.toArray ka) ∈ news) (hlb : (lb, W.listOf vb.toArray kb) ∈ news) (hIa : IntsAre va as) (hIb : IntsAre vb bs)
    (hs : (1 ≤ as.length ∧ as.length ≤ 20) ∧ (1 ≤ bs.length ∧ bs.length ≤ 20) ∧ ∀ x ∈ as, -(2 ^ 40) < x ∧ x < 2 ^ 40) :
    Cl w 3 52 news [.ref la, .ref lb] (fun r news' => ∃ l vr kk, r = .ref l ∧ news' = (l, W.listOf (List.toArray vr) kk) :: news ∧ (∀ p ∈ news, p.1 < l) ∧ IntsAre vr (mulL as bs)) := by
  have C := times_c w la lb ka kb va vb as bs news hla hlb hIa hIb hs.1.1 hs.1.2 hs.2.1.1 hs.2.1.2 hs.2.2
  unfold Cl at C ⊢
  intro mean mg mb dp un gd cn cs a ccd cl outer A₀ base h₀ L m s Q E B F X N T hk hdp hun hret
  refine C mean mg mb dp un gd cn cs a ccd cl outer A₀ base h₀ L m s Q E B F X N T hk hdp hun ?_
  rintro r news' h' tk' F' N' ⟨l, o, rfl, rfl, hlt, vr, kk, R, rfl, hR, hlen, hco⟩
  refine hret _ _ _ _ F' N' ⟨l, vr, kk, rfl, rfl, hlt, ?_⟩
  rw [row_eq hlen hco] at hR
  exact hR
end Mine
namespace Mine
section
/-- what power_for finds -/
def PowFor (m p k : Int) : Prop := 1 ≤ k ∧ m < p ^ k.toNat ∧ (k = 1 ∨ p ^ (k - 1).toNat ≤ m)
theorem pw_end {m p k q : Int} (hq : ¬ q ≤ m) (h : q = p ^ k.toNat) (h1 : 1 ≤ k) (h4 : k = 1 ∨ p ^ (k - 1).toNat ≤ m) : PowFor m p k :=
  ⟨h1, by rw [← h]; omega, h4⟩
theorem pw_s {m p k q : Int} (h2 : 2 ≤ p) (hq : q ≤ m) (h3 : q = p ^ k.toNat) (h1 : 1 ≤ k) (h5 : 1 ≤ q) :
    1 ≤ k + 1 ∧ q * p = p ^ (k + 1).toNat ∧ (k + 1 = 1 ∨ p ^ (k + 1 - 1).toNat ≤ m) ∧ 1 ≤ q * p := by
  have e : (k + 1).toNat = k.toNat + 1 := by omega
  refine ⟨by omega, ?_, .inr ?_, ?_⟩
  · rw [e, Int.pow_succ, h3]
  · rw [Int.add_sub_cancel, ← h3]; exact hq
  · have : q * 1 ≤ q * p := Int.mul_le_mul_of_nonneg_left (by omega) (by omega)
    omega
theorem pw_0 {m p : Int} (h2 : 2 ≤ p) : 1 ≤ (1 : Int) ∧ p = p ^ (1 : Int).toNat ∧ ((1 : Int) = 1 ∨ p ^ ((1 : Int) - 1).toNat ≤ m) ∧ 1 ≤ p :=
  ⟨by omega, by simp [Int.pow_succ], .inl rfl, by omega⟩
theorem pw_m {m p q : Int} (h2 : 2 ≤ p) (hq : q ≤ m) (h5 : 1 ≤ q) : (m + 1 - q * p).toNat < (m + 1 - q).toNat := by
  have : q * 2 ≤ q * p := Int.mul_le_mul_of_nonneg_left h2 (by omega)
  omega
theorem ab_ok {x b : Int} (h : -(2 ^ 20) < x ∧ x < 2 ^ 20) : IntMulOk (2 * if x < 0 then -x else x) b := by
  split <;> exact mul_ok (by omega) (by omega)
theorem getD_bound {fs : List Int} (hn : 1 ≤ fs.length) (hb : ∀ x ∈ fs, -(2 ^ 20) < x ∧ x < 2 ^ 20) : -(2 ^ 20) < fs.getD (Int.toNat (-1 + (fs.length : Int))) 0 ∧ fs.getD (Int.toNat (-1 + (fs.length : Int))) 0 < 2 ^ 20 := by
  have hi : Int.toNat (-1 + (fs.length : Int)) < fs.length := by omega
  rw [List.getD_eq_getElem?_getD, List.getElem?_eq_getElem hi]
  exact hb _ (List.getElem_mem hi)
local macro_rules | `(tactic| k_all) => `(tactic| assumption)
local macro_rules | `(tactic| walk_at "exec While Compare cons nil") => `(tactic| k_extra "mywhile")
local macro_rules | `(tactic| walk_at "call ref") => `(tactic| k_extra "mycall")
local macro_rules | `(tactic| walk_at "binaryOp Mult int int") => `(tactic| (k_here; refine mul_int ?_ (mul_ok (by omega) (by omega))))
local macro_rules | `(tactic| walk_at "binaryOp Mult int int") => `(tactic| (k_here; refine mul_int ?_ (mul_ok2 (by omega) (by omega))))
local macro_rules | `(tactic| walk_at "binaryOp Mult int int") => `(tactic| (k_here; refine mul_int ?_ (ab_ok (by assumption))))
set_option maxHeartbeats 4000000 in
theorem power_for_c (w : World) (l : Addr) (kl : Nat) (vs : List Value) (fs : List Int) (p : Int) (tp : Tok) (news : List (Addr × Obj)) (hl : (l, W.listOf vs.toArray kl) ∈ news) (hI : IntsAre vs fs) (hn : 1 ≤ fs.length) (hn2 : fs.length ≤ 64) (hb : ∀ x ∈ fs, -(2 ^ 20) < x ∧ x < 2 ^ 20) (hp : 2 ≤ p) (hp2 : p ≤ 13) :
    Cl w 5 33 news [.ref l, .int p tp] (fun r news' => news' = news ∧ ∃ x t k t', r = .int k t' ∧ 0 ≤ x ∧ sq fs ≤ x * x ∧ (x = 0 ∨ (x - 1) * (x - 1) < sq fs) ∧ x < 2 ^ 62 ∧ PowFor (2 * (if fs.getD (fs.length - 1) 0 < 0 then -fs.getD (fs.length - 1) 0 else fs.getD (fs.length - 1) 0) * (2 ^ (fs.length - 1) * x)) p k ∧ t = t') := by
  w_top off
  k_with_none
  k_with "mywhile" => k_while_given ["most", "p"] (fun most p script k power => 1 ≤ k ∧ power = p ^ k.toNat ∧ (k = 1 ∨ p ^ (k-1).toNat ≤ most) ∧ 1 ≤ power) (fun most p script k power => (most + 1 - power).toNat) "k" "power"
  k_with "state" => exact pw_s (by assumption) (by assumption) (by assumption) (by assumption) (by assumption)
  k_with "state" => exact pw_0 (by assumption)
  k_with "measure" => exact pw_m (by assumption) (by assumption) (by omega)
  k_with "mycall" => ((with_reducible show wpAny _ _ (call (Value.ref 26) _) _ _ _); k_dflt (refine' Cl.use (bound_of_c w _ _ _ fs _ ?h0 hI hn hn2 hb) ?k1 ?k2 ?k3 ?k4 ?k5 ?kK ?kd ?ku ?_; (case k1 => k_asm); (case k2 => k_asm); (case k3 => k_asm); (case k4 => k_asm); (case k5 => k_asm); (case h0 => k_mem); (case kK => first | exact rfl | assumption); (case kd => ktr_room); (case ku => ktr_units)); intro r9 nw9 h9 tk9 F9 N9 O9; obtain ⟨rfl, x9, t9, rfl, h91, h92, h93, h94⟩ := O9; (try dsimp only); (try k_fold))
  unfold Cl
  intro mean mg mb dp un gd cn cs a ccd cl outer A₀ base h₀ L m s Q E B F X N T hk hdp hun hret
  have hgd := getD_bound hn hb
  replace N := news_dup N hl
  refine wpAny_call ?_
  k_dflt cell_enter
  k_steps
  have e9 : Int.toNat (-1 + (fs.length : Int)) = fs.length - 1 := by omega
  rename News _ _ _ _ => kN9
  refine hret _ news _ _ (by assumption) (news_sub kN9 fun p hp => List.mem_cons_of_mem _ (List.mem_cons_of_mem _ hp)) ⟨rfl, x9, _, _, _, rfl, h91, h92, h93, h94, ?_, rfl⟩
  rename ¬ _ ≤ _ => hq9
  have q9 := pw_end hq9 (by assumption) (by assumption) (by assumption)
  rw [e9] at q9
  exact q9
end
end Mine
namespace Mine
theorem piece_row {R : List Int} {z : Int} (h1 : 1 ≤ R.length) (h2 : R.length ≤ 3) (hb : ∀ x ∈ R, -9 ≤ x ∧ x ≤ 9) (h3 : 1 ≤ z) (h4 : z ≤ 5) : PieceL (R ++ [z]) := by
  refine ⟨by simp; omega, by simp; omega, fun x hx => ?_, ?_⟩
  · rcases List.mem_append.mp hx with hx | hx
    · exact hb x hx
    · rw [List.mem_singleton.mp hx]; omega
  · unfold coef
    simp only [List.length_append, List.length_singleton, Nat.add_sub_cancel]
    rw [List.getD_eq_getElem?_getD, List.getElem?_append_right (Nat.le_refl _)]
    simpa using h3
def Piece (o : Obj) : Prop := ∃ vr kk R, o = W.listOf (List.toArray vr) kk ∧ IntsAre vr R ∧ PieceL R
theorem news_pick3 {h₀ h : Heap} {L : Addr} {a t1 t2 t3 : Addr × Obj} {r : List (Addr × Obj)} (N : News h₀ L h (a :: t1 :: t2 :: t3 :: r)) : News h₀ L h (a :: r) := fun p hp => N p (by
  simp only [List.mem_cons] at hp ⊢
  rcases hp with h | h
  · exact .inl h
  · exact .inr (.inr (.inr (.inr h))))
theorem unr_two {h₀ : Heap} {L I : Addr} {it : Obj} {rest : (Str → Option Value) → List (Addr × Obj) → Prop} {s₁ : Shared} {h' : Heap} {tk : Nat} {m' : Str → Option Value} {a : Addr × Obj} {tail : List (Addr × Obj)} (F : Fr h₀ L h' m') (N : News h₀ L h' (a :: (I, it) :: tail))
    (off : ∀ p ∈ a :: tail, p.1 ≠ I) (r : rest m' (a :: tail)) : UnrEnd h₀ L s₁ I it rest { s₁ with heap := h', toks := tk } :=
  UnrEnd.intro F N (a :: tail) (fun p hp => by
    simp only [List.mem_cons] at hp ⊢
    rcases hp with h | h | h
    · exact .inr (.inl h)
    · exact .inl h
    · exact .inr (.inr h)) off r
section
local macro_rules | `(tactic| k_all) => `(tactic| first | assumption | (intro p9 hp9; exact Nat.ne_of_lt (ktn_ltOf (by ((repeat (rename _ ∧ _ => q9; cases q9)); assumption)) p9 hp9)))
local macro_rules | `(tactic| walk_at "UnrEnd") => `(tactic| ((rename News _ _ _ _ => nE'); (refine unr_two (by assumption) nE' (by k_all) ?_)))
local macro_rules | `(tactic| walk_at "call ref") => `(tactic| k_extra "mycall")
local macro_rules | `(tactic| walk_at "CompSrc") => `(tactic| (refine Hold.out ?_))
set_option maxHeartbeats 4000000 in
theorem piece_c (w : World) (l box : Addr) (kl kb : Nat) (vs : List Value) (ns : List Int) (rest : List (Addr × Obj)) (x c : Int) (tx tc : Tok) (hI : IntsAre vs ns) (hn : 1 ≤ ns.length) (hn2 : ns.length ≤ 100) (hne : ∀ p ∈ rest, p.1 ≠ box) (hlb : @Ne Nat l box) (hx : 0 ≤ x ∧ x < 2 ^ 30) (hc : 0 ≤ c) :
    Cl w 5 57 ((box, boxO x tx l c tc kb) :: (l, W.listOf vs.toArray kl) :: rest) [.ref box] (fun r news' => ∃ lr o x' c' tx' tc', r = .ref lr ∧ (0 ≤ x' ∧ x' < 2 ^ 30) ∧ 0 ≤ c' ∧ news' = (lr, o) :: (box, boxO x' tx' l c' tc' kb) :: (l, W.listOf vs.toArray kl) :: rest ∧ (∀ p ∈ (box, boxO x' tx' l c' tc' kb) :: (l, W.listOf vs.toArray kl) :: rest, p.1 < lr) ∧ Piece o) := by
  w_top off
  k_with_none
  k_with "mycall" => ((with_reducible show wpAny _ _ (call (Value.ref 40) _) _ _ _); k_dflt (refine' Cl.use (next_u w ?U ?hl ?hlb hI hn hn2 ?hx ?hc) ?k1 ?k2 ?k3 ?k4 ?k5 ?kK ?kd ?ku ?_; (case k1 => k_asm); (case k2 => k_asm); (case k3 => k_asm); (case k4 => k_asm); (case k5 => k_asm); (case U => k_updF); (case hl => k_mem); (case hlb => assumption); (case hx => (constructor <;> omega)); (case hc => omega); (case kK => first | exact rfl | assumption); (case kd => ktr_room); (case ku => ktr_units)); intro r9 nw9 h9 tk9 F9 N9 O9; obtain ⟨y9, t9, rfl, hy9, hyy9, x9, c9, tx9, tc9, hx9, hc9, rfl⟩ := O9; (try dsimp only); (try k_fold))
  k_with "mycall" => ((with_reducible show wpAny _ _ (call (Value.ref 52) _) _ _ _); k_dflt (refine' Cl.use (times_k w ?hla ?hlb ?hIa ?hIb ?c) ?k1 ?k2 ?k3 ?k4 ?k5 ?kK ?kd ?ku ?_; (case k1 => k_asm); (case k2 => k_asm); (case k3 => k_asm); (case k4 => k_asm); (case k5 => k_asm); (case hla => k_mem); (case hlb => k_mem); (case hIa => first | assumption | exact .cons _ _ .nil | exact .cons _ _ (.cons _ _ .nil)); (case hIb => first | assumption | exact .cons _ _ (.cons _ _ .nil)); (case c => decide +kernel); (case kK => first | exact rfl | assumption); (case kd => ktr_room); (case ku => ktr_units)); intro r9 nw9 h9 tk9 F9 N9 O9; obtain ⟨l9, v9, kk9, rfl, rfl, hlt9, hI9⟩ := O9; (k_lt hlt9); (try dsimp only); (try k_fold))
  unfold Cl
  intro mean mg mb dp un gd cn cs a ccd cl outer A₀ base h₀ L m s Q E B F X N T hk hdp hun hret
  refine wpAny_call ?_
  k_dflt (refine' code_defC ?k1 ?k2 ?k3 ?k4 ?k5 ?kA ?kF ?kK ?k6 ?k7 ?k8 ?k9 ?kB ?kD ?_ ?c2 ?c3 ?c4; (case kA => exact rfl); (case kF => exact rfl); (case kK => assumption); (case k1 => k_asm); (case k2 => k_asm); (case k3 => k_asm); (case k4 => k_asm); (case k5 => k_asm); (case k6 => k_is); (case k7 => k_is); (case k8 => ktr_room); (case k9 => exact BindsTo.of_eq rfl); (case kB => exact rfl); (case kD => decide +kernel); (case c2 => exact rfl); (case c3 => exact rfl); (case c4 => exact rfl); k_whole; intro g' L' h' tk' cells' FG' F' N' Y' B' X' T' l1; (try k_lt l1); k_cells Y'; (try simp only [List.cons_append, List.nil_append] at N'); (try dsimp only); (try k_lift B'); (try k_fold))
  k_steps
  · have hm1 := fmod_lo y9 (n := 4) (by decide)
    have h01 : Int.fmod y9 4 = 0 ∨ Int.fmod y9 4 = 1 := by omega
    k_with "call type:range" => k_rangeSizes
    rcases h01 with e9 | e9
    all_goals (rw [e9]; k_steps)
    all_goals refine hret _ ((l9, W.listOf v9.toArray kk9) :: (box, boxO x9 tx9 l c9 tc9 kb) :: (l, W.listOf vs.toArray kl) :: rest) _ _ (by assumption) (news_sub (by assumption) (by kcf_all)) ⟨l9, _, x9, c9, tx9, tc9, rfl, hx9, hc9, rfl, ktn_ltOf (l := _ :: _ :: rest) ?_, v9, kk9, _, rfl, hI9, (by unfold PieceL; decide +kernel)⟩
    all_goals (refine ⟨?_, ?_, ?_⟩; (try dsimp only); omega; (try dsimp only); omega; (repeat (rename _ ∧ _ => q9; cases q9)); assumption)
  · refine Hold.mk ?_
    rename IsRange _ _ _ _ _ _ _ _ => hR9
    rename Fr _ _ _ _ => F5
    rename News _ _ _ _ => N5
    have hm1 := fmod_lo y9 (n := 3) (by decide)
    have hm2 := fmod_hi y9 (n := 3) (by decide)
    k_dflt (refine LCg.CompSrc.range (by rfl) F5 N5 hR9 (small_one (by omega) (by omega) (by omega) (by omega)) (rangeSize_nat _ _) (by rw [PySem.sizeLine_eq]; omega) ?_)
    intro g9
    refine comp_inv (fun i ys nw => ∃ x' c' tx' tc' R, (0 ≤ x' ∧ x' < 2 ^ 30) ∧ 0 ≤ c' ∧ nw = (L' + 1, _) :: (box, boxO x' tx' l c' tc' kb) :: (l, W.listOf vs.toArray kl) :: rest ∧ IntsAre ys R ∧ R.length = i ∧ ∀ z ∈ R, -9 ≤ z ∧ z ≤ 9) ⟨_, _, _, _, [], hx9, hc9, rfl, .nil, rfl, by simp⟩ ?turn ?fin
    case turn =>
      clear hx9 hc9 F5 N5
      rintro i ys nw v I oI C oC D m₂ h tk E' hi ⟨tv, rfl⟩ ⟨x9, c9, tx9, tc9, R9, hx9, hc9, rfl, hI9, hl9, hb9⟩ hC hxv F5 N5 off5 ne5
      have off6 := off5
      simp only [LCg.Off3] at off5
      k_steps
      rename Fr _ _ _ _ => F6
      rename News _ _ _ _ => N6
      refine LCg.CompEnd.intro F6 N6 _ (fun p hp => hp) off6 trivial ⟨x9, c9, _, _, R9 ++ [_], hx9, hc9, rfl, hI9.append (.cons _ _ .nil), by simp [hl9], ?_⟩
      intro z hz
      rcases List.mem_append.mp hz with hz | hz
      · exact hb9 z hz
      · rw [List.mem_singleton.mp hz]
        have := fmod_lo y9 (n := 19) (by decide)
        have := fmod_hi y9 (n := 19) (by decide)
        omega
    case fin =>
      rintro ys nw ⟨x9, c9, tx9, tc9, R9, hx9, hc9, rfl, hI9, hl9, hb9⟩
      k_steps
      rename News _ _ _ _ => kN9
      rename IntsAre _ _ => hI8
      rename _ ∧ _ ∧ _ ∧ _ ∧ _ ∧ AllLt _ rest => l19
      refine hret _ _ _ _ (by assumption) (news_pick3 kN9) ⟨_, _, _, _, _, _, rfl, hx9, hc9, rfl, ktn_ltOf (l := _ :: _ :: rest) l19.2.2.2, _, _, _, rfl, hI8, ?_⟩
      have h1 := fmod_lo y9 (n := 5) (by decide)
      have h2 := fmod_hi y9 (n := 5) (by decide)
      exact piece_row (by omega) (by omega) hb9 (by omega) (by omega)
end
end Mine
namespace Mine
/-- the ledger between the turns of _law_lots: the cell of piece, the list found, what the rows need -/
def LotJ (L' lp : Addr) (kp : Nat) (vp : List Value) (news : List (Addr × Obj)) (Ps : List (List Int)) (i : Nat) (vy : Value) (nw : List (Addr × Obj)) : Prop :=
  ∃ lf vf kf own oc vo, vy = .ref lf ∧ oc.data = .cell vo ∧ nw = (L' + 1, oc) :: (lf, W.listOf (List.toArray vf) kf) :: (own ++ (lp, W.listOf (List.toArray vp) kp) :: news) ∧ RowsIn own vf (lotsL (Ps.take i)) ∧ (@Ne Nat lf (L' + 1)) ∧ (∀ p ∈ own ++ (lp, W.listOf (List.toArray vp) kp) :: news, p.1 ≠ L' + 1) ∧ (∀ p ∈ (lf, W.listOf (List.toArray vf) kf) :: own, ∀ q ∈ news, q.1 ≠ p.1)
def CpJ (base : List (Addr × Obj)) (Rs : List (List Int)) (P : List Int) (i : Nat) (ys : List Value) (nw : List (Addr × Obj)) : Prop :=
  ∃ own2, nw = own2 ++ base ∧ RowsIn own2 ys ((Rs.take i).map (fun R => mulL R P)) ∧ ∀ p ∈ own2, ∀ q ∈ base, q.1 ≠ p.1
theorem lots_mem {h₀ h : Heap} {L : Addr} {a b c d e f g q : Addr × Obj} {own own2 r : List (Addr × Obj)} (_ : News h₀ L h (a :: b :: c :: (own2 ++ (d :: e :: f :: (own ++ g :: r))))) (hq : q ∈ own ++ r) : q ∈ a :: b :: c :: (own2 ++ (d :: e :: f :: (own ++ g :: r))) := by
  simp only [List.mem_cons, List.mem_append] at hq ⊢
  rcases hq with h | h
  · exact .inr (.inr (.inr (.inr (.inr (.inr (.inr (.inl h)))))))
  · exact .inr (.inr (.inr (.inr (.inr (.inr (.inr (.inr (.inr h))))))))
theorem lots_cell {h₀ h : Heap} {L : Addr} {a b c d e f g : Addr × Obj} {own own2 r : List (Addr × Obj)} (_ : News h₀ L h (a :: b :: c :: (own2 ++ (d :: e :: f :: (own ++ g :: r))))) : e ∈ a :: b :: c :: (own2 ++ (d :: e :: f :: (own ++ g :: r))) := by
  simp only [List.mem_cons, List.mem_append]
  exact .inr (.inr (.inr (.inr (.inr (.inl trivial)))))
theorem lots_rot {a b c d : Addr × Obj} {r : List (Addr × Obj)} : ∀ p ∈ a :: b :: c :: d :: r, p ∈ d :: a :: b :: c :: r := by
  intro p hp
  simp only [List.mem_cons] at hp ⊢
  rcases hp with h | h | h | h | h
  · exact .inr (.inl h)
  · exact .inr (.inr (.inl h))
  · exact .inr (.inr (.inr (.inl h)))
  · exact .inl h
  · exact .inr (.inr (.inr (.inr h)))
theorem lots_gt {l : Addr} {a b c p : Addr × Obj} {r : List (Addr × Obj)} (h : ∀ p ∈ a :: b :: c :: r, p.1 < l) (hp : p = a ∨ p = b ∨ p = c) : @Ne Nat l p.1 := by
  refine Ne.symm (Nat.ne_of_lt (h p ?_))
  simp only [List.mem_cons]
  rcases hp with h | h | h
  · exact .inl h
  · exact .inr (.inl h)
  · exact .inr (.inr (.inl h))
theorem cp_step {base : List (Addr × Obj)} {Rs : List (List Int)} {P R : List Int} {i : Nat} {ys : List Value} {own2 : List (Addr × Obj)} {l9 : Addr} {v9 : List Value} {kk9 : Nat} (hRi : Rs[i]? = some R) (h : RowsIn own2 ys ((Rs.take i).map (fun R => mulL R P))) (hI9 : IntsAre v9 (mulL R P))
    (hap : ∀ p ∈ own2, ∀ q ∈ base, q.1 ≠ p.1) (hlt : ∀ q ∈ base, q.1 < l9) : CpJ base Rs P (i + 1) (ys ++ [.ref l9]) ((l9, W.listOf (List.toArray v9) kk9) :: (own2 ++ base)) := by
  refine ⟨(l9, W.listOf (List.toArray v9) kk9) :: own2, rfl, ?_, ?_⟩
  · rw [List.take_add_one, hRi, List.map_append]
    exact (h.mono fun p hp => List.mem_cons_of_mem _ hp).snoc List.mem_cons_self hI9
  · intro p hp q hq
    rcases List.mem_cons.mp hp with rfl | hp
    · exact Nat.ne_of_lt (hlt q hq)
    · exact hap p hp q hq
theorem lots_len {Ps : List (List Int)} {i n : Nat} (h : n = (lotsL (Ps.take i)).length) (hl : Ps.length ≤ 3) : n ≤ 8 := by
  rw [lotsL_length, List.length_take] at h
  have : 2 ^ min i Ps.length ≤ 2 ^ 3 := Nat.pow_le_pow_right (by decide) (by omega)
  omega
theorem lots_next {L' lp : Addr} {kp kf i : Nat} {vp vf ys : List Value} {news own own2 : List (Addr × Obj)} {Ps : List (List Int)} {P : List Int} {I lf lf6 : Addr} {oI oc : Obj} {vo : Option Value} (hPi : Ps[i]? = some P) (hRf : RowsIn own vf (lotsL (Ps.take i))) (hR2 : RowsIn own2 ys ((lotsL (Ps.take i)).map (fun R => mulL R P))) (hoc : oc.data = .cell vo)
    (hcell : ∀ p ∈ own ++ (lp, W.listOf (List.toArray vp) kp) :: news, p.1 ≠ L' + 1) (hap : ∀ p ∈ (lf, W.listOf (List.toArray vf) kf) :: own, ∀ q ∈ news, q.1 ≠ p.1)
    (hap2 : ∀ p ∈ own2, ∀ q ∈ (I, oI) :: (L' + 1, oc) :: (lf, W.listOf (List.toArray vf) kf) :: (own ++ (lp, W.listOf (List.toArray vp) kp) :: news), q.1 ≠ p.1)
    (hlt : ∀ q ∈ own2 ++ (I, oI) :: (L' + 1, oc) :: (lf, W.listOf (List.toArray vf) kf) :: (own ++ (lp, W.listOf (List.toArray vp) kp) :: news), q.1 < lf6) :
    LotJ L' lp kp vp news Ps (i + 1) (.ref lf6) ((L' + 1, oc) :: (lf6, W.listOf (List.toArray (vf ++ ys)) 0) :: ((own2 ++ own) ++ (lp, W.listOf (List.toArray vp) kp) :: news)) := by
  have hnews : ∀ q ∈ news, q ∈ (I, oI) :: (L' + 1, oc) :: (lf, W.listOf (List.toArray vf) kf) :: (own ++ (lp, W.listOf (List.toArray vp) kp) :: news) := fun q hq => List.mem_cons_of_mem _ (List.mem_cons_of_mem _ (List.mem_cons_of_mem _ (List.mem_append_right _ (List.mem_cons_of_mem _ hq))))
  refine ⟨lf6, vf ++ ys, 0, own2 ++ own, oc, vo, rfl, hoc, rfl, ?_, ?_, ?_, ?_⟩
  · rw [lotsL_take hPi]
    exact (hRf.mono fun p hp => List.mem_append_right _ hp).append (hR2.mono fun p hp => List.mem_append_left _ hp)
  · exact Ne.symm (Nat.ne_of_lt (hlt (L' + 1, oc) (List.mem_append_right _ (List.mem_cons_of_mem _ List.mem_cons_self))))
  · intro p hp
    rw [List.append_assoc] at hp
    rcases List.mem_append.mp hp with hp | hp
    · exact Ne.symm (hap2 p hp (L' + 1, oc) (List.mem_cons_of_mem _ List.mem_cons_self))
    · exact hcell p hp
  · intro p hp q hq
    rcases List.mem_cons.mp hp with rfl | hp
    · exact Nat.ne_of_lt (hlt q (List.mem_append_right _ (hnews q hq)))
    · rcases List.mem_append.mp hp with hp | hp
      · exact hap2 p hp q (hnews q hq)
      · exact hap p (List.mem_cons_of_mem _ hp) q hq
theorem lots_sub {h₀ h : Heap} {L : Addr} {f6 d i c f : Addr × Obj} {own own2 r : List (Addr × Obj)} (N : News h₀ L h (f6 :: d :: (own2 ++ i :: c :: f :: (own ++ r)))) : News h₀ L h (i :: c :: f6 :: ((own2 ++ own) ++ r)) := fun p hp => N p (by
  simp only [List.mem_cons, List.mem_append] at hp ⊢
  rcases hp with h | h | h | (h | h) | h
  · exact .inr (.inr (.inr (.inl h)))
  · exact .inr (.inr (.inr (.inr (.inl h))))
  · exact .inl h
  · exact .inr (.inr (.inl h))
  · exact .inr (.inr (.inr (.inr (.inr (.inr (.inl h))))))
  · exact .inr (.inr (.inr (.inr (.inr (.inr (.inr h)))))))
theorem lots_out {h₀ h : Heap} {L : Addr} {c f g : Addr × Obj} {own r : List (Addr × Obj)} (N : News h₀ L h (c :: f :: (own ++ g :: r))) : News h₀ L h (f :: (own ++ r)) := fun p hp => N p (by
  simp only [List.mem_cons, List.mem_append] at hp ⊢
  rcases hp with h | h | h
  · exact .inr (.inl h)
  · exact .inr (.inr (.inl h))
  · exact .inr (.inr (.inr (.inr h))))
theorem lots_start {L' lp : Addr} {kp : Nat} {vp : List Value} {news : List (Addr × Obj)} {Ps : List (List Int)} {o : Obj} {vo : Option Value} {l l1 : Addr} {t : Tok} (hd : o.data = .cell vo) (h1 : @Ne Nat l (L' + 1)) (h2 : @Ne Nat l1 (L' + 1)) (h3 : @Ne Nat lp (L' + 1)) (hn : AllLt L' news) (a1 : AllLt l1 news) (a2 : AllLt l news) :
    LotJ L' lp kp vp news Ps 0 (.ref l) ((L' + 1, o) :: (l, W.listOf #[.ref l1] 0) :: ([(l1, W.listOf #[.int 1 t] 0)] ++ (lp, W.listOf (List.toArray vp) kp) :: news)) := by
  refine ⟨l, [.ref l1], 0, [(l1, W.listOf #[.int 1 t] 0)], o, vo, rfl, hd, rfl, ?_, h1, ?_, ?_⟩
  · rw [List.take_zero, lotsL_nil]
    exact .cons List.mem_cons_self (.cons _ _ .nil) .nil
  · intro p hp
    rcases List.mem_append.mp hp with hp | hp
    · rw [List.mem_singleton.mp hp]; exact h2
    · rcases List.mem_cons.mp hp with rfl | hp
      · exact h3
      · exact Nat.ne_of_lt (Nat.lt_succ_of_lt (ktn_ltOf hn p hp))
  · intro p hp q hq
    rcases List.mem_cons.mp hp with rfl | hp
    · exact Nat.ne_of_lt (ktn_ltOf a2 q hq)
    · rw [List.mem_singleton.mp hp]; exact Nat.ne_of_lt (ktn_ltOf a1 q hq)
theorem lots_news {h₀ h : Heap} {L : Addr} {a b c d : Addr × Obj} {r : List (Addr × Obj)} (N : News h₀ L h (a :: b :: c :: d :: r)) : News h₀ L h (c :: a :: ([b] ++ d :: r)) := fun p hp => N p (by
  simp only [List.cons_append, List.nil_append, List.mem_cons] at hp ⊢
  rcases hp with h | h | h | h | h
  · exact .inr (.inr (.inl h))
  · exact .inl h
  · exact .inr (.inl h)
  · exact .inr (.inr (.inr (.inl h)))
  · exact .inr (.inr (.inr (.inr h))))
section
local macro_rules | `(tactic| k_all) => `(tactic| first | assumption | (intro p9 hp9; exact Nat.ne_of_lt (ktn_ltOf (by ((repeat (rename _ ∧ _ => q9; cases q9)); assumption)) p9 hp9)))
local macro_rules | `(tactic| walk_at "call ref") => `(tactic| k_extra "mycall")
local macro_rules | `(tactic| walk_at "CompSrc") => `(tactic| (refine Hold.out ?_))
local macro_rules | `(tactic| walk_at "exec For Name Name cons nil") => `(tactic| (k_here; (rename Fr _ _ _ _ => lF'); (with_unfolding_all refine' For_turns lF' ?_; k_whole)))
local macro_rules | `(tactic| walk_at "pyIter ref") => `(tactic| (refine Hold.out ?_))
local macro_rules | `(tactic| walk_at "eval Name") => `(tactic| ((with_reducible show wpAny _ _ (eval (Expr.Name (Str.ofString "piece") _) (compEnvC _ _ _ _)) _ _ _); k_extra "myname"))
set_option maxHeartbeats 4000000 in
theorem lots_c (w : World) (lp : Addr) (kp : Nat) (vp : List Value) (Ps : List (List Int)) (news : List (Addr × Obj)) (hlp : (lp, W.listOf vp.toArray kp) ∈ news) (hR : RowsIn news vp Ps) (hl : Ps.length ≤ 3) (hP : ∀ P ∈ Ps, PieceL P) :
    Cl w 5 62 news [.ref lp] (fun r news' => ∃ lf vf kf own, r = .ref lf ∧ news' = (lf, W.listOf (List.toArray vf) kf) :: (own ++ news) ∧ (∀ p ∈ (lf, W.listOf (List.toArray vf) kf) :: own, ∀ q ∈ news, q.1 ≠ p.1) ∧ RowsIn own vf (lotsL Ps)) := by
  w_top off
  k_with_none
  k_with "myname" => k_dflt (refine lcf_free (by k_asm) rfl hpc9 hcl2 ?_ rfl rfl)
  k_with "mycall" => ((with_reducible show wpAny _ _ (call (Value.ref 52) _) _ _ _); k_dflt (refine' Cl.use (times_k w ?hla ?hlb ?hIa ?hIb ?c) ?k1 ?k2 ?k3 ?k4 ?k5 ?kK ?kd ?ku ?_; (case k1 => k_asm); (case k2 => k_asm); (case k3 => k_asm); (case k4 => k_asm); (case k5 => k_asm); (case hla => assumption); (case hlb => assumption); (case hIa => assumption); (case hIb => assumption); (case c => assumption); (case kK => first | exact rfl | assumption); (case kd => ktr_room); (case ku => ktr_units)); intro r9 nw9 h9 tk9 F9 N9 O9; obtain ⟨l9, v9, kk9, rfl, rfl, hlt9, hI9⟩ := O9; (try dsimp only); (try k_fold))
  unfold Cl
  intro mean mg mb dp un gd cn cs a ccd cl outer A₀ base h₀ L m s Q E B F X N T hk hdp hun hret
  replace N := news_dup N hlp
  refine wpAny_call ?_
  k_dflt (refine' code_defC ?k1 ?k2 ?k3 ?k4 ?k5 ?kA ?kF ?kK ?k6 ?k7 ?k8 ?k9 ?kB ?kD ?_ ?c2 ?c3 ?c4; (case kA => exact rfl); (case kF => exact rfl); (case kK => assumption); (case k1 => k_asm); (case k2 => k_asm); (case k3 => k_asm); (case k4 => k_asm); (case k5 => k_asm); (case k6 => k_is); (case k7 => k_is); (case k8 => ktr_room); (case k9 => exact BindsTo.of_eq rfl); (case kB => exact rfl); (case kD => decide +kernel); (case c2 => exact rfl); (case c3 => exact rfl); (case c4 => exact rfl); k_whole; intro g' L' h' tk' cells' FG' F' N' Y' B' X' T' l1; (try k_lt l1); k_cells Y'; (try simp only [List.cons_append, List.nil_append] at N'); (try dsimp only); (try k_lift B'); (try k_fold))
  k_steps
  refine Hold.mk ?_
  rename Fr _ _ _ _ => F1
  rename News _ _ _ _ => N1
  rename Obj.data _ = _ => hcl
  (repeat (rename _ ∧ _ => q9; cases q9))
  have hRl := hR.length
  with_unfolding_all refine list_inv (lo := W.listOf vp.toArray kp) (vs := vp) (Str.ofString "found") [] (LotJ L' lp kp vp news Ps) rfl F1 (lots_news N1) (List.mem_cons_of_mem _ (List.mem_cons_of_mem _ (List.mem_cons_of_mem _ List.mem_cons_self))) rfl rfl rfl (lots_start hcl (by omega) (by omega) (by omega) (by assumption) (by assumption) (by assumption)) ?turn ?done
  case turn =>
    clear N1 F1
    rintro I oI i v vy nw u h tk hcI hv ⟨lf, vf, kf, own, oc, vo, rfl, hoc, rfl, hRf, hlf, hcell, hap⟩ hax hI F1 N1
    obtain ⟨pa, pv, pk, P, rfl, hpm, hpI, hPi⟩ := hR.at hv
    have hPP := hP P (List.mem_of_getElem? hPi)
    have hvl := lots_len hRf.length hl
    have hi3 : i < Ps.length := (List.getElem?_eq_some_iff.mp hPi).1
    have hIc := hI _ List.mem_cons_self
    have hIf := hI _ (List.mem_cons_of_mem _ List.mem_cons_self)
    have hIo : ∀ p ∈ own ++ (lp, W.listOf (List.toArray vp) kp) :: news, p.1 ≠ I := fun p hp => hI p (List.mem_cons_of_mem _ (List.mem_cons_of_mem _ hp))
    dsimp only at hIc hIf
    replace hIc := neN hIc
    replace hIf := neN hIf
    k_steps
    refine Hold.mk ?_
    rename Fr _ _ _ _ => F2
    rename News _ _ _ _ => N2
    rename Obj.data _ = _ => hcl2
    k_dflt (refine LCg.CompSrc.ledger (by rfl) F2 N2 (List.mem_cons_of_mem _ (List.mem_cons_of_mem _ List.mem_cons_self)) (by rw [PySem.sizeLine_eq, List.size_toArray]; omega) ?_)
    intro g9
    refine comp_inv (CpJ _ (lotsL (Ps.take i)) P) ⟨[], rfl, .nil, fun p hp => nomatch hp⟩ ?turn2 ?fin2
    case turn2 =>
      rintro i2 ys nw v I2 oI2 C oC D m₂ h2 tk2 E' hi2 hv2 ⟨own2, rfl, hR2, hap2⟩ hC hxv F3 N3 off3 ne3
      obtain ⟨ra, rv, rk, R, rfl, hrm, hrI, hRi⟩ := hRf.at (i := i2) (by simpa using hv2)
      have hROK := (lots_ok (Nat.le_of_lt hi3) hl hP R (List.mem_of_getElem? hRi)).times (by omega) hPP
      have hla9 := lots_mem N3 (List.mem_append_left news hrm)
      have hpc9 := lots_cell N3
      have hlb9 := lots_mem N3 (List.mem_append_right own hpm)
      k_steps
      refine LCg.CompEnd.intro F9 N9 ((l9, W.listOf v9.toArray kk9) :: (own2 ++ _)) lots_rot (And.intro ⟨lots_gt hlt9 (.inl rfl), lots_gt hlt9 (.inr (.inl rfl)), lots_gt hlt9 (.inr (.inr rfl))⟩ off3) (.inr ⟨_, List.mem_cons_of_mem _ (List.mem_append_right _ (List.mem_cons_of_mem _ (List.mem_cons_of_mem _ List.mem_cons_self))), rfl, _, rfl⟩) (cp_step hRi hR2 hI9 hap2 fun q hq => hlt9 q (List.mem_cons_of_mem _ (List.mem_cons_of_mem _ (List.mem_cons_of_mem _ (List.mem_append_right _ hq)))))
    case fin2 =>
      rintro ys nw ⟨own2, rfl, hR2, hap2⟩
      have hTake : (lotsL (Ps.take i)).take (vf.toArray).size = lotsL (Ps.take i) := by rw [List.size_toArray, hRf.length, List.take_length]
      rw [hTake] at hR2
      have hys := hR2.length
      have hfl := hRf.length
      rw [List.length_map] at hys
      k_steps
      rename Fr _ _ _ _ => F5
      rename News _ _ _ _ => N5
      refine add_arrays F5 N5 (its := vf.toArray) (its2 := ys.toArray) ⟨_, (N5 (lf, W.listOf vf.toArray kf) (List.mem_cons_of_mem _ (List.mem_append_right _ (List.mem_cons_of_mem _ (List.mem_cons_of_mem _ List.mem_cons_self))))).1, rfl, _, rfl⟩ ⟨_, (N5 _ List.mem_cons_self).1, rfl, _, rfl⟩ (fun h6 F6 N6 => ?_) (by rw [PySem.sizeLine_eq, List.size_toArray, List.size_toArray]; omega)
      have hlt6 := fun p hp => Heap.lt_size (N5 p hp).1
      generalize Array.size _ = lf6 at F6 N6 hlt6 ⊢
      k_steps
      rename Fr _ _ _ _ => F7
      rename News _ _ _ _ => N7
      refine ⟨_, _, _, _, .ref lf6, rfl, F7, lots_sub N7, ?_, ?_, rfl, ?_, lots_next hPi hRf hR2 hcl2 hcell hap hap2 (fun q hq => hlt6 q (List.mem_cons_of_mem _ hq))⟩
      · intro p hp
        rcases List.mem_cons.mp hp with rfl | hp
        · exact hIc
        · rcases List.mem_cons.mp hp with rfl | hp
          · exact Ne.symm (Nat.ne_of_lt (hlt6 (I, oI) (List.mem_cons_of_mem _ (List.mem_append_right _ List.mem_cons_self))))
          · rw [List.append_assoc] at hp
            rcases List.mem_append.mp hp with hp | hp
            · exact Ne.symm (hap2 p hp (I, oI) List.mem_cons_self)
            · exact hIo p hp
      · exact List.mem_cons_of_mem _ (List.mem_cons_of_mem _ (List.mem_append_right _ List.mem_cons_self))
      · intro z h3 h4
        simp [h3]
  case done =>
    rintro vy nw u h tk ⟨lf, vf, kf, own, oc, vo, rfl, hoc, rfl, hRf, hlf, hcell, hap⟩ F2 N2
    k_steps
    rename News _ _ _ _ => N9
    rename Fr _ _ _ m => F9
    refine hret _ _ _ _ F9 (lots_out N9) ⟨lf, vf, kf, own, rfl, rfl, hap, ?_⟩
    rw [hRl, List.take_length] at hRf
    exact hRf
end
end Mine
namespace Mine
/-- what the call ceil_root(number) gives, in the words of the law -/
theorem ceil_root_k (w : World) {a b c : Int} (t : Tok) (news : List (Addr × Obj)) (h1 : 0 ≤ a) (h2 : a < 76924) (h3 : 0 ≤ b) (h4 : b < 76924) (h5 : 0 ≤ c) (h6 : c < 3) :
    Cl w 2 21 news [.int (a * b + c) t] (fun r news' => news' = news ∧ ∃ x t', r = .int x t' ∧ 0 ≤ x ∧ x < 2 ^ 62 ∧ (¬ x ^ (2 : Int).toNat < a * b + c) ∧ (0 < a * b + c → ¬ a * b + c ≤ (x - 1) ^ (2 : Int).toNat)) := by
  obtain ⟨n1, n2⟩ := num_bd h1 h2 h3 h4 h5 h6
  have C := ceil_root_c w (a * b + c) t news n1 n2
  unfold Cl at C ⊢
  intro mean mg mb dp un gd cn cs ad ccd cl outer A₀ base h₀ L m s Q E B F X N T hk hdp hun hret
  refine C mean mg mb dp un gd cn cs ad ccd cl outer A₀ base h₀ L m s Q E B F X N T hk hdp hun ?_
  rintro r news' h' tk' F' N' ⟨e, x, t', e2, x0, x1, x2, x3⟩
  have p2 : ∀ y : Int, y ^ (2 : Int).toNat = y * y := fun y => by
    show y ^ 2 = y * y
    rw [Int.pow_succ, Int.pow_succ, Int.pow_zero, Int.one_mul]
  refine hret r news' h' tk' F' N' ⟨e, x, t', e2, x0, by omega, ?_, ?_⟩
  · rw [p2]; omega
  · intro hn
    rw [p2]
    rcases x2 with h | h
    · subst h; omega
    · omega
end Mine
namespace Mine
theorem two_pow_le_pow {p : Int} (hp : 2 ≤ p) : ∀ n : Nat, (2 : Int) ^ n ≤ p ^ n
  | 0 => by simp
  | n + 1 => by
    rw [Int.pow_succ, Int.pow_succ]
    exact Int.mul_le_mul (two_pow_le_pow hp n) hp (by omega) (by have := two_pow_le_pow hp n; have : (0 : Int) < 2 ^ n := Int.pow_pos (by omega); omega)
theorem pow_small {m p k : Int} (hp : 2 ≤ p) (h : PowFor m p k) (hm : m < 2 ^ 100) : 1 ≤ k ∧ k ≤ 101 := by
  obtain ⟨h1, h2, h3⟩ := h
  refine ⟨h1, ?_⟩
  rcases h3 with h3 | h3
  · omega
  · apply Int.not_lt.mp
    intro hlt
    have a1 := two_pow_le_pow hp (k - 1).toNat
    have a2 := two_le (a := 101) (b := (k - 1).toNat) (by omega)
    have a3 : (2 : Int) ^ 101 = 2 * 2 ^ 100 := by decide
    have a4 : (0 : Int) < 2 ^ 100 := by decide
    generalize (2 : Int) ^ 100 = z at *
    omega
theorem goal_small {W : List Int} {x c : Int} (hW : W.length ≤ 10) (hx : 0 ≤ x) (hx2 : x < 2 ^ 62) (hc1 : -(2 ^ 20) < c) (hc2 : c < 2 ^ 20) :
    2 * (if c < 0 then -c else c) * (2 ^ (W.length - 1) * x) < 2 ^ 100 := by
  have h1 : (2 : Int) ^ (W.length - 1) ≤ 2 ^ 9 := two_le (by omega)
  have h0 : (0 : Int) < 2 ^ (W.length - 1) := Int.pow_pos (by omega)
  have h2 : (2 : Int) ^ (W.length - 1) * x ≤ 2 ^ 9 * 2 ^ 62 := Int.mul_le_mul h1 (by omega) hx (by omega)
  have h3 : (0 : Int) ≤ 2 ^ (W.length - 1) * x := Int.mul_nonneg (by omega) hx
  have h4 : 0 ≤ 2 * (if c < 0 then -c else c) ∧ 2 * (if c < 0 then -c else c) ≤ 2 ^ 21 := by
    split <;> omega
  have h5 := Int.mul_le_mul h4.2 h2 h3 (by omega)
  have h6 : (2 : Int) ^ 21 * (2 ^ 9 * 2 ^ 62) < 2 ^ 100 := by decide
  exact Int.lt_of_le_of_lt h5 h6
end Mine
namespace Mine
theorem main_trim {h₀ h : Heap} {L : Addr} {a b t1 t2 t3 c d : Addr × Obj} (N : News h₀ L h [a, b, t1, t2, t3, c, d]) : News h₀ L h [a, b, c, d] := fun p hp => N p (by
  simp only [List.mem_cons] at hp ⊢
  rcases hp with h | h | h | h | h
  · exact .inl h
  · exact .inr (.inl h)
  · exact .inr (.inr (.inr (.inr (.inr (.inl h)))))
  · exact .inr (.inr (.inr (.inr (.inr (.inr (.inl h))))))
  · cases h)
/-- the ledger while the pieces are built -/
def PcJ (b D : Addr) (kl : Nat) (vs : List Value) (pm pb : Addr × Obj) (i : Nat) (ys : List Value) (nw : List (Addr × Obj)) : Prop :=
  ∃ own x c tx tc Ps, (0 ≤ x ∧ x < 2 ^ 30) ∧ 0 ≤ c ∧ nw = (b, boxO x tx D c tc 0) :: (D, W.listOf vs.toArray kl) :: pm :: pb :: own ∧ RowsIn own ys Ps ∧ Ps.length = i ∧ (∀ P ∈ Ps, PieceL P) ∧ ∀ p ∈ own, p.1 ≠ b
theorem name4 {h₀ h : Heap} {L : Addr} {b D : Addr} {o1 o2 : Obj} {r : List (Addr × Obj)} {P : Prop} (_ : News h₀ L h ((b, o1) :: (D, o2) :: r)) (k : ∀ b' D' : Addr, b' = b → D' = D → P) : P := k _ _ rfl rfl
theorem pc_sub {h₀ h : Heap} {L : Addr} {i c d b D pm pb : Addr × Obj} {own : List (Addr × Obj)} (N : News h₀ L h (i :: c :: d :: b :: D :: pm :: pb :: own)) : News h₀ L h (b :: D :: i :: c :: d :: pm :: pb :: own) := fun p hp => N p (by
  simp only [List.mem_cons] at hp ⊢
  rcases hp with h | h | h | h | h | h | h | h
  · exact .inr (.inr (.inr (.inl h)))
  · exact .inr (.inr (.inr (.inr (.inl h))))
  · exact .inl h
  · exact .inr (.inl h)
  · exact .inr (.inr (.inl h))
  · exact .inr (.inr (.inr (.inr (.inr (.inl h)))))
  · exact .inr (.inr (.inr (.inr (.inr (.inr (.inl h))))))
  · exact .inr (.inr (.inr (.inr (.inr (.inr (.inr h)))))))
theorem pc_back {r b D i c d pm pb : Addr × Obj} {own : List (Addr × Obj)} : ∀ p ∈ i :: c :: d :: b :: D :: pm :: pb :: r :: own, p ∈ r :: b :: D :: i :: c :: d :: pm :: pb :: own := by
  intro p hp
  simp only [List.mem_cons] at hp ⊢
  rcases hp with h | h | h | h | h | h | h | h | h
  · exact .inr (.inr (.inr (.inl h)))
  · exact .inr (.inr (.inr (.inr (.inl h))))
  · exact .inr (.inr (.inr (.inr (.inr (.inl h)))))
  · exact .inr (.inl h)
  · exact .inr (.inr (.inl h))
  · exact .inr (.inr (.inr (.inr (.inr (.inr (.inl h))))))
  · exact .inr (.inr (.inr (.inr (.inr (.inr (.inr (.inl h)))))))
  · exact .inl h
  · exact .inr (.inr (.inr (.inr (.inr (.inr (.inr (.inr h)))))))
theorem pc_ne {i c d b : Addr} {oi oc od : Obj} {pm pb : Addr × Obj} {own : List (Addr × Obj)} (h : @Ne Nat b i ∧ @Ne Nat b c ∧ @Ne Nat b d) (h1 : pm.1 < b) (h2 : pb.1 < b) (ho : ∀ p ∈ own, p.1 ≠ b) : ∀ p ∈ (i, oi) :: (c, oc) :: (d, od) :: pm :: pb :: own, p.1 ≠ b := by
  intro p hp
  simp only [List.mem_cons] at hp
  rcases hp with rfl | rfl | rfl | rfl | rfl | hp
  · exact Ne.symm h.1
  · exact Ne.symm h.2.1
  · exact Ne.symm h.2.2
  · exact Nat.ne_of_lt h1
  · exact Nat.ne_of_lt h2
  · exact ho p hp
theorem pc_next {b D i c d lr : Addr} {oi oc od ob oD o : Obj} {kl : Nat} {vs ys : List Value} {pm pb : Addr × Obj} {own : List (Addr × Obj)} {Ps : List (List Int)} {x cc : Int} {tx tc : Tok} {j : Nat} (hx : 0 ≤ x ∧ x < 2 ^ 30) (hc : 0 ≤ cc) (hR : RowsIn own ys Ps) (hl : Ps.length = j) (hP : ∀ P ∈ Ps, PieceL P) (ho : ∀ p ∈ own, p.1 ≠ b)
    (hlt : ∀ p ∈ (b, ob) :: (D, oD) :: (i, oi) :: (c, oc) :: (d, od) :: pm :: pb :: own, p.1 < lr) (h8 : Piece o) :
    PcJ b D kl vs pm pb (j + 1) (ys ++ [.ref lr]) ((b, boxO x tx D cc tc 0) :: (D, W.listOf vs.toArray kl) :: pm :: pb :: (lr, o) :: own) := by
  obtain ⟨vr, kk, R, rfl, hI, hPR⟩ := h8
  refine ⟨(lr, _) :: own, x, cc, tx, tc, Ps ++ [R], hx, hc, rfl, (hR.mono fun p hp => List.mem_cons_of_mem _ hp).snoc List.mem_cons_self hI, by simp [hl], ?_, ?_⟩
  · intro P hp
    rcases List.mem_append.mp hp with hp | hp
    · exact hP P hp
    · rw [List.mem_singleton.mp hp]; exact hPR
  · intro p hp
    rcases List.mem_cons.mp hp with rfl | hp
    · exact Ne.symm (Nat.ne_of_lt (hlt (b, ob) List.mem_cons_self))
    · exact ho p hp
theorem pc_off {b D i c d lr : Addr} {oi oc od ob oD o : Obj} {pm pb : Addr × Obj} {own : List (Addr × Obj)} {ob' oD' : Obj} (h : LCg.Off3 i c d ((b, ob) :: (D, oD) :: pm :: pb :: own)) (hlt : ∀ p ∈ (b, ob') :: (D, oD') :: (i, oi) :: (c, oc) :: (d, od) :: pm :: pb :: own, p.1 < lr) :
    LCg.Off3 i c d ((b, ob') :: (D, oD') :: pm :: pb :: (lr, o) :: own) := by
  obtain ⟨h1, h2, h3, h4, h5⟩ := h
  refine ⟨h1, h2, h3, h4, ⟨?_, ?_, ?_⟩, h5⟩
  · exact Ne.symm (Nat.ne_of_lt (hlt (i, oi) (by simp)))
  · exact Ne.symm (Nat.ne_of_lt (hlt (c, oc) (by simp)))
  · exact Ne.symm (Nat.ne_of_lt (hlt (d, od) (by simp)))
theorem whole_at {own : List (Addr × Obj)} {vf : List Value} {Ps : List (List Int)} (h : RowsIn own vf (lotsL Ps)) : ∃ la lv lk, vf[vf.length - 1]? = some (.ref la) ∧ (la, W.listOf (List.toArray lv) lk) ∈ own ∧ IntsAre lv (wholeL Ps) := by
  have hl := h.length
  have h2 := lotsL_length Ps
  have h3 : 0 < 2 ^ Ps.length := Nat.pow_pos (by omega)
  have hlt : vf.length - 1 < vf.length := by omega
  obtain ⟨la, lv, lk, R, e, hm, hI, hR⟩ := h.at (List.getElem?_eq_getElem hlt)
  refine ⟨la, lv, lk, by rw [List.getElem?_eq_getElem hlt, e], hm, ?_⟩
  have : wholeL Ps = R := by
    unfold wholeL
    rw [List.getLastD_eq_getLast?, List.getLast?_eq_getElem?, ← hl, hR]; rfl
  rw [this]; exact hI
theorem lots_main {h₀ h : Heap} {L : Addr} {lf Dp a : Addr × Obj} {b D pm pb : Addr × Obj} {own own2 : List (Addr × Obj)} (N : News h₀ L h (lf :: (own2 ++ Dp :: b :: D :: pm :: pb :: own))) (ha : a ∈ own2) : News h₀ L h (lf :: a :: b :: D :: pm :: pb :: own2) := fun p hp => N p (by
  simp only [List.mem_cons, List.mem_append] at hp ⊢
  rcases hp with h | rfl | h | h | h | h | h
  · exact .inl h
  · exact .inr (.inl ha)
  · exact .inr (.inr (.inr (.inl h)))
  · exact .inr (.inr (.inr (.inr (.inl h))))
  · exact .inr (.inr (.inr (.inr (.inr (.inl h)))))
  · exact .inr (.inr (.inr (.inr (.inr (.inr (.inl h))))))
  · exact .inr (.inl h))
theorem lots_apart {lf b Dl pm pb : Addr} {ol ob oD om op : Obj} {Dp a : Addr × Obj} {own own2 : List (Addr × Obj)} (h : ∀ p ∈ (lf, ol) :: own2, ∀ q ∈ Dp :: (b, ob) :: (Dl, oD) :: (pm, om) :: (pb, op) :: own, q.1 ≠ p.1) (ha : a ∈ own2) :
    (∀ p ∈ own2, p.1 ≠ b) ∧ (∀ p ∈ own2, p.1 ≠ pm) ∧ (∀ p ∈ own2, p.1 ≠ pb) ∧ @Ne Nat lf b ∧ @Ne Nat lf pm ∧ @Ne Nat lf pb ∧ @Ne Nat a.1 b ∧ @Ne Nat a.1 pm ∧ @Ne Nat a.1 pb :=
  ⟨fun p hp => Ne.symm (h p (List.mem_cons_of_mem _ hp) (b, ob) (by simp)), fun p hp => Ne.symm (h p (List.mem_cons_of_mem _ hp) (pm, om) (by simp)), fun p hp => Ne.symm (h p (List.mem_cons_of_mem _ hp) (pb, op) (by simp)),
   Ne.symm (h (lf, ol) List.mem_cons_self (b, ob) (by simp)), Ne.symm (h (lf, ol) List.mem_cons_self (pm, om) (by simp)), Ne.symm (h (lf, ol) List.mem_cons_self (pb, op) (by simp)),
   Ne.symm (h a (List.mem_cons_of_mem _ ha) (b, ob) (by simp)), Ne.symm (h a (List.mem_cons_of_mem _ ha) (pm, om) (by simp)), Ne.symm (h a (List.mem_cons_of_mem _ ha) (pb, op) (by simp))⟩
section
local macro_rules | `(tactic| k_all) => `(tactic| first | assumption | (intro p9 hp9; exact Nat.ne_of_lt (ktn_ltOf (by ((repeat (rename _ ∧ _ => q9; cases q9)); assumption)) p9 hp9)))
local macro_rules | `(tactic| walk_at "call ref") => `(tactic| k_extra "mystop")
local macro_rules | `(tactic| walk_at "call ref") => `(tactic| k_extra "mycall")
local macro_rules | `(tactic| walk_at "CompSrc") => `(tactic| k_extra "mysrc")
local macro_rules | `(tactic| walk_at "CompSrcT") => `(tactic| (refine Hold.out ?_))
local macro_rules | `(tactic| walk_at "binaryOp Mult int int") => `(tactic| (k_here; refine mul_int ?_ (ab_ok (by assumption))))
local macro_rules | `(tactic| walk_at "binaryOp Pow int int") => `(tactic| (k_here; refine pow_int_small (by omega) (by omega) (by omega) ?_))
local macro_rules | `(tactic| walk_at "execs nil") => `(tactic| (refine wpAny_execs_nil ?_))
local macro_rules | `(tactic| walk_at "ite") => `(tactic| k_extra "myite")
local macro_rules | `(tactic| walk_at "exec If") => `(tactic| k_extra "myif")
local macro_rules | `(tactic| walk_at "binaryOp Mult int int") => `(tactic| (k_here; refine mul_int ?_ (mul_ok (by omega) (by omega))))
local macro_rules | `(tactic| walk_at "binaryOp Mult int int") => `(tactic| (k_here; refine mul_int ?_ (mul_ok2 (by omega) (by omega))))
local macro_rules | `(tactic| walk_at "subscriptTail") => `(tactic| k_extra "mysub2")
local macro_rules | `(tactic| walk_at "subscriptTail Name UnaryOp ref int") => `(tactic| k_extra "mysub")
set_option maxHeartbeats 8000000 in
theorem main_x : PySem.Challenge.rw_nn0244_01.Holds := by
  w_top off
  k_with_none
  k_with "mystop" => ((with_reducible show wpAny _ _ (call (Value.ref 40) _) _ _ _); refine Hold.out ?_)
  refine hd ?_
  w_strict (k_go0; (all_goals try k_fold); k_steps)
  k_with_none
  refine Hold.mk ?_
  rename News _ _ _ _ => N1
  rename Fr _ _ _ _ => F1
  rename IntsAre _ _ => hI1
  rename Obj.data _ = _ => hd1
  (repeat (rename _ ∧ _ => q9; cases q9))
  have hl1 := hI1.length
  replace N1 := main_trim N1
  refine name4 N1 fun b D e1 e2 => ?_
  subst e1 e2
  have hn1 := hI1.length
  simp only [List.length_append, List.length_map, List.length_take, List.length_singleton] at hn1
  generalize List.map (fun k' => Int.fmod (if k' < 0 then -k' else k') 99991) (List.take 20 _) ++ [_] = ns at hI1
  have hn2 := hI1.length
  k_with "mycall" => ((with_reducible show wpAny _ _ (call (Value.ref 40) _) _ _ _); k_dflt (refine' Cl.use (next_u _ ?U ?hl ?hlb hI1 ?hn ?hn2 ?hx ?hc) ?k1 ?k2 ?k3 ?k4 ?k5 ?kK ?kd ?ku ?_; (case k1 => k_asm); (case k2 => k_asm); (case k3 => k_asm); (case k4 => k_asm); (case k5 => k_asm); (case U => k_updF); (case hl => k_mem); (case hlb => first | assumption | (apply Nat.ne_of_lt; assumption)); (case hn => omega); (case hn2 => omega); (case hx => (constructor <;> omega)); (case hc => omega); (case kK => first | exact rfl | assumption); (case kd => ktr_room); (case ku => ktr_units)); intro r9 nw9 h9 tk9 F9 N9 O9; obtain ⟨y9, t9, rfl, hy9, hyy9, x9, c9, tx9, tc9, hx9, hc9, rfl⟩ := O9; (try dsimp only); (try k_fold))
  k_with "mysrc" => (refine Hold.out ?_)
  k_with "mystop" => ((with_reducible show wpAny _ _ (call (Value.ref _) _) _ _ _); refine Hold.out ?_)
  k_steps
  refine Hold.mk ?_
  rename IsRange _ _ _ _ _ _ _ _ => hR9
  rename Fr _ _ _ _ => F2
  rename News _ _ _ _ => N2
  have hm1 := fmod_lo y9 (n := 2) (by decide)
  have hm2 := fmod_hi y9 (n := 2) (by decide)
  k_dflt (refine LCg.CompSrc.range (by rfl) F2 N2 hR9 (small_one (by omega) (by omega) (by omega) (by omega)) (rangeSize_nat _ _) (by rw [PySem.sizeLine_eq]; omega) ?_)
  intro g9
  refine comp_inv (PcJ b D _ _ _ _) ⟨[], _, _, _, _, [], hx9, hc9, rfl, .nil, rfl, by simp, by simp⟩ ?turn ?fin
  case turn =>
    clear hx9 hc9 F2 N2
    rintro i ys nw v I oI C oC D₂ m₂ h tk E' hi ⟨tv, rfl⟩ ⟨own, x9, c9, tx9, tc9, Ps, hx9, hc9, rfl, hR9, hl9, hP9, ho9⟩ hC hxv F3 N3 off3 ne3
    have off6 := off3
    simp only [LCg.Off3] at off3
    k_steps
    refine Hold.mk ?_
    obtain ⟨z0, zr⟩ := off3
    rename Fr _ _ _ _ => F4
    rename News _ _ _ _ => N4
    k_dflt (refine' Cl.use (piece_c _ D b _ 0 _ _ _ x9 c9 tx9 tc9 hI1 ?hn ?hn2 ?hne ?hlb hx9 hc9) ?k1 F4 ?k3 (pc_sub N4) ?k5 ?kK ?kd ?ku ?_; (case k1 => k_asm); (case k3 => k_asm); (case k5 => k_asm); (case kK => first | exact rfl | assumption); (case kd => ktr_room); (case ku => ktr_units); (case hn => omega); (case hn2 => omega); (case hlb => apply Nat.ne_of_lt; assumption); (case hne => exact pc_ne z0 (by assumption) (by assumption) ho9))
    intro r9 nw9 h9 tk9 F9 N9 O9
    obtain ⟨lr, o, x8, c8, tx8, tc8, rfl, hx8, hc8, rfl, hlt8, hP8⟩ := O9
    (try dsimp only); (try k_fold)
    refine LCg.CompEnd.intro F9 N9 _ pc_back (pc_off off6 hlt8) trivial (pc_next hx8 hc8 hR9 hl9 hP9 ho9 hlt8 hP8)
  case fin =>
    rintro ys nw ⟨own, x9, c9, tx9, tc9, Ps, hx9, hc9, rfl, hR9, hl9, hP9, ho9⟩
    k_steps
    refine Hold.mk ?_
    rename Fr _ _ _ _ => F4
    rename News _ _ _ _ => N4
    have hPl : Ps.length ≤ 3 := by omega
    k_dflt (refine' Cl.use (lots_c _ _ _ ys Ps _ List.mem_cons_self (hR9.mono ?hm) hPl hP9) ?k1 F4 ?k3 N4 ?k5 ?kK ?kd ?ku ?_; (case k1 => k_asm); (case k3 => k_asm); (case k5 => k_asm); (case kK => first | exact rfl | assumption); (case kd => ktr_room); (case ku => ktr_units); (case hm => (intro p hp; exact List.mem_cons_of_mem _ (List.mem_cons_of_mem _ (List.mem_cons_of_mem _ (List.mem_cons_of_mem _ (List.mem_cons_of_mem _ hp)))))))
    intro r9 nw9 h9 tk9 F9 N9 O9
    obtain ⟨lf, vf, kf, own2, rfl, rfl, hap, hRf⟩ := O9
    clear F4 N4 hR9
    obtain ⟨la, lv, lk, hla, hlm, hIw⟩ := whole_at hRf
    have hfa := lots_facts hPl hP9
    obtain ⟨u1, u2, u3, u4, u5, u6, u7, u8, u9⟩ := lots_apart hap hlm
    replace N9 := lots_main N9 hlm
    clear hap hP9 hl9 ho9
    have hv8 : vf.length ≤ 8 := by
      have h1 := hRf.length
      rw [lotsL_length] at h1
      have : 2 ^ Ps.length ≤ 2 ^ 3 := Nat.pow_le_pow_right (by decide) hPl
      omega
    generalize wholeL Ps = Wh at hIw hfa
    generalize lotsL Ps = Rs at hRf hfa
    have hvl : 1 ≤ vf.length := by
      cases vf with
      | nil => simp at hla
      | cons v r => simp
    have hsl := seq_last hvl
    have hWl := hfa.len
    have hW1 := hfa.led.len
    k_with "mysub" => (k_here; (with_reducible show wpAny _ _ (subscriptTail _ _ (Value.ref lf) (Value.int _ _)) _ _ _); (with_unfolding_all refine' kde_neg (vs := vf) ?k1 ?k2 ?k3 hsl hla ?_ ?k6; (case k2 => decide); (case k3 => decide); (case k1 => is_list); (case k6 => with_unfolding_all rfl); k_whole))
    k_with "mycall" => ((with_reducible show wpAny _ _ (call (Value.ref 26) _) _ _ _); k_dflt (refine' Cl.use (bound_of_c _ la lk lv Wh _ ?hl hIw hfa.led.len ?hn2 hfa.small) ?k1 ?k2 ?k3 ?k4 ?k5 ?kK ?kd ?ku ?_; (case k1 => k_asm); (case k2 => k_asm); (case k3 => k_asm); (case k4 => k_asm); (case k5 => k_asm); (case hl => k_mem); (case hn2 => (have := hfa.len; omega)); (case kK => first | exact rfl | assumption); (case kd => ktr_room); (case ku => ktr_units)); intro r9 nw9 h9 tk9 F9 N9 O9; obtain ⟨rfl, xr, tr, rfl, hxr0, hxr1, hxr2, hxr3⟩ := O9; (try dsimp only); (try k_fold))
    (try dsimp only); (try k_fold)
    k_steps
    refine Hold.mk ?_
    k_with_none
    rename Fr _ _ _ _ => F2
    rename News _ _ _ _ => N2
    rename Obj.data _ = _ => hcm
    k_dflt (refine LCt.CompSrcT.ledger (by rfl) F2 N2 List.mem_cons_self (by rw [PySem.sizeLine_eq, List.size_toArray]; omega) ?_)
    intro g9
    refine compT_inv (fun i ys nw => ys = [] ∧ nw = _) ⟨rfl, rfl⟩ ?turn2 ?fin2
    case turn2 =>
      clear F2 N2
      rintro i ys nw v I oI C oC D₂ m₂ h tk E' hi hv ⟨rfl, rfl⟩ hC hxv F3 N3 off3 ne3
      obtain ⟨ra, rv, rk, R, rfl, hrm, hIr, hRi⟩ := hRf.at (i := i) (by simpa using hv)
      obtain ⟨hRp, hR1, hR10, hRs⟩ := hfa.rows R (List.mem_of_getElem? hRi)
      have off6 := off3
      simp only [LCg.Off3] at off3
      replace N3 := news_dup N3 (q := (ra, W.listOf (List.toArray rv) rk)) (by simp [hrm])
      k_steps
      · exact absurd (part_abs hRp hxr0 hxr1 (by assumption)) (by omega)
      · rename Fr _ _ _ _ => F9
        rename News _ _ _ _ => N9
        exact LCg.CompEnd.intro F9 N9 _ (fun p hp => List.mem_cons_of_mem _ (List.mem_cons_of_mem _ hp)) off6 (.inr ⟨_, List.mem_cons_self, rfl, _, rfl⟩) (by first | exact ⟨trivial, rfl⟩ | exact ⟨rfl, rfl⟩ | exact ⟨trivial, trivial⟩)
    case fin2 =>
      rintro ys nw ⟨rfl, rfl⟩
      k_with "mysrc" => (k_here; k_dflt (refine LCg.CompSrc.ledger (by rfl) (by k_asm) (by k_asm) (by k_mem) (by kcf_size) ?_; intro g'; (refine' kcf_list (fun x => x * x) hIw (fun k' t' I' oI' C' oC' D' m' ys' h' tk' E' hk' hC' hx' F' N' off' ne' hMark' => ?_) ?_); (all_goals (try (have hb9 := hfa.small _ hk'))); (all_goals (try (simp only [LCg.Off3, and_true] at off'))); kcf_last))
      k_with "myif" => (refine Hold.out ?_)
      k_steps
      refine Hold.mk ?_
      k_with_none
      rename Fr _ _ _ _ => F8
      have e9 : Int.toNat ((Wh.length : Int) - 1) = Wh.length - 1 := by omega
      have hfd : Int.fdiv (2 ^ (Wh.length - 1) * xr) (2 ^ Int.toNat ((Wh.length : Int) - 1)) = xr := by rw [e9]; exact pow_fdiv _ _
      have hsqW : (Wh.map (fun x => x * x)).sum = sq Wh := rfl
      rw [hfd] at F8
      rw [hsqW] at F8
      k_with "mycall" => ((with_reducible show wpAny _ _ (call (Value.ref 40) _) _ _ _); k_dflt (refine' Cl.use (next_u _ ?U ?hl ?hlb hI1 ?hn ?hn2 ?hx ?hc) ?k1 ?k2 ?k3 ?k4 ?k5 ?kK ?kd ?ku ?_; (case k1 => k_asm); (case k2 => k_asm); (case k3 => k_asm); (case k4 => k_asm); (case k5 => k_asm); (case U => k_updF); (case hl => k_mem); (case hlb => first | assumption | (apply Nat.ne_of_lt; assumption)); (case hn => omega); (case hn2 => omega); (case hx => (constructor <;> omega)); (case hc => omega); (case kK => first | exact rfl | assumption); (case kd => ktr_room); (case ku => ktr_units)); intro r9 nw9 h9 tk9 F9 N9 O9; obtain ⟨y9, t9, rfl, hy9, hyy9, x9, c9, tx9, tc9, hx9, hc9, rfl⟩ := O9; (try dsimp only); (try k_fold))
      k_with "mystop" => ((with_reducible show wpAny _ _ (call (Value.ref _) _) _ _ _); refine Hold.out ?_)
      have hsp := sq_pos hfa.led
      have hA : (xr * 2 ^ Int.toNat ((Wh.length : Int) - 1) != 2 ^ (Wh.length - 1) * xr) = false := by rw [e9, Int.mul_comm xr]; simp
      have hB1 : ¬ xr * xr < sq Wh := by omega
      have hB2 : decide (xr * xr < sq Wh) = false := by simpa using hB1
      have hC1 : ¬ sq Wh ≤ (xr - 1) * (xr - 1) := by
        rcases hxr2 with h | h
        · subst h; omega
        · omega
      have hC2 : decide (sq Wh ≤ (xr - 1) * (xr - 1)) = false := by simpa using hC1
      have hC3 : decide ((xr - 1) * (xr - 1) ≥ sq Wh) = false := by simpa using hC1
      k_with "myite" => first | ((with_reducible show if false = true then _ else _); refine ite_ff ?_) | refine ite_isFalse (by with_reducible assumption) ?_ | refine ite_neg (by with_reducible assumption) ?_
      k_steps
      refine Hold.mk ?_
      clear hA hB1 hB2 hC1 hC2 hC3 hfd hsqW
      k_with "mycall" => ((with_reducible show wpAny _ _ (call (Value.ref 21) _) _ _ _); k_dflt (refine' Cl.use (ceil_root_k _ _ _ ?h0 ?h1 ?h2 ?h3 ?h4 ?h5) ?k1 ?k2 ?k3 ?k4 ?k5 ?kK ?kd ?ku ?_; (case h0 => assumption); (case h1 => assumption); (case h2 => assumption); (case h3 => assumption); (case h4 => exact fmod_lo _ (by decide)); (case h5 => exact fmod_hi _ (by decide)); (case k1 => k_asm); (case k2 => k_asm); (case k3 => k_asm); (case k4 => k_asm); (case k5 => k_asm); (case kK => first | exact rfl | assumption); (case kd => ktr_room); (case ku => ktr_units)); intro r9 nw9 h9 tk9 F9 N9 O9; obtain ⟨rfl, x9, t9, rfl, h91, h92, h93, h94⟩ := O9; (try (have h95 := h94 (by assumption))); (try dsimp only); (try k_fold))
      k_with "mysub2" => (refine Hold.out ?_)
      k_steps
      all_goals
        refine Hold.mk ?_
        have hm1 := fmod_lo y9 (n := 4) (by decide)
        have hm2 := fmod_hi y9 (n := 4) (by decide)
        with_unfolding_all refine' item_list_intsR (vs := [_, _, _, _]) (ns := [2, 3, 5, 13]) ?hl (.cons _ _ (.cons _ _ (.cons _ _ (.cons _ _ .nil)))) ?h0 ?h1 ?hf ?_ ?hs
        case hl => is_list
        case h0 => exact hm1
        case h1 => simp only [List.length_cons, List.length_nil]; omega
        case hf => omega
        case hs => with_unfolding_all rfl
        intro tp
        have hpp := prime_bd hm1 hm2
        generalize List.getD [2, 3, 5, 13] (Int.toNat (Int.fmod y9 4)) (0 : Int) = p at hpp ⊢
        k_with "mysub2" => fail
        k_with "mystop" => ((with_reducible show wpAny _ _ (call (Value.ref _) _) _ _ _); refine Hold.out ?_)
        k_steps
        refine Hold.mk ?_
        have hgd := getD_bound hW1 hfa.small
        have hgD : Wh.getD (Int.toNat (-1 + (Wh.length : Int))) 0 = Wh.getD (Wh.length - 1) 0 := by rw [show Int.toNat (-1 + (Wh.length : Int)) = Wh.length - 1 by omega]
        (with_reducible show wpAny _ _ (call (Value.ref 33) _) _ _ _)
        k_dflt (refine' Cl.use (power_for_c _ la lk lv Wh p _ _ ?hl hIw hW1 ?hn2 hfa.small hpp.1 hpp.2) ?k1 ?k2 ?k3 ?k4 ?k5 ?kK ?kd ?ku ?_)
        case hn2 => omega
        case k1 => k_asm
        case k2 => k_asm
        case k3 => k_asm
        case k4 => k_asm
        case k5 => k_asm
        case kK => first | exact rfl | assumption
        case kd => ktr_room
        case ku => ktr_units
        case hl => k_mem
        intro r9 nw9 h9 tk9 F9 N9 O9
        obtain ⟨rfl, x33, t33, k33, u33, rfl, z0, z1, z2, z3, hPF, _⟩ := O9
        have hx33 := root_one z0 hxr0 hxr1 z2 z1 hxr2
        rw [hx33, ← hgD] at hPF
        have hks := pow_small hpp.1 hPF (goal_small hWl hxr0 hxr3 hgd.1 hgd.2)
        obtain ⟨hk1, hPF2, hPF3⟩ := hPF
        (try dsimp only); (try k_fold)
        k_steps
end
end Mine
set_option maxRecDepth 100000 in
set_option maxHeartbeats 8000000 in
theorem PySem.Challenge.cw_nn0244_01_holds : PySem.Challenge.rw_nn0244_01.Holds := by
  exact Mine.main_x

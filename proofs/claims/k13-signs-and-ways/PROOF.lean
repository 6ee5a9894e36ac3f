import PyProof.Rows.All
import Wide.All
import OpenK.AllK
import Wide.FinOn
import HandS.ForMost
import HandS.Wide
import HandS.Gcd
import HandS.More
import HandS.NoneIn
import HandS.IsInst
import HandS.Zip
import HandS.Style
import HandS.Conv
import HandS.Strs
import HandS.SetFor
import HandS.Codes
import KE.GoesEnum
import KE.GoesZip
import KE.GoesMore
import PySem.Challenge.RW_rimohms_k13_whole_signs_and_ways
set_option Elab.async false
set_option linter.all false
set_option maxRecDepth 100000
set_option maxHeartbeats 8000000
set_option exponentiation.threshold 20000
namespace K13
/-! ## Determinants by Laplace over lists of rows (functions) and lists of columns -/
/-- signed expansion of one row over the columns C; f takes the columns that are left -/
def lap (r : Nat → Rat) : List Nat → (List Nat → Rat) → Rat
  | [], _ => 0
  | c :: C, f => r c * f C - lap r C (fun D => f (c :: D))
def det : List (Nat → Rat) → List Nat → Rat
  | [], [] => 1
  | [], _ :: _ => 0
  | r :: R, C => lap r C (det R)
theorem lap_congr {r : Nat → Rat} : ∀ {C : List Nat} {f g : List Nat → Rat}, (∀ D, f D = g D) → lap r C f = lap r C g
  | [], _, _, _ => rfl
  | c :: C, f, g, h => by
    simp only [lap, h C]
    rw [lap_congr (C := C) (f := fun D => f (c :: D)) (g := fun D => g (c :: D)) (fun D => h _)]
theorem lap_zero {r : Nat → Rat} : ∀ {C : List Nat}, lap r C (fun _ => 0) = 0
  | [] => rfl
  | c :: C => by
    simp only [lap, lap_zero (C := C)]
    grind
theorem lap_sub {r : Nat → Rat} {k : Rat} : ∀ {C : List Nat} {f g : List Nat → Rat}, lap r C (fun D => f D - k * g D) = lap r C f - k * lap r C g
  | [], _, _ => by simp only [lap]; grind
  | c :: C, f, g => by
    simp only [lap]
    rw [lap_sub (C := C) (f := fun D => f (c :: D)) (g := fun D => g (c :: D))]
    grind
theorem lap_neg {r : Nat → Rat} {C : List Nat} {f : List Nat → Rat} : lap r C (fun D => - f D) = - lap r C f := by
  have h := lap_sub (r := r) (k := 1) (C := C) (f := fun _ => 0) (g := f)
  rw [lap_zero] at h
  rw [lap_congr (g := fun D => 0 - 1 * f D) (fun D => by grind), h]
  grind
theorem lap_row_sub {r s : Nat → Rat} {k : Rat} : ∀ {C : List Nat} {f : List Nat → Rat}, lap (fun j => r j - k * s j) C f = lap r C f - k * lap s C f
  | [], _ => by simp only [lap]; grind
  | c :: C, f => by
    simp only [lap]
    rw [lap_row_sub (C := C)]
    grind
/-- two rows next to each other change places -/
theorem lap_swap {r s : Nat → Rat} : ∀ {C : List Nat} {f : List Nat → Rat}, lap r C (fun D => lap s D f) = - lap s C (fun D => lap r D f)
  | [], _ => by simp only [lap]; grind
  | c :: C, f => by
    have h := lap_swap (r := r) (s := s) (C := C) (f := fun D => f (c :: D))
    simp only [lap]
    have e1 : lap r C (fun D => s c * f D - lap s D (fun D' => f (c :: D'))) = s c * lap r C f - lap r C (fun D => lap s D (fun D' => f (c :: D'))) := by
      have a := lap_sub (r := r) (k := s c) (C := C) (f := fun D => - lap s D (fun D' => f (c :: D'))) (g := fun D => - f D)
      rw [lap_neg, lap_neg] at a
      rw [lap_congr (g := fun D => - lap s D (fun D' => f (c :: D')) - s c * - f D) (fun D => by grind), a]
      grind
    have e2 : lap s C (fun D => r c * f D - lap r D (fun D' => f (c :: D'))) = r c * lap s C f - lap s C (fun D => lap r D (fun D' => f (c :: D'))) := by
      have a := lap_sub (r := s) (k := r c) (C := C) (f := fun D => - lap r D (fun D' => f (c :: D'))) (g := fun D => - f D)
      rw [lap_neg, lap_neg] at a
      rw [lap_congr (g := fun D => - lap r D (fun D' => f (c :: D')) - r c * - f D) (fun D => by grind), a]
      grind
    rw [e1, e2, h]
    grind
theorem det_swap {r s : Nat → Rat} {B : List (Nat → Rat)} : ∀ {A : List (Nat → Rat)} {C : List Nat}, det (A ++ r :: s :: B) C = - det (A ++ s :: r :: B) C
  | [], C => by
    show lap r C (fun D => lap s D (det B)) = - lap s C (fun D => lap r D (det B))
    exact lap_swap
  | a :: A, C => by
    show lap a C (det (A ++ r :: s :: B)) = - lap a C (det (A ++ s :: r :: B))
    rw [lap_congr (g := fun D => - det (A ++ s :: r :: B) D) (fun D => det_swap), lap_neg]
/-- the sign of n transpositions -/
def sg (n : Nat) : Rat := if n % 2 = 0 then 1 else -1
theorem sg_succ (n : Nat) : sg (n + 1) = - sg n := by
  unfold sg
  by_cases h : n % 2 = 0
  · rw [if_pos h, if_neg (by omega)]
  · rw [if_neg h, if_pos (by omega)]; grind
theorem sg_zero : sg 0 = 1 := rfl
theorem sg_sq (n : Nat) : sg n * sg n = 1 := by
  unfold sg; split <;> grind
theorem sg_add (m : Nat) : ∀ n, sg (m + n) = sg m * sg n
  | 0 => by rw [Nat.add_zero, sg_zero]; grind
  | n + 1 => by rw [← Nat.add_assoc, sg_succ, sg_succ, sg_add m n]; grind
/-- a row is brought to the front -/
theorem det_front {r : Nat → Rat} {B : List (Nat → Rat)} : ∀ {A : List (Nat → Rat)} {C : List Nat}, det (A ++ r :: B) C = sg A.length * det (r :: (A ++ B)) C
  | [], C => by simp only [List.nil_append, List.length_nil, sg_zero]; grind
  | a :: A, C => by
    show lap a C (det (A ++ r :: B)) = sg (A.length + 1) * det (r :: a :: (A ++ B)) C
    have e : det (r :: a :: (A ++ B)) C = - det (a :: r :: (A ++ B)) C := det_swap (A := [])
    rw [e]
    show _ = sg (A.length + 1) * - lap a C (det (r :: (A ++ B)))
    have h := lap_sub (r := a) (k := - sg A.length) (C := C) (f := fun _ => 0) (g := det (r :: (A ++ B)))
    rw [lap_zero] at h
    rw [lap_congr (g := fun D => 0 - - sg A.length * det (r :: (A ++ B)) D) (fun D => by rw [det_front]; grind), h, sg_succ]
    grind
theorem det_shift {r : Nat → Rat} {A B C : List (Nat → Rat)} {D : List Nat} : det (A ++ r :: (B ++ C)) D = sg B.length * det (A ++ (B ++ r :: C)) D := by
  have h1 := det_front (r := r) (A := A) (B := B ++ C) (C := D)
  have h2 := det_front (r := r) (A := A ++ B) (B := C) (C := D)
  rw [List.append_assoc, List.append_assoc, List.length_append, sg_add] at h2
  rw [h1, h2]
  have a := sg_sq A.length
  have b := sg_sq B.length
  grind
/-- two equal rows -/
theorem det_same {r : Nat → Rat} {A B : List (Nat → Rat)} {C : List Nat} : det (r :: (A ++ r :: B)) C = 0 := by
  have h1 := det_shift (r := r) (A := []) (B := A) (C := r :: B) (D := C)
  have h2 : det (r :: (A ++ r :: B)) C = sg A.length * det (A ++ r :: r :: B) C := h1
  have h3 : det (A ++ r :: r :: B) C = - det (A ++ r :: r :: B) C := det_swap
  have h4 : det (A ++ r :: r :: B) C = 0 := by grind
  rw [h2, h4]
  grind
theorem det_row_sub {r s : Nat → Rat} {k : Rat} {B : List (Nat → Rat)} : ∀ {A : List (Nat → Rat)} {C : List Nat}, det (A ++ (fun j => r j - k * s j) :: B) C = det (A ++ r :: B) C - k * det (A ++ s :: B) C
  | [], C => lap_row_sub
  | a :: A, C => by
    show lap a C (det (A ++ (fun j => r j - k * s j) :: B)) = lap a C (det (A ++ r :: B)) - k * lap a C (det (A ++ s :: B))
    rw [lap_congr (g := fun D => det (A ++ r :: B) D - k * det (A ++ s :: B) D) (fun D => det_row_sub), lap_sub]
/-- multiples of the first row are taken from the others -/
theorem det_clear {v : Nat → Rat} {f : (Nat → Rat) → Rat} {C : List Nat} : ∀ {R A : List (Nat → Rat)}, det (v :: (A ++ R.map (fun r => fun j => r j - f r * v j))) C = det (v :: (A ++ R)) C
  | [], _ => rfl
  | r :: R, A => by
    have e := det_row_sub (r := r) (s := v) (k := f r) (A := v :: A) (B := R.map (fun r => fun j => r j - f r * v j)) (C := C)
    have z : det (v :: (A ++ v :: R.map (fun r => fun j => r j - f r * v j))) C = 0 := det_same
    have h := det_clear (v := v) (f := f) (C := C) (R := R) (A := A ++ [r])
    simp only [List.append_assoc, List.singleton_append, List.cons_append, List.nil_append] at h e
    rw [List.map_cons, e, z, h]
    grind
/-- a column of zeros -/
theorem det_zero_col {c : Nat} : ∀ {R : List (Nat → Rat)} {C : List Nat}, (∀ r, r ∈ R → r c = 0) → det R (c :: C) = 0
  | [], _, _ => rfl
  | r :: R, C, h => by
    show r c * det R C - lap r C (fun D => det R (c :: D)) = 0
    rw [lap_congr (g := fun _ => 0) (fun D => det_zero_col fun s hs => h s (List.mem_cons_of_mem _ hs)), lap_zero, h r List.mem_cons_self]
    grind
theorem det_peel0 {v : Nat → Rat} {c : Nat} {R : List (Nat → Rat)} {C : List Nat} (h : ∀ r, r ∈ R → r c = 0) : det (v :: R) (c :: C) = v c * det R C := by
  show v c * det R C - lap v C (fun D => det R (c :: D)) = v c * det R C
  rw [lap_congr (g := fun _ => 0) (fun D => det_zero_col h), lap_zero]
  grind
/-- elimination of one node: the matrix that is left -/
def elim (K : Nat → Nat → Rat) (v : Nat) : Nat → Nat → Rat := fun i j => K i j - K i v / K v v * K v j
theorem det_peel {K : Nat → Nat → Rat} {v : Nat} {R C : List Nat} (hv : K v v ≠ 0) : det ((v :: R).map K) (v :: C) = K v v * det (R.map (elim K v)) C := by
  have h := det_clear (v := K v) (f := fun r => r v / K v v) (C := v :: C) (R := R.map K) (A := [])
  rw [List.map_map] at h
  have h2 : det (K v :: R.map K) (v :: C) = det (K v :: R.map (elim K v)) (v :: C) := h.symm
  rw [List.map_cons, h2, det_peel0]
  intro r hr
  obtain ⟨i, _, rfl⟩ := List.mem_map.mp hr
  show K i v - K i v / K v v * K v v = 0
  grind
/-! ### the terms of an expansion -/
theorem lap_nonneg {s : Rat} {r : Nat → Rat} : ∀ {C : List Nat} {f : List Nat → Rat}, (∀ A c B, C = A ++ c :: B → 0 ≤ s * sg A.length * r c * f (A ++ B)) → 0 ≤ s * lap r C f
  | [], f, _ => by simp only [lap]; grind
  | c :: C, f, h => by
    have h0 := h [] c C rfl
    have h1 := lap_nonneg (s := - s) (r := r) (C := C) (f := fun D => f (c :: D)) (fun A d B e => by
      have x := h (c :: A) d B (by rw [e]; rfl)
      rw [List.length_cons, sg_succ] at x
      simp only [List.cons_append] at x
      grind)
    simp only [lap, List.length_nil, sg_zero, List.nil_append] at *
    grind
theorem lap_pos {s : Rat} {r : Nat → Rat} : ∀ {C : List Nat} {f : List Nat → Rat}, (∀ A c B, C = A ++ c :: B → 0 ≤ s * sg A.length * r c * f (A ++ B)) →
    (∃ A c B, C = A ++ c :: B ∧ 0 < s * sg A.length * r c * f (A ++ B)) → 0 < s * lap r C f
  | [], f, _, ⟨A, c, B, e, _⟩ => by cases A <;> cases e
  | c :: C, f, h, ⟨A, d, B, e, hp⟩ => by
    have h0 := h [] c C rfl
    have hh : ∀ A d B, C = A ++ d :: B → 0 ≤ - s * sg A.length * r d * f (c :: (A ++ B)) := fun A d B e => by
      have x := h (c :: A) d B (by rw [e]; rfl)
      rw [List.length_cons, sg_succ] at x
      simp only [List.cons_append] at x
      grind
    simp only [lap, List.length_nil, sg_zero, List.nil_append] at *
    cases A with
    | nil =>
      have e2 : c = d ∧ C = B := by simpa using e
      obtain ⟨rfl, rfl⟩ := e2
      have h1 := lap_nonneg (s := - s) (r := r) (C := C) (f := fun D => f (c :: D)) hh
      simp only [List.length_nil, sg_zero, List.nil_append] at hp
      grind
    | cons a A =>
      have e2 : c = a ∧ C = A ++ d :: B := by simpa using e
      obtain ⟨rfl, e3⟩ := e2
      have h1 := lap_pos (s := - s) (r := r) (C := C) (f := fun D => f (c :: D)) hh ⟨A, d, B, e3, by
        rw [List.length_cons, sg_succ] at hp
        simp only [List.cons_append] at hp
        grind⟩
      grind
theorem lap_null {r : Nat → Rat} {C : List Nat} {f : List Nat → Rat} (h : ∀ A c B, C = A ++ c :: B → r c * f (A ++ B) = 0) : lap r C f = 0 := by
  have h1 := lap_nonneg (s := 1) (r := r) (C := C) (f := f) fun A c B e => by
    have x := h A c B e
    have y : 1 * sg A.length * r c * f (A ++ B) = sg A.length * (r c * f (A ++ B)) := by grind
    rw [y, x]; grind
  have h2 := lap_nonneg (s := -1) (r := r) (C := C) (f := f) fun A c B e => by
    have x := h A c B e
    have y : -1 * sg A.length * r c * f (A ++ B) = - sg A.length * (r c * f (A ++ B)) := by grind
    rw [y, x]; grind
  grind
end K13
namespace K13
/-! ## Laplacian matrices, their principal minors, and the signs of the others -/
def sumR : List Rat → Rat
  | [] => 0
  | x :: xs => x + sumR xs
theorem sumR_map_sub {f g : Nat → Rat} {k : Rat} : ∀ {V : List Nat}, sumR (V.map fun j => f j - k * g j) = sumR (V.map f) - k * sumR (V.map g)
  | [] => by simp only [List.map_nil, sumR]; grind
  | v :: V => by
    simp only [List.map_cons, sumR]
    rw [sumR_map_sub (V := V)]
    grind
theorem sumR_erase {f : Nat → Rat} {v : Nat} : ∀ {V : List Nat}, v ∈ V → sumR (V.map f) = f v + sumR ((V.erase v).map f)
  | [], h => by cases h
  | u :: V, h => by
    by_cases e : u = v
    · subst e
      rw [List.erase_cons_head]
      rfl
    · have h2 : v ∈ V := by
        rcases List.mem_cons.mp h with rfl | h
        · exact absurd rfl e
        · exact h
      rw [List.erase_cons_tail (by simpa using e)]
      simp only [List.map_cons, sumR]
      rw [sumR_erase h2]
      grind
theorem sumR_nonpos {f : Nat → Rat} : ∀ {V : List Nat}, (∀ j, j ∈ V → f j ≤ 0) → sumR (V.map f) ≤ 0
  | [], _ => by simp only [List.map_nil, sumR]; grind
  | v :: V, h => by
    have h1 := h v List.mem_cons_self
    have h2 := sumR_nonpos (f := f) (V := V) fun j hj => h j (List.mem_cons_of_mem _ hj)
    simp only [List.map_cons, sumR]
    grind
theorem sumR_neg {f : Nat → Rat} {V : List Nat} {u : Nat} (h : ∀ j, j ∈ V → f j ≤ 0) (hu : u ∈ V) (h1 : f u < 0) : sumR (V.map f) < 0 := by
  rw [sumR_erase hu]
  have h2 := sumR_nonpos (f := f) (V := V.erase u) fun j hj => h j (List.mem_of_mem_erase hj)
  grind
structure Lapl (V : List Nat) (K : Nat → Nat → Rat) : Prop where
  nd : V.Nodup
  sym : ∀ i j, i ∈ V → j ∈ V → K i j = K j i
  off : ∀ i j, i ∈ V → j ∈ V → i ≠ j → K i j ≤ 0
  sum : ∀ i, i ∈ V → sumR (V.map (K i)) = 0
inductive Reach (V : List Nat) (K : Nat → Nat → Rat) (I : List Nat) : Nat → Prop where
  | out {i : Nat} : i ∈ V → ¬ i ∈ I → Reach V K I i
  | step {i j : Nat} : i ∈ V → j ∈ V → i ≠ j → K i j ≠ 0 → Reach V K I j → Reach V K I i
theorem Reach.sub {V : List Nat} {K : Nat → Nat → Rat} {I J : List Nat} (hs : ∀ j, j ∈ J → j ∈ I) {i : Nat} (h : Reach V K I i) : Reach V K J i := by
  induction h with
  | out h1 h2 => exact .out h1 fun h => h2 (hs _ h)
  | step h1 h2 h3 h4 _ ih => exact .step h1 h2 h3 h4 ih
theorem Reach.mem {V : List Nat} {K : Nat → Nat → Rat} {I : List Nat} {i : Nat} (h : Reach V K I i) : i ∈ V := by
  cases h <;> assumption
theorem pivot_pos {V : List Nat} {K : Nat → Nat → Rat} {I : List Nat} {v : Nat} (L : Lapl V K) (hI : v ∈ I) (h : Reach V K I v) : 0 < K v v := by
  cases h with
  | out _ h2 => exact absurd hI h2
  | @step _ j h1 h2 h3 h4 h5 =>
    have e := L.sum v h1
    rw [sumR_erase h1] at e
    have hj : j ∈ V.erase v := (L.nd.mem_erase_iff).mpr ⟨fun e => h3 e.symm, h2⟩
    have h6 := L.off v j h1 h2 h3
    have h7 : K v j < 0 := by grind
    have h8 := sumR_neg (f := K v) (V := V.erase v) (u := j) (fun k hk => by
      have h9 := (L.nd.mem_erase_iff).mp hk
      exact L.off v k h1 h9.2 (fun e => h9.1 e.symm)) hj h7
    grind
theorem mul_nn {a b : Rat} (ha : a ≤ 0) (hb : b ≤ 0) : 0 ≤ a * b := by
  have h := Rat.mul_nonneg (a := -a) (b := -b) (by grind) (by grind)
  grind
theorem mul_np {a b : Rat} (ha : a < 0) (hb : b < 0) : 0 < a * b := by
  have h := Rat.mul_pos (a := -a) (b := -b) (by grind) (by grind)
  grind
theorem elim_le {V : List Nat} {K : Nat → Nat → Rat} {v i j : Nat} (L : Lapl V K) (hp : 0 < K v v) (hv : v ∈ V) (hi : i ∈ V) (hj : j ∈ V) (hiv : i ≠ v) (hjv : j ≠ v) : elim K v i j ≤ K i j := by
  have h1 := L.off i v hi hv hiv
  have h2 := L.off v j hv hj (fun e => hjv e.symm)
  have h3 := mul_nn h1 h2
  have h4 : elim K v i j = K i j - (K i v * K v j) / K v v := by unfold elim; grind
  have h5 : 0 ≤ (K i v * K v j) / K v v := by
    rw [Rat.div_def]
    exact Rat.mul_nonneg h3 (by have := Rat.inv_pos.mpr hp; grind)
  grind
theorem elim_lt {V : List Nat} {K : Nat → Nat → Rat} {v i j : Nat} (L : Lapl V K) (hp : 0 < K v v) (hv : v ∈ V) (hi : i ∈ V) (hj : j ∈ V) (hiv : i ≠ v) (hjv : j ≠ v) (hij : i ≠ j) (n1 : K i v ≠ 0) (n2 : K v j ≠ 0) : elim K v i j < 0 := by
  have h0 := L.off i j hi hj hij
  have h1 := L.off i v hi hv hiv
  have h2 := L.off v j hv hj (fun e => hjv e.symm)
  have h3 := mul_np (a := K i v) (b := K v j) (by grind) (by grind)
  have h4 : elim K v i j = K i j - (K i v * K v j) / K v v := by unfold elim; grind
  have h5 : 0 < (K i v * K v j) / K v v := by
    rw [Rat.div_def]
    exact Rat.mul_pos h3 (Rat.inv_pos.mpr hp)
  grind
theorem Lapl.elim {V : List Nat} {K : Nat → Nat → Rat} {v : Nat} (L : Lapl V K) (hv : v ∈ V) (hp : 0 < K v v) : Lapl (V.erase v) (K13.elim K v) := by
  refine ⟨L.nd.erase v, fun i j hi hj => ?_, fun i j hi hj hij => ?_, fun i hi => ?_⟩
  · have hi := (L.nd.mem_erase_iff).mp hi
    have hj := (L.nd.mem_erase_iff).mp hj
    have a := L.sym i j hi.2 hj.2
    have b := L.sym i v hi.2 hv
    have c := L.sym v j hv hj.2
    unfold K13.elim
    grind
  · have hi := (L.nd.mem_erase_iff).mp hi
    have hj := (L.nd.mem_erase_iff).mp hj
    have a := elim_le L hp hv hi.2 hj.2 hi.1 hj.1
    have b := L.off i j hi.2 hj.2 hij
    grind
  · have hi := (L.nd.mem_erase_iff).mp hi
    have e : sumR ((V.erase v).map (K13.elim K v i)) = sumR ((V.erase v).map (K i)) - K i v / K v v * sumR ((V.erase v).map (K v)) := sumR_map_sub
    have a := L.sum i hi.2
    have b := L.sum v hv
    rw [sumR_erase hv] at a b
    rw [e]
    grind
theorem Reach.elim {V : List Nat} {K : Nat → Nat → Rat} {v : Nat} {I : List Nat} (L : Lapl V K) (hv : v ∈ V) (hp : 0 < K v v) {i : Nat} (h : Reach V K (v :: I) i) :
    (i ≠ v → Reach (V.erase v) (K13.elim K v) I i) ∧ (i = v → ∀ x, x ∈ V → x ≠ v → K x v ≠ 0 → Reach (V.erase v) (K13.elim K v) I x) := by
  have er : ∀ {j}, j ∈ V → j ≠ v → j ∈ V.erase v := fun h1 h2 => (L.nd.mem_erase_iff).mpr ⟨h2, h1⟩
  induction h with
  | @out i h1 h2 =>
    refine ⟨fun hn => .out (er h1 hn) fun h => h2 (List.mem_cons_of_mem _ h), fun e => ?_⟩
    subst e
    exact absurd List.mem_cons_self h2
  | @step i j h1 h2 h3 h4 _ ih =>
    refine ⟨fun hn => ?_, fun e x hx hxv hK => ?_⟩
    · by_cases hj : j = v
      · exact ih.2 hj i h1 hn (by rw [← hj]; exact h4)
      · refine .step (er h1 hn) (er h2 hj) h3 ?_ (ih.1 hj)
        have a := elim_le L hp hv h1 h2 hn hj
        have b := L.off i j h1 h2 h3
        grind
    · subst e
      have hj : j ≠ i := fun e => h3 e.symm
      have rj := ih.1 hj
      by_cases hxj : x = j
      · subst hxj
        exact rj
      · refine .step (er hx hxv) (er h2 hj) hxj ?_ rj
        have a := elim_lt L hp hv hx h2 hxv hj hxj hK h4
        grind
/-- principal minors are positive -/
theorem minor_pos : ∀ {I V : List Nat} {K : Nat → Nat → Rat}, Lapl V K → I.Nodup → (∀ i, i ∈ I → Reach V K I i) → 0 < det (I.map K) I
  | [], _, _, _, _, _ => by show (0 : Rat) < 1; decide
  | v :: I, V, K, L, nd, h => by
    have hv := h v List.mem_cons_self
    have hp := pivot_pos L List.mem_cons_self hv
    have nd2 := List.nodup_cons.mp nd
    rw [det_peel (by grind)]
    refine Rat.mul_pos hp (minor_pos (L.elim hv.mem hp) nd2.2 fun i hi => ?_)
    exact ((h i (List.mem_cons_of_mem _ hi)).elim L hv.mem hp).1 fun e => nd2.1 (e ▸ hi)
/-- all nodes of I are eliminated -/
def elims (K : Nat → Nat → Rat) (I : List Nat) : Nat → Nat → Rat := I.foldl elim K
theorem schur {P Q : List Nat} : ∀ {I V : List Nat} {K : Nat → Nat → Rat}, Lapl V K → I.Nodup → (∀ i, i ∈ I → Reach V K I i) → det ((I ++ P).map K) (I ++ Q) = det (I.map K) I * det (P.map (elims K I)) Q
  | [], _, K, _, _, _ => by
    show det (P.map K) Q = 1 * det (P.map (elims K [])) Q
    have e : elims K [] = K := rfl
    rw [e]
    grind
  | v :: I, V, K, L, nd, h => by
    have hv := h v List.mem_cons_self
    have hp := pivot_pos L List.mem_cons_self hv
    have nd2 := List.nodup_cons.mp nd
    rw [List.cons_append, List.cons_append, det_peel (by grind), det_peel (by grind)]
    rw [schur (L.elim hv.mem hp) nd2.2 fun i hi => ((h i (List.mem_cons_of_mem _ hi)).elim L hv.mem hp).1 fun e => nd2.1 (e ▸ hi)]
    have e : elims K (v :: I) = elims (elim K v) I := rfl
    rw [e]
    grind
end K13
namespace K13
/-! ## The signs of the other minors: linkages -/
inductive Link (adj : Nat → Nat → Prop) : List Nat → List Nat → List Nat → Prop where
  | nil {Q I : List Nat} : Link adj [] Q I
  | done {p q : Nat} {P A B I : List Nat} : adj p q → Link adj P (A ++ B) I → Link adj (p :: P) (A ++ q :: B) I
  | go {p j : Nat} {P Q A B : List Nat} : adj p j → Link adj (j :: P) Q (A ++ B) → Link adj (p :: P) Q (A ++ j :: B)
/-- a linkage that does not keep the order of the tails -/
inductive Bad (adj : Nat → Nat → Prop) : List Nat → List Nat → List Nat → Prop where
  | cross {p q a : Nat} {P A B I : List Nat} : adj p q → Link adj P (a :: A ++ B) I → Bad adj (p :: P) (a :: A ++ q :: B) I
  | next {p q : Nat} {P B I : List Nat} : adj p q → Bad adj P B I → Bad adj (p :: P) (q :: B) I
  | go {p j : Nat} {P Q A B : List Nat} : adj p j → Bad adj (j :: P) Q (A ++ B) → Bad adj (p :: P) Q (A ++ j :: B)
/-- the signed minor -/
def E (K : Nat → Nat → Rat) (P Q I : List Nat) : Rat := sg P.length * det ((I ++ P).map K) (I ++ Q)
theorem E_expand {K : Nat → Nat → Rat} {p : Nat} {P Q I : List Nat} : E K (p :: P) Q I = (sg (P.length + 1) * sg I.length) * lap (K p) (I ++ Q) (det ((I ++ P).map K)) := by
  unfold E
  rw [List.map_append, List.map_cons, det_front, List.length_map, ← List.map_append]
  show _ * (_ * lap (K p) (I ++ Q) (det ((I ++ P).map K))) = _
  rw [List.length_cons]
  grind
theorem E_go {K : Nat → Nat → Rat} {p c : Nat} {P Q A B : List Nat} :
    (sg (P.length + 1) * sg (A ++ c :: B).length) * sg A.length * K p c * det ((A ++ c :: B ++ P).map K) (A ++ (B ++ Q)) = - K p c * E K (c :: P) Q (A ++ B) := by
  unfold E
  have h := det_shift (r := K c) (A := A.map K) (B := B.map K) (C := P.map K) (D := A ++ (B ++ Q))
  have e1 : (A ++ c :: B ++ P).map K = A.map K ++ K c :: (B.map K ++ P.map K) := by simp
  have e2 : (A ++ B ++ c :: P).map K = A.map K ++ (B.map K ++ K c :: P.map K) := by simp
  rw [e1, e2, h, List.append_assoc, List.length_map]
  have e3 : (A ++ c :: B).length = (A.length + B.length) + 1 := by simp; omega
  rw [e3, sg_succ (A.length + B.length), sg_add A.length B.length, List.length_cons]
  have a := sg_sq A.length
  have b := sg_sq B.length
  generalize det (A.map K ++ (B.map K ++ K c :: P.map K)) (A ++ (B ++ Q)) = d
  generalize sg A.length = x at *
  generalize sg B.length = y at *
  generalize sg (P.length + 1) = z
  generalize K p c = k
  clear h e1 e2 e3
  have h1 : z * -(x * y) * x * k * (y * d) = - (z * k * d) * (x * x) * (y * y) := by grind
  rw [h1, a, b]
  grind
theorem E_done {K : Nat → Nat → Rat} {p c : Nat} {P I A B : List Nat} :
    (sg (P.length + 1) * sg I.length) * sg (I ++ A).length * K p c * det ((I ++ P).map K) (I ++ (A ++ B)) = - K p c * (sg A.length * E K P (A ++ B) I) := by
  unfold E
  rw [List.length_append, sg_add I.length A.length, sg_succ P.length]
  have a := sg_sq I.length
  generalize det ((I ++ P).map K) (I ++ (A ++ B)) = d
  generalize sg A.length = x at *
  generalize sg P.length = y at *
  generalize sg I.length = z at *
  generalize K p c = k
  have h1 : -y * z * (z * x) * k * d = - (y * x * k * d) * (z * z) := by grind
  rw [h1, a]
  grind
theorem app_split {I Q A B : List Nat} {c : Nat} (h : I ++ Q = A ++ c :: B) : (∃ B1, I = A ++ c :: B1 ∧ B = B1 ++ Q) ∨ (∃ A1, A = I ++ A1 ∧ Q = A1 ++ c :: B) := by
  rcases List.append_eq_append_iff.mp h with ⟨L, e1, e2⟩ | ⟨L, e1, e2⟩
  · exact Or.inr ⟨L, e1, e2⟩
  · cases L with
    | nil =>
      simp only [List.nil_append, List.append_nil] at e1 e2
      exact Or.inr ⟨[], by simp [e1], by simpa using e2.symm⟩
    | cons x L =>
      have e3 : c = x ∧ B = L ++ Q := by simpa using e2
      obtain ⟨rfl, rfl⟩ := e3
      exact Or.inl ⟨L, e1, rfl⟩
/-- K p j is not 0: the two are joined -/
def adjK (K : Nat → Nat → Rat) (i j : Nat) : Prop := K i j ≠ 0
theorem E_zero {K : Nat → Nat → Rat} : ∀ (n : Nat) {P Q I : List Nat}, P.length + I.length = n → ¬ Link (adjK K) P Q I → E K P Q I = 0
  | n, [], Q, I, _, h => absurd .nil h
  | 0, p :: P, Q, I, e, _ => by simp at e
  | n + 1, p :: P, Q, I, e, h => by
    rw [E_expand]
    have z : lap (K p) (I ++ Q) (det ((I ++ P).map K)) = 0 := by
      refine lap_null fun A c B ec => ?_
      by_cases hk : K p c = 0
      · rw [hk]; grind
      rcases app_split ec with ⟨B1, rfl, rfl⟩ | ⟨A1, rfl, rfl⟩
      · have h0 : E K (c :: P) Q (A ++ B1) = 0 := E_zero n (by simp at e ⊢; omega) fun hl => h (.go hk hl)
        have h1 := E_go (K := K) (p := p) (c := c) (P := P) (Q := Q) (A := A) (B := B1)
        rw [h0] at h1
        have a := sg_sq (P.length + 1)
        have b := sg_sq (A ++ c :: B1).length
        have d := sg_sq A.length
        have h2 : det ((A ++ c :: B1 ++ P).map K) (A ++ (B1 ++ Q)) = 0 := by
          have x : sg (P.length + 1) ≠ 0 := by grind
          have y : sg (A ++ c :: B1).length ≠ 0 := by grind
          have z : sg A.length ≠ 0 := by grind
          grind
        rw [h2]; grind
      · have h0 : E K P (A1 ++ B) I = 0 := E_zero n (by simp at e ⊢; omega) fun hl => h (.done hk hl)
        have h1 : det ((I ++ P).map K) (I ++ (A1 ++ B)) = 0 := by
          unfold E at h0
          have a := sg_sq P.length
          have x : sg P.length ≠ 0 := by grind
          grind
        rw [List.append_assoc, h1]; grind
    rw [z]; grind
theorem E_sign {V : List Nat} {K : Nat → Nat → Rat} (L : Lapl V K) : ∀ (n : Nat) {P Q I : List Nat}, P.length + I.length = n → P.length = Q.length → (I ++ Q).Nodup →
    (∀ i, i ∈ I ++ Q → i ∈ V) → (∀ p, p ∈ P → p ∈ V ∧ ¬ p ∈ I ++ Q) → (∀ i, i ∈ I → Reach V K I i) → ¬ Bad (adjK K) P Q I → 0 ≤ E K P Q I ∧ (Link (adjK K) P Q I → 0 < E K P Q I)
  | n, [], Q, I, _, hl, nd, hv, hp, hr, _ => by
    have hQ : Q = [] := List.length_eq_zero_iff.mp hl.symm
    subst hQ
    have h := minor_pos L (List.nodup_append.mp nd).1 hr
    have e : E K [] [] I = det (I.map K) I := by
      unfold E
      simp only [List.append_nil, List.length_nil, sg_zero]
      grind
    rw [e]
    exact ⟨by grind, fun _ => h⟩
  | 0, p :: P, Q, I, e, _, _, _, _, _, _ => by simp at e
  | n + 1, p :: P, Q, I, e, hl, nd, hv, hp, hr, hb => by
    have hpp := hp p List.mem_cons_self
    have kle : ∀ c, c ∈ I ++ Q → K p c ≤ 0 := fun c hc => L.off p c hpp.1 (hv c hc) fun e => hpp.2 (e ▸ hc)
    -- the two kinds of terms
    have G : ∀ A c B, I = A ++ c :: B → K p c ≠ 0 → 0 ≤ E K (c :: P) Q (A ++ B) ∧ (Link (adjK K) (c :: P) Q (A ++ B) → 0 < E K (c :: P) Q (A ++ B)) := fun A c B eI hk => by
      subst eI
      have sub : ∀ i, i ∈ A ++ B → i ∈ A ++ c :: B := fun i hi => by
        rcases List.mem_append.mp hi with h | h
        · exact List.mem_append_left _ h
        · exact List.mem_append_right _ (List.mem_cons_of_mem _ h)
      have nd1 : (c :: (A ++ B ++ Q)).Nodup := by
        have x : (A ++ c :: (B ++ Q)).Nodup := by simpa using nd
        have y := (List.perm_middle (a := c) (l₁ := A) (l₂ := B ++ Q)).nodup_iff.mp x
        simpa using y
      have nd2 := List.nodup_cons.mp nd1
      refine E_sign L n (by simp at e ⊢; omega) (by simpa using hl) nd2.2 (fun i hi => hv i ?_) (fun r hr => ?_) (fun i hi => (hr i (sub i hi)).sub sub) fun h => hb (.go hk h)
      · rcases List.mem_append.mp hi with h | h
        · exact List.mem_append_left _ (sub i h)
        · exact List.mem_append_right _ h
      · rcases List.mem_cons.mp hr with rfl | hr
        · exact ⟨hv r (by simp), nd2.1⟩
        · have x := hp r (List.mem_cons_of_mem _ hr)
          refine ⟨x.1, fun h => x.2 ?_⟩
          rcases List.mem_append.mp h with h | h
          · exact List.mem_append_left _ (sub r h)
          · exact List.mem_append_right _ h
    have D : ∀ c B, Q = c :: B → K p c ≠ 0 → 0 ≤ E K P B I ∧ (Link (adjK K) P B I → 0 < E K P B I) := fun c B eQ hk => by
      subst eQ
      have sub : ∀ i, i ∈ I ++ B → i ∈ I ++ c :: B := fun i hi => by
        rcases List.mem_append.mp hi with h | h
        · exact List.mem_append_left _ h
        · exact List.mem_append_right _ (List.mem_cons_of_mem _ h)
      have nd1 : (I ++ B).Nodup := by
        have y := (List.perm_middle (a := c) (l₁ := I) (l₂ := B)).nodup_iff.mp nd
        exact (List.nodup_cons.mp y).2
      refine E_sign L n (by simp at e ⊢; omega) (by simpa using hl) nd1 (fun i hi => hv i (sub i hi)) (fun r hr => ?_) hr fun h => hb (.next hk h)
      have x := hp r (List.mem_cons_of_mem _ hr)
      exact ⟨x.1, fun h => x.2 (sub r h)⟩
    rw [E_expand]
    have T : ∀ A c B, I ++ Q = A ++ c :: B → 0 ≤ (sg (P.length + 1) * sg I.length) * sg A.length * K p c * det ((I ++ P).map K) (A ++ B) := fun A c B ec => by
      by_cases hk : K p c = 0
      · rw [hk]; grind
      have hle := kle c (by rw [ec]; simp)
      rcases app_split ec with ⟨B1, eI, rfl⟩ | ⟨A1, rfl, eQ⟩
      · have g := (G A c B1 eI hk).1
        subst eI
        rw [E_go]
        exact Rat.mul_nonneg (by grind) g
      · rw [List.append_assoc, E_done]
        cases A1 with
        | nil =>
          have g := (D c B eQ hk).1
          rw [List.nil_append, List.length_nil, sg_zero]
          have h1 := Rat.mul_nonneg (a := - K p c) (by grind) g
          grind
        | cons a A1 =>
          subst eQ
          have z : E K P (a :: A1 ++ B) I = 0 := E_zero (P.length + I.length) rfl fun h => hb (.cross hk h)
          rw [z]; grind
    refine ⟨lap_nonneg T, fun hL => lap_pos T ?_⟩
    generalize eR : p :: P = R at hL
    cases hL with
    | nil => cases eR
    | @done p' q P' A B I hk h =>
      have e2 : p = p' ∧ P = P' := by simpa using eR
      obtain ⟨rfl, rfl⟩ := e2
      refine ⟨I ++ A, q, B, by simp, ?_⟩
      rw [List.append_assoc, E_done]
      have hle := kle q (by simp)
      cases A with
      | nil =>
        have g := (D q B rfl hk).2 h
        rw [List.nil_append, List.length_nil, sg_zero]
        have hn : K p q ≠ 0 := hk
        have h1 := Rat.mul_pos (a := - K p q) (by grind) g
        grind
      | cons a A => exact absurd (Bad.cross hk h) hb
    | @go p' j P' Q A B hk h =>
      have e2 : p = p' ∧ P = P' := by simpa using eR
      obtain ⟨rfl, rfl⟩ := e2
      refine ⟨A, j, B ++ Q, by simp, ?_⟩
      rw [E_go]
      have hle := kle j (by simp)
      have g := (G A j B rfl hk).2 h
      have hn : K p j ≠ 0 := hk
      exact Rat.mul_pos (by grind) g
end K13
namespace K13
/-! ## Drawings: edge sets cut the disc -/
inductive Pth (adj : Nat → Nat → Prop) : Nat → Nat → List Nat → Prop where
  | one (a : Nat) : Pth adj a a [a]
  | cons {a b c : Nat} {l : List Nat} : adj a b → Pth adj b c l → Pth adj a c (a :: l)
theorem Link.path {adj : Nat → Nat → Prop} {P Q I : List Nat} (h : Link adj P Q I) : P.length = Q.length → ∀ t, t ∈ Q → ∃ b l, b ∈ P ∧ Pth adj b t l ∧ ∀ x, x ∈ l → x = b ∨ x ∈ I ∨ x ∈ Q := by
  induction h with
  | nil =>
    intro e t ht
    rw [List.length_eq_zero_iff.mp e.symm] at ht
    cases ht
  | @done p q P A B I hk hl ih =>
    intro e t ht
    by_cases hq : t = q
    · subst hq
      exact ⟨p, [p, t], List.mem_cons_self, .cons hk (.one t), fun x hx => by simp at hx ⊢; rcases hx with rfl | rfl <;> simp⟩
    · have ht2 : t ∈ A ++ B := by simp at ht ⊢; rcases ht with h | h | h <;> simp_all
      obtain ⟨b, l, hb, hp, hx⟩ := ih (by simp at e ⊢; omega) t ht2
      refine ⟨b, l, List.mem_cons_of_mem _ hb, hp, fun x h => ?_⟩
      rcases hx x h with h | h | h
      · exact Or.inl h
      · exact Or.inr (Or.inl h)
      · refine Or.inr (Or.inr ?_)
        simp at h ⊢
        rcases h with h | h <;> simp [h]
  | @go p j P Q A B hk hl ih =>
    intro e t ht
    obtain ⟨b, l, hb, hp, hx⟩ := ih (by simpa using e) t ht
    rcases List.mem_cons.mp hb with rfl | hb
    · refine ⟨p, p :: l, List.mem_cons_self, .cons hk hp, fun x h => ?_⟩
      rcases List.mem_cons.mp h with rfl | h
      · exact Or.inl rfl
      · rcases hx x h with rfl | h | h
        · exact Or.inr (Or.inl (by simp))
        · refine Or.inr (Or.inl ?_)
          simp at h ⊢
          rcases h with h | h <;> simp [h]
        · exact Or.inr (Or.inr h)
    · refine ⟨b, l, List.mem_cons_of_mem _ hb, hp, fun x h => ?_⟩
      rcases hx x h with rfl | h | h
      · exact Or.inl rfl
      · refine Or.inr (Or.inl ?_)
        simp at h ⊢
        rcases h with h | h <;> simp [h]
      · exact Or.inr (Or.inr h)
theorem Bad.paths {adj : Nat → Nat → Prop} {P Q I : List Nat} (h : Bad adj P Q I) : P.length = Q.length → (P ++ (Q ++ I)).Nodup →
    ∃ P1 a P2 b Q1 t Q2 c l1 l2, P = P1 ++ a :: P2 ∧ b ∈ P2 ∧ Q = Q1 ++ t :: Q2 ∧ c ∈ Q2 ∧ Pth adj a c l1 ∧ Pth adj b t l2 ∧
      (∀ x, x ∈ l1 → x = a ∨ x ∈ I ∨ x ∈ Q) ∧ (∀ x, x ∈ l2 → x = b ∨ x ∈ I ∨ x ∈ Q) ∧ (∀ x, x ∈ l1 → ¬ x ∈ l2) := by
  induction h with
  | @cross p q a P A B I hk hl =>
    intro e nd
    obtain ⟨b, l, hb, hp, hx⟩ := hl.path (by simp at e ⊢; omega) a (by simp)
    have nd1 := List.nodup_cons.mp nd
    have nd2 : (q :: (P ++ (a :: A ++ (B ++ I)))).Nodup := by
      have y := (List.perm_middle (a := q) (l₁ := P ++ a :: A) (l₂ := B ++ I)).nodup_iff.mp (by simpa using nd1.2)
      simpa using y
    have nd3 := (List.nodup_cons.mp nd2).1
    have hb' := List.append_of_mem hb
    refine ⟨[], p, P, b, [], a, A ++ q :: B, q, [p, q], l, rfl, hb, rfl, by simp, .cons hk (.one q), hp, ?_, fun x h => ?_, fun x h h2 => ?_⟩
    · intro x h
      simp at h
      rcases h with rfl | rfl
      · exact Or.inl rfl
      · exact Or.inr (Or.inr (by simp))
    · rcases hx x h with h | h | h
      · exact Or.inl h
      · exact Or.inr (Or.inl h)
      · refine Or.inr (Or.inr ?_)
        simp at h ⊢
        rcases h with h | h | h <;> simp [h]
    · have hm : x ∈ P ++ (a :: A ++ (B ++ I)) := by
        rcases hx x h2 with rfl | h | h
        · simp [hb]
        · simp [h]
        · simp at h ⊢
          rcases h with h | h | h <;> simp [h]
      simp at h
      rcases h with rfl | rfl
      · refine nd1.1 ?_
        simp at hm ⊢
        rcases hm with h | h | h | h | h <;> simp [h]
      · exact nd3 hm
  | @next p q P B I hk hb ih =>
    intro e nd
    have nd1 := (List.nodup_cons.mp nd).2
    have nd2 : (P ++ (B ++ I)).Nodup := by
      have y := (List.perm_middle (a := q) (l₁ := P) (l₂ := B ++ I)).nodup_iff.mp (by simpa using nd1)
      exact (List.nodup_cons.mp y).2
    obtain ⟨P1, a, P2, b, Q1, t, Q2, c, l1, l2, rfl, hb2, rfl, hc, p1, p2, h1, h2, hd⟩ := ih (by simpa using e) nd2
    refine ⟨p :: P1, a, P2, b, q :: Q1, t, Q2, c, l1, l2, rfl, hb2, rfl, hc, p1, p2, fun x h => ?_, fun x h => ?_, hd⟩
    · rcases h1 x h with h | h | h
      · exact Or.inl h
      · exact Or.inr (Or.inl h)
      · exact Or.inr (Or.inr (List.mem_cons_of_mem _ h))
    · rcases h2 x h with h | h | h
      · exact Or.inl h
      · exact Or.inr (Or.inl h)
      · exact Or.inr (Or.inr (List.mem_cons_of_mem _ h))
  | @go p j P Q A B hk hb ih =>
    intro e nd
    have nd1 := List.nodup_cons.mp nd
    have nd2 : (j :: P ++ (Q ++ (A ++ B))).Nodup := by
      have y := (List.perm_middle (a := j) (l₁ := P ++ (Q ++ A)) (l₂ := B)).nodup_iff.mp (by simpa using nd1.2)
      simpa using y
    have sub : ∀ x, x ∈ A ++ B → x ∈ A ++ j :: B := fun x h => by
      simp at h ⊢
      rcases h with h | h <;> simp [h]
    obtain ⟨P1, a, P2, b, Q1, t, Q2, c, l1, l2, eP, hb2, rfl, hc, p1, p2, h1, h2, hd⟩ := ih (by simpa using e) nd2
    cases P1 with
    | nil =>
      have e2 : j = a ∧ P = P2 := by simpa using eP
      obtain ⟨rfl, rfl⟩ := e2
      refine ⟨[], p, P, b, Q1, t, Q2, c, p :: l1, l2, rfl, hb2, rfl, hc, .cons hk p1, p2, fun x h => ?_, fun x h => ?_, fun x h hx => ?_⟩
      · rcases List.mem_cons.mp h with rfl | h
        · exact Or.inl rfl
        · rcases h1 x h with rfl | h | h
          · exact Or.inr (Or.inl (by simp))
          · exact Or.inr (Or.inl (sub x h))
          · exact Or.inr (Or.inr h)
      · rcases h2 x h with h | h | h
        · exact Or.inl h
        · exact Or.inr (Or.inl (sub x h))
        · exact Or.inr (Or.inr h)
      · rcases List.mem_cons.mp h with rfl | h
        · refine nd1.1 ?_
          rcases h2 x hx with rfl | h | h
          · exact List.mem_append_left _ hb2
          · exact List.mem_append_right _ (List.mem_append_right _ (sub x h))
          · exact List.mem_append_right _ (List.mem_append_left _ h)
        · exact hd x h hx
    | cons x P1 =>
      have e2 : j = x ∧ P = P1 ++ a :: P2 := by simpa using eP
      obtain ⟨rfl, rfl⟩ := e2
      refine ⟨p :: P1, a, P2, b, Q1, t, Q2, c, l1, l2, rfl, hb2, rfl, hc, p1, p2, fun x h => ?_, fun x h => ?_, hd⟩
      · rcases h1 x h with h | h | h
        · exact Or.inl h
        · exact Or.inr (Or.inl (sub x h))
        · exact Or.inr (Or.inr h)
      · rcases h2 x h with h | h | h
        · exact Or.inl h
        · exact Or.inr (Or.inl (sub x h))
        · exact Or.inr (Or.inr h)
/-- going round a node: a ahead of the darts, b behind them -/
def scan (F z : Nat → Bool) : Bool → List Nat → Bool → Prop
  | a, [], b => a = b
  | a, x :: t, b => F x = a ∧ scan F z (a ^^ z (x / 2)) t b
def par (z : Nat → Bool) : List Nat → Bool
  | [] => false
  | x :: t => z (x / 2) ^^ par z t
theorem scan_par {F z : Nat → Bool} : ∀ {t : List Nat} {a b : Bool}, scan F z a t b → b = (a ^^ par z t)
  | [], a, b, h => by simp [par]; exact h.symm
  | x :: t, a, b, h => by
    have e := scan_par h.2
    rw [e]
    simp [par]
theorem scan_app {F z : Nat → Bool} {r : List Nat} : ∀ {l : List Nat} {a b : Bool}, scan F z a (l ++ r) b ↔ ∃ c, scan F z a l c ∧ scan F z c r b
  | [], a, b => ⟨fun h => ⟨a, rfl, h⟩, fun ⟨c, h1, h2⟩ => by cases h1; exact h2⟩
  | x :: l, a, b => by
    show (F x = a ∧ scan F z _ (l ++ r) b) ↔ ∃ c, (F x = a ∧ scan F z _ l c) ∧ scan F z c r b
    rw [scan_app]
    exact ⟨fun ⟨h, c, h1, h2⟩ => ⟨c, ⟨h, h1⟩, h2⟩, fun ⟨c, ⟨h, h1⟩, h2⟩ => ⟨h, c, h1, h2⟩⟩
theorem scan_congr {F z F' z' : Nat → Bool} : ∀ {t : List Nat} {a b : Bool}, (∀ x, x ∈ t → F x = F' x ∧ z (x / 2) = z' (x / 2)) → scan F z a t b → scan F' z' a t b
  | [], _, _, _, h => h
  | x :: t, a, b, hc, h => by
    have h1 := hc x List.mem_cons_self
    refine ⟨by rw [← h1.1]; exact h.1, ?_⟩
    rw [← h1.2]
    exact scan_congr (fun y hy => hc y (List.mem_cons_of_mem _ hy)) h.2
theorem scan_flat {F z : Nat → Bool} : ∀ {t : List Nat} {a b : Bool}, (∀ x, x ∈ t → z (x / 2) = false) → scan F z a t b → b = a ∧ ∀ x, x ∈ t → F x = a
  | [], a, b, _, h => ⟨h.symm, fun x hx => by cases hx⟩
  | x :: t, a, b, hc, h => by
    have h1 := h.2
    rw [hc x List.mem_cons_self, Bool.xor_false] at h1
    have h2 := scan_flat (fun y hy => hc y (List.mem_cons_of_mem _ hy)) h1
    refine ⟨h2.1, fun y hy => ?_⟩
    rcases List.mem_cons.mp hy with rfl | hy
    · exact h.1
    · exact h2.2 y hy
def opp (d : Nat) : Nat := if d % 2 = 0 then d + 1 else d - 1
/-- the place behind the turn of node i: the gap ahead of a rim node, the node's own for an inner one -/
def fin (rim i : Nat) : Nat := if i < rim then (if i = 0 then rim - 1 else i - 1) else i
structure WF (rim : Nat) (T : List (List Nat)) (n : Nat) : Prop where
  pos : 0 < rim
  le : rim ≤ T.length
  nd : T.flatten.Nodup
  mem : ∀ d, d ∈ T.flatten ↔ d < 2 * n
def Even (rim : Nat) (T : List (List Nat)) (z : Nat → Bool) : Prop := ∀ (i : Nat) t, rim ≤ i → T[i]? = some t → par z t = false
structure Sides (rim : Nat) (T : List (List Nat)) (n : Nat) (z F R : Nat → Bool) : Prop where
  edge : ∀ k, k < n → (F (2 * k) ^^ F (2 * k + 1)) = z k
  node : ∀ (i : Nat) t, T[i]? = some t → scan F z (R i) t (R (fin rim i))
def Cut (rim : Nat) (T : List (List Nat)) (n : Nat) : Prop := ∀ z, Even rim T z → ∃ F R, Sides rim T n z F R
/-- nodes i and j are joined by an edge -/
def adjT (T : List (List Nat)) (i j : Nat) : Prop := ∃ d s t, T[i]? = some s ∧ T[j]? = some t ∧ d ∈ s ∧ opp d ∈ t
theorem par_xor {y z : Nat → Bool} : ∀ {t : List Nat}, par (fun k => y k ^^ z k) t = (par y t ^^ par z t)
  | [] => rfl
  | x :: t => by
    simp only [par]
    rw [par_xor]
    generalize par y t = a
    generalize par z t = b
    generalize y (x / 2) = c
    generalize z (x / 2) = d
    cases a <;> cases b <;> cases c <;> cases d <;> rfl
theorem par_one {k : Nat} : ∀ {t : List Nat}, t.Nodup → par (fun j => decide (j = k)) t = (decide (2 * k ∈ t) ^^ decide (2 * k + 1 ∈ t))
  | [], _ => by simp [par]
  | x :: t, h => by
    have h2 := List.nodup_cons.mp h
    simp only [par]
    rw [par_one h2.2]
    by_cases a : x = 2 * k
    · subst a
      have e : 2 * k / 2 = k := by omega
      have n1 : ¬ 2 * k + 1 = 2 * k := by omega
      simp [e, h2.1, n1]
    · by_cases b : x = 2 * k + 1
      · subst b
        have e : (2 * k + 1) / 2 = k := by omega
        have n1 : ¬ 2 * k = 2 * k + 1 := by omega
        simp [e, h2.1, n1]
      · have e : ¬ x / 2 = k := by omega
        have a' : ¬ 2 * k = x := fun e => a e.symm
        have b' : ¬ 2 * k + 1 = x := fun e => b e.symm
        simp [e, a', b']
theorem par_zero {z : Nat → Bool} : ∀ {t : List Nat}, (∀ x, x ∈ t → z (x / 2) = false) → par z t = false
  | [], _ => rfl
  | x :: t, h => by
    simp only [par]
    rw [h x List.mem_cons_self, par_zero fun y hy => h y (List.mem_cons_of_mem _ hy)]
    rfl
end K13
namespace K13
theorem turn_nd {T : List (List Nat)} (h : T.flatten.Nodup) {i : Nat} {t : List Nat} (e : T[i]? = some t) : t.Nodup :=
  (List.pairwise_flatten.mp h).1 t (List.mem_of_getElem? e)
theorem same_node {T : List (List Nat)} (h : T.flatten.Nodup) {i j d : Nat} {s t : List Nat} (e1 : T[i]? = some s) (e2 : T[j]? = some t) (h1 : d ∈ s) (h2 : d ∈ t) : i = j := by
  have hp := List.pairwise_iff_getElem.mp (List.pairwise_flatten.mp h).2
  obtain ⟨b1, f1⟩ := List.getElem?_eq_some_iff.mp e1
  obtain ⟨b2, f2⟩ := List.getElem?_eq_some_iff.mp e2
  rcases Nat.lt_trichotomy i j with hlt | he | hlt
  · exact absurd rfl (hp i j b1 b2 hlt d (by rw [f1]; exact h1) d (by rw [f2]; exact h2))
  · exact he
  · exact absurd rfl (hp j i b2 b1 hlt d (by rw [f2]; exact h2) d (by rw [f1]; exact h1))
theorem opp_cases (d : Nat) : (d = 2 * (d / 2) ∧ opp d = 2 * (d / 2) + 1) ∨ (d = 2 * (d / 2) + 1 ∧ opp d = 2 * (d / 2)) := by
  unfold opp
  by_cases h : d % 2 = 0
  · rw [if_pos h]; omega
  · rw [if_neg h]; omega
theorem opp_div (d : Nat) : opp d / 2 = d / 2 := by
  rcases opp_cases d with ⟨h1, h2⟩ | ⟨h1, h2⟩ <;> omega
theorem opp_opp (d : Nat) : opp (opp d) = d := by
  rcases opp_cases d with ⟨h1, h2⟩ | ⟨h1, h2⟩
  · rcases opp_cases (opp d) with ⟨h3, h4⟩ | ⟨h3, h4⟩ <;> rw [opp_div] at * <;> omega
  · rcases opp_cases (opp d) with ⟨h3, h4⟩ | ⟨h3, h4⟩ <;> rw [opp_div] at * <;> omega
theorem path_edges {T : List (List Nat)} (h : T.flatten.Nodup) {a c : Nat} {l : List Nat} (p : Pth (adjT T) a c l) :
    ∃ z : Nat → Bool, (∀ (i : Nat) t, T[i]? = some t → par z t = (decide (i = a) ^^ decide (i = c))) ∧ (∀ (i : Nat) t x, T[i]? = some t → x ∈ t → z (x / 2) = true → i ∈ l) := by
  induction p with
  | one a => exact ⟨fun _ => false, fun i t e => by rw [par_zero fun _ _ => rfl]; simp, fun i t x _ _ h => by cases h⟩
  | @cons a b c l hk hp ih =>
    obtain ⟨z, h1, h2⟩ := ih
    obtain ⟨d, s, t, es, et, hs, ht⟩ := hk
    have hb : b ∈ l := by cases hp <;> simp
    refine ⟨fun k => decide (k = d / 2) ^^ z k, fun i u e => ?_, fun i u x e hx hz => ?_⟩
    · rw [par_xor, par_one (turn_nd h e), h1 i u e]
      have q1 : (d ∈ u) ↔ i = a := ⟨fun hu => same_node h e es hu hs, fun q => by subst q; rw [es] at e; cases e; exact hs⟩
      have q2 : (opp d ∈ u) ↔ i = b := ⟨fun hu => same_node h e et hu ht, fun q => by subst q; rw [et] at e; cases e; exact ht⟩
      have q3 : (decide (2 * (d / 2) ∈ u) ^^ decide (2 * (d / 2) + 1 ∈ u)) = (decide (i = a) ^^ decide (i = b)) := by
        have w1 : decide (d ∈ u) = decide (i = a) := decide_eq_decide.mpr q1
        have w2 : decide (opp d ∈ u) = decide (i = b) := decide_eq_decide.mpr q2
        rcases opp_cases d with ⟨g1, g2⟩ | ⟨g1, g2⟩
        · have v1 : decide (2 * (d / 2) ∈ u) = decide (d ∈ u) := decide_eq_decide.mpr (by rw [← g1])
          have v2 : decide (2 * (d / 2) + 1 ∈ u) = decide (opp d ∈ u) := decide_eq_decide.mpr (by rw [← g2])
          rw [v1, v2, w1, w2]
        · have v1 : decide (2 * (d / 2) + 1 ∈ u) = decide (d ∈ u) := decide_eq_decide.mpr (by rw [← g1])
          have v2 : decide (2 * (d / 2) ∈ u) = decide (opp d ∈ u) := decide_eq_decide.mpr (by rw [← g2])
          rw [v1, v2, w1, w2, Bool.xor_comm]
      rw [q3]
      generalize decide (i = a) = x1
      generalize decide (i = b) = x2
      generalize decide (i = c) = x3
      cases x1 <;> cases x2 <;> cases x3 <;> rfl
    · by_cases q : x / 2 = d / 2
      · have hx2 : x = d ∨ x = opp d := by
          rcases opp_cases d with ⟨g1, g2⟩ | ⟨g1, g2⟩ <;> omega
        rcases hx2 with rfl | rfl
        · rw [same_node h e es hx hs]; exact List.mem_cons_self
        · rw [same_node h e et hx ht]; exact List.mem_cons_of_mem _ hb
      · refine List.mem_cons_of_mem _ (h2 i u x e hx ?_)
        simpa [q] using hz
/-- between the gaps: how often the rim is crossed from gap 0 to gap i -/
def seps (a c i : Nat) : Bool := decide (1 ≤ a ∧ a ≤ i) ^^ decide (1 ≤ c ∧ c ≤ i)
theorem no_cross {rim n : Nat} {T : List (List Nat)} (W : WF rim T n) (C : Cut rim T n) {a b c d : Nat} {l1 l2 : List Nat} (ha : a < rim) (hb : b < rim) (hc : c < rim) (hd : d < rim)
    (p1 : Pth (adjT T) a c l1) (p2 : Pth (adjT T) b d l2) (dis : ∀ x, x ∈ l1 → ¬ x ∈ l2) : seps a c b = seps a c d := by
  obtain ⟨z, h1, h2⟩ := path_edges W.nd p1
  obtain ⟨F, R, S⟩ := C z fun i t hi e => by
    rw [h1 i t e]
    have x : ¬ i = a := by omega
    have y : ¬ i = c := by omega
    simp [x, y]
  have hR : ∀ i, i < rim → R i = (R 0 ^^ seps a c i) := by
    intro i
    induction i with
    | zero =>
      intro _
      have x : ¬ (1 ≤ a ∧ a ≤ 0) := by omega
      have y : ¬ (1 ≤ c ∧ c ≤ 0) := by omega
      unfold seps
      rw [decide_eq_false x, decide_eq_false y]
      cases R 0 <;> rfl
    | succ i ih =>
      intro hi
      have hlen : i + 1 < T.length := by have := W.le; omega
      have e : T[i + 1]? = some T[i + 1] := List.getElem?_eq_getElem hlen
      have s := scan_par (S.node (i + 1) _ e)
      have hf : fin rim (i + 1) = i := by
        unfold fin
        rw [if_pos hi, if_neg (by omega)]
        omega
      rw [hf, h1 _ _ e, ih (by omega)] at s
      have g1 : decide (1 ≤ a ∧ a ≤ i + 1) = (decide (1 ≤ a ∧ a ≤ i) ^^ decide (i + 1 = a)) := by
        by_cases q : i + 1 = a
        · have q1 : 1 ≤ a ∧ a ≤ i + 1 := by omega
          have q2 : ¬ (1 ≤ a ∧ a ≤ i) := by omega
          rw [decide_eq_true q1, decide_eq_false q2, decide_eq_true q]; rfl
        · by_cases q1 : 1 ≤ a ∧ a ≤ i
          · have q2 : 1 ≤ a ∧ a ≤ i + 1 := by omega
            rw [decide_eq_true q1, decide_eq_true q2, decide_eq_false q]; rfl
          · have q2 : ¬ (1 ≤ a ∧ a ≤ i + 1) := by omega
            rw [decide_eq_false q1, decide_eq_false q2, decide_eq_false q]; rfl
      have g2 : decide (1 ≤ c ∧ c ≤ i + 1) = (decide (1 ≤ c ∧ c ≤ i) ^^ decide (i + 1 = c)) := by
        by_cases q : i + 1 = c
        · have q1 : 1 ≤ c ∧ c ≤ i + 1 := by omega
          have q2 : ¬ (1 ≤ c ∧ c ≤ i) := by omega
          rw [decide_eq_true q1, decide_eq_false q2, decide_eq_true q]; rfl
        · by_cases q1 : 1 ≤ c ∧ c ≤ i
          · have q2 : 1 ≤ c ∧ c ≤ i + 1 := by omega
            rw [decide_eq_true q1, decide_eq_true q2, decide_eq_false q]; rfl
          · have q2 : ¬ (1 ≤ c ∧ c ≤ i + 1) := by omega
            rw [decide_eq_false q1, decide_eq_false q2, decide_eq_false q]; rfl
      unfold seps at s ⊢
      rw [g1, g2]
      revert s
      generalize decide (i + 1 = a) = x1
      generalize decide (i + 1 = c) = x2
      generalize decide (1 ≤ a ∧ a ≤ i) = x3
      generalize decide (1 ≤ c ∧ c ≤ i) = x4
      generalize R (i + 1) = x5
      generalize R 0 = x6
      cases x1 <;> cases x2 <;> cases x3 <;> cases x4 <;> cases x5 <;> cases x6 <;> intro s <;> first | rfl | (exact absurd s (by decide))
  have hfar : ∀ {b d : Nat} {l2 : List Nat}, Pth (adjT T) b d l2 → (∀ x, x ∈ l1 → ¬ x ∈ l2) → R b = R d := by
    intro b d l2 p
    induction p with
    | one b => intro _; rfl
    | @cons b m d l hk hp ih =>
      intro dis
      have hm : m ∈ l := by cases hp <;> simp
      rw [← ih fun x hx hl => dis x hx (List.mem_cons_of_mem _ hl)]
      obtain ⟨x, s, t, es, et, hs, ht⟩ := hk
      have zs : ∀ y, y ∈ s → z (y / 2) = false := fun y hy => by
        cases q : z (y / 2) with
        | false => rfl
        | true => exact absurd List.mem_cons_self (dis b (h2 b s y es hy q))
      have zt : ∀ y, y ∈ t → z (y / 2) = false := fun y hy => by
        cases q : z (y / 2) with
        | false => rfl
        | true => exact absurd (List.mem_cons_of_mem _ hm) (dis m (h2 m t y et hy q))
      have f1 := (scan_flat zs (S.node b s es)).2 x hs
      have f2 := (scan_flat zt (S.node m t et)).2 (opp x) ht
      have hx : x / 2 < n := by
        have := (W.mem x).mp (List.mem_flatten.mpr ⟨s, List.mem_of_getElem? es, hs⟩)
        omega
      have e := S.edge (x / 2) hx
      rw [zs x hs] at e
      rcases opp_cases x with ⟨g1, g2⟩ | ⟨g1, g2⟩
      · have v1 : F (2 * (x / 2)) = F x := congrArg F g1.symm
        have v2 : F (2 * (x / 2) + 1) = F (opp x) := congrArg F g2.symm
        rw [v1, v2, f1, f2] at e
        revert e
        cases R b <;> cases R m <;> simp
      · have v1 : F (2 * (x / 2) + 1) = F x := congrArg F g1.symm
        have v2 : F (2 * (x / 2)) = F (opp x) := congrArg F g2.symm
        rw [v1, v2, f1, f2] at e
        revert e
        cases R b <;> cases R m <;> simp
  have e := hfar p2 dis
  rw [hR b hb, hR d hd] at e
  revert e
  cases R 0 <;> cases seps a c b <;> cases seps a c d <;> simp
/-- heads and tails in a circle: two ways that change the order would cross -/
def Circ (P Q : List Nat) : Prop := P.Pairwise fun a b => Q.Pairwise fun t c => seps a c b ≠ seps a c t
instance (P Q : List Nat) : Decidable (Circ P Q) := by unfold Circ; infer_instance
theorem not_bad {rim n : Nat} {T : List (List Nat)} (W : WF rim T n) (C : Cut rim T n) {P Q I : List Nat} (hl : P.length = Q.length) (nd : (P ++ (Q ++ I)).Nodup) (hP : ∀ p, p ∈ P → p < rim) (hQ : ∀ q, q ∈ Q → q < rim)
    (hc : Circ P Q) : ¬ Bad (adjT T) P Q I := fun h => by
  obtain ⟨P1, a, P2, b, Q1, t, Q2, c, l1, l2, rfl, hb, rfl, hc2, p1, p2, _, _, hd⟩ := h.paths hl nd
  have e := no_cross W C (hP a (by simp)) (hP b (by simp [hb])) (hQ c (by simp [hc2])) (hQ t (by simp)) p1 p2 hd
  have h1 := (List.pairwise_append.mp hc).2.1
  have h2 := (List.pairwise_cons.mp h1).1 b hb
  have h3 := (List.pairwise_append.mp h2).2.1
  exact (List.pairwise_cons.mp h3).1 c hc2 e
end K13
namespace K13
/-! ## How drawings grow -/
def insAt (t : List Nat) (p y : Nat) : List Nat := t.take p ++ [y] ++ t.drop p
/-- each inner node is joined with the rim -/
def Conn (rim : Nat) (T : List (List Nat)) : Prop := ∀ S : Nat → Prop, (∀ i, i < rim → S i) → (∀ i j, adjT T i j → S i → S j) → ∀ i, i < T.length → S i
structure Inv (rim : Nat) (T : List (List Nat)) (n : Nat) : Prop where
  wf : WF rim T n
  cut : Cut rim T n
  conn : Conn rim T
  len : T.length ≤ rim + n
theorem set_split {T : List (List Nat)} {u : Nat} {t : List Nat} (h : T[u]? = some t) : ∃ A B, T = A ++ t :: B ∧ A.length = u ∧ ∀ t', T.set u t' = A ++ t' :: B := by
  obtain ⟨b, e⟩ := List.getElem?_eq_some_iff.mp h
  refine ⟨T.take u, T.drop (u + 1), ?_, by rw [List.length_take]; omega, fun t' => ?_⟩
  · rw [← e, List.getElem_cons_drop, List.take_append_drop]
  · rw [List.set_eq_take_append_cons_drop, if_pos b]
theorem set_perm {T : List (List Nat)} {u y : Nat} {t t' : List Nat} (h : T[u]? = some t) (hp : t'.Perm (y :: t)) : (T.set u t').flatten.Perm (y :: T.flatten) := by
  obtain ⟨A, B, e, _, hs⟩ := set_split h
  rw [hs t', e]
  simp only [List.flatten_append, List.flatten_cons]
  have h1 : (t' ++ B.flatten).Perm (y :: (t ++ B.flatten)) := hp.append_right _
  exact (h1.append_left A.flatten).trans List.perm_middle
theorem insAt_perm {t : List Nat} {p y : Nat} : (insAt t p y).Perm (y :: t) := by
  unfold insAt
  have h : (t.take p ++ y :: t.drop p).Perm (y :: (t.take p ++ t.drop p)) := List.perm_middle
  rw [List.take_append_drop] at h
  simpa using h
/-- two new darts -/
theorem WF.grow {rim n : Nat} {T T' : List (List Nat)} (W : WF rim T n) (hl : rim ≤ T'.length) (hp : T'.flatten.Perm (2 * n :: (2 * n + 1) :: T.flatten)) : WF rim T' (n + 1) := by
  refine ⟨W.pos, hl, ?_, fun d => ?_⟩
  · refine hp.nodup_iff.mpr (List.nodup_cons.mpr ⟨fun h => ?_, List.nodup_cons.mpr ⟨fun h => ?_, W.nd⟩⟩)
    · rcases List.mem_cons.mp h with h | h
      · omega
      · have := (W.mem _).mp h; omega
    · have := (W.mem _).mp h; omega
  · rw [hp.mem_iff]
    simp only [List.mem_cons, W.mem]
    omega
theorem WF.lt {rim n : Nat} {T : List (List Nat)} (W : WF rim T n) {i : Nat} {t : List Nat} (e : T[i]? = some t) {x : Nat} (hx : x ∈ t) : x < 2 * n :=
  (W.mem x).mp (List.mem_flatten.mpr ⟨t, List.mem_of_getElem? e, hx⟩)
theorem WF.find {rim n : Nat} {T : List (List Nat)} (W : WF rim T n) {x : Nat} (hx : x < 2 * n) : ∃ (i : Nat) (t : List Nat), T[i]? = some t ∧ x ∈ t := by
  obtain ⟨t, ht, hxt⟩ := List.mem_flatten.mp ((W.mem x).mpr hx)
  obtain ⟨i, hi⟩ := List.getElem?_of_mem ht
  exact ⟨i, t, hi, hxt⟩
/-- values of the new drawing: the old ones, but for the two new darts -/
def nw (n : Nat) (F : Nat → Bool) (a b : Bool) : Nat → Bool := fun x => if x = 2 * n then a else if x = 2 * n + 1 then b else F x
theorem nw_old {n x : Nat} {F : Nat → Bool} {a b : Bool} (h : x < 2 * n) : nw n F a b x = F x := by
  unfold nw
  rw [if_neg (by omega), if_neg (by omega)]
theorem nw_a {n : Nat} {F : Nat → Bool} {a b : Bool} : nw n F a b (2 * n) = a := by
  unfold nw
  rw [if_pos rfl]
theorem nw_b {n : Nat} {F : Nat → Bool} {a b : Bool} : nw n F a b (2 * n + 1) = b := by
  unfold nw
  rw [if_neg (by omega), if_pos rfl]
theorem div_a (n : Nat) : 2 * n / 2 = n := by omega
theorem div_b (n : Nat) : (2 * n + 1) / 2 = n := by omega
theorem bxx (a b : Bool) : ((a ^^ b) ^^ b) = a := by cases a <;> cases b <;> rfl
/-- scan over an insertion that leaves its place as it was -/
theorem scan_ins {F z : Nat → Bool} {m t r : List Nat} {a b : Bool} (h : scan F z a (t ++ r) b) (hm : ∀ c, scan F z a t c → scan F z c m c) : scan F z a (t ++ (m ++ r)) b := by
  obtain ⟨c, h1, h2⟩ := scan_app.mp h
  exact scan_app.mpr ⟨c, h1, scan_app.mpr ⟨c, hm c h1, h2⟩⟩
/-! ### B: a spike at a rim node -/
theorem get_append_new {T : List (List Nat)} {s t : List Nat} {i : Nat} (h : (T ++ [s])[i]? = some t) : (i < T.length ∧ T[i]? = some t) ∨ (i = T.length ∧ t = s) := by
  by_cases q : i < T.length
  · rw [List.getElem?_append_left q] at h
    exact Or.inl ⟨q, h⟩
  · rw [List.getElem?_append_right (by omega)] at h
    have e : i - T.length = 0 := by
      by_cases z : i - T.length = 0
      · exact z
      · rw [List.getElem?_eq_none (by simp; omega)] at h
        cases h
    rw [e] at h
    exact Or.inr ⟨by omega, (Option.some.inj h).symm⟩
theorem get_set {T : List (List Nat)} {s t : List Nat} {i u : Nat} (h : (T.set u s)[i]? = some t) : (i = u ∧ t = s ∧ u < T.length) ∨ (i ≠ u ∧ T[i]? = some t) := by
  by_cases q : i = u
  · subst q
    rw [List.getElem?_set_self'] at h
    cases e : T[i]? with
    | none => rw [e] at h; cases h
    | some t0 =>
      rw [e] at h
      exact Or.inl ⟨rfl, (Option.some.inj h).symm, (List.getElem?_eq_some_iff.mp e).1⟩
  · rw [List.getElem?_set_ne (fun e => q e.symm)] at h
    exact Or.inr ⟨q, h⟩
theorem fin_in {rim i : Nat} (h : rim ≤ i) : fin rim i = i := by
  unfold fin
  rw [if_neg (by omega)]
theorem fin_lt {rim i : Nat} (h : i < rim) : fin rim i < rim := by
  unfold fin
  rw [if_pos h]
  split <;> omega
theorem inv_spike {rim n u : Nat} {T : List (List Nat)} {t : List Nat} (V : Inv rim T n) (hu : u < rim) (e : T[u]? = some t) : Inv rim ((T ++ [t ++ [2 * n + 1]]).set u [2 * n]) (n + 1) := by
  have W := V.wf
  have hlen : u < T.length := (List.getElem?_eq_some_iff.mp e).1
  have es : (T ++ [t ++ [2 * n + 1]]).set u [2 * n] = T.set u [2 * n] ++ [t ++ [2 * n + 1]] := by rw [List.set_append, if_pos hlen]
  rw [es]
  have look : ∀ {i s}, (T.set u [2 * n] ++ [t ++ [2 * n + 1]])[i]? = some s → (i = u ∧ s = [2 * n]) ∨ (i ≠ u ∧ i ≠ T.length ∧ T[i]? = some s) ∨ (i = T.length ∧ s = t ++ [2 * n + 1]) := fun h => by
    rcases get_append_new h with ⟨h1, h2⟩ | ⟨h1, h2⟩
    · rw [List.length_set] at h1
      rcases get_set h2 with ⟨h3, h4, _⟩ | ⟨h3, h4⟩
      · exact Or.inl ⟨h3, h4⟩
      · exact Or.inr (Or.inl ⟨h3, by omega, h4⟩)
    · rw [List.length_set] at h1
      exact Or.inr (Or.inr ⟨h1, h2⟩)
  have gW : (T.set u [2 * n] ++ [t ++ [2 * n + 1]])[T.length]? = some (t ++ [2 * n + 1]) := by
    rw [List.getElem?_append_right (by rw [List.length_set]; exact Nat.le_refl _), List.length_set, Nat.sub_self]; rfl
  have gU : (T.set u [2 * n] ++ [t ++ [2 * n + 1]])[u]? = some [2 * n] := by
    rw [List.getElem?_append_left (by rw [List.length_set]; exact hlen), List.getElem?_set_self hlen]
  have gO : ∀ {i s}, i ≠ u → T[i]? = some s → (T.set u [2 * n] ++ [t ++ [2 * n + 1]])[i]? = some s := fun {i s} hi h => by
    rw [List.getElem?_append_left (by rw [List.length_set]; exact (List.getElem?_eq_some_iff.mp h).1), List.getElem?_set_ne (fun q => hi q.symm)]
    exact h
  refine ⟨W.grow (by simp; have := W.le; omega) ?_, fun z hz => ?_, fun S hr ha i hi => ?_, by simp; have := V.len; omega⟩
  · obtain ⟨A, B, eT, _, hs⟩ := set_split e
    rw [hs, eT]
    simp only [List.flatten_append, List.flatten_cons, List.flatten_nil, List.append_nil, List.append_assoc, List.singleton_append]
    have h1 : (A.flatten ++ 2 * n :: (B.flatten ++ (t ++ [2 * n + 1]))).Perm (2 * n :: (A.flatten ++ (B.flatten ++ (t ++ [2 * n + 1])))) := List.perm_middle
    refine h1.trans (List.Perm.cons _ ?_)
    have h2 : (B.flatten ++ (t ++ [2 * n + 1])).Perm ((t ++ [2 * n + 1]) ++ B.flatten) := List.perm_append_comm
    have h3 : ((t ++ [2 * n + 1]) ++ B.flatten).Perm ((2 * n + 1) :: (t ++ B.flatten)) := by
      rw [List.append_assoc]
      exact List.perm_middle
    have h4 := (h2.trans h3).append_left A.flatten
    exact h4.trans List.perm_middle
  · -- the sides
    obtain ⟨F, R, S⟩ := V.cut z fun i s hi h => by
      rcases Nat.lt_or_ge i rim with q | q
      · omega
      · exact hz i s q (gO (by omega) h)
    have hpar := hz T.length _ W.le gW
    have sU := S.node u t e
    have pU := scan_par sU
    have hap : par z (t ++ [2 * n + 1]) = (par z t ^^ z n) := by
      have : ∀ l : List Nat, par z (l ++ [2 * n + 1]) = (par z l ^^ z n) := fun l => by
        induction l with
        | nil => simp [par, div_b]
        | cons x l ih => simp [par, ih]
      exact this t
    rw [hap] at hpar
    have hz1 : z n = par z t := by revert hpar; cases z n <;> cases par z t <;> simp
    refine ⟨nw n F (R u) (R (fin rim u)), fun i => if i = T.length then R u else R i, fun k hk => ?_, fun i s h => ?_⟩
    · by_cases q : k = n
      · subst q
        rw [nw_a, nw_b, pU, hz1]
        cases R u <;> cases par z t <;> rfl
      · rw [nw_old (by omega), nw_old (by omega)]
        exact S.edge k (by omega)
    · have hfu : fin rim u ≠ T.length := by have := fin_lt hu; have := W.le; omega
      rcases look h with ⟨rfl, rfl⟩ | ⟨h1, h2, h3⟩ | ⟨rfl, rfl⟩
      · simp only [if_neg (show ¬ i = T.length by omega), if_neg hfu]
        refine ⟨nw_a, ?_⟩
        show (R i ^^ z (2 * n / 2)) = R (fin rim i)
        rw [div_a, hz1, pU]
      · have hf : fin rim i ≠ T.length := by
          rcases Nat.lt_or_ge i rim with q | q
          · have := fin_lt q; have := W.le; omega
          · rw [fin_in q]; exact h2
        simp only [if_neg h2, if_neg hf]
        refine scan_congr (fun x hx => ⟨?_, rfl⟩) (S.node i s h3)
        rw [nw_old (W.lt h3 hx)]
      · rw [fin_in W.le]
        simp only [if_pos]
        refine scan_app.mpr ⟨R (fin rim u), scan_congr (fun x hx => ⟨?_, rfl⟩) sU, nw_b, ?_⟩
        · rw [nw_old (W.lt e hx)]
        · show (R (fin rim u) ^^ z ((2 * n + 1) / 2)) = R u
          rw [div_b, hz1, pU]
          cases R u <;> cases par z t <;> rfl
  · -- joined with the rim
    have hW : S T.length := ha u T.length ⟨2 * n, [2 * n], _, gU, gW, List.mem_cons_self, by unfold opp; rw [if_pos (by omega)]; simp⟩ (hr u hu)
    have old : ∀ i, i < T.length → S i := V.conn S hr fun i j hk hs => by
      obtain ⟨d, s1, s2, e1, e2, m1, m2⟩ := hk
      by_cases qj : j = u
      · rw [qj]; exact hr u hu
      by_cases qi : i = u
      · subst qi
        rw [e] at e1
        cases e1
        exact ha T.length j ⟨d, _, _, gW, gO qj e2, List.mem_append_left _ m1, m2⟩ hW
      · exact ha i j ⟨d, _, _, gO qi e1, gO qj e2, m1, m2⟩ hs
    rcases Nat.lt_or_ge i T.length with q | q
    · exact old i q
    · have : i = T.length := by simp at hi; omega
      rw [this]; exact hW
end K13
namespace K13
theorem insAt_mem {t : List Nat} {p y x : Nat} : x ∈ insAt t p y ↔ x = y ∨ x ∈ t := by
  rw [insAt_perm.mem_iff, List.mem_cons]
theorem Conn.mono {rim : Nat} {T T' : List (List Nat)} (C : Conn rim T) (hl : T'.length = T.length) (h : ∀ (i : Nat) t, T[i]? = some t → ∃ t', T'[i]? = some t' ∧ ∀ x, x ∈ t → x ∈ t') : Conn rim T' := fun S hr ha i hi => by
  refine C S hr (fun i j hk hs => ?_) i (by omega)
  obtain ⟨d, s1, s2, e1, e2, m1, m2⟩ := hk
  obtain ⟨t1, g1, h1⟩ := h i s1 e1
  obtain ⟨t2, g2, h2⟩ := h j s2 e2
  exact ha i j ⟨d, t1, t2, g1, g2, h1 _ m1, h2 _ m2⟩ hs
theorem set_grows {T : List (List Nat)} {u p y : Nat} {t : List Nat} (e : T[u]? = some t) (i : Nat) (s : List Nat) (h : T[i]? = some s) : ∃ s', (T.set u (insAt t p y))[i]? = some s' ∧ ∀ x, x ∈ s → x ∈ s' := by
  by_cases q : i = u
  · subst q
    rw [e] at h
    cases h
    exact ⟨_, by rw [List.getElem?_set_self (List.getElem?_eq_some_iff.mp e).1], fun x hx => insAt_mem.mpr (Or.inr hx)⟩
  · exact ⟨s, by rw [List.getElem?_set_ne (fun z => q z.symm)]; exact h, fun x hx => hx⟩
/-- two new darts are put in: all but the sides -/
theorem inv_two {rim n u v p q a b : Nat} {T : List (List Nat)} {t s : List Nat} (V : Inv rim T n) (e : T[u]? = some t) (e2 : (T.set u (insAt t p a))[v]? = some s)
    (hab : (a = 2 * n ∧ b = 2 * n + 1) ∨ (a = 2 * n + 1 ∧ b = 2 * n)) (hc : Cut rim ((T.set u (insAt t p a)).set v (insAt s q b)) (n + 1)) : Inv rim ((T.set u (insAt t p a)).set v (insAt s q b)) (n + 1) := by
  refine ⟨V.wf.grow (by simp; exact V.wf.le) ?_, hc, V.conn.mono (by simp) fun i t1 h1 => ?_, by simp; have := V.len; omega⟩
  · have h1 := set_perm e2 (insAt_perm (t := s) (p := q) (y := b))
    have h2 := set_perm e (insAt_perm (t := t) (p := p) (y := a))
    have h3 := h1.trans (List.Perm.cons b h2)
    rcases hab with ⟨rfl, rfl⟩ | ⟨rfl, rfl⟩
    · exact h3.trans (List.Perm.swap _ _ _)
    · exact h3
  · obtain ⟨t2, h2, m2⟩ := set_grows (p := p) (y := a) e i t1 h1
    obtain ⟨t3, h3, m3⟩ := set_grows (p := q) (y := b) e2 i t2 h2
    exact ⟨t3, h3, fun x hx => m3 x (m2 x hx)⟩
theorem cut_edge {rim n : Nat} {T : List (List Nat)} {z F R : Nat → Bool} (S : Sides rim T n z F R) {a b : Bool} (h : (a ^^ b) = z n) : ∀ k, k < n + 1 → (nw n F a b (2 * k) ^^ nw n F a b (2 * k + 1)) = z k := fun k hk => by
  by_cases q : k = n
  · subst q
    rw [nw_a, nw_b]; exact h
  · rw [nw_old (by omega), nw_old (by omega)]
    exact S.edge k (by omega)
theorem scan_old {rim n : Nat} {T : List (List Nat)} {z F : Nat → Bool} (W : WF rim T n) {i : Nat} {t : List Nat} (e : T[i]? = some t) {s : List Nat} (hs : ∀ x, x ∈ s → x ∈ t) {a b c d : Bool} (h : scan F z a s b) : scan (nw n F c d) z a s b :=
  scan_congr (fun x hx => ⟨(nw_old (W.lt e (hs x hx))).symm, rfl⟩) h
theorem par_app {z : Nat → Bool} {r : List Nat} : ∀ {l : List Nat}, par z (l ++ r) = (par z l ^^ par z r)
  | [] => by simp [par]
  | x :: l => by simp [par, par_app (l := l)]
theorem par_ins {z : Nat → Bool} {t : List Nat} {p y : Nat} : par z (insAt t p y) = (par z t ^^ z (y / 2)) := by
  unfold insAt
  have h : par z t = (par z (t.take p) ^^ par z (t.drop p)) := by rw [← par_app, List.take_append_drop]
  rw [par_app, par_app, h]
  simp only [par]
  cases par z (t.take p) <;> cases par z (t.drop p) <;> cases z (y / 2) <;> rfl
/-! ### F: a loop -/
theorem loop_eq {t : List Nat} {p a b : Nat} (hp : p ≤ t.length) : insAt (insAt t p a) (p + 1) b = t.take p ++ ([a, b] ++ t.drop p) := by
  have h1 : (t.take p).length = p := by rw [List.length_take]; omega
  unfold insAt
  have e1 : (t.take p ++ [a] ++ t.drop p).take (p + 1) = t.take p ++ [a] := by
    rw [List.take_append_of_le_length (by simp; omega), List.take_of_length_le (by simp; omega)]
  have e2 : (t.take p ++ [a] ++ t.drop p).drop (p + 1) = t.drop p := by
    rw [List.drop_append_of_le_length (by simp; omega), List.drop_of_length_le (l := t.take p ++ [a]) (by simp; omega)]
    simp
  rw [e1, e2]
  simp
theorem inv_loop {rim n u p : Nat} {T : List (List Nat)} {t : List Nat} (V : Inv rim T n) (e : T[u]? = some t) (hp : p ≤ t.length) :
    Inv rim ((T.set u (insAt t p (2 * n))).set u (insAt (insAt t p (2 * n)) (p + 1) (2 * n + 1))) (n + 1) := by
  have hlen : u < T.length := (List.getElem?_eq_some_iff.mp e).1
  have e2 : (T.set u (insAt t p (2 * n)))[u]? = some (insAt t p (2 * n)) := List.getElem?_set_self hlen
  refine inv_two V e e2 (Or.inl ⟨rfl, rfl⟩) fun z hz => ?_
  rw [List.set_set] at hz ⊢
  rw [loop_eq hp] at hz ⊢
  have split : t = t.take p ++ t.drop p := (List.take_append_drop p t).symm
  obtain ⟨F, R, S⟩ := V.cut z fun i s hi h => by
    by_cases q : i = u
    · subst q
      rw [e] at h
      cases h
      have x := hz i _ hi (List.getElem?_set_self hlen)
      rw [par_app, par_app] at x
      have y : par z t = (par z (t.take p) ^^ par z (t.drop p)) := by rw [← par_app, List.take_append_drop]
      have w : par z [2 * n, 2 * n + 1] = false := by
        simp only [par, div_a, div_b]
        cases z n <;> rfl
      rw [w] at x
      rw [y]
      simpa using x
    · exact hz i s hi (by rw [List.getElem?_set_ne (fun z => q z.symm)]; exact h)
  have s1 := S.node u t e
  rw [split] at s1
  obtain ⟨c, h1, h2⟩ := scan_app.mp s1
  refine ⟨nw n F c (c ^^ z n), R, cut_edge S (by cases c <;> cases z n <;> rfl), fun i s h => ?_⟩
  rcases get_set h with ⟨rfl, rfl, _⟩ | ⟨h3, h4⟩
  · refine scan_app.mpr ⟨c, scan_old V.wf e (fun x hx => List.mem_of_mem_take hx) h1, nw_a, ?_⟩
    rw [div_a]
    refine ⟨nw_b, ?_⟩
    rw [div_b, bxx]
    exact scan_old V.wf e (fun x hx => List.mem_of_mem_drop hx) h2
  · exact scan_old V.wf h4 (fun x hx => hx) (S.node i s h4)
/-! ### E: an edge to a new node -/
theorem inv_pend {rim n u p : Nat} {T : List (List Nat)} {t : List Nat} (V : Inv rim T n) (e : T[u]? = some t) : Inv rim (T.set u (insAt t p (2 * n)) ++ [[2 * n + 1]]) (n + 1) := by
  have hlen : u < T.length := (List.getElem?_eq_some_iff.mp e).1
  have gW : (T.set u (insAt t p (2 * n)) ++ [[2 * n + 1]])[T.length]? = some [2 * n + 1] := by
    rw [List.getElem?_append_right (by rw [List.length_set]; exact Nat.le_refl _), List.length_set, Nat.sub_self]; rfl
  have gI : ∀ {i : Nat}, i < T.length → (T.set u (insAt t p (2 * n)) ++ [[2 * n + 1]])[i]? = (T.set u (insAt t p (2 * n)))[i]? := fun h => by
    rw [List.getElem?_append_left (by rw [List.length_set]; exact h)]
  refine ⟨V.wf.grow (by simp; have := V.wf.le; omega) ?_, fun z hz => ?_, fun S hr ha i hi => ?_, by simp; have := V.len; omega⟩
  · have h2 := set_perm e (insAt_perm (t := t) (p := p) (y := 2 * n))
    rw [List.flatten_append]
    simp only [List.flatten_cons, List.flatten_nil, List.append_nil]
    have h3 : ((T.set u (insAt t p (2 * n))).flatten ++ [2 * n + 1]).Perm ((2 * n + 1) :: (T.set u (insAt t p (2 * n))).flatten) := List.perm_append_comm
    exact (h3.trans (List.Perm.cons _ h2)).trans (List.Perm.swap _ _ _)
  · have hz0 : z n = false := by
      have x := hz T.length _ V.wf.le gW
      simpa [par, div_b] using x
    obtain ⟨F, R, S⟩ := V.cut z fun i s hi h => by
      obtain ⟨hi2, _⟩ := List.getElem?_eq_some_iff.mp h
      by_cases q : i = u
      · subst q
        rw [e] at h
        cases h
        have x := hz i _ hi (by rw [gI hlen, List.getElem?_set_self hlen])
        rw [par_ins, div_a, hz0] at x
        simpa using x
      · exact hz i s hi (by rw [gI hi2, List.getElem?_set_ne (fun z => q z.symm)]; exact h)
    have s1 := S.node u t e
    rw [← List.take_append_drop p t] at s1
    obtain ⟨c, h1, h2⟩ := scan_app.mp s1
    refine ⟨nw n F c c, fun i => if i = T.length then c else R i, cut_edge S (by rw [hz0]; cases c <;> rfl), fun i s h => ?_⟩
    have fn : ∀ {i}, i < T.length → ¬ fin rim i = T.length := fun {i} h => by
      rcases Nat.lt_or_ge i rim with q | q
      · have := fin_lt q; have := V.wf.le; omega
      · rw [fin_in q]; omega
    rcases get_append_new h with ⟨h3, h4⟩ | ⟨rfl, rfl⟩
    · rw [List.length_set] at h3
      simp only [if_neg (show ¬ i = T.length by omega), if_neg (fn h3)]
      rcases get_set h4 with ⟨rfl, rfl, _⟩ | ⟨h5, h6⟩
      · unfold insAt
        rw [List.append_assoc]
        refine scan_app.mpr ⟨c, scan_old V.wf e (fun x hx => List.mem_of_mem_take hx) h1, nw_a, ?_⟩
        rw [div_a, hz0, Bool.xor_false]
        exact scan_old V.wf e (fun x hx => List.mem_of_mem_drop hx) h2
      · exact scan_old V.wf h6 (fun x hx => hx) (S.node i s h6)
    · rw [List.length_set, fin_in V.wf.le]
      simp only [if_pos]
      refine ⟨nw_b, ?_⟩
      show (c ^^ z ((2 * n + 1) / 2)) = c
      rw [div_b, hz0, Bool.xor_false]
  · have old : ∀ i, i < T.length → S i := V.conn S hr fun i j hk hs => by
      obtain ⟨d, s1, s2, e1, e2, m1, m2⟩ := hk
      obtain ⟨t1, g1, k1⟩ := set_grows (p := p) (y := 2 * n) e i s1 e1
      obtain ⟨t2, g2, k2⟩ := set_grows (p := p) (y := 2 * n) e j s2 e2
      exact ha i j ⟨d, t1, t2, by rw [gI (List.getElem?_eq_some_iff.mp e1).1]; exact g1, by rw [gI (List.getElem?_eq_some_iff.mp e2).1]; exact g2, k1 _ m1, k2 _ m2⟩ hs
    rcases Nat.lt_or_ge i T.length with q | q
    · exact old i q
    · have : i = T.length := by simp at hi; omega
      rw [this]
      refine ha u T.length ⟨2 * n, insAt t p (2 * n), _, by rw [gI hlen, List.getElem?_set_self hlen], gW, insAt_mem.mpr (Or.inl rfl), ?_⟩ (old u hlen)
      unfold opp
      rw [if_pos (by omega)]
      simp
end K13
namespace K13
/-! ### A: an edge along the rim, over nodes without darts -/
def nx (rim g : Nat) : Nat := (g + 1) % rim
theorem nx_lt {rim g : Nat} (h : 0 < rim) : nx rim g < rim := Nat.mod_lt _ h
theorem nx_eq {rim g : Nat} (h : g < rim) : nx rim g = if g + 1 = rim then 0 else g + 1 := by
  unfold nx
  split
  · next h1 => rw [h1, Nat.mod_self]
  · exact Nat.mod_eq_of_lt (by omega)
theorem fin_nx {rim g : Nat} (h : g < rim) : fin rim (nx rim g) = g := by
  rw [nx_eq h]
  unfold fin
  split <;> (rw [if_pos (by omega)]; split <;> omega)
theorem nx_fin {rim g : Nat} (h : g < rim) : nx rim (fin rim g) = g := by
  rw [nx_eq (fin_lt h)]
  unfold fin
  rw [if_pos h]
  split <;> split <;> omega
inductive Skip (rim : Nat) (T : List (List Nat)) (i : Nat) : Nat → List Nat → Prop where
  | base : Skip rim T i (nx rim i) [i]
  | step {j : Nat} {gs : List Nat} : Skip rim T i j gs → j ≠ i → T[j]? = some [] → Skip rim T i (nx rim j) (j :: gs)
structure SkipOk (rim : Nat) (T : List (List Nat)) (i j : Nat) (gs : List Nat) : Prop where
  jlt : j < rim
  s1 : i ∈ gs
  s2 : ∀ g, g ∈ gs → g < rim
  s3 : ∀ g, g ∈ gs → g ≠ i → T[g]? = some []
  s4 : ∀ g, g ∈ gs → nx rim g ∈ gs ∨ nx rim g = j
  s5 : fin rim j ∈ gs
  s6 : ∀ g, g ∈ gs → g ≠ i → fin rim g ∈ gs
  s7 : j ∈ gs → j = i
  s8 : fin rim i ∈ gs → j = i
theorem Skip.ok {rim : Nat} {T : List (List Nat)} {i j : Nat} {gs : List Nat} (hi : i < rim) (h : Skip rim T i j gs) : SkipOk rim T i j gs := by
  induction h with
  | base =>
    refine ⟨nx_lt (by omega), by simp, fun g hg => ?_, fun g hg h => ?_, fun g hg => ?_, ?_, fun g hg h => ?_, fun h => by simpa using h, fun h => ?_⟩
    · simp at hg; omega
    · simp at hg; exact absurd hg h
    · simp at hg; subst hg; exact Or.inr rfl
    · rw [fin_nx hi]; simp
    · simp at hg; exact absurd hg h
    · have h1 : fin rim i = i := by simpa using h
      have h2 := nx_fin hi
      rw [h1] at h2
      exact h2
  | @step j gs h hj he ih =>
    refine ⟨nx_lt (by omega), List.mem_cons_of_mem _ ih.s1, fun g hg => ?_, fun g hg h => ?_, fun g hg => ?_, ?_, fun g hg h => ?_, fun hm => ?_, fun hm => ?_⟩
    · rcases List.mem_cons.mp hg with rfl | hg
      · exact ih.jlt
      · exact ih.s2 g hg
    · rcases List.mem_cons.mp hg with rfl | hg
      · exact he
      · exact ih.s3 g hg h
    · rcases List.mem_cons.mp hg with rfl | hg
      · exact Or.inr rfl
      · rcases ih.s4 g hg with h | h
        · exact Or.inl (List.mem_cons_of_mem _ h)
        · exact Or.inl (by rw [h]; exact List.mem_cons_self)
    · rw [fin_nx ih.jlt]; exact List.mem_cons_self
    · rcases List.mem_cons.mp hg with rfl | hg
      · exact List.mem_cons_of_mem _ ih.s5
      · exact List.mem_cons_of_mem _ (ih.s6 g hg h)
    · by_cases q : nx rim j = i
      · exact q
      exfalso
      rcases List.mem_cons.mp hm with h | h
      · have := ih.jlt
        rw [nx_eq ih.jlt] at h
        split at h
        · exact hj (by omega)
        · omega
      · have h2 := ih.s6 _ h q
        rw [fin_nx ih.jlt] at h2
        exact hj (ih.s7 h2)
    · rcases List.mem_cons.mp hm with h | h
      · rw [← h]; exact nx_fin hi
      · exact absurd (ih.s8 h) hj
theorem Skip.even {rim n : Nat} {T : List (List Nat)} {i j : Nat} {gs : List Nat} {z F R : Nat → Bool} (S : Sides rim T n z F R) (hi : i < rim) (h : Skip rim T i j gs) : R (fin rim j) = R i := by
  induction h with
  | base => rw [fin_nx hi]
  | @step j gs h hj he ih =>
    rw [fin_nx (h.ok hi).jlt, ← ih]
    exact S.node j [] he
theorem ins0 {t : List Nat} {y : Nat} : insAt t 0 y = y :: t := by simp [insAt]
theorem insE {t : List Nat} {y : Nat} : insAt t t.length y = t ++ [y] := by simp [insAt]
theorem inv_rim {rim n i j : Nat} {T : List (List Nat)} {t s : List Nat} {gs : List Nat} (V : Inv rim T n) (hi : i < rim) (K : Skip rim T i j gs) (e : T[i]? = some t) (e2 : (T.set i (2 * n :: t))[j]? = some s) :
    Inv rim ((T.set i (2 * n :: t)).set j (s ++ [2 * n + 1])) (n + 1) := by
  have O := K.ok hi
  have hlen : i < T.length := (List.getElem?_eq_some_iff.mp e).1
  rw [← ins0] at e2 ⊢
  rw [← insE]
  refine inv_two V e e2 (Or.inl ⟨rfl, rfl⟩) ?_
  rw [insE]
  rw [ins0] at e2 ⊢
  intro z hz
  have hrl := V.wf.le
  have gI : ∀ {g : Nat}, g ≠ i → g ≠ j → ((T.set i (2 * n :: t)).set j (s ++ [2 * n + 1]))[g]? = T[g]? := fun h1 h2 => by
    rw [List.getElem?_set_ne (fun q => h2 q.symm), List.getElem?_set_ne (fun q => h1 q.symm)]
  obtain ⟨F, R, S⟩ := V.cut z fun g u hg h => hz g u hg (by rw [gI (by omega) (by have := O.jlt; omega)]; exact h)
  have hev := K.even S hi
  refine ⟨nw n F (R i ^^ z n) (R i), fun g => R g ^^ (z n && decide (g ∈ gs)), cut_edge S (by cases R i <;> cases z n <;> rfl), fun g u h => ?_⟩
  have sI := S.node i t e
  -- the places
  by_cases hgi : g = i
  · subst hgi
    by_cases hij : j = g
    · subst hij
      have eu : u = 2 * n :: t ++ [2 * n + 1] := by
        rw [List.getElem?_set_self hlen] at e2
        cases e2
        rw [List.set_set, List.getElem?_set_self hlen] at h
        exact (Option.some.inj h).symm
      subst eu
      simp only [O.s1, O.s5, decide_true, Bool.and_true]
      refine ⟨nw_a, ?_⟩
      rw [div_a, bxx]
      refine scan_app.mpr ⟨_, scan_old V.wf e (fun x hx => hx) sI, ?_, ?_⟩
      · rw [nw_b, hev]
      · rw [div_b]; rfl
    · have eu : u = 2 * n :: t := by
        rw [List.getElem?_set_ne hij, List.getElem?_set_self hlen] at h
        exact (Option.some.inj h).symm
      subst eu
      have hf : ¬ fin rim g ∈ gs := fun hm => hij (O.s8 hm)
      simp only [O.s1, hf, decide_true, decide_false, Bool.and_true, Bool.and_false, Bool.xor_false]
      refine ⟨nw_a, ?_⟩
      rw [div_a, bxx]
      exact scan_old V.wf e (fun x hx => hx) sI
  · by_cases hgj : g = j
    · subst hgj
      have hn : ¬ g ∈ gs := fun hm => hgi (O.s7 hm)
      rw [List.getElem?_set_ne (fun q => hgi q.symm)] at e2
      have eu : u = s ++ [2 * n + 1] := by
        rw [List.getElem?_set_self (by rw [List.length_set]; exact (List.getElem?_eq_some_iff.mp e2).1)] at h
        exact (Option.some.inj h).symm
      subst eu
      simp only [hn, O.s5, decide_true, decide_false, Bool.and_true, Bool.and_false, Bool.xor_false]
      refine scan_app.mpr ⟨_, scan_old V.wf e2 (fun x hx => hx) (S.node g s e2), ?_, ?_⟩
      · rw [nw_b, hev]
      · rw [div_b]; rfl
    · rw [gI hgi hgj] at h
      by_cases hm : g ∈ gs
      · have e0 := O.s3 g hm hgi
        rw [e0] at h
        cases h
        have hf := O.s6 g hm hgi
        simp only [hm, hf, decide_true, Bool.and_true]
        show (R g ^^ z n) = (R (fin rim g) ^^ z n)
        have q : R g = R (fin rim g) := S.node g [] e0
        rw [q]
      · have hf : ¬ fin rim g ∈ gs := fun hf => by
          rcases Nat.lt_or_ge g rim with q | q
          · rcases O.s4 _ hf with h1 | h1
            · rw [nx_fin q] at h1; exact hm h1
            · rw [nx_fin q] at h1; exact hgj h1
          · rw [fin_in q] at hf; exact hm hf
        simp only [hm, hf, decide_false, Bool.and_false, Bool.xor_false]
        exact scan_old V.wf h (fun x hx => hx) (S.node g u h)
end K13
namespace K13
/-! ### steps that put the same thing at each dart of all turns -/
def hd (σ : Nat → Bool) (e : Bool) : List Nat → Bool
  | [] => e
  | y :: _ => σ y
/-- τ behind a dart is σ ahead of the next one, e at the end -/
def Cns (σ τ : Nat → Bool) (e : Bool) : List Nat → Prop
  | [] => True
  | x :: t => τ x = hd σ e t ∧ Cns σ τ e t
theorem scan_map {F z F' z' σ τ : Nat → Bool} {g : Nat → List Nat} {e : Bool} : ∀ {t : List Nat} {a b : Bool},
    (∀ x, x ∈ t → scan F' z' (F x ^^ σ x) (g x) ((F x ^^ z (x / 2)) ^^ τ x)) → Cns σ τ e t → scan F z a t b → scan F' z' (a ^^ hd σ e t) (t.flatMap g) (b ^^ e)
  | [], a, b, _, _, h => by
    have : a = b := h
    rw [this]
    rfl
  | x :: t, a, b, hg, hc, h => by
    have h1 := hg x List.mem_cons_self
    have h2 := scan_map (fun y hy => hg y (List.mem_cons_of_mem _ hy)) hc.2 h.2
    rw [h.1, hc.1] at h1
    rw [List.flatMap_cons]
    exact scan_app.mpr ⟨_, h1, h2⟩
theorem Cns.zero : ∀ {t : List Nat}, Cns (fun _ => false) (fun _ => false) false t
  | [] => trivial
  | x :: t => ⟨by cases t <;> rfl, Cns.zero⟩
theorem hd_zero {t : List Nat} : hd (fun _ => false) false t = false := by cases t <;> rfl
theorem par_flat {z z' : Nat → Bool} {g : Nat → List Nat} : ∀ {t : List Nat}, (∀ x, x ∈ t → par z (g x) = z' (x / 2)) → par z (t.flatMap g) = par z' t
  | [], _ => rfl
  | x :: t, h => by
    rw [List.flatMap_cons, par_app, h x List.mem_cons_self, par_flat fun y hy => h y (List.mem_cons_of_mem _ hy)]
    rfl
/-- y ahead of x -/
def bef (x y : Nat) : Nat → List Nat := fun a => if a = x then [y, a] else [a]
/-- y behind x -/
def aft (x y : Nat) : Nat → List Nat := fun a => if a = x then [a, y] else [a]
theorem flat_id {g : Nat → List Nat} : ∀ {t : List Nat}, (∀ x, x ∈ t → g x = [x]) → t.flatMap g = t
  | [], _ => rfl
  | x :: t, h => by
    rw [List.flatMap_cons, h x List.mem_cons_self, flat_id fun y hy => h y (List.mem_cons_of_mem _ hy)]
    rfl
theorem at_split {t : List Nat} {p x : Nat} (h : t[p]? = some x) : t = t.take p ++ x :: t.drop (p + 1) ∧ t.drop p = x :: t.drop (p + 1) := by
  obtain ⟨b, e⟩ := List.getElem?_eq_some_iff.mp h
  have h2 : t.drop p = x :: t.drop (p + 1) := by rw [← e, List.getElem_cons_drop]
  exact ⟨by rw [← h2, List.take_append_drop], h2⟩
theorem flat_bef {t : List Nat} {p x y : Nat} (nd : t.Nodup) (h : t[p]? = some x) : t.flatMap (bef x y) = insAt t p y := by
  obtain ⟨h1, h2⟩ := at_split h
  have nd2 := nd
  rw [h1] at nd2
  have nd3 := List.nodup_append.mp nd2
  unfold insAt
  rw [h2]
  have ea : (t.take p).flatMap (bef x y) = t.take p := flat_id fun a ha => by
    unfold bef
    rw [if_neg fun q => nd3.2.2 a ha x List.mem_cons_self q]
  have eb : (t.drop (p + 1)).flatMap (bef x y) = t.drop (p + 1) := flat_id fun a ha => by
    unfold bef
    rw [if_neg fun (q : a = x) => (List.nodup_cons.mp nd3.2.1).1 (q ▸ ha)]
  have ex : bef x y x = [y, x] := if_pos rfl
  have e2 : t.flatMap (bef x y) = (t.take p ++ x :: t.drop (p + 1)).flatMap (bef x y) := congrArg (fun l => l.flatMap (bef x y)) h1
  rw [e2, List.flatMap_append, List.flatMap_cons, ea, eb, ex]
  simp
theorem flat_aft {t : List Nat} {p x y : Nat} (nd : t.Nodup) (h : t[p]? = some x) : t.flatMap (aft x y) = insAt t (p + 1) y := by
  obtain ⟨h1, h2⟩ := at_split h
  obtain ⟨b, _⟩ := List.getElem?_eq_some_iff.mp h
  have nd2 := nd
  rw [h1] at nd2
  have nd3 := List.nodup_append.mp nd2
  unfold insAt
  have ea : (t.take p).flatMap (aft x y) = t.take p := flat_id fun a ha => by
    unfold aft
    rw [if_neg fun q => nd3.2.2 a ha x List.mem_cons_self q]
  have eb : (t.drop (p + 1)).flatMap (aft x y) = t.drop (p + 1) := flat_id fun a ha => by
    unfold aft
    rw [if_neg fun (q : a = x) => (List.nodup_cons.mp nd3.2.1).1 (q ▸ ha)]
  have ex : aft x y x = [x, y] := if_pos rfl
  have e2 : t.flatMap (aft x y) = (t.take p ++ x :: t.drop (p + 1)).flatMap (aft x y) := congrArg (fun l => l.flatMap (aft x y)) h1
  have e3 : t.take (p + 1) = t.take p ++ [x] := by
    rw [List.take_succ, h]
    rfl
  rw [e2, List.flatMap_append, List.flatMap_cons, ea, eb, ex, e3]
  simp
/-- setting one turn is mapping all of them -/
theorem set_map {T : List (List Nat)} {u x : Nat} {t : List Nat} {g : Nat → List Nat} (nd : T.flatten.Nodup) (e : T[u]? = some t) (hx : x ∈ t) (hg : ∀ a, a ≠ x → g a = [a]) : T.set u (t.flatMap g) = T.map (·.flatMap g) := by
  apply List.ext_getElem?
  intro i
  rw [List.getElem?_map]
  by_cases q : i = u
  · subst q
    rw [List.getElem?_set_self (List.getElem?_eq_some_iff.mp e).1, e]
    rfl
  · rw [List.getElem?_set_ne (fun z => q z.symm)]
    cases h : T[i]? with
    | none => rfl
    | some s =>
      show some s = some (s.flatMap g)
      rw [flat_id fun a ha => hg a fun z => q (same_node nd h e (z ▸ ha) hx)]
theorem nd_map {T : List (List Nat)} {u p y : Nat} {t : List Nat} (nd : T.flatten.Nodup) (hy : ¬ y ∈ T.flatten) (e : T[u]? = some t) : (T.set u (insAt t p y)).flatten.Nodup :=
  (set_perm e insAt_perm).nodup_iff.mpr (List.nodup_cons.mpr ⟨hy, nd⟩)
/-- the sides behind such a step -/
theorem sides_map {rim n : Nat} {T : List (List Nat)} {z zo F R F' σ τ : Nat → Bool} {g : Nat → List Nat} {e : Nat → Bool} (S : Sides rim T n zo F R) (hedge : ∀ k, k < n + 1 → (F' (2 * k) ^^ F' (2 * k + 1)) = z k)
    (hg : ∀ (i : Nat) t x, T[i]? = some t → x ∈ t → scan F' z (F x ^^ σ x) (g x) ((F x ^^ zo (x / 2)) ^^ τ x)) (hc : ∀ (i : Nat) t, T[i]? = some t → Cns σ τ (e i) t)
    (h0 : ∀ (i : Nat) t, T[i]? = some t → if i < rim then e i = false ∧ hd σ (e i) t = false else hd σ (e i) t = e i) :
    Sides rim (T.map (·.flatMap g)) (n + 1) z F' (fun i => R i ^^ (decide (rim ≤ i) && e i)) := by
  refine ⟨hedge, fun i t' h => ?_⟩
  rw [List.getElem?_map] at h
  cases ht : T[i]? with
  | none => rw [ht] at h; cases h
  | some t =>
    rw [ht] at h
    cases h
    have s := scan_map (fun x hx => hg i t x ht hx) (hc i t ht) (S.node i t ht)
    have z0 := h0 i t ht
    rcases Nat.lt_or_ge i rim with q | q
    · rw [if_pos q] at z0
      rw [z0.1] at s z0
      rw [z0.2] at s
      have f := fin_lt q
      simp only [show ¬ rim ≤ i by omega, show ¬ rim ≤ fin rim i by omega, decide_false, Bool.false_and, Bool.xor_false] at s ⊢
      exact s
    · rw [if_neg (by omega)] at z0
      rw [z0] at s
      rw [fin_in q] at s ⊢
      simp only [q, decide_true, Bool.true_and]
      exact s
/-! ### D: an edge beside another one -/
theorem inv_par {rim n u v p q k : Nat} {T : List (List Nat)} {t s : List Nat} (V : Inv rim T n) (hk : k < n) (e : T[u]? = some t) (hp : t[p]? = some (2 * k)) (e2 : (T.set u (insAt t (p + 1) (2 * n)))[v]? = some s) (hq : s[q]? = some (2 * k + 1)) :
    Inv rim ((T.set u (insAt t (p + 1) (2 * n))).set v (insAt s q (2 * n + 1))) (n + 1) := by
  refine inv_two V e e2 (Or.inl ⟨rfl, rfl⟩) ?_
  have W := V.wf
  have nd1 : (T.set u (insAt t (p + 1) (2 * n))).flatten.Nodup := nd_map W.nd (fun h => by have := (W.mem _).mp h; omega) e
  have em : (T.set u (insAt t (p + 1) (2 * n))).set v (insAt s q (2 * n + 1)) = T.map (·.flatMap fun x => (aft (2 * k) (2 * n) x).flatMap (bef (2 * k + 1) (2 * n + 1))) := by
    rw [← flat_bef (turn_nd nd1 e2) hq, set_map (g := bef (2 * k + 1) (2 * n + 1)) nd1 e2 (List.mem_of_getElem? hq) (fun a h => if_neg h), ← flat_aft (turn_nd W.nd e) hp, set_map (g := aft (2 * k) (2 * n)) W.nd e (List.mem_of_getElem? hp) (fun a h => if_neg h), List.map_map]
    refine List.map_congr_left fun l _ => ?_
    show (l.flatMap _).flatMap _ = _
    rw [List.flatMap_assoc]
  rw [em]
  have g1 : (fun x => (aft (2 * k) (2 * n) x).flatMap (bef (2 * k + 1) (2 * n + 1))) (2 * k) = [2 * k, 2 * n] := by
    show (aft (2 * k) (2 * n) (2 * k)).flatMap _ = _
    unfold aft bef
    rw [if_pos rfl]
    simp only [List.flatMap_cons, List.flatMap_nil]
    rw [if_neg (by omega), if_neg (by omega)]
    rfl
  have g2 : (fun x => (aft (2 * k) (2 * n) x).flatMap (bef (2 * k + 1) (2 * n + 1))) (2 * k + 1) = [2 * n + 1, 2 * k + 1] := by
    show (aft (2 * k) (2 * n) (2 * k + 1)).flatMap _ = _
    unfold aft bef
    rw [if_neg (by omega)]
    simp only [List.flatMap_cons, List.flatMap_nil, if_pos]
    rfl
  have g3 : ∀ x, x ≠ 2 * k → x ≠ 2 * k + 1 → (fun x => (aft (2 * k) (2 * n) x).flatMap (bef (2 * k + 1) (2 * n + 1))) x = [x] := fun x h1 h2 => by
    show (aft (2 * k) (2 * n) x).flatMap _ = _
    unfold aft bef
    rw [if_neg h1]
    simp only [List.flatMap_cons, List.flatMap_nil]
    rw [if_neg h2]
    rfl
  generalize (fun x => (aft (2 * k) (2 * n) x).flatMap (bef (2 * k + 1) (2 * n + 1))) = g at g1 g2 g3 ⊢
  intro z hz
  have d1 : 2 * k / 2 = k := by omega
  have d2 : (2 * k + 1) / 2 = k := by omega
  obtain ⟨F, R, S⟩ := V.cut (fun j => z j ^^ (z n && decide (j = k))) fun i l hi h => by
    have x := hz i (l.flatMap g) hi (by rw [List.getElem?_map, h]; rfl)
    rw [← x]
    refine (par_flat fun x hx => ?_).symm
    by_cases q1 : x = 2 * k
    · subst q1
      rw [g1]
      simp [par, d1, div_a]
    · by_cases q2 : x = 2 * k + 1
      · subst q2
        rw [g2]
        simp only [par, d2, div_b, decide_true, Bool.and_true, Bool.xor_false]
        exact Bool.xor_comm _ _
      · rw [g3 x q1 q2]
        have : ¬ x / 2 = k := by omega
        simp [par, this]
  have hfk := S.edge k hk
  refine ⟨fun x => if x = 2 * k + 1 then F x ^^ z n else nw n F (F (2 * k) ^^ z k) (F (2 * k + 1)) x, _, sides_map (σ := fun _ => false) (τ := fun _ => false) (e := fun _ => false) S (fun j hj => ?_) (fun i l x h hx => ?_) (fun i l h => Cns.zero) fun i l h => ?_⟩
  · by_cases qn : j = n
    · subst qn
      rw [if_neg (by omega), if_neg (by omega), nw_a, nw_b]
      simp only [decide_true, Bool.and_true] at hfk
      revert hfk
      cases F (2 * k) <;> cases F (2 * k + 1) <;> cases z k <;> cases z j <;> simp
    · by_cases qk : j = k
      · subst qk
        rw [if_neg (by omega), if_pos rfl, nw_old (by omega)]
        simp only [decide_true, Bool.and_true] at hfk
        revert hfk
        cases F (2 * j) <;> cases F (2 * j + 1) <;> cases z j <;> cases z n <;> simp
      · rw [if_neg (by omega), if_neg (by omega), nw_old (by omega), nw_old (by omega)]
        have := S.edge j (by omega)
        simpa [qk] using this
  · have hlt := W.lt h hx
    show scan _ z (F x ^^ false) (g x) ((F x ^^ (z (x / 2) ^^ (z n && decide (x / 2 = k)))) ^^ false)
    rw [Bool.xor_false, Bool.xor_false]
    by_cases q1 : x = 2 * k
    · subst q1
      rw [g1]
      refine ⟨?_, ?_, ?_⟩
      · show (if _ then _ else _) = _
        rw [if_neg (by omega), nw_old hlt]
      · show (if _ then _ else _) = _
        rw [if_neg (by omega), nw_a, d1]
      · rw [d1, div_a]
        simp only [decide_true, Bool.and_true]
        show ((F (2 * k) ^^ z k) ^^ z n) = (F (2 * k) ^^ (z k ^^ z n))
        rw [Bool.xor_assoc]
    · by_cases q2 : x = 2 * k + 1
      · subst q2
        rw [g2]
        refine ⟨?_, ?_, ?_⟩
        · show (if _ then _ else _) = _
          rw [if_neg (by omega), nw_b]
        · show (if _ then _ else _) = _
          rw [if_pos rfl, div_b]
        · rw [d2, div_b]
          simp only [decide_true, Bool.and_true]
          show ((F (2 * k + 1) ^^ z n) ^^ z k) = (F (2 * k + 1) ^^ (z k ^^ z n))
          cases F (2 * k + 1) <;> cases z n <;> cases z k <;> rfl
      · rw [g3 x q1 q2]
        have : ¬ x / 2 = k := by omega
        refine ⟨?_, ?_⟩
        · show (if _ then _ else _) = _
          rw [if_neg q2, nw_old hlt]
        · simp [this, scan]
  · split
    · exact ⟨rfl, hd_zero⟩
    · exact hd_zero
end K13
namespace K13
/-! ### C: an edge is cut in two -/
def rep (x y : Nat) : Nat → List Nat := fun a => if a = x then [y] else [a]
theorem flat_rep {t : List Nat} {p x y : Nat} (nd : t.Nodup) (h : t[p]? = some x) : t.flatMap (rep x y) = t.set p y := by
  obtain ⟨h1, h2⟩ := at_split h
  obtain ⟨b, _⟩ := List.getElem?_eq_some_iff.mp h
  have nd2 := nd
  rw [h1] at nd2
  have nd3 := List.nodup_append.mp nd2
  have ea : (t.take p).flatMap (rep x y) = t.take p := flat_id fun a ha => by
    unfold rep
    rw [if_neg fun q => nd3.2.2 a ha x List.mem_cons_self q]
  have eb : (t.drop (p + 1)).flatMap (rep x y) = t.drop (p + 1) := flat_id fun a ha => by
    unfold rep
    rw [if_neg fun (q : a = x) => (List.nodup_cons.mp nd3.2.1).1 (q ▸ ha)]
  have ex : rep x y x = [y] := if_pos rfl
  have e2 : t.flatMap (rep x y) = (t.take p ++ x :: t.drop (p + 1)).flatMap (rep x y) := congrArg (fun l => l.flatMap (rep x y)) h1
  rw [e2, List.flatMap_append, List.flatMap_cons, ea, eb, ex, List.set_eq_take_append_cons_drop, if_pos b]
  simp
theorem sides_append {rim n : Nat} {T : List (List Nat)} {z F R : Nat → Bool} {s : List Nat} {c : Bool} (hl : rim ≤ T.length) (S : Sides rim T n z F R) (h : scan F z c s c) : Sides rim (T ++ [s]) n z F (fun i => if i = T.length then c else R i) := by
  refine ⟨S.edge, fun i t ht => ?_⟩
  rcases get_append_new ht with ⟨h1, h2⟩ | ⟨rfl, rfl⟩
  · have h3 : ¬ fin rim i = T.length := by
      rcases Nat.lt_or_ge i rim with q | q
      · have := fin_lt q; omega
      · rw [fin_in q]; omega
    simp only [if_neg (show ¬ i = T.length by omega), if_neg h3]
    exact S.node i t h2
  · rw [fin_in hl]
    simp only [if_pos]
    exact h
theorem inv_sub {rim n u p k : Nat} {T : List (List Nat)} {t : List Nat} (V : Inv rim T n) (hk : k < n) (e : T[u]? = some t) (hp : t[p]? = some (2 * k + 1)) : Inv rim ((T ++ [[2 * k + 1, 2 * n]]).set u (t.set p (2 * n + 1))) (n + 1) := by
  have W := V.wf
  have hlen : u < T.length := (List.getElem?_eq_some_iff.mp e).1
  have es : (T ++ [[2 * k + 1, 2 * n]]).set u (t.set p (2 * n + 1)) = T.set u (t.set p (2 * n + 1)) ++ [[2 * k + 1, 2 * n]] := by rw [List.set_append, if_pos hlen]
  rw [es]
  have gW : (T.set u (t.set p (2 * n + 1)) ++ [[2 * k + 1, 2 * n]])[T.length]? = some [2 * k + 1, 2 * n] := by
    rw [List.getElem?_append_right (by rw [List.length_set]; exact Nat.le_refl _), List.length_set, Nat.sub_self]; rfl
  have hmem : ∀ x, x ∈ t → x ≠ 2 * k + 1 → x ∈ t.set p (2 * n + 1) := fun x hx hn => by
    obtain ⟨h1, h2⟩ := at_split hp
    obtain ⟨b, _⟩ := List.getElem?_eq_some_iff.mp hp
    rw [List.set_eq_take_append_cons_drop, if_pos b]
    rw [h1] at hx
    simp at hx ⊢
    rcases hx with h | h | h
    · exact Or.inl h
    · exact absurd h hn
    · exact Or.inr (Or.inr h)
  have gO : ∀ {i : Nat} {s : List Nat} {x}, T[i]? = some s → x ∈ s → x ≠ 2 * k + 1 → ∃ s', (T.set u (t.set p (2 * n + 1)) ++ [[2 * k + 1, 2 * n]])[i]? = some s' ∧ x ∈ s' := fun {i s x} h hx hn => by
    have hi := (List.getElem?_eq_some_iff.mp h).1
    rw [List.getElem?_append_left (by rw [List.length_set]; exact hi)]
    by_cases q : i = u
    · subst q
      rw [e] at h
      cases h
      exact ⟨_, List.getElem?_set_self hi, hmem x hx hn⟩
    · exact ⟨s, by rw [List.getElem?_set_ne (fun z => q z.symm)]; exact h, hx⟩
  have gU : ∃ s', (T.set u (t.set p (2 * n + 1)) ++ [[2 * k + 1, 2 * n]])[u]? = some s' ∧ 2 * n + 1 ∈ s' := by
    rw [List.getElem?_append_left (by rw [List.length_set]; exact hlen), List.getElem?_set_self hlen]
    exact ⟨_, rfl, List.mem_of_getElem? (List.getElem?_set_self (List.getElem?_eq_some_iff.mp hp).1)⟩
  have o1 : opp (2 * n + 1) = 2 * n := by unfold opp; rw [if_neg (by omega)]; omega
  have o2 : opp (2 * n) = 2 * n + 1 := by unfold opp; rw [if_pos (by omega)]
  have o3 : opp (2 * k + 1) = 2 * k := by unfold opp; rw [if_neg (by omega)]; omega
  have o4 : opp (2 * k) = 2 * k + 1 := by unfold opp; rw [if_pos (by omega)]
  refine ⟨W.grow (by simp; have := W.le; omega) ?_, fun z hz => ?_, fun S hr ha i hi => ?_, by simp; have := V.len; omega⟩
  · obtain ⟨A, B, eT, _, hs⟩ := set_split e
    obtain ⟨h1, h2⟩ := at_split hp
    obtain ⟨b, _⟩ := List.getElem?_eq_some_iff.mp hp
    have p1 : ((t.set p (2 * n + 1)) ++ [2 * k + 1]).Perm ((2 * n + 1) :: t) := by
      rw [List.set_eq_take_append_cons_drop, if_pos b]
      have q1 : (t.take p ++ (2 * n + 1) :: (t.drop (p + 1) ++ [2 * k + 1])).Perm ((2 * n + 1) :: (t.take p ++ (t.drop (p + 1) ++ [2 * k + 1]))) := List.perm_middle
      have q2 : (t.drop (p + 1) ++ [2 * k + 1]).Perm ((2 * k + 1) :: t.drop (p + 1)) := List.perm_append_comm
      have q3 := q2.append_left (t.take p)
      rw [← h1] at q3
      simpa using q1.trans (q3.cons _)
    rw [hs, eT]
    simp only [List.flatten_append, List.flatten_cons, List.flatten_nil, List.append_nil, List.append_assoc]
    have r1 : (A.flatten ++ (t.set p (2 * n + 1) ++ (B.flatten ++ [2 * k + 1, 2 * n]))).Perm (A.flatten ++ (t.set p (2 * n + 1) ++ ([2 * k + 1, 2 * n] ++ B.flatten))) := (List.perm_append_comm.append_left _).append_left _
    have r2 : (t.set p (2 * n + 1) ++ ([2 * k + 1, 2 * n] ++ B.flatten)) = (t.set p (2 * n + 1) ++ [2 * k + 1]) ++ (2 * n :: B.flatten) := by simp
    rw [r2] at r1
    have r3 := (p1.append_right (2 * n :: B.flatten)).append_left A.flatten
    have r4 : (A.flatten ++ ((2 * n + 1) :: t ++ 2 * n :: B.flatten)).Perm (A.flatten ++ (2 * n :: (2 * n + 1) :: (t ++ B.flatten))) := by
      refine List.Perm.append_left _ ?_
      have : ((2 * n + 1) :: t ++ 2 * n :: B.flatten).Perm (2 * n :: ((2 * n + 1) :: t ++ B.flatten)) := List.perm_middle
      exact this
    have r5 : (A.flatten ++ (2 * n :: (2 * n + 1) :: (t ++ B.flatten))).Perm (2 * n :: (A.flatten ++ ((2 * n + 1) :: (t ++ B.flatten)))) := List.perm_middle
    have r6 : (A.flatten ++ ((2 * n + 1) :: (t ++ B.flatten))).Perm ((2 * n + 1) :: (A.flatten ++ (t ++ B.flatten))) := List.perm_middle
    exact ((r1.trans r3).trans r4).trans (r5.trans (r6.cons _))
  · have em : T.set u (t.set p (2 * n + 1)) = T.map (·.flatMap (rep (2 * k + 1) (2 * n + 1))) := by
      rw [← flat_rep (turn_nd W.nd e) hp, set_map (g := rep (2 * k + 1) (2 * n + 1)) W.nd e (List.mem_of_getElem? hp) (fun a h => if_neg h)]
    have d2 : (2 * k + 1) / 2 = k := by omega
    have zk : z k = z n := by
      have x := hz T.length _ W.le gW
      simp only [par, d2, div_a] at x
      revert x
      cases z k <;> cases z n <;> simp
    have gM : ∀ {i : Nat} {l : List Nat}, T[i]? = some l → (T.set u (t.set p (2 * n + 1)) ++ [[2 * k + 1, 2 * n]])[i]? = some (l.flatMap (rep (2 * k + 1) (2 * n + 1))) := fun {i l} h => by
      rw [List.getElem?_append_left (by rw [List.length_set]; exact (List.getElem?_eq_some_iff.mp h).1), em, List.getElem?_map, h]
      rfl
    obtain ⟨F, R, S⟩ := V.cut z fun i l hi h => by
      rw [← hz i _ hi (gM h)]
      refine (par_flat fun x hx => ?_).symm
      unfold rep
      split
      · next q =>
        subst q
        simp [par, d2, div_b, zk]
      · simp [par]
    rw [em]
    have len : (T.map (·.flatMap (rep (2 * k + 1) (2 * n + 1)))).length = T.length := by simp
    have S2 := sides_map (n := n) (z := z) (F' := nw n F (F (2 * k + 1) ^^ z k) (F (2 * k + 1))) (σ := fun _ => false) (τ := fun _ => false) (e := fun _ => false) (g := rep (2 * k + 1) (2 * n + 1)) S
      (cut_edge S (by rw [zk]; cases F (2 * k + 1) <;> cases z n <;> rfl)) (fun i l x h hx => by
        rw [Bool.xor_false, Bool.xor_false]
        unfold rep
        split
        · next q =>
          subst q
          refine ⟨nw_b, ?_⟩
          show (F (2 * k + 1) ^^ z ((2 * n + 1) / 2)) = _
          rw [div_b, d2, zk]
        · exact ⟨nw_old (W.lt h hx), rfl⟩) (fun i l h => Cns.zero) (fun i l h => by
        split
        · exact ⟨rfl, hd_zero⟩
        · exact hd_zero)
    refine ⟨_, _, sides_append (c := F (2 * k + 1)) (by rw [len]; exact W.le) S2 ⟨nw_old (by omega), ?_, ?_⟩⟩
    · rw [d2]; exact nw_a
    · rw [d2, div_a, zk, bxx]; rfl
  · obtain ⟨sU, gU1, gU2⟩ := gU
    have uw : ∀ {x}, x = u → S x → S T.length := fun {x} q hs => by
      subst q
      exact ha x T.length ⟨2 * n + 1, sU, _, gU1, gW, gU2, by rw [o1]; simp⟩ hs
    have wu : S T.length → S u := fun hs => ha T.length u ⟨2 * n, _, sU, gW, gU1, by simp, by rw [o2]; exact gU2⟩ hs
    have old : ∀ i, i < T.length → S i := V.conn S hr fun i j hk1 hs => by
      obtain ⟨d, s1, s2, e1, e2, m1, m2⟩ := hk1
      by_cases q1 : d = 2 * k + 1
      · subst q1
        have hi : i = u := same_node W.nd e1 e m1 (List.mem_of_getElem? hp)
        obtain ⟨s', g1, g2⟩ := gO e2 m2 (by rw [o3]; omega)
        exact ha T.length j ⟨2 * k + 1, _, s', gW, g1, by simp, g2⟩ (uw hi hs)
      · by_cases q2 : opp d = 2 * k + 1
        · have hd : d = 2 * k := by rw [← opp_opp d, q2, o3]
          have hj : j = u := same_node W.nd e2 e m2 (by rw [q2]; exact List.mem_of_getElem? hp)
          obtain ⟨s', g1, g2⟩ := gO e1 m1 q1
          rw [hj]
          exact wu (ha i T.length ⟨d, s', _, g1, gW, g2, by rw [q2]; simp⟩ hs)
        · obtain ⟨s', g1, g2⟩ := gO e1 m1 q1
          obtain ⟨s'', g3, g4⟩ := gO e2 m2 q2
          exact ha i j ⟨d, s', s'', g1, g3, g2, g4⟩ hs
    rcases Nat.lt_or_ge i T.length with q | q
    · exact old i q
    · have : i = T.length := by simp at hi; omega
      rw [this]
      exact uw rfl (old u hlen)
end K13
namespace K13
/-! ### G: an edge across a face -/
/-- y comes next clockwise behind x -/
def Nx (rim : Nat) (T : List (List Nat)) (x y : Nat) : Prop := ∃ (i : Nat) (t : List Nat) (p : Nat), T[i]? = some t ∧ t[p]? = some x ∧ ¬ (i < rim ∧ p + 1 = t.length) ∧ t[(p + 1) % t.length]? = some y
/-- a piece of the walk along a face -/
def Fw (rim : Nat) (T : List (List Nat)) : List Nat → Prop
  | [] => True
  | x :: r => (∀ y, r.head? = some y → Nx rim T (opp x) y) ∧ Fw rim T r
theorem nd_ix {t : List Nat} (nd : t.Nodup) {p q x : Nat} (h1 : t[p]? = some x) (h2 : t[q]? = some x) : p = q := by
  obtain ⟨b1, e1⟩ := List.getElem?_eq_some_iff.mp h1
  obtain ⟨b2, e2⟩ := List.getElem?_eq_some_iff.mp h2
  exact (List.getElem_inj nd).mp (e1.trans e2.symm)
theorem Nx.fun {rim : Nat} {T : List (List Nat)} (nd : T.flatten.Nodup) {x y z : Nat} (h1 : Nx rim T x y) (h2 : Nx rim T x z) : y = z := by
  obtain ⟨i, t, p, e, a, _, c⟩ := h1
  obtain ⟨j, s, q, e2, a2, _, c2⟩ := h2
  have hij := same_node nd e e2 (List.mem_of_getElem? a) (List.mem_of_getElem? a2)
  subst hij
  rw [e] at e2
  cases e2
  have hpq := nd_ix (turn_nd nd e) a a2
  subst hpq
  exact Option.some.inj (c.symm.trans c2)
theorem step_inj {n p q : Nat} (hp : p < n) (hq : q < n) (h : (p + 1) % n = (q + 1) % n) : p = q := by
  by_cases a : p + 1 = n
  · rw [a, Nat.mod_self] at h
    by_cases b : q + 1 = n
    · omega
    · rw [Nat.mod_eq_of_lt (by omega)] at h
      omega
  · rw [Nat.mod_eq_of_lt (by omega)] at h
    by_cases b : q + 1 = n
    · rw [b, Nat.mod_self] at h
      omega
    · rw [Nat.mod_eq_of_lt (by omega)] at h
      omega
theorem Nx.inj {rim : Nat} {T : List (List Nat)} (nd : T.flatten.Nodup) {x y z : Nat} (h1 : Nx rim T x z) (h2 : Nx rim T y z) : x = y := by
  obtain ⟨i, t, p, e, a, _, c⟩ := h1
  obtain ⟨j, s, q, e2, a2, _, c2⟩ := h2
  have hij := same_node nd e e2 (List.mem_of_getElem? c) (List.mem_of_getElem? c2)
  subst hij
  rw [e] at e2
  cases e2
  have hpq := nd_ix (turn_nd nd e) c c2
  have hp := (List.getElem?_eq_some_iff.mp a).1
  have hq := (List.getElem?_eq_some_iff.mp a2).1
  have := step_inj hp hq hpq
  subst this
  exact Option.some.inj (a.symm.trans a2)
theorem scan_first {F z : Nat → Bool} {t : List Nat} {a b : Bool} {x : Nat} (h : scan F z a t b) (e : t[0]? = some x) : F x = a := by
  cases t with
  | nil => cases e
  | cons y t => cases e; exact h.1
theorem scan_step {F z : Nat → Bool} : ∀ {t : List Nat} {a b : Bool} {p x y : Nat}, scan F z a t b → t[p]? = some x → t[p + 1]? = some y → F y = (F x ^^ z (x / 2))
  | [], _, _, _, _, _, _, h, _ => by cases h
  | u :: t, a, b, 0, x, y, h, h1, h2 => by
    cases h1
    rw [h.1]
    exact scan_first h.2 (by simpa using h2)
  | u :: t, a, b, p + 1, x, y, h, h1, h2 => scan_step (p := p) h.2 (by simpa using h1) (by simpa using h2)
theorem scan_last {F z : Nat → Bool} : ∀ {t : List Nat} {a b : Bool} {p x : Nat}, scan F z a t b → t[p]? = some x → p + 1 = t.length → b = (F x ^^ z (x / 2))
  | [], _, _, _, _, _, h, _ => by cases h
  | u :: t, a, b, 0, x, h, h1, h2 => by
    cases h1
    have : t = [] := List.length_eq_zero_iff.mp (by simpa using h2.symm)
    subst this
    rw [h.1]
    exact h.2.symm
  | u :: t, a, b, p + 1, x, h, h1, h2 => scan_last (p := p) h.2 (by simpa using h1) (by simpa using h2)
theorem Sides.next {rim n : Nat} {T : List (List Nat)} {z F R : Nat → Bool} (S : Sides rim T n z F R) {x y : Nat} (h : Nx rim T x y) : F y = (F x ^^ z (x / 2)) := by
  obtain ⟨i, t, p, e, a, nb, c⟩ := h
  have s := S.node i t e
  have hp := (List.getElem?_eq_some_iff.mp a).1
  by_cases q : p + 1 = t.length
  · rw [q, Nat.mod_self] at c
    have hi : rim ≤ i := by
      rcases Nat.lt_or_ge i rim with h | h
      · exact absurd ⟨h, q⟩ nb
      · exact h
    rw [fin_in hi] at s
    rw [scan_first s c]
    exact scan_last s a q
  · rw [Nat.mod_eq_of_lt (by omega)] at c
    exact scan_step s a c
theorem face_const {rim n : Nat} {T : List (List Nat)} {z F R : Nat → Bool} (W : WF rim T n) (S : Sides rim T n z F R) {x y : Nat} (hx : x < 2 * n) (h : Nx rim T (opp x) y) : F y = F x := by
  rw [S.next h, opp_div]
  have e := S.edge (x / 2) (by omega)
  rcases opp_cases x with ⟨g1, g2⟩ | ⟨g1, g2⟩
  · have v1 : F (2 * (x / 2)) = F x := congrArg F g1.symm
    have v2 : F (2 * (x / 2) + 1) = F (opp x) := congrArg F g2.symm
    rw [v1, v2] at e
    rw [← e]
    cases F x <;> cases F (opp x) <;> rfl
  · have v1 : F (2 * (x / 2) + 1) = F x := congrArg F g1.symm
    have v2 : F (2 * (x / 2)) = F (opp x) := congrArg F g2.symm
    rw [v1, v2] at e
    rw [← e]
    cases F x <;> cases F (opp x) <;> rfl
theorem Nx.mem {rim n : Nat} {T : List (List Nat)} (W : WF rim T n) {x y : Nat} (h : Nx rim T x y) : x < 2 * n ∧ y < 2 * n := by
  obtain ⟨i, t, p, e, a, _, c⟩ := h
  exact ⟨W.lt e (List.mem_of_getElem? a), W.lt e (List.mem_of_getElem? c)⟩
theorem Nx.same {rim : Nat} {T : List (List Nat)} (nd : T.flatten.Nodup) {x y : Nat} (h : Nx rim T x y) {i : Nat} {t : List Nat} (e : T[i]? = some t) : x ∈ t ↔ y ∈ t := by
  obtain ⟨j, s, p, e2, a, _, c⟩ := h
  constructor
  · intro hx
    have := same_node nd e e2 hx (List.mem_of_getElem? a)
    subst this
    rw [e] at e2
    cases e2
    exact List.mem_of_getElem? c
  · intro hy
    have := same_node nd e e2 hy (List.mem_of_getElem? c)
    subst this
    rw [e] at e2
    cases e2
    exact List.mem_of_getElem? a
/-- the edges along a piece of a walk, its last dart left out -/
def wk : List Nat → Nat → Bool
  | [], _ => false
  | [_], _ => false
  | x :: y :: r, k => decide (k = x / 2) ^^ wk (y :: r) k
theorem wk_par {rim : Nat} {T : List (List Nat)} (nd : T.flatten.Nodup) {i : Nat} {t : List Nat} (e : T[i]? = some t) : ∀ {l : List Nat} {x m : Nat}, Fw rim T (x :: l) → (x :: l).getLast? = some m → par (wk (x :: l)) t = (decide (x ∈ t) ^^ decide (m ∈ t))
  | [], x, m, _, hm => by
    have em : m = x := by simpa using hm.symm
    subst em
    rw [par_zero fun _ _ => rfl]
    cases decide (m ∈ t) <;> rfl
  | y :: l, x, m, h, hm => by
    have h1 := h.1 y rfl
    have ih := wk_par nd e (l := l) (x := y) (m := m) h.2 (by rw [List.getLast?_cons_cons] at hm; exact hm)
    show par (fun k => decide (k = x / 2) ^^ wk (y :: l) k) t = _
    rw [par_xor, ih, par_one (turn_nd nd e)]
    have w2 : decide (opp x ∈ t) = decide (y ∈ t) := decide_eq_decide.mpr (h1.same nd e)
    have w3 : (decide (2 * (x / 2) ∈ t) ^^ decide (2 * (x / 2) + 1 ∈ t)) = (decide (x ∈ t) ^^ decide (y ∈ t)) := by
      rw [← w2]
      rcases opp_cases x with ⟨g1, g2⟩ | ⟨g1, g2⟩
      · have v1 : decide (2 * (x / 2) ∈ t) = decide (x ∈ t) := decide_eq_decide.mpr (by rw [← g1])
        have v2 : decide (2 * (x / 2) + 1 ∈ t) = decide (opp x ∈ t) := decide_eq_decide.mpr (by rw [← g2])
        rw [v1, v2]
      · have v1 : decide (2 * (x / 2) + 1 ∈ t) = decide (x ∈ t) := decide_eq_decide.mpr (by rw [← g1])
        have v2 : decide (2 * (x / 2) ∈ t) = decide (opp x ∈ t) := decide_eq_decide.mpr (by rw [← g2])
        rw [v1, v2, Bool.xor_comm]
    rw [w3]
    cases decide (x ∈ t) <;> cases decide (y ∈ t) <;> cases decide (m ∈ t) <;> rfl
theorem wk_eq : ∀ {l : List Nat} (d : Nat), l.Nodup → wk l (d / 2) = (decide (d ∈ l.dropLast) ^^ decide (opp d ∈ l.dropLast))
  | [], d, _ => rfl
  | [x], d, _ => rfl
  | x :: y :: r, d, nd => by
    have nd2 := List.nodup_cons.mp nd
    have ih := wk_eq (l := y :: r) d nd2.2
    show (decide (d / 2 = x / 2) ^^ wk (y :: r) (d / 2)) = _
    rw [ih]
    have hx : ¬ x ∈ (y :: r).dropLast := fun h => nd2.1 (List.dropLast_subset _ h)
    show _ = (decide (d ∈ x :: (y :: r).dropLast) ^^ decide (opp d ∈ x :: (y :: r).dropLast))
    generalize (y :: r).dropLast = w at hx ⊢
    have ne : opp d ≠ d := by rcases opp_cases d with ⟨h1, h2⟩ | ⟨h1, h2⟩ <;> omega
    by_cases q1 : d = x
    · subst q1
      have q2 : ¬ opp d = d := ne
      simp [hx, q2]
    · by_cases q2 : opp d = x
      · subst q2
        have q3 : d / 2 = opp d / 2 := (opp_div d).symm
        have q4 : ¬ d = opp d := fun h => ne h.symm
        simp [hx, q3, q4]
      · have q3 : ¬ d / 2 = x / 2 := fun h => by
          rcases opp_cases d with ⟨h1, h2⟩ | ⟨h1, h2⟩ <;> rcases opp_cases x with ⟨h3, h4⟩ | ⟨h3, h4⟩ <;> omega
        simp [q1, q2, q3]
theorem Cns.of_ix {σ τ : Nat → Bool} {e : Bool} : ∀ {t : List Nat}, (∀ (p x y : Nat), t[p]? = some x → t[p + 1]? = some y → τ x = σ y) → (∀ (p x : Nat), t[p]? = some x → p + 1 = t.length → τ x = e) → Cns σ τ e t
  | [], _, _ => trivial
  | [x], _, h => ⟨h 0 x rfl rfl, trivial⟩
  | x :: y :: t, h1, h2 => ⟨h1 0 x y rfl rfl, Cns.of_ix (t := y :: t) (fun p a b ha hb => h1 (p + 1) a b (by simpa using ha) (by simpa using hb)) fun p a ha hp => h2 (p + 1) a (by simpa using ha) (by simpa using hp)⟩
theorem Fw.tail_pred {rim : Nat} {T : List (List Nat)} : ∀ {l : List Nat} {x y : Nat}, Fw rim T (x :: l) → y ∈ l → ∃ w, w ∈ (x :: l).dropLast ∧ Nx rim T (opp w) y
  | [], _, _, _, h => by cases h
  | z :: l, x, y, h, hy => by
    rcases List.mem_cons.mp hy with rfl | hy
    · exact ⟨x, by simp, h.1 y rfl⟩
    · obtain ⟨w, h1, h2⟩ := Fw.tail_pred (x := z) h.2 hy
      exact ⟨w, List.mem_cons_of_mem _ h1, h2⟩
theorem Fw.next {rim : Nat} {T : List (List Nat)} : ∀ {l : List Nat} {x w : Nat}, Fw rim T (x :: l) → w ∈ (x :: l).dropLast → ∃ y, y ∈ l ∧ Nx rim T (opp w) y
  | [], _, _, _, h => by cases h
  | z :: l, x, w, h, hw => by
    have hw2 : w = x ∨ w ∈ (z :: l).dropLast := by simpa using hw
    rcases hw2 with rfl | hw2
    · exact ⟨z, by simp, h.1 z rfl⟩
    · obtain ⟨y, h1, h2⟩ := Fw.next (x := z) h.2 hw2
      exact ⟨y, List.mem_cons_of_mem _ h1, h2⟩
end K13
namespace K13
def chg (x0 xm y0 y1 : Nat) : Nat → List Nat := fun x => (if x = x0 then [y0] else []) ++ ((if x = xm then [y1] else []) ++ [x])
theorem Fw.all {rim n : Nat} {T : List (List Nat)} (W : WF rim T n) : ∀ {l : List Nat} {x : Nat}, x < 2 * n → Fw rim T (x :: l) → ∀ y, y ∈ x :: l → y < 2 * n
  | [], x, hx, _, y, hy => by simp at hy; omega
  | z :: l, x, hx, h, y, hy => by
    rcases List.mem_cons.mp hy with rfl | hy
    · exact hx
    · exact Fw.all W ((h.1 z rfl).mem W).2 h.2 y hy
theorem face_all {rim n : Nat} {T : List (List Nat)} {z F R : Nat → Bool} (W : WF rim T n) (S : Sides rim T n z F R) : ∀ {l : List Nat} {x m : Nat}, x < 2 * n → Fw rim T (x :: l) → (x :: l).getLast? = some m → F m = F x
  | [], x, m, _, _, h => by cases h; rfl
  | z :: l, x, m, hx, h, hm => by
    have h1 := h.1 z rfl
    rw [face_all W S (h1.mem W).2 h.2 (by rw [List.getLast?_cons_cons] at hm; exact hm)]
    exact face_const W S hx h1
theorem getLast_mem {l : List Nat} {m : Nat} (h : l.getLast? = some m) : m ∈ l := List.mem_of_getLast? h
theorem dropLast_nd {l : List Nat} {m : Nat} (nd : l.Nodup) (h : l.getLast? = some m) : ¬ m ∈ l.dropLast ∧ ∀ x, x ∈ l → x ∈ l.dropLast ∨ x = m := by
  have e : l = l.dropLast ++ [m] := by
    obtain ⟨ys, rfl⟩ := List.getLast?_eq_some_iff.mp h
    simp
  constructor
  · intro hm
    rw [e] at nd
    exact (List.nodup_append.mp nd).2.2 m hm m (by simp) rfl
  · intro x hx
    rw [e] at hx
    simpa using hx
theorem cut_chord {rim n x0 xm y0 y1 : Nat} {T : List (List Nat)} {l : List Nat} (V : Inv rim T n) (fw : Fw rim T (x0 :: l)) (nd : (x0 :: l).Nodup) (hm : (x0 :: l).getLast? = some xm) (hx0 : x0 < 2 * n)
    (hy : (y0 = 2 * n ∧ y1 = 2 * n + 1) ∨ (y0 = 2 * n + 1 ∧ y1 = 2 * n)) : Cut rim (T.map (·.flatMap (chg x0 xm y0 y1))) (n + 1) := fun z hz => by
  have W := V.wf
  have hall := fw.all W hx0
  have hmx : xm < 2 * n := hall xm (getLast_mem hm)
  have hd0 := List.nodup_cons.mp nd
  have hdl := dropLast_nd nd hm
  have dy0 : y0 / 2 = n := by omega
  have dy1 : y1 / 2 = n := by omega
  -- the old edge set
  obtain ⟨F, R, S⟩ := V.cut (fun k => z k ^^ (z n && wk (x0 :: l) k)) fun i t hi h => by
    have x := hz i _ hi (by rw [List.getElem?_map, h]; rfl)
    have p1 : par z (t.flatMap (chg x0 xm y0 y1)) = (par z t ^^ (z n && (decide (x0 ∈ t) ^^ decide (xm ∈ t)))) := by
      have tn := turn_nd W.nd h
      have gen : ∀ s : List Nat, s.Nodup → par z (s.flatMap (chg x0 xm y0 y1)) = (par z s ^^ (z n && (decide (x0 ∈ s) ^^ decide (xm ∈ s)))) := fun s => by
        induction s with
        | nil => intro _; simp [par]
        | cons u s ih =>
          intro ns
          have n2 := List.nodup_cons.mp ns
          rw [List.flatMap_cons, par_app, ih n2.2]
          have e1 : par z (chg x0 xm y0 y1 u) = ((z n && (decide (x0 = u) ^^ decide (xm = u))) ^^ z (u / 2)) := by
            unfold chg
            by_cases a : u = x0
            · by_cases b : u = xm
              · have a' := a.symm
                have b' := b.symm
                rw [if_pos a, if_pos b, decide_eq_true a', decide_eq_true b']
                simp [par, dy0, dy1]
              · have a' := a.symm
                have b' : ¬ xm = u := fun q => b q.symm
                rw [if_pos a, if_neg b, decide_eq_true a', decide_eq_false b']
                simp [par, dy0]
            · by_cases b : u = xm
              · have a' : ¬ x0 = u := fun q => a q.symm
                have b' := b.symm
                rw [if_neg a, if_pos b, decide_eq_false a', decide_eq_true b']
                simp [par, dy1]
              · have a' : ¬ x0 = u := fun q => a q.symm
                have b' : ¬ xm = u := fun q => b q.symm
                rw [if_neg a, if_neg b, decide_eq_false a', decide_eq_false b']
                simp [par]
          have e2 : ∀ v, decide (v ∈ u :: s) = (decide (v = u) ^^ decide (v ∈ s)) := fun v => by
            by_cases a : v = u
            · subst a
              have : ¬ v ∈ s := n2.1
              simp [this]
            · simp [a]
          rw [e1, e2 x0, e2 xm]
          show _ = ((z (u / 2) ^^ par z s) ^^ _)
          cases z n <;> cases decide (x0 = u) <;> cases decide (xm = u) <;> cases z (u / 2) <;> cases par z s <;> cases decide (x0 ∈ s) <;> cases decide (xm ∈ s) <;> rfl
      exact gen t tn
    rw [p1] at x
    have p2 : par (fun k => z n && wk (x0 :: l) k) t = (z n && par (wk (x0 :: l)) t) := by
      have gen : ∀ s : List Nat, par (fun k => z n && wk (x0 :: l) k) s = (z n && par (wk (x0 :: l)) s) := fun s => by
        induction s with
        | nil => cases z n <;> rfl
        | cons u s ih =>
          simp only [par]
          rw [ih]
          cases z n <;> simp
      exact gen t
    rw [par_xor, p2, wk_par W.nd h fw hm]
    exact x
  have hF : F xm = F x0 := face_all W S hx0 fw hm
  have y01 : y0 ≠ y1 := by omega
  have y0g : ¬ y0 < 2 * n := by omega
  have y1g : ¬ y1 < 2 * n := by omega
  let F' : Nat → Bool := fun x => if x = y0 then F x0 else if x = y1 then F x0 ^^ z n else F x ^^ (z n && decide (x ∈ (x0 :: l).dropLast))
  have Fy0 : F' y0 = F x0 := if_pos rfl
  have Fy1 : F' y1 = (F x0 ^^ z n) := by
    show (if y1 = y0 then _ else _) = _
    rw [if_neg (fun q => y01 q.symm), if_pos rfl]
  have Fx : ∀ x, x < 2 * n → F' x = (F x ^^ (z n && decide (x ∈ (x0 :: l).dropLast))) := fun x hx => by
    show (if x = y0 then _ else _) = _
    rw [if_neg (by omega), if_neg (by omega)]
  let σ : Nat → Bool := fun x => z n && decide (x ∈ l)
  let τ : Nat → Bool := fun x => z n && decide (opp x ∈ (x0 :: l).dropLast)
  have key : ∀ {x y}, Nx rim T x y → τ x = σ y := fun {x y} h => by
    have : (opp x ∈ (x0 :: l).dropLast) ↔ (y ∈ l) := by
      constructor
      · intro hw
        obtain ⟨y', h1, h2⟩ := fw.next hw
        rw [opp_opp] at h2
        rw [h.fun W.nd h2]
        exact h1
      · intro hy
        obtain ⟨w, h1, h2⟩ := fw.tail_pred hy
        rw [h.inj W.nd h2, opp_opp]
        exact h1
    show (z n && _) = (z n && _)
    rw [decide_eq_decide.mpr this]
  let e : Nat → Bool := fun i => if i < rim then false else hd σ false ((T[i]?).getD [])
  have sg : Sides rim (T.map (·.flatMap (chg x0 xm y0 y1))) (n + 1) z F' (fun i => R i ^^ (decide (rim ≤ i) && e i)) := by
    refine sides_map (σ := σ) (τ := τ) (e := e) S (fun k hk => ?_) (fun i t x h hx => ?_) (fun i t h => ?_) (fun i t h => ?_)
    · by_cases q : k = n
      · subst q
        rcases hy with ⟨a, b⟩ | ⟨a, b⟩
        · rw [← b, ← a, Fy0, Fy1]
          cases F x0 <;> cases z k <;> rfl
        · rw [← a, ← b, Fy0, Fy1]
          cases F x0 <;> cases z k <;> rfl
      · rw [Fx _ (by omega), Fx _ (by omega)]
        have e1 := S.edge k (by omega)
        have e2 := wk_eq (2 * k) nd
        have e3 : opp (2 * k) = 2 * k + 1 := by unfold opp; rw [if_pos (by omega)]
        rw [div_a, e3] at e2
        simp only [e2] at e1
        revert e1
        cases F (2 * k) <;> cases F (2 * k + 1) <;> cases z k <;> cases z n <;> cases decide (2 * k ∈ (x0 :: l).dropLast) <;> cases decide (2 * k + 1 ∈ (x0 :: l).dropLast) <;> simp
    · have hx2 := W.lt h hx
      have e2 := wk_eq x nd
      show scan F' z (F x ^^ (z n && decide (x ∈ l))) (chg x0 xm y0 y1 x) ((F x ^^ (z (x / 2) ^^ (z n && wk (x0 :: l) (x / 2)))) ^^ (z n && decide (opp x ∈ (x0 :: l).dropLast)))
      rw [e2]
      have e3 : ((F x ^^ (z (x / 2) ^^ (z n && (decide (x ∈ (x0 :: l).dropLast) ^^ decide (opp x ∈ (x0 :: l).dropLast))))) ^^ (z n && decide (opp x ∈ (x0 :: l).dropLast))) = (F' x ^^ z (x / 2)) := by
        rw [Fx x hx2]
        cases F x <;> cases z (x / 2) <;> cases z n <;> cases decide (x ∈ (x0 :: l).dropLast) <;> cases decide (opp x ∈ (x0 :: l).dropLast) <;> rfl
      rw [e3]
      have last : ∀ a, a = F' x → scan F' z a [x] (F' x ^^ z (x / 2)) := fun a q => ⟨q.symm, by rw [q]; rfl⟩
      have in0 : x = x0 → ¬ x ∈ l := fun q => by rw [q]; exact hd0.1
      unfold chg
      by_cases a : x = x0
      · have nl := in0 a
        by_cases b : x = xm
        · -- one and the same dart
          rw [if_pos a, if_pos b]
          have l0 : l = [] := by
            cases l with
            | nil => rfl
            | cons w l =>
              exfalso
              rw [List.getLast?_cons_cons] at hm
              have := getLast_mem hm
              rw [← b] at this
              exact nl this
          refine ⟨?_, ?_⟩
          · rw [Fy0, a]
            simp [l0]
          · show scan F' z _ ([y1] ++ [x]) _
            refine ⟨?_, last _ ?_⟩
            · rw [Fy1, dy0, a]
              simp [l0]
            · rw [dy0, dy1, bxx, Fx x hx2, l0]
              simp
        · rw [if_pos a, if_neg b]
          have hd : x ∈ (x0 :: l).dropLast := by
            rcases hdl.2 x (by rw [a]; exact List.mem_cons_self) with h | h
            · exact h
            · exact absurd h b
          refine ⟨?_, last _ ?_⟩
          · rw [Fy0, a]
            rw [a] at nl
            simp [nl]
          · rw [dy0, Fx x hx2]
            simp [nl, hd]
      · by_cases b : x = xm
        · rw [if_neg a, if_pos b]
          have hl : x ∈ l := by
            have := getLast_mem hm
            rw [← b] at this
            rcases List.mem_cons.mp this with h | h
            · exact absurd h a
            · exact h
          have hd : ¬ x ∈ (x0 :: l).dropLast := by rw [b]; exact hdl.1
          refine ⟨?_, last _ ?_⟩
          · rw [Fy1, b, hF]
            rw [b] at hl
            simp [hl]
          · rw [dy1, Fx x hx2]
            simp [hl, hd]
        · rw [if_neg a, if_neg b]
          refine last _ ?_
          rw [Fx x hx2]
          have : decide (x ∈ (x0 :: l).dropLast) = decide (x ∈ l) := by
            refine decide_eq_decide.mpr ⟨fun h => ?_, fun h => ?_⟩
            · rcases List.mem_cons.mp (List.dropLast_subset _ h) with q | q
              · exact absurd q a
              · exact q
            · rcases hdl.2 x (List.mem_cons_of_mem _ h) with q | q
              · exact q
              · exact absurd q b
          rw [this]
    · refine Cns.of_ix (fun p x y hx hy => ?_) (fun p x hx hp => ?_)
      · have hp := (List.getElem?_eq_some_iff.mp hy).1
        exact key ⟨i, t, p, h, hx, by omega, by rw [Nat.mod_eq_of_lt hp]; exact hy⟩
      · show τ x = (if i < rim then false else hd σ false ((T[i]?).getD []))
        by_cases q : i < rim
        · rw [if_pos q]
          show (z n && decide (opp x ∈ (x0 :: l).dropLast)) = false
          have : ¬ opp x ∈ (x0 :: l).dropLast := fun hw => by
            obtain ⟨y', h1, j, s, p', e1, e2, e3, e4⟩ := fw.next hw
            rw [opp_opp] at e2
            have hij := same_node W.nd e1 h (List.mem_of_getElem? e2) (List.mem_of_getElem? hx)
            subst hij
            rw [h] at e1
            cases e1
            have := nd_ix (turn_nd W.nd h) hx e2
            subst this
            exact e3 ⟨q, hp⟩
          simp [this]
        · rw [if_neg q, h]
          show τ x = hd σ false t
          cases t with
          | nil => cases hx
          | cons w t => exact key ⟨i, _, p, h, hx, by omega, by rw [hp, Nat.mod_self]; rfl⟩
    · show if i < rim then (if i < rim then false else hd σ false ((T[i]?).getD [])) = false ∧ hd σ (if i < rim then false else hd σ false ((T[i]?).getD [])) t = false else hd σ (if i < rim then false else hd σ false ((T[i]?).getD [])) t = (if i < rim then false else hd σ false ((T[i]?).getD []))
      by_cases q : i < rim
      · simp only [if_pos q]
        refine ⟨trivial, ?_⟩
        cases t with
        | nil => rfl
        | cons w t =>
          show (z n && decide (w ∈ l)) = false
          have : ¬ w ∈ l := fun hw => by
            obtain ⟨v, h1, j, s, p', e1, e2, e3, e4⟩ := fw.tail_pred hw
            have hij := same_node W.nd e1 h (List.mem_of_getElem? e4) List.mem_cons_self
            subst hij
            rw [h] at e1
            cases e1
            have h0 : (p' + 1) % (w :: t).length = 0 := nd_ix (turn_nd W.nd h) e4 rfl
            have hp := (List.getElem?_eq_some_iff.mp e2).1
            by_cases r : p' + 1 = (w :: t).length
            · exact e3 ⟨q, r⟩
            · rw [Nat.mod_eq_of_lt (by omega)] at h0
              omega
          simp [this]
      · simp only [if_neg q, h]
        cases t with
        | nil => rfl
        | cons w t => rfl
  exact ⟨F', _, sg⟩
end K13
namespace K13
theorem Fw.app {rim : Nat} {T : List (List Nat)} {B : List Nat} : ∀ {A : List Nat}, Fw rim T (A ++ B) → Fw rim T A ∧ Fw rim T B
  | [], h => ⟨trivial, h⟩
  | x :: A, h => by
    have ih := Fw.app (A := A) h.2
    refine ⟨⟨fun y hy => h.1 y ?_, ih.1⟩, ih.2⟩
    cases A with
    | nil => cases hy
    | cons a A => exact hy
theorem Fw.snoc {rim : Nat} {T : List (List Nat)} {m x : Nat} (hn : Nx rim T (opp m) x) : ∀ {l : List Nat}, Fw rim T l → l.getLast? = some m → Fw rim T (l ++ [x])
  | [], _, h => by cases h
  | [y], _, h => by
    cases h
    exact ⟨fun z hz => by cases hz; exact hn, ⟨fun z hz => by (have := hz; simp at this), trivial⟩⟩
  | y :: z :: l, h, hm => by
    have ih := Fw.snoc hn (l := z :: l) h.2 (by rw [List.getLast?_cons_cons] at hm; exact hm)
    exact ⟨fun w hw => h.1 w hw, ih⟩
theorem face_fresh {rim : Nat} {T : List (List Nat)} {d m x : Nat} {l : List Nat} (nd : T.flatten.Nodup) (fw : Fw rim T (d :: l)) (ln : (d :: l).Nodup) (hm : (d :: l).getLast? = some m) (hn : Nx rim T (opp m) x) (hx : x ≠ d) : ¬ x ∈ d :: l := fun h => by
  rcases List.mem_cons.mp h with h | h
  · exact hx h
  · obtain ⟨w, h1, h2⟩ := fw.tail_pred h
    have e := h2.inj nd hn
    have : w = m := by rw [← opp_opp w, e, opp_opp]
    exact (dropLast_nd ln hm).1 (this ▸ h1)
theorem seg {f : List Nat} {a b x y : Nat} (hab : a ≤ b) (hx : f[a]? = some x) (hy : f[b]? = some y) : ∃ l A B, (x :: l).getLast? = some y ∧ f = A ++ ((x :: l) ++ B) := by
  obtain ⟨h1, _⟩ := at_split hx
  by_cases q : a = b
  · subst q
    rw [hx] at hy
    cases hy
    exact ⟨[], f.take a, f.drop (a + 1), rfl, h1⟩
  · have h2 : (f.drop (a + 1))[b - (a + 1)]? = some y := by
      rw [List.getElem?_drop, show a + 1 + (b - (a + 1)) = b by omega]
      exact hy
    obtain ⟨h3, _⟩ := at_split h2
    refine ⟨(f.drop (a + 1)).take (b - (a + 1)) ++ [y], f.take a, (f.drop (a + 1)).drop (b - (a + 1) + 1), ?_, ?_⟩
    · rw [← List.cons_append, List.getLast?_append]
      rfl
    · rw [List.cons_append, List.append_assoc, List.singleton_append, ← h3]
      exact h1
theorem inv_chord {rim n u v p q a b first second : Nat} {T : List (List Nat)} {t s f : List Nat} (V : Inv rim T n) (fw : Fw rim T f) (nd : f.Nodup) (hfl : ∀ x, x ∈ f → x < 2 * n) (ha : f[a]? = some first) (hb : f[b]? = some second)
    (e : T[u]? = some t) (hp : t[p]? = some first) (e2 : (T.set u (insAt t p (2 * n)))[v]? = some s) (hq : s[q]? = some second) :
    Inv rim ((T.set u (insAt t p (2 * n))).set v (insAt s q (2 * n + 1))) (n + 1) := by
  refine inv_two V e e2 (Or.inl ⟨rfl, rfl⟩) ?_
  have W := V.wf
  have h1 := hfl first (List.mem_of_getElem? ha)
  have h2 := hfl second (List.mem_of_getElem? hb)
  have nd1 : (T.set u (insAt t p (2 * n))).flatten.Nodup := nd_map W.nd (fun h => by have := (W.mem _).mp h; omega) e
  have em : (T.set u (insAt t p (2 * n))).set v (insAt s q (2 * n + 1)) = T.map (·.flatMap fun x => (bef first (2 * n) x).flatMap (bef second (2 * n + 1))) := by
    rw [← flat_bef (turn_nd nd1 e2) hq, set_map (g := bef second (2 * n + 1)) nd1 e2 (List.mem_of_getElem? hq) (fun a h => if_neg h), ← flat_bef (turn_nd W.nd e) hp, set_map (g := bef first (2 * n)) W.nd e (List.mem_of_getElem? hp) (fun a h => if_neg h), List.map_map]
    refine List.map_congr_left fun l _ => ?_
    show (l.flatMap _).flatMap _ = _
    rw [List.flatMap_assoc]
  rw [em]
  have g1 : (fun x => (bef first (2 * n) x).flatMap (bef second (2 * n + 1))) = chg first second (2 * n) (2 * n + 1) := by
    funext x
    show (bef first (2 * n) x).flatMap _ = _
    unfold bef chg
    by_cases a1 : x = first
    · rw [if_pos a1, if_pos a1]
      simp only [List.flatMap_cons, List.flatMap_nil]
      rw [if_neg (show ¬ 2 * n = second by omega)]
      by_cases b1 : x = second
      · rw [if_pos b1, if_pos b1]; rfl
      · rw [if_neg b1, if_neg b1]; rfl
    · rw [if_neg a1, if_neg a1]
      simp only [List.flatMap_cons, List.flatMap_nil]
      by_cases b1 : x = second
      · rw [if_pos b1, if_pos b1]; rfl
      · rw [if_neg b1, if_neg b1]; rfl
  rw [g1]
  rcases Nat.lt_or_ge b a with hlt | hle
  · have hne : first ≠ second := fun q => by
      subst q
      have := nd_ix nd ha hb
      omega
    have g2 : chg first second (2 * n) (2 * n + 1) = chg second first (2 * n + 1) (2 * n) := by
      funext x
      unfold chg
      by_cases a1 : x = first
      · have b1 : ¬ x = second := fun q => hne (a1.symm.trans q)
        simp only [if_pos a1, if_neg b1]; rfl
      · by_cases b1 : x = second
        · simp only [if_neg a1, if_pos b1]; rfl
        · simp only [if_neg a1, if_neg b1]
    rw [g2]
    obtain ⟨l, A, B, h3, rfl⟩ := seg (by omega) hb ha
    exact cut_chord V fw.app.2.app.1 (List.nodup_append.mp (List.nodup_append.mp nd).2.1).1 h3 h2 (Or.inr ⟨rfl, rfl⟩)
  · obtain ⟨l, A, B, h3, rfl⟩ := seg hle ha hb
    exact cut_chord V fw.app.2.app.1 (List.nodup_append.mp (List.nodup_append.mp nd).2.1).1 h3 h1 (Or.inl ⟨rfl, rfl⟩)
/-- the beginning: rim nodes without darts -/
theorem inv_start {rim : Nat} (h : 0 < rim) : Inv rim (List.replicate rim []) 0 := by
  have look : ∀ {i : Nat} {t : List Nat}, (List.replicate rim ([] : List Nat))[i]? = some t → i < rim ∧ t = [] := fun {i t} h => by
    rw [List.getElem?_replicate] at h
    split at h
    · exact ⟨by assumption, (Option.some.inj h).symm⟩
    · cases h
  refine ⟨⟨h, by simp, by simp, fun d => by simp⟩, fun z _ => ⟨fun _ => false, fun _ => false, fun k hk => by omega, fun i t ht => ?_⟩, fun S hr _ i hi => hr i (by simpa using hi), by simp⟩
  rw [(look ht).2]
  rfl
end K13
namespace K13
/-! ## The matrix of a net -/
/-- the half of an edge: h's row -/
def half (K : Nat → Nat → Rat) (h t : Nat) (a : Rat) : Nat → Nat → Rat := fun i j => if i = h then (K i j + (if j = h then a else 0)) - (if j = t then a else 0) else K i j
def bal (K : Nat → Nat → Rat) (e : (Nat × Nat) × Rat) : Nat → Nat → Rat := half (half K e.1.1 e.1.2 e.2) e.1.2 e.1.1 e.2
def kmat (L : List ((Nat × Nat) × Rat)) : Nat → Nat → Rat := L.foldl bal (fun _ _ => 0)
theorem sumR_add {f g : Nat → Rat} : ∀ {V : List Nat}, sumR (V.map fun j => f j + g j) = sumR (V.map f) + sumR (V.map g)
  | [] => by simp only [List.map_nil, sumR]; grind
  | v :: V => by
    simp only [List.map_cons, sumR]
    rw [sumR_add (V := V)]
    grind
theorem sumR_zero {V : List Nat} : sumR (V.map fun _ => (0 : Rat)) = 0 := by
  induction V with
  | nil => rfl
  | cons v V ih =>
    simp only [List.map_cons, sumR]
    rw [ih]; grind
theorem sumR_ite {h : Nat} {a : Rat} {V : List Nat} (nd : V.Nodup) (hm : h ∈ V) : sumR (V.map fun j => if j = h then a else 0) = a := by
  rw [sumR_erase hm, if_pos rfl]
  have e : (V.erase h).map (fun j => if j = h then a else 0) = (V.erase h).map (fun _ => (0 : Rat)) := List.map_congr_left fun j hj => by
    rw [if_neg ((nd.mem_erase_iff).mp hj).1]
  rw [e, sumR_zero]
  grind
theorem bal_eq {K : Nat → Nat → Rat} {f s : Nat} {a : Rat} {i j : Nat} : bal K ((f, s), a) i j = K i j + (if i = f then (if j = f then a else 0) - (if j = s then a else 0) else 0) + (if i = s then (if j = s then a else 0) - (if j = f then a else 0) else 0) := by
  unfold bal half
  by_cases h1 : i = f <;> by_cases h2 : i = s <;> by_cases h3 : j = f <;> by_cases h4 : j = s <;> simp only [h1, h2, h3, h4, if_true, if_false] <;> grind
/-- an edge of the list joins i and j -/
def adjL (L : List ((Nat × Nat) × Rat)) (i j : Nat) : Prop := ∃ a, ((i, j), a) ∈ L ∨ ((j, i), a) ∈ L
structure KOk (N : Nat) (L : List ((Nat × Nat) × Rat)) (K : Nat → Nat → Rat) : Prop where
  sym : ∀ i j, K i j = K j i
  off : ∀ i j, i ≠ j → K i j ≤ 0
  sum : ∀ i, sumR ((List.range N).map (K i)) = 0
  adj : ∀ i j, i ≠ j → (K i j ≠ 0 ↔ adjL L i j)
theorem KOk.step {N : Nat} {L : List ((Nat × Nat) × Rat)} {K : Nat → Nat → Rat} (O : KOk N L K) {f s : Nat} {a : Rat} (hf : f < N) (hs : s < N) (ha : 0 < a) : KOk N (L ++ [((f, s), a)]) (bal K ((f, s), a)) := by
  refine ⟨fun i j => ?_, fun i j hij => ?_, fun i => ?_, fun i j hij => ?_⟩
  · rw [bal_eq, bal_eq, O.sym i j]
    by_cases h1 : i = f <;> by_cases h2 : i = s <;> by_cases h3 : j = f <;> by_cases h4 : j = s <;> simp only [h1, h2, h3, h4, if_true, if_false] <;> grind
  · have h := O.off i j hij
    rw [bal_eq]
    by_cases h1 : i = f <;> by_cases h2 : i = s <;> by_cases h3 : j = f <;> by_cases h4 : j = s <;> grind
  · have e : (List.range N).map (bal K ((f, s), a) i) = (List.range N).map (fun j => K i j + ((if i = f then (if j = f then a else 0) - 1 * (if j = s then a else 0) else 0) + (if i = s then (if j = s then a else 0) - 1 * (if j = f then a else 0) else 0))) := List.map_congr_left fun j _ => by
      rw [bal_eq]; grind
    rw [e, sumR_add, sumR_add, O.sum i]
    have z : ∀ (g h : Nat), g < N → h < N → sumR ((List.range N).map fun j => (if j = g then a else 0) - 1 * (if j = h then a else 0)) = 0 := fun g h hg hh => by
      rw [sumR_map_sub, sumR_ite List.nodup_range (List.mem_range.mpr hg), sumR_ite List.nodup_range (List.mem_range.mpr hh)]
      grind
    have z2 : ∀ (c : Nat) (g h : Nat), g < N → h < N → sumR ((List.range N).map fun j => if i = c then (if j = g then a else 0) - 1 * (if j = h then a else 0) else 0) = 0 := fun c g h hg hh => by
      by_cases q : i = c
      · simp only [if_pos q]
        exact z g h hg hh
      · simp only [if_neg q]
        exact sumR_zero
    rw [z2 f f s hf hs, z2 s s f hs hf]
    grind
  · have h := O.off i j hij
    have hk := O.adj i j hij
    have hA : adjL (L ++ [((f, s), a)]) i j ↔ adjL L i j ∨ (i = f ∧ j = s) ∨ (j = f ∧ i = s) := by
      unfold adjL
      constructor
      · rintro ⟨b, h | h⟩
        · rcases List.mem_append.mp h with h | h
          · exact Or.inl ⟨b, Or.inl h⟩
          · simp at h
            exact Or.inr (Or.inl ⟨h.1.1, h.1.2⟩)
        · rcases List.mem_append.mp h with h | h
          · exact Or.inl ⟨b, Or.inr h⟩
          · simp at h
            exact Or.inr (Or.inr ⟨h.1.1, h.1.2⟩)
      · rintro (⟨b, h | h⟩ | ⟨rfl, rfl⟩ | ⟨rfl, rfl⟩)
        · exact ⟨b, Or.inl (List.mem_append_left _ h)⟩
        · exact ⟨b, Or.inr (List.mem_append_left _ h)⟩
        · exact ⟨a, Or.inl (by simp)⟩
        · exact ⟨a, Or.inr (by simp)⟩
    rw [hA, ← hk, bal_eq]
    by_cases h1 : i = f <;> by_cases h2 : i = s <;> by_cases h3 : j = f <;> by_cases h4 : j = s <;> grind
theorem kmat_ok {N : Nat} : ∀ {L : List ((Nat × Nat) × Rat)}, (∀ e, e ∈ L → e.1.1 < N ∧ e.1.2 < N ∧ 0 < e.2) → KOk N L (kmat L) := by
  have gen : ∀ (L L0 : List ((Nat × Nat) × Rat)) (K : Nat → Nat → Rat), KOk N L0 K → (∀ e, e ∈ L → e.1.1 < N ∧ e.1.2 < N ∧ 0 < e.2) → KOk N (L0 ++ L) (L.foldl bal K) := fun L => by
    induction L with
    | nil =>
      intro L0 K O _
      rw [List.append_nil]
      exact O
    | cons e L ih =>
      intro L0 K O h
      have h1 := h e List.mem_cons_self
      have h2 := ih (L0 ++ [e]) (bal K e) (O.step h1.1 h1.2.1 h1.2.2) fun x hx => h x (List.mem_cons_of_mem _ hx)
      rw [List.append_assoc] at h2
      exact h2
  intro L h
  refine gen L [] _ ⟨fun _ _ => rfl, fun _ _ _ => by show (0 : Rat) ≤ 0; exact Rat.le_refl, fun i => sumR_zero, fun i j _ => ?_⟩ h
  constructor
  · intro h; exact absurd rfl h
  · rintro ⟨a, h | h⟩ <;> cases h
theorem KOk.lapl {N : Nat} {L : List ((Nat × Nat) × Rat)} {K : Nat → Nat → Rat} (O : KOk N L K) : Lapl (List.range N) K :=
  ⟨List.nodup_range, fun i j _ _ => O.sym i j, fun i j _ _ h => O.off i j h, fun i _ => O.sum i⟩
/-! ### sizes -/
/-- 12 x is a whole number of at most m in size -/
def W12 (m : Nat) (x : Rat) : Prop := ∃ z : Int, x * 12 = (z : Rat) ∧ z.natAbs ≤ m
theorem W12.zero : W12 0 0 := ⟨0, by grind, by simp⟩
theorem W12.add {m k : Nat} {x y : Rat} (h1 : W12 m x) (h2 : W12 k y) : W12 (m + k) (x + y) := by
  obtain ⟨a, e1, l1⟩ := h1
  obtain ⟨b, e2, l2⟩ := h2
  refine ⟨a + b, ?_, by omega⟩
  rw [Rat.intCast_add]
  grind
theorem W12.sub {m k : Nat} {x y : Rat} (h1 : W12 m x) (h2 : W12 k y) : W12 (m + k) (x - y) := by
  obtain ⟨a, e1, l1⟩ := h1
  obtain ⟨b, e2, l2⟩ := h2
  refine ⟨a - b, ?_, by omega⟩
  rw [Rat.intCast_sub]
  grind
theorem W12.mono {m k : Nat} {x : Rat} (h : W12 m x) (hk : m ≤ k) : W12 k x := by
  obtain ⟨a, e, l⟩ := h
  exact ⟨a, e, by omega⟩
theorem W12.half {m k : Nat} {K : Nat → Nat → Rat} {h t : Nat} {a : Rat} (hK : ∀ i j, W12 m (K i j)) (ha : W12 k a) (i j : Nat) : W12 (m + 2 * k) (half K h t a i j) := by
  unfold K13.half
  have z : ∀ c : Prop, ∀ [Decidable c], W12 k (if c then a else 0) := fun c _ => by
    split
    · exact ha
    · exact W12.zero.mono (Nat.zero_le _)
  split
  · have := ((hK i j).add (z (j = h))).sub (z (j = t))
    exact this.mono (by omega)
  · exact (hK i j).mono (by omega)
theorem W12.bal {m k : Nat} {K : Nat → Nat → Rat} {e : (Nat × Nat) × Rat} (hK : ∀ i j, W12 m (K i j)) (ha : W12 k e.2) (i j : Nat) : W12 (m + 4 * k) (bal K e i j) :=
  (W12.half (fun i j => W12.half hK ha i j) ha i j).mono (by omega)
theorem W12.fold {k : Nat} : ∀ {L : List ((Nat × Nat) × Rat)} {m : Nat} {K : Nat → Nat → Rat}, (∀ i j, W12 m (K i j)) → (∀ e, e ∈ L → W12 k e.2) → ∀ i j, W12 (m + 4 * k * L.length) (L.foldl K13.bal K i j)
  | [], m, K, h, _, i, j => (h i j).mono (by simp)
  | e :: L, m, K, h, ha, i, j => by
    have h1 := W12.fold (L := L) (fun i j => W12.bal h (ha e List.mem_cons_self) i j) (fun x hx => ha x (List.mem_cons_of_mem _ hx)) i j
    refine h1.mono ?_
    rw [List.length_cons, Nat.mul_add]
    omega
/-- numerator and denominator below 2 ^ n -/
def Sm (n : Nat) (x : Rat) : Prop := x.num.natAbs < 2 ^ n ∧ x.den < 2 ^ n
end K13
namespace K13
def IntB (s : Rat) (B : Nat) (x : Rat) : Prop := ∃ z : Int, x * s = (z : Rat) ∧ z.natAbs ≤ B
theorem lap_int {s : Rat} {M B : Nat} {r : Nat → Rat} : ∀ {C : List Nat} {f : List Nat → Rat}, (∀ c, W12 M (r c)) → (∀ D, D.length + 1 = C.length → IntB s B (f D)) → IntB (12 * s) (C.length * (M * B)) (lap r C f)
  | [], f, _, _ => ⟨0, by simp only [lap]; grind, by simp⟩
  | c :: C, f, hr, hf => by
    obtain ⟨a, e1, l1⟩ := hr c
    obtain ⟨b, e2, l2⟩ := hf C (by simp)
    obtain ⟨d, e3, l3⟩ := lap_int (s := s) (M := M) (B := B) (r := r) (C := C) (f := fun D => f (c :: D)) hr fun D hD => hf (c :: D) (by simp; omega)
    refine ⟨a * b - d, ?_, ?_⟩
    · simp only [lap]
      rw [Rat.intCast_sub, Rat.intCast_mul]
      grind
    · have h1 : (a * b).natAbs ≤ M * B := by
        rw [Int.natAbs_mul]
        exact Nat.mul_le_mul l1 l2
      rw [List.length_cons, Nat.add_mul, Nat.one_mul]
      omega
theorem det_int {M : Nat} : ∀ {R : List (Nat → Rat)} {C : List Nat}, R.length = C.length → (∀ r, r ∈ R → ∀ c, W12 M (r c)) → IntB (12 ^ R.length) ((C.length * M) ^ R.length) (det R C)
  | [], [], _, _ => ⟨1, by simp only [det]; show (1 : Rat) * 12 ^ 0 = 1; grind, by simp⟩
  | [], _ :: _, h, _ => by cases h
  | r :: R, C, hl, h => by
    have h1 := lap_int (s := 12 ^ R.length) (M := M) (B := (C.length * M) ^ R.length) (r := r) (C := C) (f := det R) (h r List.mem_cons_self) fun D hD => by
      obtain ⟨z, e, l⟩ := det_int (M := M) (R := R) (C := D) (by simp at hl; omega) fun q hq => h q (List.mem_cons_of_mem _ hq)
      exact ⟨z, e, Nat.le_trans l (Nat.pow_le_pow_left (Nat.mul_le_mul_right _ (by omega)) _)⟩
    obtain ⟨z, e, l⟩ := h1
    refine ⟨z, ?_, ?_⟩
    · show lap r C (det R) * 12 ^ (R.length + 1) = _
      rw [← e, Rat.pow_succ]
      grind
    · refine Nat.le_trans l (Nat.le_of_eq ?_)
      rw [List.length_cons, Nat.pow_succ, ← Nat.mul_assoc, Nat.mul_comm]
/-- a row with one denominator for all -/
def RowB (b : Nat) (r : Nat → Rat) : Prop := ∃ D : Int, 0 < D ∧ D.natAbs < 2 ^ b ∧ ∀ j, ∃ n : Int, r j * D = (n : Rat) ∧ n.natAbs < 2 ^ b
theorem frac_sm {x : Rat} {D n : Int} {b : Nat} (hD : 0 < D) (h : x * D = (n : Rat)) (h1 : D.natAbs < 2 ^ b) (h2 : n.natAbs < 2 ^ b) : Sm b x := by
  have hx : x = Rat.divInt n D := by
    rw [Rat.divInt_eq_div, ← h]
    have : (D : Rat) ≠ 0 := by
      have := Rat.intCast_pos.mpr hD
      grind
    grind
  have hd : ((D.natAbs : Nat) : Int) = D := by omega
  constructor
  · rw [hx, ← hd, Rat.divInt_ofNat, Rat.num_mkRat]
    split
    · exact Nat.two_pow_pos b
    · exact Nat.lt_of_le_of_lt (by rw [Int.natAbs_ediv_of_dvd]; · exact Nat.div_le_self _ _
                                   · exact Int.ofNat_dvd_left.mpr (Nat.gcd_dvd_right _ _)) h2
  · rw [hx, ← hd, Rat.divInt_ofNat, Rat.den_mkRat]
    split
    · have := Nat.two_pow_pos b
      omega
    · exact Nat.lt_of_le_of_lt (Nat.div_le_self _ _) h1
end K13
namespace K13
theorem Sm.mono {a b : Nat} {x : Rat} (h : Sm a x) (hab : a ≤ b) : Sm b x :=
  ⟨Nat.lt_of_lt_of_le h.1 (Nat.pow_le_pow_right (by omega) hab), Nat.lt_of_lt_of_le h.2 (Nat.pow_le_pow_right (by omega) hab)⟩
theorem num_den (x : Rat) : x * (x.den : Int) = (x.num : Rat) := by
  have h := Rat.num_divInt_den x
  rw [Rat.divInt_eq_div] at h
  have d : ((x.den : Int) : Rat) ≠ 0 := by
    have := Rat.intCast_pos.mpr (show (0 : Int) < x.den by have := x.den_pos; omega)
    grind
  have e : x = (x.num : Rat) / ((x.den : Int) : Rat) := h.symm
  generalize ((x.den : Int) : Rat) = D at *
  generalize (x.num : Rat) = n at *
  rw [e]
  grind
theorem mul_lt_pow {m n a b : Nat} (h1 : m < 2 ^ a) (h2 : n < 2 ^ b) : m * n < 2 ^ (a + b) := by
  rw [Nat.pow_add]
  exact Nat.mul_lt_mul'' h1 h2
theorem Sm.mul {a b : Nat} {x y : Rat} (h1 : Sm a x) (h2 : Sm b y) : Sm (a + b) (x * y) := by
  have px := x.den_pos
  have py := y.den_pos
  refine frac_sm (D := (x.den : Int) * (y.den : Int)) (n := x.num * y.num) (Int.mul_pos (by omega) (by omega)) ?_ ?_ ?_
  · have e1 := num_den x
    have e2 := num_den y
    rw [Rat.intCast_mul, Rat.intCast_mul, ← e1, ← e2]
    grind
  · rw [Int.natAbs_mul]
    exact mul_lt_pow h1.2 h2.2
  · rw [Int.natAbs_mul]
    exact mul_lt_pow h1.1 h2.1
theorem Sm.sub {a b : Nat} {x y : Rat} (h1 : Sm a x) (h2 : Sm b y) : Sm (a + b + 1) (x - y) := by
  have px := x.den_pos
  have py := y.den_pos
  refine frac_sm (D := (x.den : Int) * (y.den : Int)) (n := x.num * y.den - y.num * x.den) (Int.mul_pos (by omega) (by omega)) ?_ ?_ ?_
  · have e1 := num_den x
    have e2 := num_den y
    rw [Rat.intCast_sub, Rat.intCast_mul, Rat.intCast_mul, Rat.intCast_mul, ← e1, ← e2]
    grind
  · rw [Int.natAbs_mul]
    exact Nat.lt_of_lt_of_le (mul_lt_pow h1.2 h2.2) (Nat.pow_le_pow_right (by omega) (by omega))
  · have q1 : (x.num * (y.den : Int)).natAbs < 2 ^ (a + b) := by
      rw [Int.natAbs_mul]; exact mul_lt_pow h1.1 h2.2
    have q2 : (y.num * (x.den : Int)).natAbs < 2 ^ (a + b) := by
      rw [Int.natAbs_mul, Nat.add_comm]; exact mul_lt_pow h2.1 h1.2
    rw [Nat.pow_succ]
    omega
theorem Sm.add {a b : Nat} {x y : Rat} (h1 : Sm a x) (h2 : Sm b y) : Sm (a + b + 1) (x + y) := by
  have hn : Sm b (-y) := by
    refine ⟨?_, ?_⟩
    · rw [Rat.neg_num, Int.natAbs_neg]; exact h2.1
    · rw [Rat.neg_den]; exact h2.2
  have := Sm.sub h1 hn
  have e : x - -y = x + y := by grind
  rw [e] at this
  exact this
theorem Sm.neg {a : Nat} {x : Rat} (h : Sm a x) : Sm a (-x) := by
  refine ⟨?_, ?_⟩
  · rw [Rat.neg_num, Int.natAbs_neg]; exact h.1
  · rw [Rat.neg_den]; exact h.2
theorem Sm.zero : Sm 1 0 := ⟨by decide, by decide⟩
theorem Sm.one : Sm 1 1 := ⟨by decide, by decide⟩
theorem Sm.inv {a : Nat} {x : Rat} (h : Sm (a + 1) x) : Sm (a + 1) x⁻¹ := by
  refine ⟨?_, ?_⟩
  · rw [Rat.num_inv, Int.natAbs_mul]
    have : x.num.sign.natAbs ≤ 1 := by
      rcases Int.lt_trichotomy x.num 0 with h | h | h
      · rw [Int.sign_eq_neg_one_of_neg h]; decide
      · rw [h]; decide
      · rw [Int.sign_eq_one_of_pos h]; decide
    have h2 := h.2
    have h3 := Nat.mul_le_mul_right x.den this
    rw [Int.natAbs_natCast]
    omega
  · rw [Rat.den_inv]
    split
    · have := Nat.two_pow_pos a
      rw [Nat.pow_succ]
      omega
    · exact h.1
theorem Sm.div {a b : Nat} {x y : Rat} (h1 : Sm a x) (h2 : Sm (b + 1) y) : Sm (a + (b + 1)) (x / y) := by
  rw [Rat.div_def]
  exact h1.mul h2.inv
theorem RowB.sm {b : Nat} {r : Nat → Rat} (h : RowB b r) (j : Nat) : Sm b (r j) := by
  obtain ⟨D, h1, h2, h3⟩ := h
  obtain ⟨n, e, l⟩ := h3 j
  exact frac_sm h1 e h2 l
theorem RowB.mono {a b : Nat} {r : Nat → Rat} (h : RowB a r) (hab : a ≤ b) : RowB b r := by
  obtain ⟨D, h1, h2, h3⟩ := h
  have hp : 2 ^ a ≤ 2 ^ b := Nat.pow_le_pow_right (by omega) hab
  exact ⟨D, h1, Nat.lt_of_lt_of_le h2 hp, fun j => by
    obtain ⟨n, e, l⟩ := h3 j
    exact ⟨n, e, Nat.lt_of_lt_of_le l hp⟩⟩
/-- one row less a multiple of a pivot row -/
theorem RowB.step {a b v : Nat} {r p : Nat → Rat} (h : RowB b r) (hp : RowB a p) (hv : 0 < p v) : RowB (b + a + 1) (fun j => r j - r v / p v * p j) := by
  obtain ⟨D, h1, h2, h3⟩ := h
  obtain ⟨E, g1, g2, g3⟩ := hp
  obtain ⟨nv, ev, lv⟩ := h3 v
  obtain ⟨mv, fv, kv⟩ := g3 v
  have gE := Rat.intCast_pos.mpr g1
  have mpos : 0 < mv := Rat.intCast_pos.mp (by rw [← fv]; exact Rat.mul_pos hv gE)
  have hpw : 2 ^ (b + a) ≤ 2 ^ (b + a + 1) := Nat.pow_le_pow_right (by omega) (by omega)
  refine ⟨D * mv, Int.mul_pos h1 mpos, ?_, fun j => ?_⟩
  · rw [Int.natAbs_mul]
    exact Nat.lt_of_lt_of_le (mul_lt_pow h2 kv) hpw
  · obtain ⟨n, e, l⟩ := h3 j
    obtain ⟨m, f, k⟩ := g3 j
    refine ⟨n * mv - nv * m, ?_, ?_⟩
    · rw [Rat.intCast_sub, Rat.intCast_mul, Rat.intCast_mul, Rat.intCast_mul, ← e, ← f, ← ev, ← fv]
      generalize (D : Rat) = D'
      generalize (E : Rat) = E'
      have hne : p v ≠ 0 := by grind
      have : r v / p v * p v = r v := by grind
      generalize r v / p v = q at *
      rw [← this]
      grind
    · have q1 : (n * mv).natAbs < 2 ^ (b + a) := by
        rw [Int.natAbs_mul]; exact mul_lt_pow l kv
      have q2 : (nv * m).natAbs < 2 ^ (b + a) := by
        rw [Int.natAbs_mul]; exact mul_lt_pow lv k
      rw [Nat.pow_succ]
      omega
/-! ### the elimination as the program does it: the pivot's row stays -/
def elimX (K : Nat → Nat → Rat) (v : Nat) : Nat → Nat → Rat := fun i j => if i = v then K i j else elim K v i j
def elimXs (K : Nat → Nat → Rat) (I : List Nat) : Nat → Nat → Rat := I.foldl elimX K
theorem elimXs_agree : ∀ {I : List Nat} {K K' : Nat → Nat → Rat} {S : Nat → Prop}, (∀ i, S i → ∀ j, K i j = K' i j) → (∀ i, i ∈ I → S i) → I.Nodup → ∀ i, S i → ¬ i ∈ I → ∀ j, elimXs K I i j = elims K' I i j
  | [], K, K', S, h, _, _, i, hi, _, j => h i hi j
  | v :: I, K, K', S, h, hI, nd, i, hi, hn, j => by
    have nd2 := List.nodup_cons.mp nd
    have hv := hI v List.mem_cons_self
    refine elimXs_agree (I := I) (K := elimX K v) (K' := elim K' v) (S := fun i => S i ∧ i ≠ v) (fun i hi j => ?_) (fun i hi => ⟨hI i (List.mem_cons_of_mem _ hi), fun e => nd2.1 (e ▸ hi)⟩) nd2.2 i ⟨hi, fun e => hn (e ▸ List.mem_cons_self)⟩ (fun h => hn (List.mem_cons_of_mem _ h)) j
    show (if i = v then K i j else elim K v i j) = elim K' v i j
    rw [if_neg hi.2]
    unfold elim
    rw [h i hi.1, h i hi.1, h v hv, h v hv]
/-- entries behind the elimination of I as ratios of minors -/
theorem elims_ratio {I V : List Nat} {K : Nat → Nat → Rat} (L : Lapl V K) (nd : I.Nodup) (h : ∀ i, i ∈ I → Reach V K I i) (i j : Nat) : elims K I i j * det (I.map K) I = det ((I ++ [i]).map K) (I ++ [j]) := by
  rw [schur L nd h]
  have e : det ([i].map (elims K I)) [j] = elims K I i j := by
    show lap (elims K I i) [j] (det []) = _
    simp only [lap, det]
    grind
  rw [e]
  grind
/-- the bound of the rows that are not eliminated -/
theorem elims_row {I V : List Nat} {K : Nat → Nat → Rat} {M b : Nat} (L : Lapl V K) (nd : I.Nodup) (h : ∀ i, i ∈ I → Reach V K I i) (hM : ∀ i j, W12 M (K i j)) (hb : 12 * ((I.length + 1) * M) ^ (I.length + 1) < 2 ^ b) (hM0 : 0 < M) (i : Nat) : RowB b (elims K I i) := by
  have hp := minor_pos L nd h
  obtain ⟨z, e, l⟩ := det_int (M := M) (R := I.map K) (C := I) (by simp) fun r hr c => by
    obtain ⟨u, _, rfl⟩ := List.mem_map.mp hr
    exact hM u c
  rw [List.length_map] at e l
  have p12 : (0 : Rat) < 12 ^ I.length := Rat.pow_pos (by decide)
  have zpos : 0 < z := Rat.intCast_pos.mp (by rw [← e]; exact Rat.mul_pos hp p12)
  have base : (I.length * M) ^ I.length ≤ ((I.length + 1) * M) ^ (I.length + 1) := by
    refine Nat.le_trans (Nat.pow_le_pow_left (Nat.mul_le_mul_right M (Nat.le_succ _)) _) (Nat.pow_le_pow_right (Nat.mul_pos (Nat.succ_pos _) hM0) (Nat.le_succ _))
  refine ⟨12 * z, by omega, ?_, fun j => ?_⟩
  · rw [Int.natAbs_mul]
    have : (12 : Int).natAbs = 12 := rfl
    rw [this]
    exact Nat.lt_of_le_of_lt (Nat.mul_le_mul_left 12 (Nat.le_trans l base)) hb
  · obtain ⟨y, e2, l2⟩ := det_int (M := M) (R := (I ++ [i]).map K) (C := I ++ [j]) (by simp) fun r hr c => by
      obtain ⟨u, _, rfl⟩ := List.mem_map.mp hr
      exact hM u c
    have el : (I ++ [i]).length = I.length + 1 := by simp
    have el2 : (I ++ [j]).length = I.length + 1 := by simp
    rw [List.length_map, el] at e2 l2
    rw [el2] at l2
    refine ⟨y, ?_, ?_⟩
    · have er := elims_ratio L nd h i j
      rw [← e2, ← er, Rat.intCast_mul, ← e]
      show _ = elims K I i j * det (I.map K) I * 12 ^ (I.length + 1)
      rw [Rat.pow_succ, Rat.intCast_ofNat]
      grind
    · have : y.natAbs ≤ 12 * ((I.length + 1) * M) ^ (I.length + 1) := Nat.le_trans l2 (Nat.le_mul_of_pos_left _ (by decide))
      omega
end K13
namespace K13
theorem elimXs_snoc {K : Nat → Nat → Rat} {I : List Nat} {v : Nat} : elimXs K (I ++ [v]) = elimX (elimXs K I) v := by
  unfold elimXs
  rw [List.foldl_append]
  rfl
theorem pos_of_mul {x d e : Rat} (h : x * d = e) (hd : 0 < d) (he : 0 < e) : 0 < x := by
  refine Classical.byContradiction fun hn => ?_
  have h2 := Rat.mul_nonneg (a := -x) (b := d) (by grind) (by grind)
  grind
theorem elims_pivot {I V : List Nat} {K : Nat → Nat → Rat} {v : Nat} (L : Lapl V K) (nd : (I ++ [v]).Nodup) (h : ∀ i, i ∈ I ++ [v] → Reach V K (I ++ [v]) i) : 0 < elims K I v v := by
  have hI : ∀ i, i ∈ I → Reach V K I i := fun i hi => (h i (List.mem_append_left _ hi)).sub fun j hj => List.mem_append_left _ hj
  have nI := (List.nodup_append.mp nd).1
  exact pos_of_mul (elims_ratio L nI hI v v) (minor_pos L nI hI) (minor_pos L nd h)
/-- what is known of the eliminations of a net -/
structure Stg (K : Nat → Nat → Rat) (I : List Nat) : Prop where
  nd : I.Nodup
  row : ∀ I1 I2, I = I1 ++ I2 → ∀ i, RowB (160 + 161 * I1.length) (elimXs K I1 i)
  piv : ∀ I1 v I2, I = I1 ++ v :: I2 → 0 < elimXs K I1 v v
  prow : ∀ I1 v I2, I = I1 ++ v :: I2 → RowB 160 (elimXs K I1 v)
  fin : ∀ i, ¬ i ∈ I → ∀ j, elimXs K I i j = elims K I i j
  out : ∀ i, ¬ i ∈ I → RowB 160 (elims K I i)
theorem nums {m : Nat} (h : m ≤ 9) : 12 * ((m + 1) * 2592) ^ (m + 1) < 2 ^ 160 := by
  have h1 : ((m + 1) * 2592) ^ (m + 1) ≤ 25920 ^ 10 := by
    refine Nat.le_trans (Nat.pow_le_pow_left (show (m + 1) * 2592 ≤ 25920 by omega) _) (Nat.pow_le_pow_right (by decide) (by omega))
  have h2 : 12 * 25920 ^ 10 < 2 ^ 160 := by decide +kernel
  omega
theorem stg_ok {I V : List Nat} {K : Nat → Nat → Rat} (L : Lapl V K) (nd : I.Nodup) (h : ∀ i, i ∈ I → Reach V K I i) (hM : ∀ i j, W12 2592 (K i j)) (h9 : I.length ≤ 9) : Stg K I := by
  have agree : ∀ I1 I2, I = I1 ++ I2 → ∀ i, ¬ i ∈ I1 → ∀ j, elimXs K I1 i j = elims K I1 i j := fun I1 I2 e i hi j =>
    elimXs_agree (S := fun _ => True) (fun _ _ _ => rfl) (fun _ _ => trivial) (by rw [e] at nd; exact (List.nodup_append.mp nd).1) i trivial hi j
  have reach : ∀ I1 I2, I = I1 ++ I2 → ∀ i, i ∈ I1 → Reach V K I1 i := fun I1 I2 e i hi => (h i (by rw [e]; exact List.mem_append_left _ hi)).sub fun j hj => by rw [e]; exact List.mem_append_left _ hj
  have ndp : ∀ I1 I2, I = I1 ++ I2 → I1.Nodup := fun I1 I2 e => by rw [e] at nd; exact (List.nodup_append.mp nd).1
  have lens : ∀ I1 I2, I = I1 ++ I2 → I1.length ≤ 9 := fun I1 I2 e => by
    have : I.length = I1.length + I2.length := by rw [e, List.length_append]
    omega
  have out : ∀ I1 I2, I = I1 ++ I2 → ∀ i, RowB 160 (elims K I1 i) := fun I1 I2 e i => elims_row L (ndp I1 I2 e) (reach I1 I2 e) hM (nums (lens I1 I2 e)) (by decide) i
  have piv : ∀ I1 v I2, I = I1 ++ v :: I2 → 0 < elimXs K I1 v v := fun I1 v I2 e => by
    have e2 : I = (I1 ++ [v]) ++ I2 := by rw [e]; simp
    have n2 := ndp _ _ e2
    rw [agree I1 _ e v (fun hv => (List.nodup_append.mp n2).2.2 v hv v (by simp) rfl)]
    exact elims_pivot L n2 (reach _ _ e2)
  have prow : ∀ I1 v I2, I = I1 ++ v :: I2 → RowB 160 (elimXs K I1 v) := fun I1 v I2 e => by
    have e2 : I = (I1 ++ [v]) ++ I2 := by rw [e]; simp
    have n2 := ndp _ _ e2
    have hv : ¬ v ∈ I1 := fun hv => (List.nodup_append.mp n2).2.2 v hv v (by simp) rfl
    have : elimXs K I1 v = elims K I1 v := by
      funext j
      exact agree I1 _ e v hv j
    rw [this]
    exact out I1 _ e v
  refine ⟨nd, ?_, piv, prow, fun i hi j => agree I [] (by simp) i hi j, fun i _ => out I [] (by simp) i⟩
  have gen : ∀ (n : Nat) (I1 I2 : List Nat), I1.length = n → I = I1 ++ I2 → ∀ i, RowB (160 + 161 * n) (elimXs K I1 i) := fun n => by
    induction n with
    | zero =>
      intro I1 I2 hl e i
      have : I1 = [] := List.length_eq_zero_iff.mp hl
      subst this
      exact (out [] I2 e i)
    | succ n ih =>
      intro I1 I2 hl e i
      have ne : I1 ≠ [] := fun q => by rw [q] at hl; cases hl
      obtain ⟨A, v, rfl⟩ : ∃ A v, I1 = A ++ [v] := ⟨I1.dropLast, I1.getLast ne, (List.dropLast_concat_getLast ne).symm⟩
      have hA : A.length = n := by simpa using hl
      have e2 : I = A ++ v :: I2 := by rw [e]; simp
      have hv : ¬ v ∈ A := fun hv => (List.nodup_append.mp (ndp _ _ e)).2.2 v hv v (by simp) rfl
      rw [elimXs_snoc]
      have r0 := ih A (v :: I2) hA e2 i
      by_cases q : i = v
      · have : elimX (elimXs K A) v i = elimXs K A i := by
          funext j
          show (if i = v then _ else _) = _
          rw [if_pos q]
        rw [this]
        exact r0.mono (by omega)
      · have : elimX (elimXs K A) v i = fun j => elimXs K A i j - elimXs K A i v / elimXs K A v v * elimXs K A v j := by
          funext j
          show (if i = v then _ else _) = _
          rw [if_neg q]
          rfl
        rw [this]
        have pr : RowB 160 (elimXs K A v) := by
          have : elimXs K A v = elims K A v := by
            funext j
            exact agree A _ e2 v hv j
          rw [this]
          exact out A _ e2 v
        exact (r0.step pr (piv A v I2 e2)).mono (by omega)
  exact fun I1 I2 e i => gen I1.length I1 I2 rfl e i
/-! ### the minors of the table -/
theorem lap_neg_row {r : Nat → Rat} {C : List Nat} {f : List Nat → Rat} : lap (fun j => - r j) C f = - lap r C f := by
  have h := lap_row_sub (r := fun _ => 0) (s := r) (k := 1) (C := C) (f := f)
  have z : lap (fun _ => 0) C f = 0 := lap_null fun A c B _ => by grind
  have e : (fun j => (fun _ => (0 : Rat)) j - 1 * r j) = fun j => - r j := by funext j; grind
  rw [e, z] at h
  rw [h]; grind
theorem det_neg : ∀ {R : List (Nat → Rat)} {C : List Nat}, det (R.map fun r => fun j => - r j) C = sg R.length * det R C
  | [], [] => by simp [det, sg_zero]
  | [], _ :: _ => by simp [det]
  | r :: R, C => by
    show lap (fun j => - r j) C (det (R.map fun r => fun j => - r j)) = sg (R.length + 1) * lap r C (det R)
    have h := lap_sub (r := r) (k := - sg R.length) (C := C) (f := fun _ => 0) (g := det R)
    rw [lap_zero] at h
    rw [lap_neg_row, lap_congr (g := fun D => 0 - - sg R.length * det R D) (fun D => by rw [det_neg]; grind), h, sg_succ]
    grind
theorem Link.imp {a b : Nat → Nat → Prop} (hab : ∀ i j, i ≠ j → a i j → b i j) {P Q I : List Nat} (h : Link a P Q I) : (P ++ (Q ++ I)).Nodup → Link b P Q I := by
  induction h with
  | nil => intro _; exact .nil
  | @done p q P A B I hk hl ih =>
    intro nd
    have nd1 := List.nodup_cons.mp nd
    refine .done (hab p q (fun e => nd1.1 (by simp [e])) hk) (ih ?_)
    have y := (List.perm_middle (a := q) (l₁ := P ++ A) (l₂ := B ++ I)).nodup_iff.mp (by simpa using nd1.2)
    simpa using (List.nodup_cons.mp y).2
  | @go p j P Q A B hk hl ih =>
    intro nd
    have nd1 := List.nodup_cons.mp nd
    refine .go (hab p j (fun e => nd1.1 (by simp [e])) hk) (ih ?_)
    have y := (List.perm_middle (a := j) (l₁ := P ++ (Q ++ A)) (l₂ := B)).nodup_iff.mp (by simpa using nd1.2)
    simpa using y
theorem Bad.imp {a b : Nat → Nat → Prop} (hab : ∀ i j, i ≠ j → a i j → b i j) {P Q I : List Nat} (h : Bad a P Q I) : (P ++ (Q ++ I)).Nodup → Bad b P Q I := by
  induction h with
  | @cross p q c P A B I hk hl =>
    intro nd
    have nd1 := List.nodup_cons.mp nd
    refine .cross (hab p q (fun e => nd1.1 (by simp [e])) hk) (hl.imp hab ?_)
    have y := (List.perm_middle (a := q) (l₁ := P ++ (c :: A)) (l₂ := B ++ I)).nodup_iff.mp (by simpa using nd1.2)
    simpa using (List.nodup_cons.mp y).2
  | @next p q P B I hk hb ih =>
    intro nd
    have nd1 := List.nodup_cons.mp nd
    refine .next (hab p q (fun e => nd1.1 (by simp [e])) hk) (ih ?_)
    have y := (List.perm_middle (a := q) (l₁ := P) (l₂ := B ++ I)).nodup_iff.mp (by simpa using nd1.2)
    simpa using (List.nodup_cons.mp y).2
  | @go p j P Q A B hk hl ih =>
    intro nd
    have nd1 := List.nodup_cons.mp nd
    refine .go (hab p j (fun e => nd1.1 (by simp [e])) hk) (ih ?_)
    have y := (List.perm_middle (a := j) (l₁ := P ++ (Q ++ A)) (l₂ := B)).nodup_iff.mp (by simpa using nd1.2)
    simpa using y
/-- the minor that the law asks of -/
def mnr (K : Nat → Nat → Rat) (I P Q : List Nat) : Rat := det (P.map fun p => fun j => - elims K I p j) Q
theorem mnr_sign {V P Q I : List Nat} {K : Nat → Nat → Rat} {adj : Nat → Nat → Prop} (L : Lapl V K) (hK : ∀ i j, i ≠ j → (K i j ≠ 0 ↔ adj i j)) (hl : P.length = Q.length) (nd : (P ++ (Q ++ I)).Nodup) (hv : ∀ i, i ∈ P ++ (Q ++ I) → i ∈ V)
    (hr : ∀ i, i ∈ I → Reach V K I i) (hb : ¬ Bad adj P Q I) : 0 ≤ mnr K I P Q ∧ (0 < mnr K I P Q ↔ Link adj P Q I) := by
  have nd2 := List.nodup_append.mp nd
  have nd3 := List.nodup_append.mp nd2.2.1
  have ndI : I.Nodup := nd3.2.1
  have e1 : E K P Q I = det (I.map K) I * mnr K I P Q := by
    have e : (P.map fun p => fun j => - elims K I p j) = (P.map (elims K I)).map fun r => fun j => - r j := by rw [List.map_map]; rfl
    unfold E mnr
    rw [schur L ndI hr, e, det_neg, List.length_map]
    grind
  have hd := minor_pos L ndI hr
  have hb2 : ¬ Bad (adjK K) P Q I := fun h => hb (h.imp (fun i j hij hk => (hK i j hij).mp hk) nd)
  have ndIQ : (I ++ Q).Nodup := List.perm_append_comm.nodup_iff.mp nd2.2.1
  have s := E_sign L (P.length + I.length) rfl hl ndIQ (fun i hi => hv i (by simp at hi ⊢; rcases hi with h | h <;> simp [h])) (fun p hp => ⟨hv p (by simp [hp]), fun h => by
    refine nd2.2.2 p hp p ?_ rfl
    simp at h ⊢
    rcases h with h | h <;> simp [h]⟩) hr hb2
  have hL : Link (adjK K) P Q I ↔ Link adj P Q I := ⟨fun h => h.imp (fun i j hij hk => (hK i j hij).mp hk) nd, fun h => h.imp (fun i j hij hk => (hK i j hij).mpr hk) nd⟩
  rw [e1, hL] at s
  have nn : 0 ≤ mnr K I P Q := by
    refine Classical.byContradiction fun hn => ?_
    have := Rat.mul_pos (a := det (I.map K) I) (b := - mnr K I P Q) hd (by grind)
    grind
  refine ⟨nn, fun hp => ?_, fun h => ?_⟩
  · refine Classical.byContradiction fun hn => ?_
    have z := E_zero (K := K) (P.length + I.length) (P := P) (Q := Q) (I := I) rfl fun h => hn (hL.mp h)
    rw [e1] at z
    have := Rat.mul_pos hd hp
    grind
  · have := s.2 h
    exact pos_of_mul (d := det (I.map K) I) (by grind) hd this
end K13
namespace K13
/-! ### the matrix of a grown net -/
def ndOf (T : List (List Nat)) (d : Nat) : Nat := T.findIdx fun t => decide (d ∈ t)
def endsT (T : List (List Nat)) (n : Nat) : List (Nat × Nat) := (List.range n).map fun k => (ndOf T (2 * k), ndOf T (2 * k + 1))
def innr (rim N : Nat) : List Nat := List.range' rim (N - rim)
theorem mem_innr {rim N i : Nat} : i ∈ innr rim N ↔ rim ≤ i ∧ i < N := by
  unfold innr
  rw [List.mem_range'_1]
  omega
theorem ndOf_eq {rim n : Nat} {T : List (List Nat)} (W : WF rim T n) {i d : Nat} {t : List Nat} (e : T[i]? = some t) (h : d ∈ t) : ndOf T d = i := by
  have hx : ∃ x, x ∈ T ∧ (fun t => decide (d ∈ t)) x = true := ⟨t, List.mem_of_getElem? e, by simpa using h⟩
  have hlt : ndOf T d < T.length := List.findIdx_lt_length_of_exists hx
  have h2 : (fun t => decide (d ∈ t)) T[ndOf T d] = true := List.findIdx_getElem (w := hlt)
  exact same_node W.nd (List.getElem?_eq_getElem hlt) e (by simpa using h2) h
theorem ndOf_spec {rim n : Nat} {T : List (List Nat)} (W : WF rim T n) {d : Nat} (h : d < 2 * n) : ∃ t, T[ndOf T d]? = some t ∧ d ∈ t := by
  obtain ⟨i, t, e, ht⟩ := W.find h
  rw [ndOf_eq W e ht]
  exact ⟨t, e, ht⟩
theorem ndOf_lt {rim n : Nat} {T : List (List Nat)} (W : WF rim T n) {d : Nat} (h : d < 2 * n) : ndOf T d < T.length := by
  obtain ⟨t, e, _⟩ := ndOf_spec W h
  exact (List.getElem?_eq_some_iff.mp e).1
/-- i and j are joined by an edge, by the list of ends -/
def adjE (E : List (Nat × Nat)) (i j : Nat) : Prop := (i, j) ∈ E ∨ (j, i) ∈ E
theorem adjE_iff {rim n : Nat} {T : List (List Nat)} (W : WF rim T n) {i j : Nat} : adjE (endsT T n) i j ↔ adjT T i j := by
  have o3 : ∀ k, opp (2 * k + 1) = 2 * k := fun k => by unfold opp; rw [if_neg (by omega)]; omega
  have o4 : ∀ k, opp (2 * k) = 2 * k + 1 := fun k => by unfold opp; rw [if_pos (by omega)]
  constructor
  · rintro (h | h)
    · obtain ⟨k, hk, e⟩ := List.mem_map.mp h
      have hk := List.mem_range.mp hk
      obtain ⟨rfl, rfl⟩ : ndOf T (2 * k) = i ∧ ndOf T (2 * k + 1) = j := by simpa using e
      obtain ⟨s, e1, h1⟩ := ndOf_spec W (d := 2 * k) (by omega)
      obtain ⟨t, e2, h2⟩ := ndOf_spec W (d := 2 * k + 1) (by omega)
      exact ⟨2 * k, s, t, e1, e2, h1, by rw [o4]; exact h2⟩
    · obtain ⟨k, hk, e⟩ := List.mem_map.mp h
      have hk := List.mem_range.mp hk
      obtain ⟨rfl, rfl⟩ : ndOf T (2 * k) = j ∧ ndOf T (2 * k + 1) = i := by simpa using e
      obtain ⟨s, e1, h1⟩ := ndOf_spec W (d := 2 * k) (by omega)
      obtain ⟨t, e2, h2⟩ := ndOf_spec W (d := 2 * k + 1) (by omega)
      exact ⟨2 * k + 1, t, s, e2, e1, h2, by rw [o3]; exact h1⟩
  · rintro ⟨d, s, t, e1, e2, h1, h2⟩
    have hd := W.lt e1 h1
    have i1 := ndOf_eq W e1 h1
    have i2 := ndOf_eq W e2 h2
    rcases opp_cases d with ⟨g1, g2⟩ | ⟨g1, g2⟩
    · refine Or.inl (List.mem_map.mpr ⟨d / 2, List.mem_range.mpr (by omega), ?_⟩)
      rw [← g2, ← g1, i1, i2]
    · refine Or.inr (List.mem_map.mpr ⟨d / 2, List.mem_range.mpr (by omega), ?_⟩)
      rw [← g1, ← g2, i1, i2]
theorem adjL_zip {E : List (Nat × Nat)} {am : List Rat} (h : am.length = E.length) {i j : Nat} : adjL (E.zip am) i j ↔ adjE E i j := by
  have key : ∀ p : Nat × Nat, (∃ a, (p, a) ∈ E.zip am) ↔ p ∈ E := fun p => by
    constructor
    · rintro ⟨a, ha⟩
      exact (List.of_mem_zip ha).1
    · intro hp
      obtain ⟨k, hk, e⟩ := List.getElem_of_mem hp
      refine ⟨am[k]'(by omega), ?_⟩
      have : (E.zip am)[k]'(by rw [List.length_zip]; omega) = (p, am[k]'(by omega)) := by
        rw [List.getElem_zip, e]
      rw [← this]
      exact List.getElem_mem _
  unfold adjL adjE
  rw [← key, ← key]
  constructor
  · rintro ⟨a, h | h⟩
    · exact Or.inl ⟨a, h⟩
    · exact Or.inr ⟨a, h⟩
  · rintro (⟨a, h⟩ | ⟨a, h⟩)
    · exact ⟨a, Or.inl h⟩
    · exact ⟨a, Or.inr h⟩
/-- the matrix of a net -/
def netK (T : List (List Nat)) (n : Nat) (am : List Rat) : Nat → Nat → Rat := kmat ((endsT T n).zip am)
structure Net (rim : Nat) (T : List (List Nat)) (n : Nat) (am : List Rat) : Prop where
  inv : Inv rim T n
  len : am.length = n
  nine : n ≤ 9
  pos : ∀ a, a ∈ am → 0 < a
  w12 : ∀ a, a ∈ am → W12 72 a
theorem Net.elen {rim n : Nat} {T : List (List Nat)} : (endsT T n).length = n := by simp [endsT]
theorem Net.kok {rim n : Nat} {T : List (List Nat)} {am : List Rat} (G : Net rim T n am) : KOk T.length ((endsT T n).zip am) (netK T n am) := by
  refine kmat_ok fun e he => ?_
  obtain ⟨h1, h2⟩ := List.of_mem_zip (a := e.1) (b := e.2) he
  obtain ⟨k, hk, e1⟩ := List.mem_map.mp h1
  have hk := List.mem_range.mp hk
  rw [← e1]
  exact ⟨ndOf_lt G.inv.wf (by omega), ndOf_lt G.inv.wf (by omega), G.pos _ h2⟩
theorem Net.adj {rim n : Nat} {T : List (List Nat)} {am : List Rat} (G : Net rim T n am) {i j : Nat} (h : i ≠ j) : netK T n am i j ≠ 0 ↔ adjT T i j := by
  rw [G.kok.adj i j h, adjL_zip (by rw [G.len]; simp [endsT]), adjE_iff G.inv.wf]
theorem Net.reach {rim n : Nat} {T : List (List Nat)} {am : List Rat} (G : Net rim T n am) (i : Nat) (hi : i < T.length) : Reach (List.range T.length) (netK T n am) (innr rim T.length) i := by
  refine G.inv.conn (Reach (List.range T.length) (netK T n am) (innr rim T.length)) (fun i hi => ?_) (fun i j hk hs => ?_) i hi
  · have := G.inv.wf.le
    exact .out (List.mem_range.mpr (by omega)) fun h => by
      have := mem_innr.mp h
      omega
  · by_cases q : j = i
    · rw [q]; exact hs
    · have hj : j < T.length := by
        obtain ⟨d, s, t, e1, e2, h1, h2⟩ := hk
        exact (List.getElem?_eq_some_iff.mp e2).1
      have h0 := (G.adj (fun e => q e.symm)).mpr hk
      rw [G.kok.sym] at h0
      exact .step (List.mem_range.mpr hj) hs.mem q h0 hs
theorem Net.w {rim n : Nat} {T : List (List Nat)} {am : List Rat} (G : Net rim T n am) (i j : Nat) : W12 2592 (netK T n am i j) := by
  have h := W12.fold (k := 72) (L := (endsT T n).zip am) (m := 0) (K := fun _ _ => 0) (fun _ _ => W12.zero) (fun e he => G.w12 _ (List.of_mem_zip (a := e.1) (b := e.2) he).2) i j
  refine h.mono ?_
  have h1 : ((endsT T n).zip am).length ≤ 9 := by
    rw [List.length_zip]
    have := G.len
    have := G.nine
    omega
  omega
theorem Net.stg {rim n : Nat} {T : List (List Nat)} {am : List Rat} (G : Net rim T n am) : Stg (netK T n am) (innr rim T.length) := by
  refine stg_ok G.kok.lapl (by unfold innr; exact List.nodup_range') (fun i hi => G.reach i (mem_innr.mp hi).2) G.w ?_
  unfold innr
  rw [List.length_range']
  have := G.inv.len
  have := G.nine
  omega
theorem Net.sign {rim n : Nat} {T : List (List Nat)} {am : List Rat} (G : Net rim T n am) {P Q : List Nat} (hl : P.length = Q.length) (nd : (P ++ Q).Nodup) (hr : ∀ p, p ∈ P ++ Q → p < rim) (hc : Circ P Q) :
    0 ≤ mnr (netK T n am) (innr rim T.length) P Q ∧ (0 < mnr (netK T n am) (innr rim T.length) P Q ↔ Link (adjT T) P Q (innr rim T.length)) := by
  have nd2 : (P ++ (Q ++ innr rim T.length)).Nodup := by
    rw [← List.append_assoc]
    refine List.nodup_append.mpr ⟨nd, by unfold innr; exact List.nodup_range', fun a ha b hb => ?_⟩
    have := hr a ha
    have := mem_innr.mp hb
    omega
  have hP : ∀ p, p ∈ P → p < rim := fun p hp => hr p (List.mem_append_left _ hp)
  have hQ : ∀ p, p ∈ Q → p < rim := fun p hp => hr p (List.mem_append_right _ hp)
  refine mnr_sign G.kok.lapl (fun i j hij => G.adj hij) hl nd2 (fun i hi => ?_) (fun i hi => G.reach i (mem_innr.mp hi).2) (not_bad G.inv.wf G.inv.cut hl nd2 hP hQ hc)
  have hle := G.inv.wf.le
  simp at hi
  rcases hi with h | h | h
  · have := hP i h; exact List.mem_range.mpr (by omega)
  · have := hQ i h; exact List.mem_range.mpr (by omega)
  · exact List.mem_range.mpr (mem_innr.mp h).2
end K13
namespace K13
/-! ## The law's search -/
inductive LinkU (adj : Nat → Nat → Prop) (inn : Nat → Prop) (tails : List Nat) : List Nat → List Nat → Prop where
  | nil {U : List Nat} : LinkU adj inn tails [] U
  | done {p q : Nat} {P U : List Nat} : adj p q → q ∈ tails → ¬ q ∈ U → LinkU adj inn tails P (q :: U) → LinkU adj inn tails (p :: P) U
  | go {p j : Nat} {P U : List Nat} : adj p j → ¬ j ∈ tails → inn j → ¬ j ∈ U → LinkU adj inn tails (j :: P) (j :: U) → LinkU adj inn tails (p :: P) U
theorem LinkU.congr {adj : Nat → Nat → Prop} {inn : Nat → Prop} {tails P U : List Nat} (h : LinkU adj inn tails P U) : ∀ U', (∀ x, (x ∈ tails ∨ inn x) → (x ∈ U' ↔ x ∈ U)) → LinkU adj inn tails P U' := by
  induction h with
  | nil => intro U' _; exact .nil
  | @done p q P U hk ht hu hl ih =>
    intro U' h
    refine .done hk ht (fun hm => hu ((h q (Or.inl ht)).mp hm)) (ih (q :: U') fun x hx => ?_)
    simp only [List.mem_cons, h x hx]
  | @go p j P U hk ht hi hu hl ih =>
    intro U' h
    refine .go hk ht hi (fun hm => hu ((h j (Or.inr hi)).mp hm)) (ih (j :: U') fun x hx => ?_)
    simp only [List.mem_cons, h x hx]
theorem filter_cut {l A B U : List Nat} {x : Nat} (nd : l.Nodup) (e : l.filter (fun y => decide (¬ y + 1 ∈ U)) = A ++ x :: B) : l.filter (fun y => decide (¬ y + 1 ∈ (x + 1) :: U)) = A ++ B := by
  have h1 : l.filter (fun y => decide (¬ y + 1 ∈ (x + 1) :: U)) = (l.filter (fun y => decide (¬ y + 1 ∈ U))).filter (fun y => decide (y ≠ x)) := by
    rw [List.filter_filter]
    refine List.filter_congr fun y _ => ?_
    by_cases a : y = x
    · subst a; simp
    · have a2 : ¬ y + 1 = x + 1 := by omega
      simp [a, a2]
  have h2 : (A ++ x :: B).Nodup := by rw [← e]; exact nd.filter _
  have h3 := List.nodup_append.mp h2
  have h4 := List.nodup_cons.mp h3.2.1
  rw [h1, e, List.filter_append, List.filter_cons_of_neg (by simp)]
  congr 1
  · exact List.filter_eq_self.mpr fun y hy => by
      have : y ≠ x := h3.2.2 y hy x List.mem_cons_self
      simp [this]
  · exact List.filter_eq_self.mpr fun y hy => by
      have : y ≠ x := fun q => h4.1 (q ▸ hy)
      simp [this]
theorem filter_same {l U : List Nat} {x : Nat} (hx : ¬ x ∈ l) : l.filter (fun y => decide (¬ y + 1 ∈ (x + 1) :: U)) = l.filter (fun y => decide (¬ y + 1 ∈ U)) := by
  refine List.filter_congr fun y hy => ?_
  have a : ¬ y = x := fun q => hx (q ▸ hy)
  simp [a]
theorem linkU_iff {adj0 adj1 : Nat → Nat → Prop} {inn : Nat → Prop} {tails I : List Nat} (hA : ∀ i j, adj1 (i + 1) j ↔ ∃ j0, j = j0 + 1 ∧ adj0 i j0) (hI : ∀ i j, adj0 i j → (inn (j + 1) ↔ j ∈ I)) (ndT : tails.Nodup) (ndI : I.Nodup) (dis : ∀ x, x ∈ tails → ¬ x ∈ I) {P U : List Nat} :
    LinkU adj1 inn (tails.map (· + 1)) (P.map (· + 1)) U ↔ Link adj0 P (tails.filter fun y => decide (¬ y + 1 ∈ U)) (I.filter fun y => decide (¬ y + 1 ∈ U)) := by
  constructor
  · intro h
    generalize eH : P.map (· + 1) = H at h
    induction h generalizing P with
    | nil =>
      have : P = [] := by simpa using eH
      subst this
      exact .nil
    | @done p q R U hk ht hu hl ih =>
      cases P with
      | nil => cases eH
      | cons p0 P =>
        have e2 : p0 + 1 = p ∧ P.map (· + 1) = R := by simpa using eH
        obtain ⟨rfl, rfl⟩ := e2
        obtain ⟨q0, rfl, hk0⟩ := (hA _ _).mp hk
        have ht0 : q0 ∈ tails := by simpa using ht
        have hm : q0 ∈ tails.filter fun y => decide (¬ y + 1 ∈ U) := List.mem_filter.mpr ⟨ht0, by simpa using hu⟩
        obtain ⟨A, B, e⟩ := List.append_of_mem hm
        have h1 := ih rfl
        rw [filter_cut ndT e, filter_same (dis q0 ht0)] at h1
        rw [e]
        exact .done hk0 h1
    | @go p j R U hk ht hi hu hl ih =>
      cases P with
      | nil => cases eH
      | cons p0 P =>
        have e2 : p0 + 1 = p ∧ P.map (· + 1) = R := by simpa using eH
        obtain ⟨rfl, rfl⟩ := e2
        obtain ⟨j0, rfl, hk0⟩ := (hA _ _).mp hk
        have hj0 : j0 ∈ I := (hI _ _ hk0).mp hi
        have hm : j0 ∈ I.filter fun y => decide (¬ y + 1 ∈ U) := List.mem_filter.mpr ⟨hj0, by simpa using hu⟩
        obtain ⟨A, B, e⟩ := List.append_of_mem hm
        have h1 := ih (P := j0 :: P) rfl
        rw [filter_cut ndI e, filter_same (fun h => dis j0 h hj0)] at h1
        rw [e]
        exact .go hk0 h1
  · intro h
    generalize eQ : (tails.filter fun y => decide (¬ y + 1 ∈ U)) = Q at h
    generalize eI : (I.filter fun y => decide (¬ y + 1 ∈ U)) = J at h
    induction h generalizing U with
    | nil => exact .nil
    | @done p q R A B J hk hl ih =>
      have hm : q ∈ tails.filter fun y => decide (¬ y + 1 ∈ U) := by rw [eQ]; simp
      obtain ⟨h1, h2⟩ := List.mem_filter.mp hm
      refine .done ((hA _ _).mpr ⟨q, rfl, hk⟩) (by simpa using h1) (by simpa using h2) (ih (U := (q + 1) :: U) (filter_cut ndT eQ) ?_)
      rw [filter_same (dis q h1)]
      exact eI
    | @go p j R Q A B hk hl ih =>
      have hm : j ∈ I.filter fun y => decide (¬ y + 1 ∈ U) := by rw [eI]; simp
      obtain ⟨h1, h2⟩ := List.mem_filter.mp hm
      refine .go ((hA _ _).mpr ⟨j, rfl, hk⟩) (fun h => dis j (by simpa using h) h1) ((hI _ _ hk).mpr h1) (by simpa using h2) (ih (U := (j + 1) :: U) ?_ (filter_cut ndI eI))
      rw [filter_same (fun h => dis j h h1)]
      exact eQ
/-- nodes numbered from 1 on: joined by an edge that is no loop -/
def adj1 (T : List (List Nat)) (i j : Nat) : Prop := ∃ a b, i = a + 1 ∧ j = b + 1 ∧ a ≠ b ∧ adjT T a b
theorem net_search {rim n : Nat} {T : List (List Nat)} {am : List Rat} (G : Net rim T n am) {P Q : List Nat} (hl : P.length = Q.length) (nd : (P ++ Q).Nodup) (hr : ∀ p, p ∈ P ++ Q → p < rim) (hc : Circ P Q) :
    0 ≤ mnr (netK T n am) (innr rim T.length) P Q ∧ (0 < mnr (netK T n am) (innr rim T.length) P Q ↔ LinkU (adj1 T) (fun j => rim < j) (Q.map (· + 1)) (P.map (· + 1)) []) := by
  have s := G.sign hl nd hr hc
  refine ⟨s.1, s.2.trans ?_⟩
  have nd2 : (P ++ (Q ++ innr rim T.length)).Nodup := by
    rw [← List.append_assoc]
    refine List.nodup_append.mpr ⟨nd, by unfold innr; exact List.nodup_range', fun a ha b hb => ?_⟩
    have := hr a ha
    have := mem_innr.mp hb
    omega
  have ndQ := List.nodup_append.mp (List.nodup_append.mp nd2).2.1
  have lt : ∀ i j, adjT T i j → j < T.length := fun i j ⟨d, s, t, _, e, _, _⟩ => (List.getElem?_eq_some_iff.mp e).1
  have h1 := linkU_iff (adj0 := fun i j => i ≠ j ∧ adjT T i j) (adj1 := adj1 T) (inn := fun j => rim < j) (tails := Q) (I := innr rim T.length) (P := P) (U := [])
    (fun i j => ⟨fun ⟨a, b, e1, e2, h1, h2⟩ => ⟨b, e2, by rw [show i = a by omega]; exact ⟨h1, h2⟩⟩, fun ⟨b, e, h1, h2⟩ => ⟨i, b, rfl, e, h1, h2⟩⟩)
    (fun i j h => ⟨fun hj => mem_innr.mpr ⟨by omega, lt i j h.2⟩, fun hj => by have := mem_innr.mp hj; omega⟩) ndQ.1 ndQ.2.1 fun x hx hi => ndQ.2.2 x hx x hi rfl
  rw [h1]
  have f1 : ∀ l : List Nat, (l.filter fun y => decide (¬ y + 1 ∈ ([] : List Nat))) = l := fun l => List.filter_eq_self.mpr fun y _ => by simp
  rw [f1, f1]
  exact ⟨fun h => h.imp (fun i j hij hk => ⟨hij, hk⟩) nd2, fun h => h.imp (fun i j _ hk => hk.2) nd2⟩
/-! ### the rows of the stack -/
/-- the row can be led on to a whole set of ways -/
def Win (adj : Nat → Nat → Prop) (inn : Nat → Prop) (tails P U row : List Nat) : Prop := ∃ u, row.getLast? = some u ∧ LinkU adj inn tails (u :: P) (U ++ row)
theorem win_iff {adj : Nat → Nat → Prop} {inn : Nat → Prop} {tails P U row : List Nat} {u : Nat} (hu : row.getLast? = some u) :
    Win adj inn tails P U row ↔ ∃ t, adj u t ∧ ¬ t ∈ row ∧ ¬ t ∈ U ∧ ((t ∈ tails ∧ LinkU adj inn tails P (U ++ row ++ [t])) ∨ (¬ t ∈ tails ∧ inn t ∧ Win adj inn tails P U (row ++ [t]))) := by
  constructor
  · rintro ⟨v, hv, h⟩
    rw [hu] at hv
    cases hv
    generalize eH : u :: P = H at h
    generalize eU : U ++ row = W at h
    cases h with
    | nil => cases eH
    | @done p q P' _ hk ht hw hl =>
      have e2 : u = p ∧ P = P' := by simpa using eH
      obtain ⟨rfl, rfl⟩ := e2
      subst eU
      rw [List.mem_append, not_or] at hw
      exact ⟨q, hk, hw.2, hw.1, Or.inl ⟨ht, hl.congr _ fun x _ => by simp [or_comm, or_assoc, or_left_comm]⟩⟩
    | @go p j P' _ hk ht hi hw hl =>
      have e2 : u = p ∧ P = P' := by simpa using eH
      obtain ⟨rfl, rfl⟩ := e2
      subst eU
      rw [List.mem_append, not_or] at hw
      exact ⟨j, hk, hw.2, hw.1, Or.inr ⟨ht, hi, j, by simp, hl.congr _ fun x _ => by simp [or_comm, or_assoc, or_left_comm]⟩⟩
  · rintro ⟨t, hk, h1, h2, ⟨ht, hl⟩ | ⟨ht, hi, w, hw, hl⟩⟩
    · exact ⟨u, hu, .done hk ht (by simp [h1, h2]) (hl.congr _ fun x _ => by simp [or_comm, or_assoc, or_left_comm])⟩
    · have : t = w := by simpa using hw
      subst this
      exact ⟨u, hu, .go hk ht hi (by simp [h1, h2]) (hl.congr _ fun x _ => by simp [or_comm, or_assoc, or_left_comm])⟩
theorem win_start {adj : Nat → Nat → Prop} {inn : Nat → Prop} {tails P U : List Nat} {p : Nat} (h1 : ¬ p ∈ tails) (h2 : ¬ inn p) : Win adj inn tails P U [p] ↔ LinkU adj inn tails (p :: P) U := by
  constructor
  · rintro ⟨v, hv, h⟩
    cases hv
    refine h.congr _ fun x hx => ?_
    have : x ≠ p := fun e => by subst e; rcases hx with h | h <;> contradiction
    simp [this]
  · intro h
    refine ⟨p, rfl, h.congr _ fun x hx => ?_⟩
    have : x ≠ p := fun e => by subst e; rcases hx with h | h <;> contradiction
    simp [this]
end K13
namespace K13
/-! ## Flows -/
def sumZ (V : List Int) (g : Int → Int) : Int := (V.map g).sum
theorem sumZ_nil {g : Int → Int} : sumZ [] g = 0 := rfl
theorem sumZ_cons {v : Int} {V : List Int} {g : Int → Int} : sumZ (v :: V) g = g v + sumZ V g := by simp [sumZ]
theorem sumZ_add {V : List Int} {g h : Int → Int} : sumZ V (fun x => g x + h x) = sumZ V g + sumZ V h := by
  induction V with
  | nil => rfl
  | cons v V ih => rw [sumZ_cons, sumZ_cons, sumZ_cons, ih]; omega
theorem sumZ_sub {V : List Int} {g h : Int → Int} : sumZ V (fun x => g x - h x) = sumZ V g - sumZ V h := by
  induction V with
  | nil => rfl
  | cons v V ih => rw [sumZ_cons, sumZ_cons, sumZ_cons, ih]; omega
theorem sumZ_zero {V : List Int} : sumZ V (fun _ => 0) = 0 := by
  induction V with
  | nil => rfl
  | cons v V ih => rw [sumZ_cons, ih]; rfl
theorem sumZ_congr {V : List Int} {g h : Int → Int} (e : ∀ x, x ∈ V → g x = h x) : sumZ V g = sumZ V h := by
  induction V with
  | nil => rfl
  | cons v V ih => rw [sumZ_cons, sumZ_cons, e v List.mem_cons_self, ih fun x hx => e x (List.mem_cons_of_mem _ hx)]
theorem sumZ_le {V : List Int} {g h : Int → Int} (e : ∀ x, x ∈ V → g x ≤ h x) : sumZ V g ≤ sumZ V h := by
  induction V with
  | nil => exact Int.le_refl _
  | cons v V ih =>
    rw [sumZ_cons, sumZ_cons]
    have := e v List.mem_cons_self
    have := ih fun x hx => e x (List.mem_cons_of_mem _ hx)
    omega
theorem sumZ_swap {V W : List Int} {g : Int → Int → Int} : sumZ V (fun x => sumZ W (g x)) = sumZ W (fun y => sumZ V (fun x => g x y)) := by
  induction V with
  | nil => rw [sumZ_nil, sumZ_congr (h := fun _ => 0) (fun y _ => sumZ_nil), sumZ_zero]
  | cons v V ih =>
    rw [sumZ_cons, ih, ← sumZ_add]
    exact sumZ_congr fun y _ => by rw [sumZ_cons]
theorem sumZ_one {V : List Int} {a : Int} {c : Int} (nd : V.Nodup) (ha : a ∈ V) : sumZ V (fun x => if x = a then c else 0) = c := by
  induction V with
  | nil => cases ha
  | cons v V ih =>
    have n2 := List.nodup_cons.mp nd
    rw [sumZ_cons]
    rcases List.mem_cons.mp ha with h | h
    · subst h
      rw [if_pos rfl, sumZ_congr (h := fun _ => 0) (fun x hx => if_neg fun (q : x = a) => n2.1 (q ▸ hx)), sumZ_zero]
      omega
    · rw [if_neg (fun (q : v = a) => n2.1 (q ▸ h)), ih n2.2 h]
      omega
theorem sumZ_absent {V : List Int} {a : Int} {c : Int} (ha : ¬ a ∈ V) : sumZ V (fun x => if x = a then c else 0) = 0 := by
  rw [sumZ_congr (h := fun _ => 0) (fun x hx => if_neg fun (q : x = a) => ha (q ▸ hx)), sumZ_zero]
theorem sumZ_mul {V : List Int} {c : Int} {g : Int → Int} : sumZ V (fun x => c * g x) = c * sumZ V g := by
  induction V with
  | nil => rw [sumZ_nil, sumZ_nil]; omega
  | cons v V ih => rw [sumZ_cons, sumZ_cons, ih, Int.mul_add]
def bi (b : Bool) : Int := if b = true then 1 else 0
theorem bi_nn (b : Bool) : 0 ≤ bi b := by cases b <;> decide
theorem bi_le (b : Bool) : bi b ≤ 1 := by cases b <;> decide
theorem sum_mem_le {V : List Int} (nd : V.Nodup) : ∀ {L : List Int}, sumZ V (fun x => bi (decide (x ∈ L))) ≤ (L.length : Int)
  | [] => by
    rw [sumZ_congr (h := fun _ => 0) (fun x _ => by simp [bi]), sumZ_zero]
    simp
  | a :: L => by
    have h1 := sum_mem_le nd (L := L)
    have h2 : sumZ V (fun x => bi (decide (x ∈ a :: L))) ≤ sumZ V (fun x => (if x = a then 1 else 0) + bi (decide (x ∈ L))) := sumZ_le fun x _ => by
      by_cases q : x = a
      · subst q
        have := bi_nn (decide (x ∈ L))
        simp [bi]
        split <;> omega
      · simp [q]
    rw [sumZ_add] at h2
    have h3 : sumZ V (fun x => if x = a then (1 : Int) else 0) ≤ 1 := by
      by_cases q : a ∈ V
      · rw [sumZ_one nd q]; exact Int.le_refl _
      · rw [sumZ_absent q]; decide
    rw [List.length_cons]
    omega
theorem sum_ge {V : List Int} {g : Int → Bool} {a : Int} (nd : V.Nodup) (ha : a ∈ V) (h : g a = true) : 1 ≤ sumZ V (fun x => bi (g x)) := by
  rw [← sumZ_one (c := 1) nd ha]
  exact sumZ_le fun x _ => by
    split
    · next q => subst q; rw [h]; decide
    · exact bi_nn _
theorem sum_ge2 {V : List Int} {g : Int → Bool} {a b : Int} (nd : V.Nodup) (ha : a ∈ V) (hb : b ∈ V) (hab : a ≠ b) (h1 : g a = true) (h2 : g b = true) : 2 ≤ sumZ V (fun x => bi (g x)) := by
  have e1 := sumZ_one (c := 1) nd ha
  have e2 := sumZ_one (c := 1) nd hb
  have : sumZ V (fun x => (if x = a then 1 else 0) + (if x = b then 1 else 0)) ≤ sumZ V (fun x => bi (g x)) := sumZ_le fun x _ => by
    by_cases q : x = a
    · subst q
      rw [if_pos rfl, if_neg hab, h1]; decide
    · by_cases q2 : x = b
      · subst q2
        rw [if_neg q, if_pos rfl, h2]; decide
      · rw [if_neg q, if_neg q2]
        exact bi_nn _
  rw [sumZ_add] at this
  omega
theorem sum_none {V : List Int} {g : Int → Bool} (h : ∀ a, a ∈ V → g a = false) : sumZ V (fun x => bi (g x)) = 0 := by
  rw [sumZ_congr (h := fun _ => 0) (fun x hx => by rw [h x hx]; rfl), sumZ_zero]
/-- what leaves x less what comes in -/
def net (V : List Int) (f : Int → Int → Bool) (x : Int) : Int := sumZ V (fun y => bi (f x y)) - sumZ V (fun y => bi (f y x))
def put (f : Int → Int → Bool) (a b : Int) (v : Bool) : Int → Int → Bool := fun x y => if x = a ∧ y = b then v else f x y
theorem net_put {V : List Int} (nd : V.Nodup) {f : Int → Int → Bool} {a b : Int} {v : Bool} (ha : a ∈ V) (hb : b ∈ V) (x : Int) : net V (put f a b v) x = net V f x + (bi v - bi (f a b)) * ((if x = a then 1 else 0) - (if x = b then 1 else 0)) := by
  unfold net
  have e1 : sumZ V (fun y => bi (put f a b v x y)) = sumZ V (fun y => bi (f x y)) + (if x = a then bi v - bi (f a b) else 0) := by
    by_cases q : x = a
    · subst q
      rw [if_pos rfl, ← sumZ_one (c := bi v - bi (f x b)) nd hb, ← sumZ_add]
      refine sumZ_congr fun y _ => ?_
      unfold put
      by_cases r : y = b
      · subst r
        rw [if_pos ⟨rfl, rfl⟩, if_pos rfl]; omega
      · rw [if_neg (fun h => r h.2), if_neg r]; omega
    · rw [if_neg q, Int.add_zero]
      refine sumZ_congr fun y _ => ?_
      unfold put
      rw [if_neg (fun h => q h.1)]
  have e2 : sumZ V (fun y => bi (put f a b v y x)) = sumZ V (fun y => bi (f y x)) + (if x = b then bi v - bi (f a b) else 0) := by
    by_cases q : x = b
    · subst q
      rw [if_pos rfl, ← sumZ_one (c := bi v - bi (f a x)) nd ha, ← sumZ_add]
      refine sumZ_congr fun y _ => ?_
      unfold put
      by_cases r : y = a
      · subst r
        rw [if_pos ⟨rfl, rfl⟩, if_pos rfl]; omega
      · rw [if_neg (fun h => r h.1), if_neg r]; omega
    · rw [if_neg q, Int.add_zero]
      refine sumZ_congr fun y _ => ?_
      unfold put
      rw [if_neg (fun h => q h.2)]
  rw [e1, e2]
  generalize bi v - bi (f a b) = c
  split <;> split <;> omega
/-- the steps that are left for one more way -/
def arc (E f : Int → Int → Bool) (a b : Int) : Prop := (E a b = true ∧ f a b = false) ∨ (E b a = true ∧ f b a = true)
/-- the value of a flow is that over any cut -/
theorem cut_sum {V : List Int} {f : Int → Int → Bool} {X : Int → Bool} : sumZ V (fun x => bi (X x) * net V f x) = sumZ V (fun x => sumZ V (fun y => bi (f x y) * (bi (X x) - bi (X y)))) := by
  have e1 : sumZ V (fun x => bi (X x) * net V f x) = sumZ V (fun x => sumZ V (fun y => bi (X x) * bi (f x y))) - sumZ V (fun x => sumZ V (fun y => bi (X x) * bi (f y x))) := by
    rw [← sumZ_sub]
    refine sumZ_congr fun x _ => ?_
    rw [sumZ_mul, sumZ_mul]
    unfold net
    rw [Int.mul_sub]
  have e2 : sumZ V (fun x => sumZ V (fun y => bi (X x) * bi (f y x))) = sumZ V (fun x => sumZ V (fun y => bi (X y) * bi (f x y))) := sumZ_swap
  rw [e1, e2, ← sumZ_sub]
  refine sumZ_congr fun x _ => ?_
  rw [← sumZ_sub]
  refine sumZ_congr fun y _ => ?_
  rw [Int.mul_sub, Int.mul_comm (bi (f x y)), Int.mul_comm (bi (f x y))]
theorem no_more {V : List Int} {E f g : Int → Int → Bool} {X : Int → Bool} (hf : ∀ x y, f x y = true → E x y = true) (hg : ∀ x y, g x y = true → E x y = true)
    (hX : ∀ x y, x ∈ V → y ∈ V → X x = true → arc E f x y → X y = true) : sumZ V (fun x => bi (X x) * net V g x) ≤ sumZ V (fun x => bi (X x) * net V f x) := by
  rw [cut_sum, cut_sum]
  refine sumZ_le fun x hx => sumZ_le fun y hy => ?_
  cases a : X x <;> cases b : X y
  · simp [bi]
  · have : f x y = false := by
      cases q : f x y with
      | false => rfl
      | true =>
        have := hX y x hy hx b (Or.inr ⟨hf x y q, q⟩)
        rw [a] at this; cases this
    rw [this]
    have := bi_nn (g x y)
    show bi (g x y) * (0 - 1) ≤ bi false * (0 - 1)
    have e : bi false = 0 := rfl
    rw [e]
    omega
  · cases q : g x y with
    | false =>
      have := bi_nn (f x y)
      show bi false * (1 - 0) ≤ bi (f x y) * (1 - 0)
      have e : bi false = 0 := rfl
      rw [e]
      omega
    | true =>
      have h1 : f x y = true := by
        cases r : f x y with
        | true => rfl
        | false =>
          have := hX x y hx hy a (Or.inl ⟨hg x y q, r⟩)
          rw [b] at this; cases this
      rw [h1]
      exact Int.le_refl _
  · simp [bi]
end K13
namespace K13
inductive E0 (use : Nat → Prop) (adj : Nat → Nat → Prop) (heads tails : List Nat) : Int → Int → Prop where
  | thru (n : Nat) : use n → E0 use adj heads tails (2 * n) (2 * n + 1)
  | edge (u w : Nat) : use u → use w → adj u w → E0 use adj heads tails (2 * u + 1) (2 * w)
  | src (h : Nat) : h ∈ heads → E0 use adj heads tails (-1) (2 * h)
  | goal (t : Nat) : t ∈ tails → E0 use adj heads tails (2 * t + 1) (-2)
/-- the set-up of a search for ways -/
structure Wy (use : Nat → Prop) (adj : Nat → Nat → Prop) (heads tails : List Nat) (V : List Int) : Prop where
  irr : ∀ u, ¬ adj u u
  hu : ∀ h, h ∈ heads → use h
  tu : ∀ t, t ∈ tails → use t
  hn : heads.Nodup
  tn : tails.Nodup
  ht : ∀ h, h ∈ heads → ¬ h ∈ tails
  len : heads.length = tails.length
  nd : V.Nodup
  vS : (-1 : Int) ∈ V
  vG : (-2 : Int) ∈ V
  vI : ∀ n, use n → (2 * n : Int) ∈ V
  vO : ∀ n, use n → (2 * n + 1 : Int) ∈ V
section
variable {use : Nat → Prop} {adj : Nat → Nat → Prop} {heads tails : List Nat} {V : List Int}
open Classical in
noncomputable def EE (use : Nat → Prop) (adj : Nat → Nat → Prop) (heads tails : List Nat) : Int → Int → Bool := fun a b => decide (E0 use adj heads tails a b)
theorem EE_iff {a b : Int} : EE use adj heads tails a b = true ↔ E0 use adj heads tails a b := by
  unfold EE
  simp
theorem E0.mem (W : Wy use adj heads tails V) {a b : Int} (h : E0 use adj heads tails a b) : a ∈ V ∧ b ∈ V := by
  cases h with
  | thru n h => exact ⟨W.vI n h, W.vO n h⟩
  | edge u w h1 h2 _ => exact ⟨W.vO u h1, W.vI w h2⟩
  | src h hh => exact ⟨W.vS, W.vI h (W.hu h hh)⟩
  | goal t ht => exact ⟨W.vO t (W.tu t ht), W.vG⟩
theorem E0.anti (W : Wy use adj heads tails V) {a b : Int} (h : E0 use adj heads tails a b) : ¬ E0 use adj heads tails b a := by
  intro h2
  cases h with
  | thru n h =>
    generalize eb : (2 * (n : Int) + 1) = b at h2
    generalize ea : (2 * (n : Int)) = a at h2
    cases h2 with
    | thru m _ => omega
    | edge u w _ _ hk =>
      have e1 : u = w := by omega
      subst e1
      exact W.irr u hk
    | src h _ => omega
    | goal t _ => omega
  | edge u w _ _ hk =>
    generalize ea : (2 * (u : Int) + 1) = a at h2
    generalize eb : (2 * (w : Int)) = b at h2
    cases h2 with
    | thru m _ =>
      have e1 : u = w := by omega
      subst e1
      exact W.irr u hk
    | edge u' w' _ _ _ => omega
    | src h _ => omega
    | goal t _ => omega
  | src h _ =>
    generalize ea : (-1 : Int) = a at h2
    generalize eb : (2 * (h : Int)) = b at h2
    cases h2 <;> omega
  | goal t _ =>
    generalize ea : (2 * (t : Int) + 1) = a at h2
    generalize eb : (-2 : Int) = b at h2
    cases h2 <;> omega
theorem EE_anti (W : Wy use adj heads tails V) {a b : Int} (h : EE use adj heads tails a b = true) : EE use adj heads tails b a = false := by
  cases q : EE use adj heads tails b a with
  | false => rfl
  | true => exact absurd (EE_iff.mp q) ((EE_iff.mp h).anti W)
theorem E0.ne {a b : Int} (h : E0 use adj heads tails a b) : a ≠ b := by
  cases h <;> omega
/-! ### one way more -/
def push1 (E f : Int → Int → Bool) (a b : Int) : Int → Int → Bool := if E a b = true then put f a b true else put f b a false
/-- a flow of r ways -/
structure Flw (E f : Int → Int → Bool) (V : List Int) : Prop where
  le : ∀ x y, f x y = true → E x y = true
theorem push1_le {E f : Int → Int → Bool} {a b : Int} (hf : ∀ x y, f x y = true → E x y = true) : ∀ x y, push1 E f a b x y = true → E x y = true := fun x y h => by
  unfold push1 at h
  split at h
  · next q =>
    unfold put at h
    split at h
    · next r => rw [r.1, r.2]; exact q
    · exact hf x y h
  · unfold put at h
    split at h
    · cases h
    · exact hf x y h
theorem push1_net (W : Wy use adj heads tails V) {f : Int → Int → Bool} {a b : Int} (h : arc (EE use adj heads tails) f a b) (x : Int) :
    net V (push1 (EE use adj heads tails) f a b) x = net V f x + ((if x = a then 1 else 0) - (if x = b then 1 else 0)) := by
  unfold push1
  rcases h with ⟨h1, h2⟩ | ⟨h1, h2⟩
  · rw [if_pos h1]
    have hm := (EE_iff.mp h1).mem W
    rw [net_put W.nd hm.1 hm.2, h2]
    have : bi true - bi false = 1 := rfl
    rw [this, Int.one_mul]
  · have := EE_anti W h1
    rw [if_neg (by rw [this]; decide)]
    have hm := (EE_iff.mp h1).mem W
    rw [net_put W.nd hm.1 hm.2, h2]
    have : bi false - bi true = -1 := rfl
    rw [this]
    split <;> split <;> omega
theorem push1_arc (W : Wy use adj heads tails V) {f : Int → Int → Bool} {a b : Int} (h : arc (EE use adj heads tails) f a b) (x y : Int) :
    arc (EE use adj heads tails) (push1 (EE use adj heads tails) f a b) x y ↔ (x = b ∧ y = a) ∨ (¬ (x = a ∧ y = b) ∧ arc (EE use adj heads tails) f x y) := by
  have hne : a ≠ b := by
    rcases h with ⟨h1, _⟩ | ⟨h1, _⟩
    · exact (EE_iff.mp h1).ne
    · exact fun e => (EE_iff.mp h1).ne e.symm
  unfold push1
  rcases h with ⟨h1, h2⟩ | ⟨h1, h2⟩
  · have h3 := EE_anti W h1
    rw [if_pos h1]
    unfold arc put
    by_cases q1 : x = a ∧ y = b
    · obtain ⟨rfl, rfl⟩ := q1
      have n1 : ¬ (y = x ∧ x = y) := fun h => hne h.2
      have n2 : ¬ (x = y ∧ y = x) := fun h => hne h.1
      simp [h1, h3, n1, n2]
    · by_cases q2 : x = b ∧ y = a
      · obtain ⟨rfl, rfl⟩ := q2
        have n1 : ¬ (x = y ∧ y = x) := fun h => hne h.2
        simp [h1, h3, n1]
      · have q3 : ¬ (y = a ∧ x = b) := fun h => q2 ⟨h.2, h.1⟩
        rw [if_neg q1, if_neg q3]
        constructor
        · intro h; exact Or.inr ⟨q1, h⟩
        · rintro (h | h)
          · exact absurd h q2
          · exact h.2
  · have h3 := EE_anti W h1
    rw [if_neg (by rw [h3]; decide)]
    unfold arc put
    by_cases q1 : x = a ∧ y = b
    · obtain ⟨rfl, rfl⟩ := q1
      have n1 : ¬ (y = x ∧ x = y) := fun h => hne h.2
      have n2 : ¬ (x = y ∧ y = x) := fun h => hne h.1
      simp [h1, h3, n1, n2]
    · by_cases q2 : x = b ∧ y = a
      · obtain ⟨rfl, rfl⟩ := q2
        have n1 : ¬ (x = y ∧ y = x) := fun h => hne h.2
        simp [h1, h3, n1]
      · have q3 : ¬ (y = a ∧ x = b) := fun h => q2 ⟨h.2, h.1⟩
        rw [if_neg q2, if_neg (fun h => q1 ⟨h.2, h.1⟩)]
        constructor
        · intro h; exact Or.inr ⟨q1, h⟩
        · rintro (h | h)
          · exact absurd h q2
          · exact h.2
def pushR (E : Int → Int → Bool) : (Int → Int → Bool) → List Int → (Int → Int → Bool)
  | f, a :: b :: r => pushR E (push1 E f a b) (b :: r)
  | f, _ => f
/-- the row's steps are left -/
def Row (A : Int → Int → Prop) : List Int → Prop
  | a :: b :: r => A a b ∧ Row A (b :: r)
  | _ => True
theorem Row.imp {A B : Int → Int → Prop} : ∀ {l : List Int}, (∀ a b, a ∈ l → b ∈ l → A a b → B a b) → Row A l → Row B l
  | [], _, _ => trivial
  | [_], _, _ => trivial
  | a :: b :: r, h, hr => ⟨h a b (by simp) (by simp) hr.1, Row.imp (fun x y hx hy => h x y (List.mem_cons_of_mem _ hx) (List.mem_cons_of_mem _ hy)) hr.2⟩
theorem push_left (W : Wy use adj heads tails V) {f : Int → Int → Bool} {a b : Int} {r : List Int} (nd : (a :: b :: r).Nodup) (h : Row (arc (EE use adj heads tails) f) (a :: b :: r)) : Row (arc (EE use adj heads tails) (push1 (EE use adj heads tails) f a b)) (b :: r) := by
  have n2 := List.nodup_cons.mp nd
  refine h.2.imp fun x y hx hy hxy => ?_
  refine (push1_arc W h.1 x y).mpr (Or.inr ⟨fun q => n2.1 (q.1 ▸ hx), hxy⟩)
theorem pushR_le {E : Int → Int → Bool} : ∀ {l : List Int} {f : Int → Int → Bool}, (∀ x y, f x y = true → E x y = true) → ∀ x y, pushR E f l x y = true → E x y = true
  | [], _, h => h
  | [_], _, h => h
  | a :: b :: r, f, h => pushR_le (l := b :: r) (push1_le h)
theorem pushR_net (W : Wy use adj heads tails V) : ∀ {l : List Int} {f : Int → Int → Bool} {a c : Int}, (a :: l).Nodup → Row (arc (EE use adj heads tails) f) (a :: l) → (a :: l).getLast? = some c →
    ∀ x, net V (pushR (EE use adj heads tails) f (a :: l)) x = net V f x + ((if x = a then 1 else 0) - (if x = c then 1 else 0))
  | [], f, a, c, _, _, hc, x => by
    have : a = c := by simpa using hc
    subst this
    show net V f x = _
    omega
  | b :: l, f, a, c, nd, h, hc, x => by
    show net V (pushR _ (push1 _ f a b) (b :: l)) x = _
    rw [pushR_net W (List.nodup_cons.mp nd).2 (push_left W nd h) (by rw [List.getLast?_cons_cons] at hc; exact hc) x, push1_net W h.1 x]
    omega
end
end K13
namespace K13
section
variable {use inn : Nat → Prop} {adj : Nat → Nat → Prop} {heads tails : List Nat} {V : List Int}
/-- how often x stands among the ways out of P -/
def outs (P : List Nat) (x : Int) : Int := (P.map fun p : Nat => if x = 2 * (p : Int) + 1 then (1 : Int) else 0).sum
theorem outs_cons {p : Nat} {P : List Nat} {x : Int} : outs (p :: P) x = (if x = 2 * (p : Int) + 1 then 1 else 0) + outs P x := by simp [outs]
theorem put_true (W : Wy use adj heads tails V) {g : Int → Int → Bool} {a b : Int} (h : E0 use adj heads tails a b) (hg : g a b = false) (x : Int) : net V (put g a b true) x = net V g x + ((if x = a then 1 else 0) - (if x = b then 1 else 0)) := by
  have hm := h.mem W
  rw [net_put W.nd hm.1 hm.2, hg]
  have : bi true - bi false = 1 := rfl
  rw [this, Int.one_mul]
theorem put_eq {g : Int → Int → Bool} {a b x y : Int} {v : Bool} (h : put g a b v x y = true) : (x = a ∧ y = b) ∨ g x y = true := by
  unfold put at h
  split at h
  · next q => exact Or.inl q
  · exact Or.inr h
theorem put_ne {g : Int → Int → Bool} {a b x y : Int} {v : Bool} (h : ¬ (x = a)) : put g a b v x y = g x y := by
  unfold put
  rw [if_neg fun q => h q.1]
theorem linkU_flow (W : Wy use adj heads tails V) (hin : ∀ p j, adj p j → inn j → use j) {P U : List Nat} (h : LinkU adj inn tails P U) : P.Nodup → (∀ p, p ∈ P → use p ∧ (p ∈ U ∨ (¬ p ∈ tails ∧ ¬ inn p))) →
    ∃ g : Int → Int → Bool, (∀ x y, g x y = true → E0 use adj heads tails x y) ∧ (∀ x, net V g x = outs P x - (if x = -2 then (P.length : Int) else 0)) ∧
      (∀ x y, g x y = true → (∃ p, p ∈ P ∧ x = 2 * (p : Int) + 1) ∨ (∃ w : Nat, (w ∈ tails ∨ inn w) ∧ ¬ w ∈ U ∧ (x = 2 * (w : Int) ∨ x = 2 * (w : Int) + 1))) := by
  have fls : ∀ {b : Bool}, (b = true → False) → b = false := fun {b} h => by cases b <;> simp at h ⊢
  induction h with
  | nil =>
    intro _ _
    refine ⟨fun _ _ => false, (fun x y h => by cases h), fun x => ?_, (fun x y h => by cases h)⟩
    unfold net
    rw [sum_none (fun _ _ => rfl)]
    simp [outs]
  | @done p q P U hk ht hu hl ih =>
    intro nd hb
    have n2 := List.nodup_cons.mp nd
    have hp := hb p List.mem_cons_self
    have hpq : p ≠ q := fun e => by
      subst e
      exact hp.2.elim hu fun h => h.1 ht
    obtain ⟨g, g1, g2, g3⟩ := ih n2.2 fun p' hp' => by
      have := hb p' (List.mem_cons_of_mem _ hp')
      exact ⟨this.1, this.2.imp (List.mem_cons_of_mem _) id⟩
    have fp : ∀ y, g (2 * (p : Int) + 1) y = false := fun y => fls fun h => by
      rcases g3 _ _ h with ⟨p', h1, h2⟩ | ⟨w, h1, h2, h3 | h3⟩
      · have : p = p' := by omega
        subst this; exact n2.1 h1
      · omega
      · have : p = w := by omega
        subst this
        rcases hp.2 with h | h
        · exact h2 (List.mem_cons_of_mem _ h)
        · exact h1.elim h.1 h.2
    have fq : ∀ y, g (2 * (q : Int)) y = false := fun y => fls fun h => by
      rcases g3 _ _ h with ⟨p', h1, h2⟩ | ⟨w, h1, h2, h3 | h3⟩
      · omega
      · have : q = w := by omega
        subst this; exact h2 List.mem_cons_self
      · omega
    have fo : ∀ y, g (2 * (q : Int) + 1) y = false := fun y => fls fun h => by
      rcases g3 _ _ h with ⟨p', h1, h2⟩ | ⟨w, h1, h2, h3 | h3⟩
      · have : q = p' := by omega
        subst this
        rcases (hb q (List.mem_cons_of_mem _ h1)).2 with h | h
        · exact hu h
        · exact h.1 ht
      · omega
      · have : q = w := by omega
        subst this; exact h2 List.mem_cons_self
    have e1 : E0 use adj heads tails (2 * (p : Int) + 1) (2 * (q : Int)) := .edge p q hp.1 (W.tu q ht) hk
    have e2 : E0 use adj heads tails (2 * (q : Int)) (2 * (q : Int) + 1) := .thru q (W.tu q ht)
    have e3 : E0 use adj heads tails (2 * (q : Int) + 1) (-2) := .goal q ht
    refine ⟨put (put (put g (2 * (p : Int) + 1) (2 * (q : Int)) true) (2 * (q : Int)) (2 * (q : Int) + 1) true) (2 * (q : Int) + 1) (-2) true, fun x y h => ?_, fun x => ?_, fun x y h => ?_⟩
    · rcases put_eq h with ⟨rfl, rfl⟩ | h
      · exact e3
      rcases put_eq h with ⟨rfl, rfl⟩ | h
      · exact e2
      rcases put_eq h with ⟨rfl, rfl⟩ | h
      · exact e1
      exact g1 x y h
    · rw [put_true W e3 (by rw [put_ne (by omega), put_ne (by omega)]; exact fo _), put_true W e2 (by rw [put_ne (by omega)]; exact fq _), put_true W e1 (fp _), g2, outs_cons, List.length_cons]
      generalize outs P x = o
      by_cases c1 : x = -2 <;> by_cases c2 : x = 2 * (q : Int) + 1 <;> by_cases c3 : x = 2 * (q : Int) <;> by_cases c4 : x = 2 * (p : Int) + 1 <;> simp only [c1, c2, c3, c4, if_true, if_false] <;> omega
    · rcases put_eq h with ⟨rfl, rfl⟩ | h
      · exact Or.inr ⟨q, Or.inl ht, hu, Or.inr rfl⟩
      rcases put_eq h with ⟨rfl, rfl⟩ | h
      · exact Or.inr ⟨q, Or.inl ht, hu, Or.inl rfl⟩
      rcases put_eq h with ⟨rfl, rfl⟩ | h
      · exact Or.inl ⟨p, List.mem_cons_self, rfl⟩
      rcases g3 x y h with ⟨p', h1, h2⟩ | ⟨w, h1, h2, h3⟩
      · exact Or.inl ⟨p', List.mem_cons_of_mem _ h1, h2⟩
      · exact Or.inr ⟨w, h1, fun hm => h2 (List.mem_cons_of_mem _ hm), h3⟩
  | @go p j P U hk ht hi hu hl ih =>
    intro nd hb
    have n2 := List.nodup_cons.mp nd
    have hp := hb p List.mem_cons_self
    have hpj : p ≠ j := fun e => by
      subst e
      exact hp.2.elim hu fun h => h.2 hi
    have hj : ∀ p', p' ∈ P → p' ≠ j := fun p' hp' e => by
      subst e
      rcases (hb p' (List.mem_cons_of_mem _ hp')).2 with h | h
      · exact hu h
      · exact h.2 hi
    have uj := hin p j hk hi
    obtain ⟨g, g1, g2, g3⟩ := ih (List.nodup_cons.mpr ⟨fun h => hj j h rfl, n2.2⟩) fun p' hp' => by
      rcases List.mem_cons.mp hp' with rfl | hp'
      · exact ⟨uj, Or.inl List.mem_cons_self⟩
      · have := hb p' (List.mem_cons_of_mem _ hp')
        exact ⟨this.1, this.2.imp (List.mem_cons_of_mem _) id⟩
    have fp : ∀ y, g (2 * (p : Int) + 1) y = false := fun y => fls fun h => by
      rcases g3 _ _ h with ⟨p', h1, h2⟩ | ⟨w, h1, h2, h3 | h3⟩
      · have : p = p' := by omega
        subst this
        rcases List.mem_cons.mp h1 with h | h
        · exact hpj h
        · exact n2.1 h
      · omega
      · have : p = w := by omega
        subst this
        rcases hp.2 with h | h
        · exact h2 (List.mem_cons_of_mem _ h)
        · exact h1.elim h.1 h.2
    have fq : ∀ y, g (2 * (j : Int)) y = false := fun y => fls fun h => by
      rcases g3 _ _ h with ⟨p', h1, h2⟩ | ⟨w, h1, h2, h3 | h3⟩
      · omega
      · have : j = w := by omega
        subst this; exact h2 List.mem_cons_self
      · omega
    have e1 : E0 use adj heads tails (2 * (p : Int) + 1) (2 * (j : Int)) := .edge p j hp.1 uj hk
    have e2 : E0 use adj heads tails (2 * (j : Int)) (2 * (j : Int) + 1) := .thru j uj
    refine ⟨put (put g (2 * (p : Int) + 1) (2 * (j : Int)) true) (2 * (j : Int)) (2 * (j : Int) + 1) true, fun x y h => ?_, fun x => ?_, fun x y h => ?_⟩
    · rcases put_eq h with ⟨rfl, rfl⟩ | h
      · exact e2
      rcases put_eq h with ⟨rfl, rfl⟩ | h
      · exact e1
      exact g1 x y h
    · rw [put_true W e2 (by rw [put_ne (by omega)]; exact fq _), put_true W e1 (fp _), g2, outs_cons, outs_cons, List.length_cons, List.length_cons]
      generalize outs P x = o
      by_cases c1 : x = -2 <;> by_cases c2 : x = 2 * (j : Int) + 1 <;> by_cases c3 : x = 2 * (j : Int) <;> by_cases c4 : x = 2 * (p : Int) + 1 <;> simp only [c1, c2, c3, c4, if_true, if_false] <;> omega
    · rcases put_eq h with ⟨rfl, rfl⟩ | h
      · exact Or.inr ⟨j, Or.inr hi, hu, Or.inl rfl⟩
      rcases put_eq h with ⟨rfl, rfl⟩ | h
      · exact Or.inl ⟨p, List.mem_cons_self, rfl⟩
      rcases g3 x y h with ⟨p', h1, h2⟩ | ⟨w, h1, h2, h3⟩
      · rcases List.mem_cons.mp h1 with rfl | h1
        · exact Or.inr ⟨p', Or.inr hi, hu, Or.inr h2⟩
        · exact Or.inl ⟨p', List.mem_cons_of_mem _ h1, h2⟩
      · exact Or.inr ⟨w, h1, fun hm => h2 (List.mem_cons_of_mem _ hm), h3⟩
/-- a whole set of ways is a flow of as many as there are heads -/
theorem link_flow (W : Wy use adj heads tails V) (hin : ∀ p j, adj p j → inn j → use j) (hni : ∀ h, h ∈ heads → ¬ inn h) (h : LinkU adj inn tails heads []) :
    ∃ g : Int → Int → Bool, (∀ x y, g x y = true → EE use adj heads tails x y = true) ∧ ∀ x, net V g x = (if x = -1 then (heads.length : Int) else 0) - (if x = -2 then (heads.length : Int) else 0) := by
  obtain ⟨g0, a1, a2, a3⟩ := linkU_flow W hin h W.hn fun p hp => ⟨W.hu p hp, Or.inr ⟨W.ht p hp, hni p hp⟩⟩
  have fls : ∀ {b : Bool}, (b = true → False) → b = false := fun {b} h => by cases b <;> simp at h ⊢
  have gen : ∀ A : List Nat, A.Nodup → (∀ h, h ∈ A → h ∈ heads) → ∃ g : Int → Int → Bool, (∀ x y, g x y = true → E0 use adj heads tails x y) ∧
      (∀ x, net V g x = net V g0 x + (if x = -1 then (A.length : Int) else 0) - outs A x) ∧ (∀ x y, g x y = true → g0 x y = true ∨ ∃ h, h ∈ A ∧ ((x = 2 * (h : Int) ∧ y = 2 * (h : Int) + 1) ∨ (x = -1 ∧ y = 2 * (h : Int)))) := fun A => by
    induction A with
    | nil =>
      intro _ _
      exact ⟨g0, a1, fun x => by simp [outs], fun x y h => Or.inl h⟩
    | cons h A ih =>
      intro nd hs
      have n2 := List.nodup_cons.mp nd
      obtain ⟨g, g1, g2, g3⟩ := ih n2.2 fun k hk => hs k (List.mem_cons_of_mem _ hk)
      have hh := hs h List.mem_cons_self
      have z0 : ∀ y, g0 (2 * (h : Int)) y = false := fun y => fls fun q => by
        rcases a3 _ _ q with ⟨p', h1, h2⟩ | ⟨w, h1, h2, h3 | h3⟩
        · omega
        · have : h = w := by omega
          subst this
          exact h1.elim (W.ht h hh) (hni h hh)
        · omega
      have z1 : ∀ y, g0 (-1) y = false := fun y => fls fun q => by
        rcases a3 _ _ q with ⟨p', h1, h2⟩ | ⟨w, h1, h2, h3 | h3⟩ <;> omega
      have f1 : g (2 * (h : Int)) (2 * (h : Int) + 1) = false := fls fun q => by
        rcases g3 _ _ q with q | ⟨k, hk, ⟨h1, _⟩ | ⟨h1, _⟩⟩
        · rw [z0] at q; cases q
        · have : h = k := by omega
          subst this; exact n2.1 hk
        · omega
      have f2 : g (-1) (2 * (h : Int)) = false := fls fun q => by
        rcases g3 _ _ q with q | ⟨k, hk, ⟨h1, _⟩ | ⟨_, h1⟩⟩
        · rw [z1] at q; cases q
        · omega
        · have : h = k := by omega
          subst this; exact n2.1 hk
      have e1 : E0 use adj heads tails (2 * (h : Int)) (2 * (h : Int) + 1) := .thru h (W.hu h hh)
      have e2 : E0 use adj heads tails (-1) (2 * (h : Int)) := .src h hh
      refine ⟨put (put g (2 * (h : Int)) (2 * (h : Int) + 1) true) (-1) (2 * (h : Int)) true, fun x y q => ?_, fun x => ?_, fun x y q => ?_⟩
      · rcases put_eq q with ⟨rfl, rfl⟩ | q
        · exact e2
        rcases put_eq q with ⟨rfl, rfl⟩ | q
        · exact e1
        exact g1 x y q
      · rw [put_true W e2 (by rw [put_ne (by omega)]; exact f2), put_true W e1 f1, g2, outs_cons, List.length_cons]
        generalize outs A x = o
        generalize net V g0 x = z
        by_cases c1 : x = -1 <;> by_cases c2 : x = 2 * (h : Int) + 1 <;> by_cases c3 : x = 2 * (h : Int) <;> simp only [c1, c2, c3, if_true, if_false] <;> omega
      · rcases put_eq q with ⟨rfl, rfl⟩ | q
        · exact Or.inr ⟨h, List.mem_cons_self, Or.inr ⟨rfl, rfl⟩⟩
        rcases put_eq q with ⟨rfl, rfl⟩ | q
        · exact Or.inr ⟨h, List.mem_cons_self, Or.inl ⟨rfl, rfl⟩⟩
        rcases g3 x y q with q | ⟨k, hk, q⟩
        · exact Or.inl q
        · exact Or.inr ⟨k, List.mem_cons_of_mem _ hk, q⟩
  obtain ⟨g, g1, g2, _⟩ := gen heads W.hn fun _ h => h
  refine ⟨g, fun x y q => EE_iff.mpr (g1 x y q), fun x => ?_⟩
  rw [g2, a2]
  omega
/-- flows by their value -/
structure Val (use : Nat → Prop) (adj : Nat → Nat → Prop) (heads tails : List Nat) (V : List Int) (f : Int → Int → Bool) (r : Nat) : Prop where
  le : ∀ x y, f x y = true → EE use adj heads tails x y = true
  net : ∀ x, net V f x = (if x = -1 then (r : Int) else 0) - (if x = -2 then (r : Int) else 0)
theorem Val.zero : Val use adj heads tails V (fun _ _ => false) 0 := ⟨(fun _ _ h => by cases h), fun x => by
  unfold K13.net
  rw [sum_none (fun _ _ => rfl)]
  simp⟩
theorem Val.push (W : Wy use adj heads tails V) {f : Int → Int → Bool} {r : Nat} (F : Val use adj heads tails V f r) {l : List Int} (nd : ((-1) :: l).Nodup) (h : Row (arc (EE use adj heads tails) f) ((-1) :: l)) (hl : ((-1) :: l).getLast? = some (-2)) :
    Val use adj heads tails V (pushR (EE use adj heads tails) f ((-1) :: l)) (r + 1) := by
  refine ⟨pushR_le F.le, fun x => ?_⟩
  rw [pushR_net W nd h hl, F.net]
  split <;> split <;> omega
/-- a closed set of states without the goal: no whole set of ways -/
theorem Val.stop (W : Wy use adj heads tails V) (hin : ∀ p j, adj p j → inn j → use j) (hni : ∀ h, h ∈ heads → ¬ inn h) {f : Int → Int → Bool} {r : Nat} (F : Val use adj heads tails V f r) (hr : r < heads.length) {X : Int → Bool} (h1 : X (-1) = true) (h2 : X (-2) = false)
    (hX : ∀ x y, x ∈ V → y ∈ V → X x = true → arc (EE use adj heads tails) f x y → X y = true) : ¬ LinkU adj inn tails heads [] := fun h => by
  obtain ⟨g, g1, g2⟩ := link_flow W hin hni h
  have key := no_more F.le g1 hX
  have val : ∀ (φ : Int → Int) (c : Int), (∀ x, φ x = (if x = -1 then c else 0) - (if x = -2 then c else 0)) → sumZ V (fun x => bi (X x) * φ x) = c := fun φ c hφ => by
    rw [sumZ_congr (h := fun x => if x = -1 then c else 0), sumZ_one W.nd W.vS]
    intro x _
    rw [hφ]
    by_cases q1 : x = -1
    · subst q1
      rw [h1, if_pos rfl, if_neg (by decide)]
      show 1 * (c - 0) = c
      omega
    · by_cases q2 : x = -2
      · subst q2
        rw [h2, if_neg q1]
        show 0 * _ = (0 : Int)
        omega
      · rw [if_neg q1, if_neg q2]
        omega
  rw [val _ _ g2, val _ _ F.net] at key
  omega
end
end K13
namespace K13
section
variable {use inn : Nat → Prop} {adj : Nat → Nat → Prop} {heads tails : List Nat} {V : List Int} {f : Int → Int → Bool}
theorem fls {b : Bool} (h : b = true → False) : b = false := by cases b <;> simp at h ⊢
/-- what is known of a whole flow -/
structure Full (use : Nat → Prop) (adj : Nat → Nat → Prop) (heads tails : List Nat) (f : Int → Int → Bool) : Prop where
  le : ∀ x y, f x y = true → E0 use adj heads tails x y
  hd : ∀ h, h ∈ heads → f (-1) (2 * (h : Int)) = true
  tl : ∀ t, t ∈ tails → f (2 * (t : Int) + 1) (-2) = true
  inn : ∀ n : Nat, ∀ x, f x (2 * (n : Int)) = true → f (2 * (n : Int)) (2 * (n : Int) + 1) = true
  in1 : ∀ n : Nat, ∀ x y, f x (2 * (n : Int)) = true → f y (2 * (n : Int)) = true → x = y
  out : ∀ n : Nat, f (2 * (n : Int)) (2 * (n : Int) + 1) = true → ∃ y, f (2 * (n : Int) + 1) y = true
  ou1 : ∀ n : Nat, ∀ x y, f (2 * (n : Int) + 1) x = true → f (2 * (n : Int) + 1) y = true → x = y
theorem E0.from_in {n : Nat} {y : Int} (h : E0 use adj heads tails (2 * (n : Int)) y) : y = 2 * (n : Int) + 1 := by
  generalize e : 2 * (n : Int) = a at h
  cases h <;> omega
theorem E0.to_out {n : Nat} {x : Int} (h : E0 use adj heads tails x (2 * (n : Int) + 1)) : x = 2 * (n : Int) := by
  generalize e : 2 * (n : Int) + 1 = a at h
  cases h <;> omega
theorem Val.full (W : Wy use adj heads tails V) (F : Val use adj heads tails V f heads.length) : Full use adj heads tails f := by
  have le : ∀ x y, f x y = true → E0 use adj heads tails x y := fun x y h => EE_iff.mp (F.le x y h)
  have mem : ∀ {x y}, f x y = true → x ∈ V ∧ y ∈ V := fun h => (le _ _ h).mem W
  have n0 : ∀ x : Int, x ≠ -1 → x ≠ -2 → sumZ V (fun y => bi (f x y)) = sumZ V (fun y => bi (f y x)) := fun x h1 h2 => by
    have := F.net x
    rw [if_neg h1, if_neg h2] at this
    unfold K13.net at this
    omega
  have sub1 : ∀ (g : Int → Bool) (L : List Int), (∀ y, g y = true → y ∈ L) → sumZ V (fun y => bi (g y)) ≤ (L.length : Int) := fun g L h => by
    refine Int.le_trans (sumZ_le (h := fun y => bi (decide (y ∈ L))) fun y _ => ?_) (sum_mem_le W.nd)
    cases q : g y with
    | false => exact bi_nn _
    | true =>
      rw [decide_eq_true (h y q)]
      exact Int.le_refl _
  have inle : ∀ n : Nat, sumZ V (fun y => bi (f (2 * (n : Int)) y)) ≤ 1 := fun n => sub1 _ [2 * (n : Int) + 1] fun y h => by
    rw [(le _ _ h).from_in]; simp
  have oule : ∀ n : Nat, sumZ V (fun y => bi (f y (2 * (n : Int) + 1))) ≤ 1 := fun n => sub1 _ [2 * (n : Int)] fun y h => by
    rw [(le _ _ h).to_out]; simp
  refine ⟨le, fun h hh => ?_, fun t ht => ?_, fun n x h => ?_, fun n x y h1 h2 => ?_, fun n h => ?_, fun n x y h1 h2 => ?_⟩
  · refine Classical.byContradiction fun hn => ?_
    have e := F.net (-1)
    rw [if_pos rfl, if_neg (by decide)] at e
    unfold K13.net at e
    rw [sum_none (g := fun y => f y (-1)) (fun y _ => fls fun q => by
      have := le _ _ q
      generalize ez : (-1 : Int) = z at this
      cases this <;> omega)] at e
    have := sub1 (fun y => f (-1) y) ((heads.erase h).map fun k : Nat => 2 * (k : Int)) fun y q => by
      have q0 := le _ _ q
      generalize ez : (-1 : Int) = z at q0
      cases q0 with
      | thru n _ => omega
      | edge u w _ _ _ => omega
      | goal t _ => omega
      | src k hk =>
        refine List.mem_map.mpr ⟨k, (W.hn.mem_erase_iff).mpr ⟨fun e => ?_, hk⟩, rfl⟩
        subst e
        exact hn q
    rw [List.length_map, List.length_erase_of_mem hh] at this
    have := List.length_pos_of_mem hh
    omega
  · refine Classical.byContradiction fun hn => ?_
    have e := F.net (-2)
    rw [if_neg (by decide), if_pos rfl] at e
    unfold K13.net at e
    rw [sum_none (g := fun y => f (-2) y) (fun y _ => fls fun q => by
      have := le _ _ q
      generalize ez : (-2 : Int) = z at this
      cases this <;> omega)] at e
    have := sub1 (fun y => f y (-2)) ((tails.erase t).map fun k : Nat => 2 * (k : Int) + 1) fun y q => by
      have q0 := le _ _ q
      generalize ez : (-2 : Int) = z at q0
      cases q0 with
      | thru n _ => omega
      | edge u w _ _ _ => omega
      | src h _ => omega
      | goal k hk =>
        refine List.mem_map.mpr ⟨k, (W.tn.mem_erase_iff).mpr ⟨fun e => ?_, hk⟩, rfl⟩
        subst e
        exact hn q
    rw [List.length_map, List.length_erase_of_mem ht] at this
    have := List.length_pos_of_mem ht
    have := W.len
    omega
  · refine Classical.byContradiction fun hn => ?_
    have h1 := sum_ge (g := fun y => f y (2 * (n : Int))) W.nd (mem h).1 h
    rw [← n0 (2 * (n : Int)) (by omega) (by omega), sum_none (fun y _ => fls fun q => by
      have := (le _ _ q).from_in
      subst this
      exact hn q)] at h1
    omega
  · refine Classical.byContradiction fun hn => ?_
    have h3 := sum_ge2 (g := fun y => f y (2 * (n : Int))) W.nd (mem h1).1 (mem h2).1 hn h1 h2
    rw [← n0 (2 * (n : Int)) (by omega) (by omega)] at h3
    have := inle n
    omega
  · refine Classical.byContradiction fun hn => ?_
    have h1 := sum_ge (g := fun y => f y (2 * (n : Int) + 1)) W.nd (mem h).1 h
    rw [← n0 (2 * (n : Int) + 1) (by omega) (by omega), sum_none (fun y _ => fls fun q => hn ⟨y, q⟩)] at h1
    omega
  · refine Classical.byContradiction fun hn => ?_
    have h3 := sum_ge2 (g := fun y => f (2 * (n : Int) + 1) y) W.nd (mem h1).2 (mem h2).2 hn h1 h2
    rw [n0 (2 * (n : Int) + 1) (by omega) (by omega)] at h3
    have := oule n
    omega
/-- u's way goes on at w -/
def nxt (f : Int → Int → Bool) (u w : Nat) : Prop := f (2 * (u : Int) + 1) (2 * (w : Int)) = true
def Chain (A : Nat → Nat → Prop) (l : List Nat) : Prop := ∀ (i u w : Nat), l[i]? = some u → l[i + 1]? = some w → A u w
/-- a way on its way -/
structure Wo (f : Int → Int → Bool) (h : Nat) (l : List Nat) : Prop where
  hd : l[0]? = some h
  ch : Chain (nxt f) l
  nd : l.Nodup
  act : ∀ u, u ∈ l → f (2 * (u : Int)) (2 * (u : Int) + 1) = true
theorem Wo.start (F : Full use adj heads tails f) {h : Nat} (hh : h ∈ heads) : Wo f h [h] :=
  ⟨rfl, fun i u w h1 h2 => by simp at h2, by simp, fun u hu => by
    have : u = h := by simpa using hu
    subst this
    exact F.inn u _ (F.hd u hh)⟩
theorem Wo.step (F : Full use adj heads tails f) {h u : Nat} {l : List Nat} (hh : h ∈ heads) (W : Wo f h l) (hu : l.getLast? = some u) {y : Int} (hy : f (2 * (u : Int) + 1) y = true) (hn : y ≠ -2) :
    ∃ w : Nat, y = 2 * (w : Int) ∧ use w ∧ Wo f h (l ++ [w]) := by
  have e := F.le _ _ hy
  obtain ⟨w, rfl, hw⟩ : ∃ w : Nat, y = 2 * (w : Int) ∧ use w := by
    generalize ez : 2 * (u : Int) + 1 = z at e
    cases e with
    | thru n _ => omega
    | edge u' w _ hw _ => exact ⟨w, rfl, hw⟩
    | src h _ => omega
    | goal t _ => exact absurd rfl hn
  have hlast : l[l.length - 1]? = some u := by rw [← List.getLast?_eq_getElem?]; exact hu
  have hpos : 0 < l.length := by
    cases l with
    | nil => cases hu
    | cons a l => simp
  have fresh : ¬ w ∈ l := fun hm => by
    obtain ⟨i, hi⟩ := List.getElem?_of_mem hm
    cases i with
    | zero =>
      have : w = h := Option.some.inj (hi.symm.trans W.hd)
      subst this
      have := F.in1 w _ _ hy (F.hd w hh)
      omega
    | succ i =>
      have hlt := (List.getElem?_eq_some_iff.mp hi).1
      have hi0 : l[i]? = some (l[i]'(by omega)) := List.getElem?_eq_getElem (by omega)
      have h1 := W.ch i _ w hi0 hi
      have h2 := F.in1 w _ _ hy h1
      have h3 : u = l[i]'(by omega) := by omega
      rw [← h3] at hi0
      have := nd_ix W.nd hi0 hlast
      omega
  refine ⟨w, rfl, hw, ?_, fun i a b h1 h2 => ?_, ?_, fun x hx => ?_⟩
  · rw [List.getElem?_append_left hpos]
    exact W.hd
  · rcases Nat.lt_or_ge (i + 1) l.length with q | q
    · rw [List.getElem?_append_left (by omega)] at h1
      rw [List.getElem?_append_left q] at h2
      exact W.ch i a b h1 h2
    · have hi := (List.getElem?_eq_some_iff.mp h2).1
      have : i + 1 = l.length := by simp at hi; omega
      have hi2 : i = l.length - 1 := by omega
      subst hi2
      rw [List.getElem?_append_left (by omega), hlast] at h1
      rw [List.getElem?_append_right (by omega), this, Nat.sub_self] at h2
      cases h1
      cases h2
      exact hy
  · exact List.nodup_append.mpr ⟨W.nd, by simp, fun a ha b hb => by
      have : b = w := by simpa using hb
      subst this
      exact fun e => fresh (e ▸ ha)⟩
  · rcases List.mem_append.mp hx with h | h
    · exact W.act x h
    · have : x = w := by simpa using h
      subst this
      exact F.inn x _ hy
/-- a way that has come to its tail -/
structure Way (f : Int → Int → Bool) (h : Nat) (l : List Nat) (u : Nat) : Prop where
  wo : Wo f h l
  last : l.getLast? = some u
  goal : f (2 * (u : Int) + 1) (-2) = true
theorem Wo.disj (F : Full use adj heads tails f) {h h' : Nat} {l l' : List Nat} (hh : h ∈ heads) (hh' : h' ∈ heads) (W : Wo f h l) (W' : Wo f h' l') : ∀ (i j x : Nat), l[i]? = some x → l'[j]? = some x → h = h'
  | 0, 0, x, h1, h2 => by
    have a := Option.some.inj (h1.symm.trans W.hd)
    have b := Option.some.inj (h2.symm.trans W'.hd)
    omega
  | 0, j + 1, x, h1, h2 => by
    have a := Option.some.inj (h1.symm.trans W.hd)
    subst a
    have hlt := (List.getElem?_eq_some_iff.mp h2).1
    have := W'.ch j _ x (List.getElem?_eq_getElem (show j < l'.length by omega)) h2
    have := F.in1 x _ _ this (F.hd x hh)
    omega
  | i + 1, 0, x, h1, h2 => by
    have a := Option.some.inj (h2.symm.trans W'.hd)
    subst a
    have hlt := (List.getElem?_eq_some_iff.mp h1).1
    have := W.ch i _ x (List.getElem?_eq_getElem (show i < l.length by omega)) h1
    have := F.in1 x _ _ this (F.hd x hh')
    omega
  | i + 1, j + 1, x, h1, h2 => by
    have l1 := (List.getElem?_eq_some_iff.mp h1).1
    have l2 := (List.getElem?_eq_some_iff.mp h2).1
    have e1 := List.getElem?_eq_getElem (show i < l.length by omega)
    have e2 := List.getElem?_eq_getElem (show j < l'.length by omega)
    have a := W.ch i _ x e1 h1
    have b := W'.ch j _ x e2 h2
    have c := F.in1 x _ _ a b
    have d : l[i]'(by omega) = l'[j]'(by omega) := by omega
    rw [← d] at e2
    exact Wo.disj F hh hh' W W' i j _ e1 e2
/-- what the law asks of a way -/
structure Good (adj : Nat → Nat → Prop) (inn : Nat → Prop) (tails : List Nat) (h : Nat) (l : List Nat) : Prop where
  len : 2 ≤ l.length
  hd : l[0]? = some h
  last : ∃ u, l.getLast? = some u ∧ u ∈ tails
  mid : ∀ (i x : Nat), 0 < i → i + 1 < l.length → l[i]? = some x → inn x
  ch : Chain adj l
theorem Way.good (W0 : Wy use adj heads tails V) (hui : ∀ n, use n → n ∈ heads ∨ n ∈ tails ∨ inn n) (F : Full use adj heads tails f) {h u : Nat} {l : List Nat} (hh : h ∈ heads) (W : Way f h l u) : Good adj inn tails h l := by
  have hpos : 0 < l.length := (List.getElem?_eq_some_iff.mp W.wo.hd).1
  have ut : u ∈ tails := by
    have e := F.le _ _ W.goal
    generalize ez : 2 * (u : Int) + 1 = z at e
    generalize ey : (-2 : Int) = y at e
    cases e with
    | thru n _ => omega
    | edge u' w _ hw _ => omega
    | src h _ => omega
    | goal t ht =>
      have : u = t := by omega
      subst this
      exact ht
  have hlast : l[l.length - 1]? = some u := by rw [← List.getLast?_eq_getElem?]; exact W.last
  have elim : ∀ a b, nxt f a b → use a ∧ use b ∧ adj a b := fun a b hab => by
    have e := F.le _ _ hab
    generalize ez : 2 * (a : Int) + 1 = z at e
    generalize ey : 2 * (b : Int) = y at e
    cases e with
    | thru n _ => omega
    | src h _ => omega
    | goal t ht => omega
    | edge u' w h1 h2 h3 =>
      have e1 : a = u' := by omega
      have e2 : b = w := by omega
      subst e1
      subst e2
      exact ⟨h1, h2, h3⟩
  refine ⟨?_, W.wo.hd, ⟨u, W.last, ut⟩, fun i x h0 h1 hx => ?_, fun i a b h1 h2 => (elim a b (W.wo.ch i a b h1 h2)).2.2⟩
  · refine Classical.byContradiction fun hn => ?_
    have e : l.length - 1 = 0 := by omega
    rw [e] at hlast
    have := Option.some.inj (hlast.symm.trans W.wo.hd)
    subst this
    exact W0.ht u hh ut
  · obtain ⟨j, rfl⟩ : ∃ j, i = j + 1 := ⟨i - 1, by omega⟩
    have e1 := List.getElem?_eq_getElem (show j < l.length by omega)
    have e2 := List.getElem?_eq_getElem (show j + 1 + 1 < l.length by omega)
    have a := W.wo.ch j _ x e1 hx
    have b := W.wo.ch (j + 1) x _ hx e2
    rcases hui x (elim _ _ a).2.1 with q | q | q
    · have := F.in1 x _ _ a (F.hd x q)
      omega
    · have := F.ou1 x _ _ b (F.tl x q)
      omega
    · exact q
end
end K13
namespace K13
/-! ## Gauss: a column after the other -/
theorem det_far {x y : Nat → Rat} {A B : List (Nat → Rat)} {C : List Nat} : det (x :: (A ++ y :: B)) C = - det (y :: (A ++ x :: B)) C := by
  have h1 := det_front (r := y) (A := x :: A) (B := B) (C := C)
  have h2 := det_shift (r := x) (A := [y]) (B := A) (C := B) (D := C)
  simp only [List.cons_append, List.nil_append, List.length_cons, sg_succ] at h1 h2
  rw [h1]
  have h3 : det (y :: x :: (A ++ B)) C = sg A.length * det (y :: (A ++ x :: B)) C := h2
  rw [h3]
  have a := sg_sq A.length
  generalize det (y :: (A ++ x :: B)) C = d
  generalize sg A.length = s at *
  have : -s * (s * d) = - (s * s * d) := by grind
  rw [this, a]
  grind
/-- the determinant of what is left from place c on -/
def dsub (n : Nat) (M : Nat → Nat → Rat) (c : Nat) : Rat := det ((List.range' c (n - c)).map M) (List.range' c (n - c))
theorem dsub_end {n : Nat} {M : Nat → Nat → Rat} : dsub n M n = 1 := by
  unfold dsub
  rw [Nat.sub_self]
  rfl
theorem range_cons {n c : Nat} (h : c < n) : List.range' c (n - c) = c :: List.range' (c + 1) (n - (c + 1)) := by
  have : n - c = (n - (c + 1)) + 1 := by omega
  rw [this, List.range'_succ]
theorem dsub_zero {n c : Nat} {M : Nat → Nat → Rat} (h : c < n) (hz : ∀ j, c ≤ j → j < n → M j c = 0) : dsub n M c = 0 := by
  unfold dsub
  rw [range_cons h]
  refine det_zero_col fun r hr => ?_
  obtain ⟨i, hi, rfl⟩ := List.mem_map.mp hr
  rw [← range_cons h, List.mem_range'_1] at hi
  exact hz i hi.1 (by omega)
theorem dsub_step {n c : Nat} {M : Nat → Nat → Rat} (h : c < n) (hp : M c c ≠ 0) : dsub n M c = M c c * dsub n (fun i => if i ≤ c then M i else elim M c i) (c + 1) := by
  unfold dsub
  rw [range_cons h, det_peel hp]
  congr 2
  refine List.map_congr_left fun i hi => ?_
  have := (List.mem_range'_1.mp hi).1
  rw [if_neg (by omega)]
theorem dsub_congr {n c : Nat} {M M' : Nat → Nat → Rat} (h : ∀ i, c ≤ i → i < n → M i = M' i) : dsub n M c = dsub n M' c := by
  unfold dsub
  congr 1
  refine List.map_congr_left fun i hi => ?_
  have := List.mem_range'_1.mp hi
  exact h i this.1 (by omega)
theorem dsub_swap {n c k : Nat} {M : Nat → Nat → Rat} (hc : c < k) (hk : k < n) : dsub n (fun i => if i = c then M k else if i = k then M c else M i) c = - dsub n M c := by
  unfold dsub
  rw [range_cons (by omega)]
  have e : List.range' (c + 1) (n - (c + 1)) = List.range' (c + 1) (k - (c + 1)) ++ k :: List.range' (k + 1) (n - (k + 1)) := by
    have h1 : n - (c + 1) = (k - (c + 1)) + (n - k) := by omega
    rw [h1, List.range'_append_1.symm]
    have h2 : c + 1 + (k - (c + 1)) = k := by omega
    rw [h2, range_cons (by omega : k < n)]
  rw [e]
  simp only [List.map_cons, List.map_append]
  have nk : ¬ k = c := by omega
  rw [if_pos trivial, if_neg nk, if_pos trivial]
  have hA : (List.range' (c + 1) (k - (c + 1))).map (fun i => if i = c then M k else if i = k then M c else M i) = (List.range' (c + 1) (k - (c + 1))).map M := List.map_congr_left fun i hi => by
    have := List.mem_range'_1.mp hi
    rw [if_neg (by omega), if_neg (by omega)]
  have hB : (List.range' (k + 1) (n - (k + 1))).map (fun i => if i = c then M k else if i = k then M c else M i) = (List.range' (k + 1) (n - (k + 1))).map M := List.map_congr_left fun i hi => by
    have := List.mem_range'_1.mp hi
    rw [if_neg (by omega), if_neg (by omega)]
  rw [hA, hB]
  exact det_far
end K13
namespace K13
/-! ## rows, and ways that link -/
theorem Row.snoc {A : Int → Int → Prop} : ∀ {l : List Int} {y z : Int}, Row A l → l.getLast? = some y → A y z → Row A (l ++ [z])
  | [], _, _, _, h, _ => by cases h
  | [x], _, _, _, h, hA => by
    cases h
    exact ⟨hA, trivial⟩
  | a :: b :: r, y, z, h, hl, hA => ⟨h.1, Row.snoc (l := b :: r) h.2 (by rw [List.getLast?_cons_cons] at hl; exact hl) hA⟩
theorem row_rev {A : Int → Int → Prop} : ∀ {l : List Int}, (∀ (i : Nat) a b, l[i]? = some a → l[i + 1]? = some b → A b a) → Row A l.reverse
  | [], _ => trivial
  | [x], _ => trivial
  | x :: y :: r, h => by
    rw [List.reverse_cons]
    refine Row.snoc (row_rev (l := y :: r) fun i a b h1 h2 => h (i + 1) a b h1 h2) (y := y) ?_ (h 0 x y rfl rfl)
    rw [List.getLast?_reverse]
    rfl
/-- the tree of the states that came -/
inductive Par (A : Int → Int → Prop) : List (Int × Int) → Prop
  | base : Par A [(-1, -1)]
  | step {cs : List (Int × Int)} {x y : Int} : Par A cs → x ∈ cs.map (·.1) → ¬ y ∈ cs.map (·.1) → A x y → Par A (cs ++ [(y, x)])
/-- the way back from z -/
structure Back (A : Int → Int → Prop) (cs : List (Int × Int)) (z : Int) (l : List Int) : Prop where
  hd : l[0]? = some z
  last : l.getLast? = some (-1)
  nd : l.Nodup
  mem : ∀ x, x ∈ l → x ∈ cs.map (·.1)
  ch : ∀ (i : Nat) a b, l[i]? = some a → l[i + 1]? = some b → (a, b) ∈ cs ∧ A b a ∧ a ≠ -1
theorem Par.one {A : Int → Int → Prop} {cs : List (Int × Int)} (h : Par A cs) : -1 ∈ cs.map (·.1) := by
  induction h with
  | base => simp
  | step _ _ _ _ ih => rw [List.map_append]; exact List.mem_append_left _ ih
theorem Par.nd {A : Int → Int → Prop} {cs : List (Int × Int)} (h : Par A cs) : (cs.map (·.1)).Nodup := by
  induction h with
  | base => simp
  | @step cs x y _ _ hy _ ih =>
    rw [List.map_append, List.nodup_append]
    exact ⟨ih, by simp, fun a ha b hb e => hy (by have : b = y := by simpa using hb
                                                  rw [← this, ← e]; exact ha)⟩
theorem Par.back {A : Int → Int → Prop} {cs : List (Int × Int)} (h : Par A cs) : ∀ z, z ∈ cs.map (·.1) → ∃ l, Back A cs z l := by
  induction h with
  | base =>
    intro z hz
    have : z = -1 := by simpa using hz
    subst this
    exact ⟨[-1], rfl, rfl, by simp, fun x hx => by simpa using hx, fun i a b h1 h2 => by simp at h2⟩
  | @step cs x y hp hx hy hA ih =>
    intro z hz
    rw [List.map_append] at hz
    have grow : ∀ {z l}, Back A cs z l → Back A (cs ++ [(y, x)]) z l := fun B => ⟨B.hd, B.last, B.nd, fun u hu => by rw [List.map_append]; exact List.mem_append_left _ (B.mem u hu), fun i a b h1 h2 => by
      obtain ⟨q1, q2, q3⟩ := B.ch i a b h1 h2
      exact ⟨List.mem_append_left _ q1, q2, q3⟩⟩
    rcases List.mem_append.mp hz with hz | hz
    · obtain ⟨l, B⟩ := ih z hz
      exact ⟨l, grow B⟩
    · have : z = y := by simpa using hz
      subst this
      obtain ⟨l, B⟩ := ih x hx
      have hy1 : z ≠ -1 := fun e => hy (by rw [e]; exact hp.one)
      refine ⟨z :: l, rfl, ?_, ?_, ?_, ?_⟩
      · cases l with
        | nil => cases B.hd
        | cons u r => rw [List.getLast?_cons_cons]; exact B.last
      · exact List.nodup_cons.mpr ⟨fun h => hy (B.mem z h), B.nd⟩
      · intro u hu
        rcases List.mem_cons.mp hu with rfl | hu
        · rw [List.map_append]
          simp
        · rw [List.map_append]
          exact List.mem_append_left _ (B.mem u hu)
      · intro i a b h1 h2
        cases i with
        | zero =>
          have e1 : z = a := by simpa using h1
          have e2 : l[0]? = some b := by simpa using h2
          have e3 := Option.some.inj (e2.symm.trans B.hd)
          subst e1 e3
          exact ⟨by simp, hA, hy1⟩
        | succ i =>
          obtain ⟨q1, q2, q3⟩ := B.ch i a b h1 h2
          exact ⟨List.mem_append_left _ q1, q2, q3⟩
section
variable {adj : Nat → Nat → Prop} {inn : Nat → Prop} {tails : List Nat}
theorem way_link (dis : ∀ t, t ∈ tails → ¬ inn t) {P : List Nat} : ∀ {r : List Nat} {p : Nat} {U : List Nat}, r ≠ [] → Chain adj (p :: r) → (∃ u, r.getLast? = some u ∧ u ∈ tails) → (∀ (i x : Nat), i + 1 < r.length → r[i]? = some x → inn x) → r.Nodup → (∀ x, x ∈ r → ¬ x ∈ U) →
    LinkU adj inn tails P (r.reverse ++ U) → LinkU adj inn tails (p :: P) U
  | [], _, _, h, _, _, _, _, _, _ => absurd rfl h
  | [x], p, U, _, ch, hl, _, _, hU, h => by
    have ht : x ∈ tails := by
      obtain ⟨u, hu, ht⟩ := hl
      have : x = u := by simpa using hu
      rw [this]
      exact ht
    exact .done (ch 0 p x rfl rfl) ht (hU x (by simp)) h
  | x :: y :: r, p, U, _, ch, hl, hm, nd, hU, h => by
    have hx : inn x := hm 0 x (by simp) rfl
    have n2 := List.nodup_cons.mp nd
    refine .go (ch 0 p x rfl rfl) (fun q => dis x q hx) hx (hU x (by simp)) ?_
    refine way_link dis (r := y :: r) (by simp) (fun i u w h1 h2 => ch (i + 1) u w h1 h2) ?_ (fun i z h1 h2 => hm (i + 1) z (by simp at h1 ⊢; omega) h2) n2.2 (fun z hz hq => ?_) ?_
    · obtain ⟨u, hu, ht⟩ := hl
      exact ⟨u, by rw [List.getLast?_cons_cons] at hu; exact hu, ht⟩
    · rcases List.mem_cons.mp hq with rfl | hq
      · exact n2.1 hz
      · exact hU z (List.mem_cons_of_mem _ hz) hq
    · rw [List.reverse_cons (a := x), List.append_assoc] at h
      exact h
theorem good_link (dis : ∀ t, t ∈ tails → ¬ inn t) : ∀ {heads : List Nat} {W : List (List Nat)} {U : List Nat}, W.length = heads.length → (∀ (i a : Nat) l, heads[i]? = some a → W[i]? = some l → Good adj inn tails a l) → W.flatten.Nodup → (∀ x, x ∈ W.flatten → ¬ x ∈ U) →
    LinkU adj inn tails heads U
  | [], _, _, _, _, _, _ => .nil
  | h :: heads, [], _, e, _, _, _ => by cases e
  | h :: heads, l :: W, U, e, g, nd, hU => by
    have G := g 0 h l rfl rfl
    rw [List.flatten_cons, List.nodup_append] at nd
    obtain ⟨n1, n2, n3⟩ := nd
    cases l with
    | nil => have := G.len; simp at this
    | cons x r =>
      have : x = h := by have := G.hd; simpa using this
      subst this
      have hr : r ≠ [] := fun q => by have := G.len; rw [q] at this; simp at this
      refine way_link dis hr G.ch ?_ (fun i z h1 h2 => G.mid (i + 1) z (by omega) (by simp; omega) h2) (List.nodup_cons.mp n1).2 (fun z hz => hU z (by rw [List.flatten_cons]; simp [hz])) ?_
      · obtain ⟨u, hu, ht⟩ := G.last
        refine ⟨u, ?_, ht⟩
        cases r with
        | nil => exact absurd rfl hr
        | cons y r => rw [List.getLast?_cons_cons] at hu; exact hu
      · refine good_link dis (W := W) (by simpa using e) (fun i a l h1 h2 => g (i + 1) a l h1 h2) n2 fun z hz hq => ?_
        rcases List.mem_append.mp hq with hq | hq
        · exact n3 z (List.mem_cons_of_mem _ (List.mem_reverse.mp hq)) z hz rfl
        · exact hU z (by rw [List.flatten_cons]; exact List.mem_append_right _ hz) hq
end
end K13
namespace W13
open PySem L2
/-! ### the text by places, what stands at the top -/
def top (i : Nat) : Stmt := PySem.Challenge.pw_rimohms_k13_whole_signs_and_ways.main.body.getD i (.Pass ⟨0, 0, 0, 0⟩)
structure Txt (K : PySem.W.Frag) (mg : Str → Option Value) (uS uG : Value) (aZ aO : Addr) : Prop where
  len : mg "len" = none
  range : mg "range" = none
  list : mg "list" = none
  tuple : mg "tuple" = none
  int : mg "int" = none
  abs : mg "abs" = none
  isinstance : mg "isinstance" = none
  sorted : mg "sorted" = none
  set : mg "set" = none
  all : mg "all" = none
  any : mg "any" = none
  bool : mg "bool" = none
  str : mg "str" = none
  enumerate : mg "enumerate" = none
  zip : mg "zip" = none
  gcd : mg "gcd" = some (.builtin "math.gcd")
  mSOURCE : mg "SOURCE" = some uS
  rSOURCE : RelV (.int (-1)) uS
  mGOAL : mg "GOAL" = some uG
  rGOAL : RelV (.int (-2)) uG
  mZERO : mg "ZERO" = some (.ref aZ)
  mONE : mg "ONE" = some (.ref aO)
  zero : ∀ H : Hp, SqT K H aZ [.int 0, .int 1]
  one : ∀ H : Hp, SqT K H aO [.int 1, .int 1]
theorem Txt.rZERO {K : PySem.W.Frag} {mg : Str → Option Value} {uS uG : Value} {aZ aO : Addr} (T : Txt K mg uS uG aZ aO) : RelV (.ref aZ) (.ref aZ) := rfl
theorem Txt.rONE {K : PySem.W.Frag} {mg : Str → Option Value} {uS uG : Value} {aZ aO : Addr} (T : Txt K mg uS uG aZ aO) : RelV (.ref aO) (.ref aO) := rfl
/-- a def as its callers see it -/
structure Nm (K : PySem.W.Frag) (mg : Str → Option Value) (x : Str) (ps : List Str) (f : Addr) (fd : FuncData) : Prop where
  m : mg x = some (.ref f)
  kp : PySem.W.keepIn K (.ref f) = true
  b : Binds K fd ps []
/-- a def with its promise -/
def Df (P : Program) (w : World) (K : PySem.W.Frag) (mg : Str → Option Value) (base : Heap) (k : Nat) (x : Str) (ps : List Str) (sp : Sp) : Prop :=
  ∃ f fd, FnOk P w K mg base CX0 k f fd ps sp ∧ Nm K mg x ps f fd
/-! ### great ints -/
def CDivX (_ j : Int) : Prop := j ≠ 0 ∧ j.natAbs.log2 < 9000
section
variable {X : Cx}
theorem op_fdivX : OpR X (binaryOp .FloorDiv) (rI CDivX fun i j => .int (i.fdiv j)) := opI fun i j _ _ _ _ _ hc q =>
  PyProof.Rows.floordiv_int hc.1 q (.inl (PyProof.noPylong_of_log2 hc.2))
end
theorem divX {j : Int} {b : Nat} {i : Int} (h : j ≠ 0) (hb : j.natAbs < 2 ^ (b + 1)) (h9 : b + 1 ≤ 9000) : CDivX i j := ⟨h, Nat.lt_of_lt_of_le (PySem.Flt.log2_lt_of (Nat.succ_pos b) hb) h9⟩
/-! ### what stays -/
theorem Same.tup {K : PySem.W.Frag} {H H' : Hp} {a : Addr} {xs : List V} (e : Same H H') (h : SqT K H a xs) : SqT K H' a xs := by
  rcases h with (h | ⟨o, h⟩) | h
  · exact .inl (.inl (e _ _ h))
  · exact .inl (.inr ⟨o, e _ _ h⟩)
  · exact .inr h
theorem same_new {H : Hp} {p : Addr} {o : HO} (h : H p = none) : Same H (upd H p o) := fun b u e => by
  rw [upd_ne (ne_of_none e h)]
  exact e
theorem ixN_nat {n k : Nat} (h : k < n) : ixN n (k : Int) = some k := by
  unfold ixN
  rw [if_pos (by omega), if_pos (by omega)]
  congr 1
end W13
namespace W13
open PySem L2
/-! ## ratios -/
/-- v is the ratio q -/
def RatV (K : PySem.W.Frag) (H : Hp) (v : V) (q : Rat) : Prop := ∃ a, v = .ref a ∧ SqT K H a [.int q.num, .int (q.den : Int)]
theorem RatV.mono {K : PySem.W.Frag} {H H' : Hp} {v : V} {q : Rat} (h : RatV K H v q) (e : Same H H') : RatV K H' v q := by
  obtain ⟨a, h1, h2⟩ := h
  exact ⟨a, h1, Same.tup e h2⟩
theorem num_divInt {a b : Int} (hb : b ≠ 0) : (Rat.divInt a b).num = a.fdiv (if b < 0 then -((Nat.gcd a.natAbs b.natAbs : Nat) : Int) else ((Nat.gcd a.natAbs b.natAbs : Nat) : Int)) := by
  have hg : 0 < Nat.gcd a.natAbs b.natAbs := Nat.gcd_pos_of_pos_right _ (by omega)
  have e0 : b.gcd a = Nat.gcd a.natAbs b.natAbs := Nat.gcd_comm _ _
  have d1 : ((Nat.gcd a.natAbs b.natAbs : Nat) : Int) ∣ a := Int.ofNat_dvd_left.mpr (Nat.gcd_dvd_left _ _)
  rw [Rat.num_divInt, e0]
  generalize Nat.gcd a.natAbs b.natAbs = g at *
  obtain ⟨c, hc⟩ := d1
  have gp : (g : Int) ≠ 0 := by omega
  split
  · next h =>
    rw [Int.sign_eq_neg_one_of_neg h, hc]
    have e1 : -1 * ((g : Int) * c) = (g : Int) * (-c) := by rw [Int.mul_neg]; omega
    have e2 : (g : Int) * c = (-(g : Int)) * (-c) := by rw [Int.neg_mul_neg]
    rw [e1, Int.mul_ediv_cancel_left _ gp, e2, Int.mul_fdiv_cancel_left _ (by omega)]
  · next h =>
    rw [Int.sign_eq_one_of_pos (by omega), hc, Int.one_mul, Int.mul_ediv_cancel_left _ gp, Int.mul_fdiv_cancel_left _ gp]
theorem den_divInt {a b : Int} (hb : b ≠ 0) : (((Rat.divInt a b).den : Nat) : Int) = b.fdiv (if b < 0 then -((Nat.gcd a.natAbs b.natAbs : Nat) : Int) else ((Nat.gcd a.natAbs b.natAbs : Nat) : Int)) := by
  have hg : 0 < Nat.gcd a.natAbs b.natAbs := Nat.gcd_pos_of_pos_right _ (by omega)
  have e0 : b.gcd a = Nat.gcd a.natAbs b.natAbs := Nat.gcd_comm _ _
  have d1 : ((Nat.gcd a.natAbs b.natAbs : Nat) : Int) ∣ b := Int.ofNat_dvd_left.mpr (Nat.gcd_dvd_right _ _)
  rw [Rat.den_divInt, e0, if_neg hb]
  generalize Nat.gcd a.natAbs b.natAbs = g at *
  obtain ⟨c, hc⟩ := d1
  have gp : (g : Int) ≠ 0 := by omega
  rw [Int.natCast_ediv]
  split
  · next h =>
    have e1 : ((b.natAbs : Nat) : Int) = (g : Int) * (-c) := by rw [Int.mul_neg, ← hc]; omega
    have e2 : b = (-(g : Int)) * (-c) := by rw [Int.neg_mul_neg]; exact hc
    rw [e1, Int.mul_ediv_cancel_left _ gp]
    conv => rhs; rw [e2]
    rw [Int.mul_fdiv_cancel_left _ (by omega)]
  · next h =>
    have e1 : ((b.natAbs : Nat) : Int) = (g : Int) * c := by rw [← hc]; omega
    rw [e1, Int.mul_ediv_cancel_left _ gp]
    conv => rhs; rw [hc]
    rw [Int.mul_fdiv_cancel_left _ gp]
/-- ratio(top, bottom) -/
def spRatio (K : PySem.W.Frag) : Sp := fun vs H Q _ => ∃ a b : Int, vs = [.int a, .int b] ∧ b ≠ 0 ∧ b.natAbs < 2 ^ 8999 ∧ ∀ v H', Same H H' → RatV K H' v (Rat.divInt a b) → Q v H'
section
variable {P : Program} {w : World} {K : PySem.W.Frag} {mg : Str → Option Value} {base : Heap} {uS uG : Value} {aZ aO : Addr}
abbrev s_ratio : Stmt := top 18
theorem sc_ratio : FnScope ["top", "bottom", "common"] ["top", "bottom"] (defScope s_ratio) := ⟨rfl, rfl, rfl, by decide +kernel, rfl, by decide +kernel, by decide +kernel⟩
theorem ok_ratio {f : Addr} {fd : FuncData} (F : Fun K "ratio" "ratio" s_ratio f fd) (T : Txt K mg uS uG aZ aO) : FnOk P w K mg base CX0 1 f fd ["top", "bottom"] (spRatio K) := by
  refine F.ok sc_ratio (fun vs H Q E h => ?_) (fun cdv A outer s H vs Q E hr h => ?_)
  · obtain ⟨a, b, rfl, _⟩ := h
    rfl
  · obtain ⟨a, b, rfl, hb, hl, k⟩ := h
    have nd := sc_ratio.nd
    refine ⟨_,
      (pss_cons
        (ps_if (pt_cmpR op_eq (pv 1) pe_int (nomark _))
          (pss_one
            ps_never)
          pss_nil)
      (pss_cons
        (ps_set (i := 2) nd rfl (by first | exact Or.inl rfl | exact Or.inr rfl) (pe_callBfun cr_gcd rfl T.gcd (pa_cons (pv 0) (pa_cons (pv 1) pa_nil))))
      (pss_cons
        (ps_if (pt_cmpR op_lt (pv 1) pe_int (nomark _))
          (pss_one
            (ps_set (i := 2) nd rfl (by first | exact Or.inl rfl | exact Or.inr rfl) (pe_un un_neg (pv 2))))
          pss_nil)
      (pss_one
        (ps_ret (pe_tup (pa_cons (pe_op op_fdivX (pv 0) (pv 2)) (pa_cons (pe_op op_fdivX (pv 1) (pv 2)) pa_nil)))))))), ?_⟩
    have hz : ¬ V.int b = V.int 0 := fun e => hb (V.int.inj e)
    refine ⟨_, rfl, rfl, _, rfl, ?_⟩
    rw [decide_eq_false hz]
    refine iteF ?_
    refine ⟨_, rfl, _, rfl, a, b, rfl, ?_⟩
    have hg : 0 < Nat.gcd a.natAbs b.natAbs := Nat.gcd_pos_of_pos_right _ (by omega)
    have hgl : Nat.gcd a.natAbs b.natAbs < 2 ^ 8999 := Nat.lt_of_le_of_lt (Nat.gcd_le_right _ (by omega)) hl
    have e1 := num_divInt (a := a) hb
    have e2 := den_divInt (a := a) hb
    generalize Nat.gcd a.natAbs b.natAbs = g at *
    refine ⟨_, rfl, _, _, rfl, rfl, _, rfl, ?_⟩
    have fin : ∀ (c : Int), c = (if b < 0 then -(g : Int) else (g : Int)) → ∀ p, H p = none → Q (.ref p) (upd H p (.tup [.int (a.fdiv c), .int (b.fdiv c)])) := fun c hc p hp => by
      refine k _ _ (same_new hp) ⟨p, rfl, SqT.of ?_⟩
      rw [upd_same, e1, e2, ← hc]
    by_cases hneg : b < 0
    · rw [decide_eq_true hneg]
      refine iteT ⟨_, rfl, _, rfl, ?_⟩
      have hc : CDivX a (-(g : Int)) := divX (b := 8999) (by omega) (Nat.lt_of_lt_of_le (by omega) (Nat.pow_le_pow_right (by decide) (Nat.le_succ 8999))) (by decide)
      refine ⟨_, rfl, _, rfl, _, _, rfl, rfl, hc, _, rfl, _, rfl, _, _, rfl, rfl, hc, by show 2 ≤ sizeLine; decide, fin _ (by rw [if_pos hneg])⟩
    · rw [decide_eq_false hneg]
      refine iteF ?_
      have hc : CDivX a (g : Int) := divX (b := 8999) (by omega) (Nat.lt_of_lt_of_le (by omega) (Nat.pow_le_pow_right (by decide) (Nat.le_succ 8999))) (by decide)
      refine ⟨_, rfl, _, rfl, _, _, rfl, rfl, hc, _, rfl, _, rfl, _, _, rfl, rfl, hc, by show 2 ≤ sizeLine; decide, fin _ (by rw [if_neg hneg])⟩
end
end W13
namespace W13
open PySem L2
/-- an operation on two ratios -/
def spRR (K : PySem.W.Frag) (ok : Rat → Prop) (g : Rat → Rat → Rat) : Sp := fun vs H Q _ => ∃ (x y : V) (p q : Rat), vs = [x, y] ∧ RatV K H x p ∧ RatV K H y q ∧ K13.Sm 4000 p ∧ K13.Sm 4000 q ∧ ok q ∧ ∀ v H', Same H H' → RatV K H' v (g p q) → Q v H'
theorem cmul {a b : Int} (ha : a.natAbs < 2 ^ 4000) (hb : b.natAbs < 2 ^ 4000) : CMulW a b := wide_mul ha hb (by decide) (by decide) (by decide)
theorem den0 (q : Rat) : ((q.den : Nat) : Int) ≠ 0 := by have := q.den_pos; omega
theorem selfR (q : Rat) : Rat.divInt q.num (q.den : Int) = q := Rat.num_divInt_den q
theorem val_sub (p q : Rat) : Rat.divInt (p.num * (q.den : Int) - q.num * (p.den : Int)) ((p.den : Int) * (q.den : Int)) = p - q := by
  have h := Rat.divInt_sub_divInt p.num q.num (den0 p) (den0 q)
  rw [selfR, selfR] at h
  exact h.symm
theorem val_add (p q : Rat) : Rat.divInt (p.num * (q.den : Int) + q.num * (p.den : Int)) ((p.den : Int) * (q.den : Int)) = p + q := by
  have h := Rat.divInt_add_divInt p.num q.num (den0 p) (den0 q)
  rw [selfR, selfR] at h
  exact h.symm
theorem val_mul (p q : Rat) : Rat.divInt (p.num * q.num) ((p.den : Int) * (q.den : Int)) = p * q := by
  have h := Rat.divInt_mul_divInt p.num q.num (d₁ := (p.den : Int)) (d₂ := (q.den : Int))
  rw [selfR, selfR] at h
  exact h.symm
theorem val_div (p q : Rat) (h0 : q ≠ 0) : Rat.divInt (p.num * (q.den : Int)) ((p.den : Int) * q.num) = p / q := by
  have hn : q.num ≠ 0 := fun e => h0 (Rat.num_eq_zero.mp e)
  have e1 := K13.num_den p
  have e2 := K13.num_den q
  rw [Rat.divInt_eq_div, Rat.intCast_mul, Rat.intCast_mul, ← e1, ← e2]
  have n1 : ((p.den : Int) : Rat) ≠ 0 := fun e => den0 p (Rat.intCast_eq_zero_iff.mp e)
  have n2 : ((q.den : Int) : Rat) ≠ 0 := fun e => den0 q (Rat.intCast_eq_zero_iff.mp e)
  generalize ((p.den : Int) : Rat) = a at *
  generalize ((q.den : Int) : Rat) = b at *
  grind
section
variable {P : Program} {w : World} {K : PySem.W.Frag} {mg : Str → Option Value} {base : Heap} {uS uG : Value} {aZ aO : Addr}
abbrev s_plus : Stmt := top 19
theorem sc_plus : FnScope ["left", "right"] ["left", "right"] (defScope s_plus) := ⟨rfl, rfl, rfl, by decide +kernel, rfl, by decide +kernel, by decide +kernel⟩
theorem bot {a b : Nat} (ha : a < 2 ^ 4000) (hb : b < 2 ^ 4000) : ((a : Int) * (b : Int)).natAbs < 2 ^ 8999 := by
  rw [Int.natAbs_mul]
  have := K13.mul_lt_pow ha hb
  exact Nat.lt_of_lt_of_le this (Nat.pow_le_pow_right (by decide) (by decide))
theorem ok_plus {f : Addr} {fd : FuncData} (F : Fun K "plus" "plus" s_plus f fd) (T : Txt K mg uS uG aZ aO) (DR : Df P w K mg base 1 "ratio" ["top", "bottom"] (spRatio K)) : FnOk P w K mg base CX0 2 f fd ["left", "right"] (spRR K (fun _ => True) (· + ·)) := by
  obtain ⟨fR, fdR, G_ratio, C_ratio⟩ := DR
  refine F.ok sc_plus (fun vs H Q E h => ?_) (fun cdv A outer s H vs Q E hr h => ?_)
  · obtain ⟨x, y, p, q, rfl, _⟩ := h
    rfl
  · obtain ⟨x, y, p, q, rfl, ⟨a, rfl, ha⟩, ⟨b, rfl, hb⟩, hp, hq, _, k⟩ := h
    have nd := sc_plus.nd
    refine ⟨_,
      (pss_one
        (ps_ret (pe_call G_ratio (hr.mono (by decide)) rfl C_ratio.m C_ratio.kp C_ratio.b .nil pass0 (pa_cons (pe_op op_add (pe_op op_mulW (pe_ix ix_tup (pv 0) pe_int (fun _ _ => rfl)) (pe_ix ix_tup (pv 1) pe_int (fun _ _ => rfl))) (pe_op op_mulW (pe_ix ix_tup (pv 1) pe_int (fun _ _ => rfl)) (pe_ix ix_tup (pv 0) pe_int (fun _ _ => rfl)))) (pa_cons (pe_op op_mulW (pe_ix ix_tup (pv 0) pe_int (fun _ _ => rfl)) (pe_ix ix_tup (pv 1) pe_int (fun _ _ => rfl))) pa_nil))))), ?_⟩
    refine ⟨_, rfl, a, _, _, _, rfl, rfl, ha, rfl, _, rfl, b, _, _, _, rfl, rfl, hb, rfl, _, _, rfl, rfl, cmul hp.1 hq.2, ?_⟩
    refine ⟨_, rfl, b, _, _, _, rfl, rfl, hb, rfl, _, rfl, a, _, _, _, rfl, rfl, ha, rfl, _, _, rfl, rfl, cmul hq.1 hp.2, _, _, rfl, rfl, ?_⟩
    refine ⟨_, rfl, a, _, _, _, rfl, rfl, ha, rfl, _, rfl, b, _, _, _, rfl, rfl, hb, rfl, _, _, rfl, rfl, cmul hp.2 hq.2, ?_⟩
    refine ⟨_, _, rfl, Int.mul_ne_zero (den0 p) (den0 q), bot hp.2 hq.2, fun v H' e r => ?_⟩
    rw [val_add] at r
    exact k v H' e r
abbrev s_minus : Stmt := top 20
theorem sc_minus : FnScope ["left", "right"] ["left", "right"] (defScope s_minus) := ⟨rfl, rfl, rfl, by decide +kernel, rfl, by decide +kernel, by decide +kernel⟩
theorem ok_minus {f : Addr} {fd : FuncData} (F : Fun K "minus" "minus" s_minus f fd) (T : Txt K mg uS uG aZ aO) (DR : Df P w K mg base 1 "ratio" ["top", "bottom"] (spRatio K)) : FnOk P w K mg base CX0 2 f fd ["left", "right"] (spRR K (fun _ => True) (· - ·)) := by
  obtain ⟨fR, fdR, G_ratio, C_ratio⟩ := DR
  refine F.ok sc_minus (fun vs H Q E h => ?_) (fun cdv A outer s H vs Q E hr h => ?_)
  · obtain ⟨x, y, p, q, rfl, _⟩ := h
    rfl
  · obtain ⟨x, y, p, q, rfl, ⟨a, rfl, ha⟩, ⟨b, rfl, hb⟩, hp, hq, _, k⟩ := h
    have nd := sc_minus.nd
    refine ⟨_,
      (pss_one
        (ps_ret (pe_call G_ratio (hr.mono (by decide)) rfl C_ratio.m C_ratio.kp C_ratio.b .nil pass0 (pa_cons (pe_op op_sub (pe_op op_mulW (pe_ix ix_tup (pv 0) pe_int (fun _ _ => rfl)) (pe_ix ix_tup (pv 1) pe_int (fun _ _ => rfl))) (pe_op op_mulW (pe_ix ix_tup (pv 1) pe_int (fun _ _ => rfl)) (pe_ix ix_tup (pv 0) pe_int (fun _ _ => rfl)))) (pa_cons (pe_op op_mulW (pe_ix ix_tup (pv 0) pe_int (fun _ _ => rfl)) (pe_ix ix_tup (pv 1) pe_int (fun _ _ => rfl))) pa_nil))))), ?_⟩
    refine ⟨_, rfl, a, _, _, _, rfl, rfl, ha, rfl, _, rfl, b, _, _, _, rfl, rfl, hb, rfl, _, _, rfl, rfl, cmul hp.1 hq.2, ?_⟩
    refine ⟨_, rfl, b, _, _, _, rfl, rfl, hb, rfl, _, rfl, a, _, _, _, rfl, rfl, ha, rfl, _, _, rfl, rfl, cmul hq.1 hp.2, _, _, rfl, rfl, ?_⟩
    refine ⟨_, rfl, a, _, _, _, rfl, rfl, ha, rfl, _, rfl, b, _, _, _, rfl, rfl, hb, rfl, _, _, rfl, rfl, cmul hp.2 hq.2, ?_⟩
    refine ⟨_, _, rfl, Int.mul_ne_zero (den0 p) (den0 q), bot hp.2 hq.2, fun v H' e r => ?_⟩
    rw [val_sub] at r
    exact k v H' e r
abbrev s_times : Stmt := top 21
theorem sc_times : FnScope ["left", "right"] ["left", "right"] (defScope s_times) := ⟨rfl, rfl, rfl, by decide +kernel, rfl, by decide +kernel, by decide +kernel⟩
theorem ok_times {f : Addr} {fd : FuncData} (F : Fun K "times" "times" s_times f fd) (T : Txt K mg uS uG aZ aO) (DR : Df P w K mg base 1 "ratio" ["top", "bottom"] (spRatio K)) : FnOk P w K mg base CX0 2 f fd ["left", "right"] (spRR K (fun _ => True) (· * ·)) := by
  obtain ⟨fR, fdR, G_ratio, C_ratio⟩ := DR
  refine F.ok sc_times (fun vs H Q E h => ?_) (fun cdv A outer s H vs Q E hr h => ?_)
  · obtain ⟨x, y, p, q, rfl, _⟩ := h
    rfl
  · obtain ⟨x, y, p, q, rfl, ⟨a, rfl, ha⟩, ⟨b, rfl, hb⟩, hp, hq, _, k⟩ := h
    have nd := sc_times.nd
    refine ⟨_,
      (pss_one
        (ps_ret (pe_call G_ratio (hr.mono (by decide)) rfl C_ratio.m C_ratio.kp C_ratio.b .nil pass0 (pa_cons (pe_op op_mulW (pe_ix ix_tup (pv 0) pe_int (fun _ _ => rfl)) (pe_ix ix_tup (pv 1) pe_int (fun _ _ => rfl))) (pa_cons (pe_op op_mulW (pe_ix ix_tup (pv 0) pe_int (fun _ _ => rfl)) (pe_ix ix_tup (pv 1) pe_int (fun _ _ => rfl))) pa_nil))))), ?_⟩
    refine ⟨_, rfl, a, _, _, _, rfl, rfl, ha, rfl, _, rfl, b, _, _, _, rfl, rfl, hb, rfl, _, _, rfl, rfl, cmul hp.1 hq.1, ?_⟩
    refine ⟨_, rfl, a, _, _, _, rfl, rfl, ha, rfl, _, rfl, b, _, _, _, rfl, rfl, hb, rfl, _, _, rfl, rfl, cmul hp.2 hq.2, ?_⟩
    refine ⟨_, _, rfl, Int.mul_ne_zero (den0 p) (den0 q), bot hp.2 hq.2, fun v H' e r => ?_⟩
    rw [val_mul] at r
    exact k v H' e r
abbrev s_over : Stmt := top 22
theorem sc_over : FnScope ["left", "right"] ["left", "right"] (defScope s_over) := ⟨rfl, rfl, rfl, by decide +kernel, rfl, by decide +kernel, by decide +kernel⟩
theorem ok_over {f : Addr} {fd : FuncData} (F : Fun K "over" "over" s_over f fd) (T : Txt K mg uS uG aZ aO) (DR : Df P w K mg base 1 "ratio" ["top", "bottom"] (spRatio K)) : FnOk P w K mg base CX0 2 f fd ["left", "right"] (spRR K (fun q => q ≠ 0) (· / ·)) := by
  obtain ⟨fR, fdR, G_ratio, C_ratio⟩ := DR
  refine F.ok sc_over (fun vs H Q E h => ?_) (fun cdv A outer s H vs Q E hr h => ?_)
  · obtain ⟨x, y, p, q, rfl, _⟩ := h
    rfl
  · obtain ⟨x, y, p, q, rfl, ⟨a, rfl, ha⟩, ⟨b, rfl, hb⟩, hp, hq, h0, k⟩ := h
    have nd := sc_over.nd
    refine ⟨_,
      (pss_one
        (ps_ret (pe_call G_ratio (hr.mono (by decide)) rfl C_ratio.m C_ratio.kp C_ratio.b .nil pass0 (pa_cons (pe_op op_mulW (pe_ix ix_tup (pv 0) pe_int (fun _ _ => rfl)) (pe_ix ix_tup (pv 1) pe_int (fun _ _ => rfl))) (pa_cons (pe_op op_mulW (pe_ix ix_tup (pv 0) pe_int (fun _ _ => rfl)) (pe_ix ix_tup (pv 1) pe_int (fun _ _ => rfl))) pa_nil))))), ?_⟩
    have hn : q.num ≠ 0 := fun e => h0 (Rat.num_eq_zero.mp e)
    refine ⟨_, rfl, a, _, _, _, rfl, rfl, ha, rfl, _, rfl, b, _, _, _, rfl, rfl, hb, rfl, _, _, rfl, rfl, cmul hp.1 hq.2, ?_⟩
    refine ⟨_, rfl, a, _, _, _, rfl, rfl, ha, rfl, _, rfl, b, _, _, _, rfl, rfl, hb, rfl, _, _, rfl, rfl, cmul hp.2 hq.1, ?_⟩
    refine ⟨_, _, rfl, Int.mul_ne_zero (den0 p) hn, ?_, fun v H' e r => ?_⟩
    · rw [Int.natAbs_mul]
      exact Nat.lt_of_lt_of_le (K13.mul_lt_pow hp.2 hq.1) (Nat.pow_le_pow_right (by decide) (by decide))
    rw [val_div p q h0] at r
    exact k v H' e r
/-- opposite(value) -/
def spOpp (K : PySem.W.Frag) : Sp := fun vs H Q _ => ∃ (x : V) (p : Rat), vs = [x] ∧ RatV K H x p ∧ ∀ v H', Same H H' → RatV K H' v (-p) → Q v H'
abbrev s_opposite : Stmt := top 23
theorem sc_opposite : FnScope ["value"] ["value"] (defScope s_opposite) := ⟨rfl, rfl, rfl, by decide +kernel, rfl, by decide +kernel, by decide +kernel⟩
theorem ok_opposite {f : Addr} {fd : FuncData} (F : Fun K "opposite" "opposite" s_opposite f fd) : FnOk P w K mg base CX0 1 f fd ["value"] (spOpp K) := by
  refine F.ok sc_opposite (fun vs H Q E h => ?_) (fun cdv A outer s H vs Q E hr h => ?_)
  · obtain ⟨x, p, rfl, _⟩ := h
    rfl
  · obtain ⟨x, p, rfl, ⟨a, rfl, ha⟩, k⟩ := h
    refine ⟨_,
      (pss_one
        (ps_ret (pe_tup (pa_cons (pe_un un_neg (pe_ix ix_tup (pv 0) pe_int (fun _ _ => rfl))) (pa_cons (pe_ix ix_tup (pv 0) pe_int (fun _ _ => rfl)) pa_nil))))), ?_⟩
    refine ⟨_, rfl, a, _, _, _, rfl, rfl, ha, rfl, _, rfl, _, rfl, a, _, _, _, rfl, rfl, ha, rfl, by show 2 ≤ sizeLine; decide, fun r hr => ?_⟩
    refine k _ _ (same_new hr) ⟨r, rfl, SqT.of ?_⟩
    rw [upd_same, Rat.neg_num, Rat.neg_den]
end
end W13
namespace W13
open PySem L2
/-! ## the law's own ratios -/
def spGcd : Sp := fun vs H Q _ => ∃ a b : Nat, vs = [.int a, .int b] ∧ Q (.int (Nat.gcd a b : Nat)) H
section
variable {P : Program} {w : World} {K : PySem.W.Frag} {mg : Str → Option Value} {base : Heap} {uS uG : Value} {aZ aO : Addr}
abbrev s_lgcd : Stmt := top 36
theorem sc_lgcd : FnScope ["_law_left_here", "_law_right_here"] ["_law_left_here", "_law_right_here"] (defScope s_lgcd) := ⟨rfl, rfl, rfl, by decide +kernel, rfl, by decide +kernel, by decide +kernel⟩
theorem ok_lgcd {f : Addr} {fd : FuncData} (F : Fun K "_law_gcd" "_law_gcd" s_lgcd f fd) (T : Txt K mg uS uG aZ aO) : FnOk P w K mg base CX0 1 f fd ["_law_left_here", "_law_right_here"] spGcd := by
  refine F.ok sc_lgcd (fun vs H Q E h => ?_) (fun cdv A outer s H vs Q E hr h => ?_)
  · obtain ⟨a, b, rfl, _⟩ := h
    rfl
  · obtain ⟨a, b, rfl, k⟩ := h
    have nd := sc_lgcd.nd
    refine ⟨_,
      (pss_cons
        (ps_while PassesOwn.never (pt_cmpR op_ne (pv 1) pe_int (nomark _))
          (pss_one
            (ps_par (i := 0) (j := 1) rfl nd rfl rfl (by decide) rfl rfl (pa_cons (pv 1) (pa_cons (pe_op op_mod (pe_callTy call_int1 (by rfl) T.int (by decide +kernel) (pa_cons (pv 0) pa_nil)) (pv 1)) pa_nil)) (by rfl))))
      (pss_one
        (ps_ret (pv 0)))), ?_⟩
    refine ⟨fun m σ H' => ∃ x y : Nat, m = y ∧ σ = [some (.int x), some (.int y)] ∧ H' = H ∧ Nat.gcd x y = Nat.gcd a b, ⟨b, a, b, rfl, rfl, rfl, rfl⟩, ?_⟩
    rintro m σ H' ⟨x, y, rfl, rfl, rfl, e⟩
    refine ⟨_, rfl, rfl, _, rfl, ?_⟩
    by_cases hy : m = 0
    · subst hy
      refine iteNS (by rfl) ⟨_, rfl, ?_⟩
      rw [Nat.gcd_zero_right] at e
      show Q (.int (x : Int)) H'
      rw [e]
      exact k
    · have hn : ¬ V.int (m : Int) = V.int 0 := fun q => hy (by have := V.int.inj q; omega)
      rw [decide_eq_false hn]
      refine iteT ⟨_, fun _ _ h => h, ?_⟩
      refine ⟨_, rfl, _, rfl, Or.inl ⟨_, rfl, _, rfl, _, _, rfl, rfl, by show (0 : Int) < (m : Int); omega, _, _, rfl, ?_⟩⟩
      refine ⟨x % m, Nat.mod_lt _ (by omega), m, x % m, rfl, ?_, rfl, ?_⟩
      · show [some (V.int (m : Int)), some (V.int ((x : Int) % (m : Int)))] = _
        rw [Int.natCast_emod]
      · rw [← e, Nat.gcd_comm x m, Nat.gcd_rec m x, Nat.gcd_comm]
abbrev s_lratio : Stmt := top 37
theorem sc_lratio : FnScope ["_law_top", "_law_bottom", "_law_common"] ["_law_top", "_law_bottom"] (defScope s_lratio) := ⟨rfl, rfl, rfl, by decide +kernel, rfl, by decide +kernel, by decide +kernel⟩
theorem abs_nat (a : Int) : (if a < 0 then -a else a) = ((a.natAbs : Nat) : Int) := by split <;> omega
theorem ok_lratio {f : Addr} {fd : FuncData} (F : Fun K "_law_ratio" "_law_ratio" s_lratio f fd) (T : Txt K mg uS uG aZ aO) (DG : Df P w K mg base 1 "_law_gcd" ["_law_left_here", "_law_right_here"] spGcd) : FnOk P w K mg base CX0 2 f fd ["_law_top", "_law_bottom"] (spRatio K) := by
  obtain ⟨fG, fdG, G_lgcd, C_lgcd⟩ := DG
  refine F.ok sc_lratio (fun vs H Q E h => ?_) (fun cdv A outer s H vs Q E hr h => ?_)
  · obtain ⟨a, b, rfl, _⟩ := h
    rfl
  · obtain ⟨a, b, rfl, hb, hl, k⟩ := h
    have nd := sc_lratio.nd
    refine ⟨_,
      (pss_cons
        (ps_set (i := 2) nd rfl (by first | exact Or.inl rfl | exact Or.inr rfl) (pe_call G_lgcd (hr.mono (by decide)) rfl C_lgcd.m C_lgcd.kp C_lgcd.b .nil pass0 (pa_cons (pe_callB call_abs (by rfl) T.abs (by decide +kernel) (pa_cons (pv 0) pa_nil)) (pa_cons (pe_callB call_abs (by rfl) T.abs (by decide +kernel) (pa_cons (pv 1) pa_nil)) pa_nil))))
      (pss_cons
        (ps_if (pt_cmpR op_lt (pv 1) pe_int (nomark _))
          (pss_one
            (ps_set (i := 2) nd rfl (by first | exact Or.inl rfl | exact Or.inr rfl) (pe_un un_neg (pv 2))))
          pss_nil)
      (pss_one
        (ps_ret (pe_tup (pa_cons (pe_op op_fdivX (pv 0) (pv 2)) (pa_cons (pe_op op_fdivX (pv 1) (pv 2)) pa_nil))))))), ?_⟩
    have hg : 0 < Nat.gcd a.natAbs b.natAbs := Nat.gcd_pos_of_pos_right _ (by omega)
    have hgl : Nat.gcd a.natAbs b.natAbs < 2 ^ 8999 := Nat.lt_of_le_of_lt (Nat.gcd_le_right _ (by omega)) hl
    have e1 := num_divInt (a := a) hb
    have e2 := den_divInt (a := a) hb
    refine ⟨_, rfl, _, rfl, _, rfl, _, rfl, ?_⟩
    refine ⟨a.natAbs, b.natAbs, by simp only [abs_nat, List.cons_append, List.nil_append, List.append_nil], ?_⟩
    generalize Nat.gcd a.natAbs b.natAbs = g at *
    refine ⟨_, rfl, _, _, rfl, rfl, _, rfl, ?_⟩
    have fin : ∀ (c : Int), c = (if b < 0 then -(g : Int) else (g : Int)) → ∀ p, H p = none → Q (.ref p) (upd H p (.tup [.int (a.fdiv c), .int (b.fdiv c)])) := fun c hc p hp => by
      refine k _ _ (same_new hp) ⟨p, rfl, SqT.of ?_⟩
      rw [upd_same, e1, e2, ← hc]
    by_cases hneg : b < 0
    · rw [decide_eq_true hneg]
      refine iteT ⟨_, rfl, _, rfl, ?_⟩
      have hc : CDivX a (-(g : Int)) := divX (b := 8999) (by omega) (Nat.lt_of_lt_of_le (by omega) (Nat.pow_le_pow_right (by decide) (Nat.le_succ 8999))) (by decide)
      refine ⟨_, rfl, _, rfl, _, _, rfl, rfl, hc, _, rfl, _, rfl, _, _, rfl, rfl, hc, by show 2 ≤ sizeLine; decide, fin _ (by rw [if_pos hneg])⟩
    · rw [decide_eq_false hneg]
      refine iteF ?_
      have hc : CDivX a (g : Int) := divX (b := 8999) (by omega) (Nat.lt_of_lt_of_le (by omega) (Nat.pow_le_pow_right (by decide) (Nat.le_succ 8999))) (by decide)
      refine ⟨_, rfl, _, rfl, _, _, rfl, rfl, hc, _, rfl, _, rfl, _, _, rfl, rfl, hc, by show 2 ≤ sizeLine; decide, fin _ (by rw [if_neg hneg])⟩
abbrev s_lsub : Stmt := top 39
theorem sc_lsub : FnScope ["_law_left_here", "_law_right_here"] ["_law_left_here", "_law_right_here"] (defScope s_lsub) := ⟨rfl, rfl, rfl, by decide +kernel, rfl, by decide +kernel, by decide +kernel⟩
theorem ok_lsub {f : Addr} {fd : FuncData} (F : Fun K "_law_sub" "_law_sub" s_lsub f fd) (T : Txt K mg uS uG aZ aO) (DR : Df P w K mg base 2 "_law_ratio" ["_law_top", "_law_bottom"] (spRatio K)) : FnOk P w K mg base CX0 3 f fd ["_law_left_here", "_law_right_here"] (spRR K (fun _ => True) (· - ·)) := by
  obtain ⟨fR, fdR, G_ratio, C_ratio⟩ := DR
  refine F.ok sc_lsub (fun vs H Q E h => ?_) (fun cdv A outer s H vs Q E hr h => ?_)
  · obtain ⟨x, y, p, q, rfl, _⟩ := h
    rfl
  · obtain ⟨x, y, p, q, rfl, ⟨a, rfl, ha⟩, ⟨b, rfl, hb⟩, hp, hq, _, k⟩ := h
    have nd := sc_lsub.nd
    refine ⟨_,
      (pss_one
        (ps_ret (pe_call G_ratio (hr.mono (by decide)) rfl C_ratio.m C_ratio.kp C_ratio.b .nil pass0 (pa_cons (pe_op op_sub (pe_op op_mulW (pe_ix ix_tup (pv 0) pe_int (fun _ _ => rfl)) (pe_ix ix_tup (pv 1) pe_int (fun _ _ => rfl))) (pe_op op_mulW (pe_ix ix_tup (pv 1) pe_int (fun _ _ => rfl)) (pe_ix ix_tup (pv 0) pe_int (fun _ _ => rfl)))) (pa_cons (pe_op op_mulW (pe_ix ix_tup (pv 0) pe_int (fun _ _ => rfl)) (pe_ix ix_tup (pv 1) pe_int (fun _ _ => rfl))) pa_nil))))), ?_⟩
    refine ⟨_, rfl, a, _, _, _, rfl, rfl, ha, rfl, _, rfl, b, _, _, _, rfl, rfl, hb, rfl, _, _, rfl, rfl, cmul hp.1 hq.2, ?_⟩
    refine ⟨_, rfl, b, _, _, _, rfl, rfl, hb, rfl, _, rfl, a, _, _, _, rfl, rfl, ha, rfl, _, _, rfl, rfl, cmul hq.1 hp.2, _, _, rfl, rfl, ?_⟩
    refine ⟨_, rfl, a, _, _, _, rfl, rfl, ha, rfl, _, rfl, b, _, _, _, rfl, rfl, hb, rfl, _, _, rfl, rfl, cmul hp.2 hq.2, ?_⟩
    refine ⟨_, _, rfl, Int.mul_ne_zero (den0 p) (den0 q), bot hp.2 hq.2, fun v H' e r => ?_⟩
    rw [val_sub] at r
    exact k v H' e r
abbrev s_lmul : Stmt := top 40
theorem sc_lmul : FnScope ["_law_left_here", "_law_right_here"] ["_law_left_here", "_law_right_here"] (defScope s_lmul) := ⟨rfl, rfl, rfl, by decide +kernel, rfl, by decide +kernel, by decide +kernel⟩
theorem ok_lmul {f : Addr} {fd : FuncData} (F : Fun K "_law_mul" "_law_mul" s_lmul f fd) (T : Txt K mg uS uG aZ aO) (DR : Df P w K mg base 2 "_law_ratio" ["_law_top", "_law_bottom"] (spRatio K)) : FnOk P w K mg base CX0 3 f fd ["_law_left_here", "_law_right_here"] (spRR K (fun _ => True) (· * ·)) := by
  obtain ⟨fR, fdR, G_ratio, C_ratio⟩ := DR
  refine F.ok sc_lmul (fun vs H Q E h => ?_) (fun cdv A outer s H vs Q E hr h => ?_)
  · obtain ⟨x, y, p, q, rfl, _⟩ := h
    rfl
  · obtain ⟨x, y, p, q, rfl, ⟨a, rfl, ha⟩, ⟨b, rfl, hb⟩, hp, hq, _, k⟩ := h
    have nd := sc_lmul.nd
    refine ⟨_,
      (pss_one
        (ps_ret (pe_call G_ratio (hr.mono (by decide)) rfl C_ratio.m C_ratio.kp C_ratio.b .nil pass0 (pa_cons (pe_op op_mulW (pe_ix ix_tup (pv 0) pe_int (fun _ _ => rfl)) (pe_ix ix_tup (pv 1) pe_int (fun _ _ => rfl))) (pa_cons (pe_op op_mulW (pe_ix ix_tup (pv 0) pe_int (fun _ _ => rfl)) (pe_ix ix_tup (pv 1) pe_int (fun _ _ => rfl))) pa_nil))))), ?_⟩
    refine ⟨_, rfl, a, _, _, _, rfl, rfl, ha, rfl, _, rfl, b, _, _, _, rfl, rfl, hb, rfl, _, _, rfl, rfl, cmul hp.1 hq.1, ?_⟩
    refine ⟨_, rfl, a, _, _, _, rfl, rfl, ha, rfl, _, rfl, b, _, _, _, rfl, rfl, hb, rfl, _, _, rfl, rfl, cmul hp.2 hq.2, ?_⟩
    refine ⟨_, _, rfl, Int.mul_ne_zero (den0 p) (den0 q), bot hp.2 hq.2, fun v H' e r => ?_⟩
    rw [val_mul] at r
    exact k v H' e r
abbrev s_ldiv : Stmt := top 41
theorem sc_ldiv : FnScope ["_law_left_here", "_law_right_here"] ["_law_left_here", "_law_right_here"] (defScope s_ldiv) := ⟨rfl, rfl, rfl, by decide +kernel, rfl, by decide +kernel, by decide +kernel⟩
theorem ok_ldiv {f : Addr} {fd : FuncData} (F : Fun K "_law_div" "_law_div" s_ldiv f fd) (T : Txt K mg uS uG aZ aO) (DR : Df P w K mg base 2 "_law_ratio" ["_law_top", "_law_bottom"] (spRatio K)) : FnOk P w K mg base CX0 3 f fd ["_law_left_here", "_law_right_here"] (spRR K (fun q => q ≠ 0) (· / ·)) := by
  obtain ⟨fR, fdR, G_ratio, C_ratio⟩ := DR
  refine F.ok sc_ldiv (fun vs H Q E h => ?_) (fun cdv A outer s H vs Q E hr h => ?_)
  · obtain ⟨x, y, p, q, rfl, _⟩ := h
    rfl
  · obtain ⟨x, y, p, q, rfl, ⟨a, rfl, ha⟩, ⟨b, rfl, hb⟩, hp, hq, h0, k⟩ := h
    have nd := sc_ldiv.nd
    refine ⟨_,
      (pss_one
        (ps_ret (pe_call G_ratio (hr.mono (by decide)) rfl C_ratio.m C_ratio.kp C_ratio.b .nil pass0 (pa_cons (pe_op op_mulW (pe_ix ix_tup (pv 0) pe_int (fun _ _ => rfl)) (pe_ix ix_tup (pv 1) pe_int (fun _ _ => rfl))) (pa_cons (pe_op op_mulW (pe_ix ix_tup (pv 0) pe_int (fun _ _ => rfl)) (pe_ix ix_tup (pv 1) pe_int (fun _ _ => rfl))) pa_nil))))), ?_⟩
    have hn : q.num ≠ 0 := fun e => h0 (Rat.num_eq_zero.mp e)
    refine ⟨_, rfl, a, _, _, _, rfl, rfl, ha, rfl, _, rfl, b, _, _, _, rfl, rfl, hb, rfl, _, _, rfl, rfl, cmul hp.1 hq.2, ?_⟩
    refine ⟨_, rfl, a, _, _, _, rfl, rfl, ha, rfl, _, rfl, b, _, _, _, rfl, rfl, hb, rfl, _, _, rfl, rfl, cmul hp.2 hq.1, ?_⟩
    refine ⟨_, _, rfl, Int.mul_ne_zero (den0 p) hn, ?_, fun v H' e r => ?_⟩
    · rw [Int.natAbs_mul]
      exact Nat.lt_of_lt_of_le (K13.mul_lt_pow hp.2 hq.1) (Nat.pow_le_pow_right (by decide) (by decide))
    rw [val_div p q h0] at r
    exact k v H' e r
end
end W13
namespace W13
open PySem L2
/-! ## rows and tables -/
/-- v is a list of the n ratios r 0 .. -/
def RowF (K : PySem.W.Frag) (H : Hp) (v : V) (n : Nat) (r : Nat → Rat) : Prop := ∃ a vs, v = .ref a ∧ SqL K H a vs ∧ vs.length = n ∧ ∀ (j : Nat) x, vs[j]? = some x → RatV K H x (r j)
theorem RowF.mono {K : PySem.W.Frag} {H H' : Hp} {v : V} {n : Nat} {r : Nat → Rat} (h : RowF K H v n r) (e : Same H H') : RowF K H' v n r := by
  obtain ⟨a, vs, h1, h2, h3, h4⟩ := h
  exact ⟨a, vs, h1, e.seq h2, h3, fun j x hx => (h4 j x hx).mono e⟩
/-- the rows vs are those of M -/
def MatL (K : PySem.W.Frag) (H : Hp) (vs : List V) (n m : Nat) (M : Nat → Nat → Rat) : Prop := vs.length = n ∧ ∀ (i : Nat) v, vs[i]? = some v → RowF K H v m (M i)
theorem MatL.mono {K : PySem.W.Frag} {H H' : Hp} {vs : List V} {n m : Nat} {M : Nat → Nat → Rat} (h : MatL K H vs n m M) (e : Same H H') : MatL K H' vs n m M :=
  ⟨h.1, fun i v hi => (h.2 i v hi).mono e⟩
theorem RowF.get {K : PySem.W.Frag} {H : Hp} {v : V} {n : Nat} {r : Nat → Rat} (h : RowF K H v n r) {j : Nat} (hj : j < n) : ∃ a vs x, v = .ref a ∧ SqL K H a vs ∧ vs.length = n ∧ vs[j]? = some x ∧ RatV K H x (r j) := by
  obtain ⟨a, vs, h1, h2, h3, h4⟩ := h
  have e : vs[j]? = some (vs[j]'(by omega)) := List.getElem?_eq_getElem (by omega)
  exact ⟨a, vs, _, h1, h2, h3, e, h4 j _ e⟩
theorem MatL.get {K : PySem.W.Frag} {H : Hp} {vs : List V} {n m : Nat} {M : Nat → Nat → Rat} (h : MatL K H vs n m M) {i : Nat} (hi : i < n) : ∃ v, vs[i]? = some v ∧ RowF K H v m (M i) := by
  have e : vs[i]? = some (vs[i]'(by have := h.1; omega)) := List.getElem?_eq_getElem (by have := h.1; omega)
  exact ⟨_, e, h.2 i _ e⟩
/-! ### comparing with 0 -/
theorem rat_dp {K : PySem.W.Frag} {H : Hp} {v : V} {q : Rat} (h : RatV K H v q) : Dp K H v (.tuple [.int q.num, .int (q.den : Int)]) := by
  obtain ⟨a, rfl, h⟩ := h
  exact .tup h (.cons (.int _) (.cons (.int _) .nil))
theorem zero_dp {K : PySem.W.Frag} {H : Hp} {a : Addr} (h : SqT K H a [.int 0, .int 1]) : Dp K H (.ref a) (.tuple [.int 0, .int 1]) := .tup h (.cons (.int _) (.cons (.int _) .nil))
theorem rat_eqv (q : Rat) : PyData.eqv (.tuple [.int q.num, .int (q.den : Int)]) (.tuple [.int 0, .int 1]) = decide (q = 0) := by
  simp only [PyData.eqv, PyData.eqvAll, Bool.and_true]
  by_cases h : q = 0
  · subst h; rfl
  · have hn : ¬ q.num = 0 := fun e => h (Rat.num_eq_zero.mp e)
    rw [decide_eq_false h, beq_eq_false_iff_ne.mpr hn]
    rfl
theorem rat_shaped (a b : Int) : SeqAt.shaped (.tuple [.int a, .int b]) = true := rfl
theorem ne_zero {K : PySem.W.Frag} {H : Hp} {v : V} {q : Rat} {a : Addr} {Q : VK} (h : RatV K H v q) (hz : SqT K H a [.int 0, .int 1]) (k : Q (.bl (!decide (q = 0))) H) : rNeD K v (.ref a) H Q :=
  ⟨_, _, rat_dp h, zero_dp hz, rat_shaped _ _, rat_shaped _ _, by rw [rat_eqv]; exact k⟩
theorem eq_zero {K : PySem.W.Frag} {H : Hp} {v : V} {q : Rat} {a : Addr} {Q : VK} (h : RatV K H v q) (hz : SqT K H a [.int 0, .int 1]) (k : Q (.bl (decide (q = 0))) H) : rEqD K v (.ref a) H Q :=
  ⟨_, _, rat_dp h, zero_dp hz, rat_shaped _ _, rat_shaped _ _, by rw [rat_eqv]; exact k⟩
/-! ### the pivot's row -/
def spPivot (K : PySem.W.Frag) : Sp := fun vs H Q _ => ∃ (a : Addr) (rs : List V) (n m c s : Nat) (M : Nat → Nat → Rat), vs = [.ref a, .int c, .int s] ∧ SqL K H a rs ∧ MatL K H rs n m M ∧ c < m ∧ s ≤ n ∧ n < 1000 ∧
  ∀ r : Int, ((∃ k : Nat, s ≤ k ∧ k < n ∧ r = k ∧ M k c ≠ 0) ∨ (r = -1 ∧ ∀ j : Nat, s ≤ j → j < n → M j c = 0)) → Q (.int r) H
section
variable {P : Program} {w : World} {K : PySem.W.Frag} {mg : Str → Option Value} {base : Heap} {uS uG : Value} {aZ aO : Addr}
abbrev s_pivot_row : Stmt := top 25
theorem sc_pivot_row : FnScope ["rows", "column", "start", "k"] ["rows", "column", "start"] (defScope s_pivot_row) := ⟨rfl, rfl, rfl, by decide +kernel, rfl, by decide +kernel, by decide +kernel⟩
theorem ok_pivot_row {f : Addr} {fd : FuncData} (F : Fun K "pivot_row" "pivot_row" s_pivot_row f fd) (T : Txt K mg uS uG aZ aO) : FnOk P w K mg base CX0 1 f fd ["rows", "column", "start"] (spPivot K) := by
  refine F.ok sc_pivot_row (fun vs H Q E h => ?_) (fun cdv A outer s H vs Q E hr h => ?_)
  · obtain ⟨a, rs, n, m, c, s, M, rfl, _⟩ := h
    rfl
  · obtain ⟨a, rs, n, m, c, st, M, rfl, hS, hM, hc, hs, hn, k⟩ := h
    have nd := sc_pivot_row.nd
    refine ⟨_,
      (pss_cons
        (ps_for PassesOwn.never rfl (pi_range2 rfl T.range (pa_cons (pv 2) (pa_cons (pe_callB call_len_seq (by rfl) T.len PySem.boot_len (pa_cons (pv 0) pa_nil)) pa_nil))) (pg_name (i := 3) nd rfl (by first | exact Or.inl rfl | exact Or.inr rfl))
          (pss_one
            (ps_if (pt_cmpR (op_neD hr.units) (pe_ix ix_list (pe_ix ix_list (pv 0) (pv 3) (fun _ _ => rfl)) (pv 1) (fun _ _ => rfl)) (pe_glob rfl T.mZERO T.rZERO) (nomark _))
              (pss_one
                (ps_ret (pv 3)))
              pss_nil)))
      (pss_one
        (ps_ret (pe_un un_neg pe_int)))), ?_⟩
    have hlen := hM.1
    refine ⟨_, rfl, _, rfl, a, rs, rfl, Or.inl hS, st, (rs.length : Int), rfl, by omega, for_range (lo := (st : Int)) (n := ((rs.length : Int) - (st : Int)).toNat) (fun i σ H2 => H2 = H ∧ (∃ v3, σ = [some (.ref a), some (.int c), some (.int st), v3]) ∧ ∀ j, st ≤ j → j < st + i → M j c = 0)
      ⟨rfl, ⟨none, rfl⟩, fun j h1 h2 => by omega⟩ ?_ ?_⟩
    · rintro i σ H2 hi ⟨rfl, ⟨v3, rfl⟩, hz⟩
      have hi2 : st + i < n := by omega
      obtain ⟨v, hv, hrow⟩ := hM.get hi2
      obtain ⟨b, ws, x, rfl, hb, hwl, hx, hq⟩ := hrow.get hc
      refine ⟨_, rfl, _, rfl, a, _, _, _, rfl, rfl, hS, at_of (j := st + i) (v := V.ref b) (by omega) hv, _, rfl, b, _, _, _, rfl, rfl, hb, at_of (j := c) (v := x) rfl hx, ?_⟩
      refine ⟨_, _, rat_dp hq, zero_dp (T.zero _), rfl, rfl, _, rfl, ?_⟩
      rw [rat_eqv]
      by_cases h0 : M (st + i) c = 0
      · rw [decide_eq_true h0]
        refine iteF ⟨rfl, ⟨_, rfl⟩, fun j h1 h2 => ?_⟩
        by_cases hj : j = st + i
        · rw [hj]; exact h0
        · exact hz j h1 (by omega)
      · rw [decide_eq_false h0]
        refine iteT ⟨_, rfl, k _ (Or.inl ⟨st + i, by omega, hi2, by omega, h0⟩)⟩
    · rintro σ H2 ⟨rfl, ⟨v3, rfl⟩, hz⟩
      refine ⟨_, rfl, k _ (Or.inr ⟨rfl, fun j h1 h2 => hz j h1 (by omega)⟩)⟩
/-! ### a row less a multiple of the pivot's -/
def spReduce (K : PySem.W.Frag) : Sp := fun vs H Q _ => ∃ (x y : V) (m c : Nat) (r p : Nat → Rat), vs = [x, y, .int c] ∧ RowF K H x m r ∧ RowF K H y m p ∧ c < m ∧ m < 1000 ∧ p c ≠ 0 ∧ (∀ j, j < m → K13.Sm 1900 (r j)) ∧ (∀ j, j < m → K13.Sm 700 (p j)) ∧ K13.Sm 1900 (r c / p c) ∧
  ∀ v H', Same H H' → RowF K H' v m (fun j => r j - r c / p c * p j) → (v = x ∨ ∃ q o, v = .ref q ∧ H q = none ∧ H' q = some o) → Q v H'
/-- a comprehension over zip of two lists of one length -/
theorem lc_zipL {K : PySem.W.Frag} {a b : Addr} {xs ys : List V} {g : TG} {tt : TT} {te : TE} {vs : List Nat} {σ : L2.St} {H1 : Hp} {D : Addr} {Qd : Hp → Prop} (hl : xs.length = ys.length) (Pv : Nat → Hp → Prop) (h0 : Pv 0 (upd H1 D (.lst []))) (hq : ∀ i H, Pv i H → SqL K H a xs ∧ SqL K H b ys)
    (hs : ∀ (i : Nat) (x y : V) (Tp : Addr) (H : Hp), xs[i]? = some x → ys[i]? = some y → Pv i H → H Tp = none → g (.ref Tp) (wipe σ vs) (upd H Tp (.tup [x, y])) fun σ2 H2 => wipe σ2 vs = wipe σ vs ∧ tt σ2 H2 fun b H3 =>
      if b = true then te σ2 H3 fun y H4 => ∃ acc, H4 D = some (.lst acc) ∧ acc.length < sizeLine ∧ Pv (i + 1) (upd H4 D (.lst (acc ++ [y]))) else Pv (i + 1) H3) (hd : ∀ H, Pv xs.length H → Qd H) :
    ∃ W : Nat → Nat → Hp → Prop, (∃ m, W 0 m (upd H1 D (.lst []))) ∧ ∀ i m H, W i m H →
      ((Itz K a b).stop i H ∧ Qd H) ∨ ((Itz K a b).go i H ∧ ∃ Nx : Hp → Prop, (∀ H', Nx H' → ∃ m', m' < m ∧ W (i + 1) m' H') ∧ ∀ x H', (Itz K a b).yld i H x H' → g x (wipe σ vs) H' fun σ2 H2 => wipe σ2 vs = wipe σ vs ∧ tt σ2 H2 fun b H3 =>
        if b = true then te σ2 H3 fun y H4 => ∃ acc, H4 D = some (.lst acc) ∧ acc.length < sizeLine ∧ Nx (upd H4 D (.lst (acc ++ [y]))) else Nx H3) := by
  refine ⟨fun i m H => m = xs.length - i ∧ i ≤ xs.length ∧ Pv i H, ⟨xs.length, rfl, Nat.zero_le _, h0⟩, ?_⟩
  rintro i m H ⟨rfl, hi, p⟩
  obtain ⟨qx, qy⟩ := hq i H p
  by_cases hlt : i < xs.length
  · have hx : xs[i]? = some xs[i] := List.getElem?_eq_getElem hlt
    have hlt2 : i < ys.length := by omega
    have hy : ys[i]? = some ys[i] := List.getElem?_eq_getElem hlt2
    refine .inr ⟨⟨xs, ys, _, _, qx, qy, hx, hy⟩, Pv (i + 1), fun H' p' => ⟨xs.length - (i + 1), by omega, rfl, hlt, p'⟩, fun v H' y => ?_⟩
    obtain ⟨Tp, x', y', rfl, hT, rfl, f1, f2⟩ := y
    exact hs i x' y' Tp H (f1 xs qx) (f2 ys qy) p hT
  · have e : i = xs.length := by omega
    subst e
    exact .inl ⟨⟨xs, ys, qx, qy, Or.inl (Nat.le_refl _)⟩, hd H p⟩
theorem same_upd {H H' : Hp} {D : Addr} {o : HO} (e : Same H H') (h : H D = none) : Same H (upd H' D o) := fun b u q => by
  rw [upd_ne (ne_of_none q h)]
  exact e b u q
/-- a list is changed: tuples stay -/
theorem SqT.upd {K : PySem.W.Frag} {H : Hp} {a D : Addr} {xs l : List V} {o : HO} (h : SqT K H a xs) (hD : H D = some (.lst l)) : SqT K (upd H D o) a xs := by
  rcases h with (h | ⟨u, h⟩) | h
  · exact .inl (.inl (by rw [upd_ne (ne_of h hD (by intro q; cases q))]; exact h))
  · exact .inl (.inr ⟨u, by rw [upd_ne (ne_of h hD (by intro q; cases q))]; exact h⟩)
  · exact .inr h
theorem RatV.upd {K : PySem.W.Frag} {H : Hp} {v : V} {q : Rat} {D : Addr} {l : List V} {o : HO} (h : RatV K H v q) (hD : H D = some (.lst l)) : RatV K (L2.upd H D o) v q := by
  obtain ⟨a, h1, h2⟩ := h
  exact ⟨a, h1, SqT.upd h2 hD⟩
theorem snoc_get {α : Type} {acc : List α} {v z : α} {j : Nat} (h : (acc ++ [v])[j]? = some z) : (j < acc.length ∧ acc[j]? = some z) ∨ (j = acc.length ∧ z = v) := by
  by_cases q : j < acc.length
  · rw [List.getElem?_append_left q] at h
    exact .inl ⟨q, h⟩
  · rw [List.getElem?_append_right (by omega)] at h
    have e : j - acc.length = 0 := by
      by_cases z : j - acc.length = 0
      · exact z
      · rw [List.getElem?_eq_none (by simp; omega)] at h
        cases h
    rw [e] at h
    exact .inr ⟨by omega, (Option.some.inj h).symm⟩
abbrev s_reduce_row : Stmt := top 26
theorem sc_reduce_row : FnScope ["row", "pivot", "column", "factor", "value", "other"] ["row", "pivot", "column"] (defScope s_reduce_row) := ⟨rfl, rfl, rfl, by decide +kernel, rfl, by decide +kernel, by decide +kernel⟩
theorem ok_reduce_row {f : Addr} {fd : FuncData} (F : Fun K "reduce_row" "reduce_row" s_reduce_row f fd) (T : Txt K mg uS uG aZ aO)
    (DM : Df P w K mg base 2 "minus" ["left", "right"] (spRR K (fun _ => True) (· - ·))) (DT : Df P w K mg base 2 "times" ["left", "right"] (spRR K (fun _ => True) (· * ·))) (DO : Df P w K mg base 2 "over" ["left", "right"] (spRR K (fun q => q ≠ 0) (· / ·))) :
    FnOk P w K mg base CX0 3 f fd ["row", "pivot", "column"] (spReduce K) := by
  obtain ⟨_, _, G_minus, C_minus⟩ := DM
  obtain ⟨_, _, G_times, C_times⟩ := DT
  obtain ⟨_, _, G_over, C_over⟩ := DO
  refine F.ok sc_reduce_row (fun vs H Q E h => ?_) (fun cdv A outer s H vs Q E hr h => ?_)
  · obtain ⟨x, y, m, c, r, p, rfl, _⟩ := h
    rfl
  · obtain ⟨x, y, m, c, r, p, rfl, hx, hy, hc, hm, h0, sr, sp, sf, k⟩ := h
    have nd := sc_reduce_row.nd
    refine ⟨_,
      (pss_cons
        (ps_if (pt_cmpR (op_eqD hr.units) (pe_ix ix_list (pv 0) (pv 2) (fun _ _ => rfl)) (pe_glob rfl T.mZERO T.rZERO) (nomark _))
          (pss_one
            (ps_ret (pv 0)))
          pss_nil)
      (pss_cons
        (ps_set (i := 3) nd rfl (by first | exact Or.inl rfl | exact Or.inr rfl) (pe_call G_over (hr.mono (by decide)) rfl C_over.m C_over.kp C_over.b .nil pass0 (pa_cons (pe_ix ix_list (pv 0) (pv 2) (fun _ _ => rfl)) (pa_cons (pe_ix ix_list (pv 1) (pv 2) (fun _ _ => rfl)) pa_nil))))
      (pss_one
        (ps_ret (pe_lc (own := [("value", 4), ("other", 5)]) (g := gTup K 2 (gCons (gName 4) (gCons (gName 5) gNil))) rfl nd (pi_zip (by rfl) T.zip (pa_cons (pv 0) (pa_cons (pv 1) pa_nil))) (blkOk_by (N := ["row", "pivot", "column", "factor", "value", "other"]) (sc := defScope s_reduce_row) (by decide +kernel))
      (fun _ _ _ _ _ => pg_tup rfl (pgs_cons (pg_name (i := 4) nd rfl (by first | exact Or.inl rfl | exact Or.inr rfl)) (pgs_cons (pg_name (i := 5) nd rfl (by first | exact Or.inl rfl | exact Or.inr rfl)) pgs_nil))) (fun _ _ _ _ _ => pts_nil)
      (fun _ _ _ _ _ => (pe_call G_minus (hr.mono (by decide)) rfl C_minus.m C_minus.kp C_minus.b .nil pass0 (pa_cons (pv 4) (pa_cons (pe_call G_times (hr.mono (by decide)) rfl C_times.m C_times.kp C_times.b .nil pass0 (pa_cons (pv 3) (pa_cons (pv 5) pa_nil))) pa_nil))))))))), ?_⟩
    obtain ⟨a, xs, rfl, hxs, hxl, hxj⟩ := id hx
    obtain ⟨b, ys, rfl, hys, hyl, hyj⟩ := id hy
    obtain ⟨xc, ex⟩ : ∃ z, xs[c]? = some z := ⟨xs[c]'(by omega), List.getElem?_eq_getElem (by omega)⟩
    obtain ⟨yc, ey⟩ : ∃ z, ys[c]? = some z := ⟨ys[c]'(by omega), List.getElem?_eq_getElem (by omega)⟩
    refine ⟨_, rfl, _, rfl, a, _, _, _, rfl, rfl, hxs, at_of (j := c) rfl ex, ?_⟩
    refine ⟨_, _, rat_dp (hxj c xc ex), zero_dp (T.zero _), rfl, rfl, _, rfl, ?_⟩
    rw [rat_eqv]
    by_cases hz : r c = 0
    · rw [decide_eq_true hz]
      have e : (fun j => r j - r c / p c * p j) = r := by
        funext j
        rw [hz]
        grind
      refine iteT ⟨_, rfl, k _ _ (Same.refl H) ?_ ?_⟩
      · rw [e]
        exact hx
      · exact Or.inl rfl
    · rw [decide_eq_false hz]
      refine iteF ?_
      refine ⟨_, rfl, _, rfl, a, _, _, _, rfl, rfl, hxs, at_of (j := c) rfl ex, _, rfl, _, rfl, b, _, _, _, rfl, rfl, hys, at_of (j := c) rfl ey, ?_⟩
      refine ⟨xc, yc, r c, p c, rfl, hxj c xc ex, hyj c yc ey, (sr c hc).mono (by decide), (sp c hc).mono (by decide), h0, fun fv H1 s1 hf => ?_⟩
      refine ⟨_, rfl, _, rfl, a, b, xs, ys, rfl, s1.seq hxs, s1.seq hys, fun D hD => ?_⟩
      have sD : Same H1 (upd H1 D (.lst [])) := same_new hD
      refine lc_zipL (K := K) (xs := xs) (ys := ys) (hxl.trans hyl.symm) (fun i H2 => Same H1 H2 ∧ ∃ acc, H2 D = some (.lst acc) ∧ acc.length = i ∧ ∀ (j : Nat) z, acc[j]? = some z → RatV K H2 z (r j - r c / p c * p j))
        ⟨sD, [], upd_same, rfl, fun j z h => by cases h⟩ (fun i H2 ⟨s2, _⟩ => ⟨(s1.trans s2).seq hxs, (s1.trans s2).seq hys⟩) ?_ ?_
      · rintro i xi yi Tp H2 hxi hyi ⟨s2, acc, hacc, hal, haj⟩ hT
        have hi : i < m := by have := (List.getElem?_eq_some_iff.mp hxi).1; omega
        have s3 : Same H2 (upd H2 Tp (.tup [xi, yi])) := same_new hT
        have s03 : Same H (upd H2 Tp (.tup [xi, yi])) := (s1.trans s2).trans s3
        refine ⟨Tp, _, rfl, SqT.of upd_same, rfl, _, _, rfl, _, _, rfl, rfl, rfl, ?_⟩
        have hfs : K13.Sm 1900 (r c / p c) := sf
        refine ⟨_, rfl, _, rfl, _, rfl, ?_⟩
        refine ⟨fv, yi, r c / p c, p i, rfl, hf.mono (s2.trans s3), (hyj i yi hyi).mono s03, hfs.mono (by decide), (sp i hi).mono (by decide), trivial, fun pv H4 s4 hp => ?_⟩
        refine ⟨xi, pv, r i, r c / p c * p i, rfl, (hxj i xi hxi).mono (s03.trans s4), hp, (sr i hi).mono (by decide), (hfs.mul (sp i hi)).mono (by decide), trivial, fun v H5 s5 hv => ?_⟩
        have hD5 : H5 D = some (.lst acc) := s5 _ _ (s4 _ _ (s3 _ _ hacc))
        refine ⟨acc, hD5, Nat.lt_of_lt_of_le (show acc.length < 1000 by omega) (by decide), ?_, acc ++ [v], upd_same, by simp [hal], fun j z hz => ?_⟩
        · exact same_upd ((s2.trans s3).trans (s4.trans s5)) hD
        · rcases snoc_get hz with ⟨_, h1⟩ | ⟨h1, rfl⟩
          · exact (((haj j z h1).mono s3).mono (s4.trans s5)).upd hD5
          · rw [h1, hal]
            exact hv.upd hD5
      · rintro H2 ⟨s2, acc, hacc, hal, haj⟩
        refine k _ _ (s1.trans s2) ⟨D, acc, rfl, SqL.of hacc, by omega, haj⟩ (Or.inr ⟨D, _, rfl, s1.free hD, hacc⟩)
end
end W13
namespace W13
open PySem L2
/-! ## determinants -/
theorem SqL.upd {K : PySem.W.Frag} {H : Hp} {a D : Addr} {xs : List V} {o : HO} (h : SqL K H a xs) (hD : a ≠ D) : SqL K (upd H D o) a xs := by
  rcases h with (h | ⟨u, h⟩) | h
  · exact .inl (.inl (by rw [upd_ne hD]; exact h))
  · exact .inl (.inr ⟨u, by rw [upd_ne hD]; exact h⟩)
  · exact .inr h
theorem RowF.upd {K : PySem.W.Frag} {H : Hp} {v : V} {n : Nat} {r : Nat → Rat} {D : Addr} {l : List V} {o : HO} (h : RowF K H v n r) (hv : v ≠ .ref D) (hD : H D = some (.lst l)) : RowF K (L2.upd H D o) v n r := by
  obtain ⟨a, vs, rfl, h2, h3, h4⟩ := h
  exact ⟨a, vs, rfl, SqL.upd h2 (fun e => hv (by rw [e])), h3, fun j x hx => (h4 j x hx).upd hD⟩
/-- the rows of M stand in the list at D, which none of them is -/
structure MatD (K : PySem.W.Frag) (H : Hp) (D : Addr) (vs : List V) (n m : Nat) (M : Nat → Nat → Rat) : Prop where
  at_ : H D = some (.lst vs)
  mat : MatL K H vs n m M
  off : ∀ (i : Nat) v, vs[i]? = some v → v ≠ .ref D
theorem MatD.mono {K : PySem.W.Frag} {H H' : Hp} {D : Addr} {vs : List V} {n m : Nat} {M : Nat → Nat → Rat} (h : MatD K H D vs n m M) (e : Same H H') : MatD K H' D vs n m M :=
  ⟨e _ _ h.at_, h.mat.mono e, h.off⟩
/-- a row is put in -/
theorem MatD.set {K : PySem.W.Frag} {H : Hp} {D : Addr} {vs : List V} {n m k : Nat} {M : Nat → Nat → Rat} {v : V} {r : Nat → Rat} (h : MatD K H D vs n m M) (hv : RowF K H v m r) (hn : v ≠ .ref D) :
    MatD K (upd H D (.lst (vs.set k v))) D (vs.set k v) n m (fun i => if i = k then r else M i) := by
  have get : ∀ (i : Nat) u, (vs.set k v)[i]? = some u → (i = k ∧ u = v) ∨ (i ≠ k ∧ vs[i]? = some u) := fun i u hu => by
    by_cases q : i = k
    · subst q
      rw [List.getElem?_set_self'] at hu
      cases e : vs[i]? with
      | none => rw [e] at hu; cases hu
      | some z =>
        rw [e] at hu
        exact .inl ⟨rfl, (Option.some.inj hu).symm⟩
    · rw [List.getElem?_set_ne (fun z => q z.symm)] at hu
      exact .inr ⟨q, hu⟩
  refine ⟨upd_same, ⟨by rw [List.length_set]; exact h.mat.1, fun i u hu => ?_⟩, fun i u hu => ?_⟩
  · rcases get i u hu with ⟨rfl, rfl⟩ | ⟨h1, h2⟩
    · show RowF K _ _ m (if i = i then r else M i)
      rw [if_pos rfl]
      exact hv.upd hn h.at_
    · show RowF K _ _ m (if i = k then r else M i)
      rw [if_neg h1]
      exact (h.mat.2 i u h2).upd (h.off i u h2) h.at_
  · rcases get i u hu with ⟨rfl, rfl⟩ | ⟨h1, h2⟩
    · exact hn
    · exact h.off i u h2
/-- v is an object that is tracked -/
def Trk (H : Hp) (v : V) : Prop := ∃ q o, v = .ref q ∧ H q = some o
theorem Trk.mono {H H' : Hp} {v : V} (h : Trk H v) (e : Same H H') : Trk H' v := by
  obtain ⟨q, o, h1, h2⟩ := h
  exact ⟨q, o, h1, e _ _ h2⟩
theorem Trk.upd {H : Hp} {v : V} {D : Addr} {o : HO} (h : Trk H v) : Trk (L2.upd H D o) v := by
  obtain ⟨q, u, h1, h2⟩ := h
  by_cases e : q = D
  · subst e
    exact ⟨q, o, h1, upd_same⟩
  · exact ⟨q, u, h1, by rw [upd_ne e]; exact h2⟩
theorem Trk.ne {H : Hp} {v : V} {D : Addr} (h : Trk H v) (hD : H D = none) : v ≠ .ref D := by
  obtain ⟨q, o, rfl, h2⟩ := h
  intro e
  have := V.ref.inj e
  subst this
  rw [h2] at hD
  cases hD
/-- list(..), tuple(..), len(..), their readings by names -/
def rListOf (K : PySem.W.Frag) : List V → Hp → VK → Prop := fun xs H Q => ∃ p ys, xs = [.ref p] ∧ (SqL K H p ys ∨ SqT K H p ys) ∧ ∀ l, H l = none → Q (.ref l) (upd H l (.lst ys))
def rTupleOf (K : PySem.W.Frag) : List V → Hp → VK → Prop := fun xs H Q => ∃ p ys, xs = [.ref p] ∧ ((SqL K H p ys ∧ ∀ l, H l = none → Q (.ref l) (upd H l (.tup ys))) ∨ (SqT K H p ys ∧ Q (.ref p) H))
def rLenOf (K : PySem.W.Frag) : List V → Hp → VK → Prop := fun xs H Q => ∃ p ys, xs = [.ref p] ∧ (SqL K H p ys ∨ SqT K H p ys) ∧ Q (.int ys.length) H
theorem cr_listOf {X : Cx} : CallR X (.type "list") (rListOf X.K) := call_list_of
theorem cr_tupleOf {X : Cx} : CallR X (.type "tuple") (rTupleOf X.K) := call_tuple_of
theorem cr_lenOf {X : Cx} : CallR X (.builtin "len") (rLenOf X.K) := call_len_seq
/-- the rows are copied -/
theorem lc_copy {K : PySem.W.Frag} {H : Hp} {a D : Addr} {rs : List V} {n m s : Nat} {M : Nat → Nat → Rat} {σ : L2.St} {Qd : Hp → Prop} (hs : s < σ.length) (hS : SqL K H a rs) (hM : MatL K H rs n m M) (hD : H D = none) (hn : n < 1000)
    (k : ∀ vs H2, Same H H2 → MatD K H2 D vs n m M → (∀ (i : Nat) v, vs[i]? = some v → Trk H2 v) → Qd H2) :
    ∃ W : Nat → Nat → Hp → Prop, (∃ m, W 0 m (upd H D (.lst []))) ∧ ∀ i m H, W i m H →
      ((Itl K a).stop i H ∧ Qd H) ∨ ((Itl K a).go i H ∧ ∃ Nx : Hp → Prop, (∀ H', Nx H' → ∃ m', m' < m ∧ W (i + 1) m' H') ∧ ∀ x H', (Itl K a).yld i H x H' → gName s x (wipe σ [s]) H' fun σ2 H2 => wipe σ2 [s] = wipe σ [s] ∧ tYes σ2 H2 fun b H3 =>
        if b = true then tCB (rListOf K) (tCons (tVar s) tNil) σ2 H3 fun y H4 => ∃ acc, H4 D = some (.lst acc) ∧ acc.length < sizeLine ∧ Nx (upd H4 D (.lst (acc ++ [y]))) else Nx H3) := by
  refine lc_list (K := K) (a := a) (xs := rs) (fun i H2 => Same H H2 ∧ ∃ acc, H2 D = some (.lst acc) ∧ acc.length = i ∧ ∀ (j : Nat) z, acc[j]? = some z → RowF K H2 z m (M j) ∧ z ≠ .ref D ∧ Trk H2 z)
    ⟨same_new hD, [], upd_same, rfl, fun j z h => by cases h⟩ (fun i H2 _ ⟨s2, _⟩ => s2.seq hS) ?_ ?_
  · rintro i x H2 hx ⟨s2, acc, hacc, hal, haj⟩
    have hi : i < n := by have := (List.getElem?_eq_some_iff.mp hx).1; have := hM.1; omega
    obtain ⟨b, ws, rfl, hb, hwl, hwj⟩ := (hM.2 i x hx).mono s2
    refine ⟨by simp [wipe], ?_⟩
    refine ⟨.ref b, by simp [wipe, hs], b, ws, rfl, Or.inl hb, fun l hl => ?_⟩
    have s3 : Same H2 (upd H2 l (.lst ws)) := same_new hl
    have hD3 : (upd H2 l (.lst ws)) D = some (.lst acc) := s3 _ _ hacc
    have hlD : l ≠ D := fun e => by rw [e, hacc] at hl; cases hl
    refine ⟨acc, hD3, Nat.lt_of_lt_of_le (show acc.length < 1000 by omega) (by decide), same_upd (s2.trans s3) hD, acc ++ [.ref l], upd_same, by simp [hal], fun j z hz => ?_⟩
    rcases snoc_get hz with ⟨_, h1⟩ | ⟨h1, rfl⟩
    · exact ⟨((haj j z h1).1.mono s3).upd (haj j z h1).2.1 hD3, (haj j z h1).2.1, ((haj j z h1).2.2.mono s3).upd⟩
    · have hne : V.ref l ≠ .ref D := fun e => hlD (V.ref.inj e)
      rw [h1, hal]
      refine ⟨RowF.upd ?_ hne hD3, hne, Trk.upd ⟨l, _, rfl, upd_same⟩⟩
      exact ⟨l, ws, rfl, SqL.of upd_same, hwl, fun j x hx => (hwj j x hx).mono s3⟩
  · rintro H2 ⟨s2, acc, hacc, hal, haj⟩
    exact k acc H2 s2 ⟨hacc, ⟨hal.trans hM.1, fun i v hv => (haj i v hv).1⟩, fun i v hv => (haj i v hv).2.1⟩ fun i v hv => (haj i v hv).2.2
def bz : Nat → Nat
  | 0 => 160
  | 1 => 641
  | _ => 2565
def rz : Nat → Nat
  | 0 => 1
  | 1 => 161
  | 2 => 802
  | _ => 3367
def spDet (K : PySem.W.Frag) : Sp := fun vs H Q _ => ∃ (a : Addr) (rs : List V) (n : Nat) (M : Nat → Nat → Rat), vs = [.ref a] ∧ SqL K H a rs ∧ MatL K H rs n n M ∧ n ≤ 3 ∧ (∀ i j, i < n → j < n → K13.Sm 160 (M i j)) ∧
  ∀ v H', Same H H' → RatV K H' v (K13.dsub n M 0) → Q v H'
section
variable {P : Program} {w : World} {K : PySem.W.Frag} {mg : Str → Option Value} {base : Heap} {uS uG : Value} {aZ aO : Addr}
abbrev s_determinant : Stmt := top 27
theorem sc_determinant : FnScope ["rows", "row", "result", "column", "at", "k"] ["rows"] (defScope s_determinant) := ⟨rfl, rfl, rfl, by decide +kernel, rfl, by decide +kernel, by decide +kernel⟩
theorem ok_determinant {f : Addr} {fd : FuncData} (F : Fun K "determinant" "determinant" s_determinant f fd) (T : Txt K mg uS uG aZ aO)
    (DP : Df P w K mg base 1 "pivot_row" ["rows", "column", "start"] (spPivot K)) (DR : Df P w K mg base 3 "reduce_row" ["row", "pivot", "column"] (spReduce K)) (DT : Df P w K mg base 2 "times" ["left", "right"] (spRR K (fun _ => True) (· * ·))) (DO : Df P w K mg base 1 "opposite" ["value"] (spOpp K)) :
    FnOk P w K mg base CX0 4 f fd ["rows"] (spDet K) := by
  obtain ⟨_, _, G_pivot_row, C_pivot_row⟩ := DP
  obtain ⟨_, _, G_reduce_row, C_reduce_row⟩ := DR
  obtain ⟨_, _, G_times, C_times⟩ := DT
  obtain ⟨_, _, G_opposite, C_opposite⟩ := DO
  refine F.ok sc_determinant (fun vs H Q E h => ?_) (fun cdv A outer s H vs Q E hr h => ?_)
  · obtain ⟨a, rs, n, M, rfl, _⟩ := h
    rfl
  · obtain ⟨a, rs, n, M, rfl, hS, hM, hn, sm, k⟩ := h
    have nd := sc_determinant.nd
    refine ⟨_,
      (pss_cons
        (ps_setLc (i := 0) (own := [("row", 1)]) (g := gName 1) (te := tCB (rListOf K) (tCons (tVar 1) tNil)) rfl nd rfl rfl (sw_true rfl rfl rfl (by decide +kernel)) (pi_list (pv 0)) (blkOk_by (N := ["rows", "row", "result", "column", "at", "k"]) (sc := defScope s_determinant) (by decide +kernel))
      (fun _ _ _ _ _ => pg_name (i := 1) nd rfl (by first | exact Or.inl rfl | exact Or.inr rfl)) (fun _ _ _ _ _ => pts_nil)
      (fun _ _ _ _ _ => (pe_callTy cr_listOf (by rfl) T.list (by decide +kernel) (pa_cons (pv 1) pa_nil))))
      (pss_cons
        (ps_set (i := 2) nd rfl (by first | exact Or.inl rfl | exact Or.inr rfl) (pe_glob rfl T.mONE T.rONE))
      (pss_cons
        (ps_for PassesOwn.never rfl (pi_range1 rfl T.range (pa_cons (pe_callB call_len_seq (by rfl) T.len PySem.boot_len (pa_cons (pv 0) pa_nil)) pa_nil)) (pg_name (i := 3) nd rfl (by first | exact Or.inl rfl | exact Or.inr rfl))
          (pss_cons
            (ps_set (i := 4) nd rfl (by first | exact Or.inl rfl | exact Or.inr rfl) (pe_call G_pivot_row (hr.mono (by decide)) rfl C_pivot_row.m C_pivot_row.kp C_pivot_row.b .nil pass0 (pa_cons (pv 0) (pa_cons (pv 3) (pa_cons (pv 3) pa_nil)))))
          (pss_cons
            (ps_if (pt_cmpR op_lt (pv 4) pe_int (nomark _))
              (pss_one
                (ps_ret (pe_glob rfl T.mZERO T.rZERO)))
              pss_nil)
          (C8.pss_cut
            (ps_if (pt_cmpR op_ne (pv 4) (pv 3) (nomark _))
              (pss_cons
                (ps_asg (pe_tup (pa_cons (pe_ix ix_list (pv 0) (pv 3) (fun _ _ => rfl)) (pa_cons (pe_ix ix_list (pv 0) (pv 4) (fun _ _ => rfl)) pa_nil))) (pg_tup rfl (pgs_cons (pg_sub (pv 0) (pv 4) set_list) (pgs_cons (pg_sub (pv 0) (pv 3) set_list) pgs_nil))))
              (pss_one
                (ps_set (i := 2) nd rfl (by first | exact Or.inl rfl | exact Or.inr rfl) (pe_call G_opposite (hr.mono (by decide)) rfl C_opposite.m C_opposite.kp C_opposite.b .nil pass0 (pa_cons (pv 2) pa_nil)))))
              pss_nil)
          (pss_cons
            (ps_set (i := 2) nd rfl (by first | exact Or.inl rfl | exact Or.inr rfl) (pe_call G_times (hr.mono (by decide)) rfl C_times.m C_times.kp C_times.b .nil pass0 (pa_cons (pv 2) (pa_cons (pe_ix ix_list (pe_ix ix_list (pv 0) (pv 3) (fun _ _ => rfl)) (pv 3) (fun _ _ => rfl)) pa_nil))))
          (pss_one
            (ps_for PassesOwn.never rfl (pi_range2 rfl T.range (pa_cons (pe_op op_add (pv 3) pe_int) (pa_cons (pe_callB call_len_seq (by rfl) T.len PySem.boot_len (pa_cons (pv 0) pa_nil)) pa_nil))) (pg_name (i := 5) nd rfl (by first | exact Or.inl rfl | exact Or.inr rfl))
              (pss_one
                (ps_asg (pe_call G_reduce_row (hr.mono (by decide)) rfl C_reduce_row.m C_reduce_row.kp C_reduce_row.b .nil pass0 (pa_cons (pe_ix ix_list (pv 0) (pv 5) (fun _ _ => rfl)) (pa_cons (pe_ix ix_list (pv 0) (pv 3) (fun _ _ => rfl)) (pa_cons (pv 3) pa_nil)))) (pg_sub (pv 0) (pv 5) set_list))))))))))
      (pss_one
        (ps_ret (pv 2)))))), ?_⟩
    refine ⟨_, rfl, a, rfl, ⟨_, hS⟩, fun D hD => ?_⟩
    refine lc_copy (show (1 : Nat) < 6 by decide) hS hM hD (by omega) fun vs0 H0 s0 m0 _ => ?_
    have hlen := m0.mat.1
    refine ⟨_, rfl, D, vs0, rfl, Or.inl (SqL.of m0.at_), (vs0.length : Int), rfl, by omega, by omega,
      for_range (lo := 0) (n := ((vs0.length : Nat) : Int).toNat) (fun i σ H2 => ∃ (vs : List V) (Mi : Nat → Nat → Rat) (rv : V) (res : Rat) (v3 v4 v5 : Option V), σ = [some (.ref D), none, some rv, v3, v4, v5] ∧ Same H H2 ∧ MatD K H2 D vs n n Mi ∧ RatV K H2 rv res ∧
        res * K13.dsub n Mi i = K13.dsub n M 0 ∧ K13.Sm (rz i) res ∧ ∀ p q, i ≤ p → p < n → q < n → K13.Sm (bz i) (Mi p q))
      ⟨vs0, M, .ref aO, 1, none, none, none, rfl, s0, m0, ⟨aO, rfl, T.one _⟩, by grind, K13.Sm.one, fun p q _ h1 h2 => sm p q h1 h2⟩ ?_ ?_⟩
    · rintro i σ H2 hi ⟨vs, Mi, rv, res, v3, v4, v5, rfl, s2, m2, hrv, hdet, hres, hsz⟩
      have hin : i < n := by omega
      have hvl := m2.mat.1
      have hbz : bz i ≤ 2565 := by unfold bz; split <;> decide
      have hrz : rz i ≤ 3367 := by unfold rz; split <;> decide
      rw [Int.zero_add]
      refine ⟨_, rfl, _, rfl, _, rfl, D, vs, n, n, i, i, Mi, rfl, SqL.of m2.at_, m2.mat, hin, by omega, by omega, fun r hr => ?_⟩
      refine ⟨_, rfl, _, _, rfl, rfl, _, rfl, ?_⟩
      rcases hr with ⟨k0, hk1, hk2, rfl, hk3⟩ | ⟨rfl, hz⟩
      · have hn0 : ¬ ((k0 : Int) < 0) := by omega
        rw [decide_eq_false hn0]
        refine iteF ?_
        -- behind the swap
        refine ⟨fun σ H3 => ∃ (vs : List V) (Mi : Nat → Nat → Rat) (rv : V) (res : Rat) (v4 v5 : Option V), σ = [some (.ref D), none, some rv, some (.int i), v4, v5] ∧ Same H H3 ∧ MatD K H3 D vs n n Mi ∧ RatV K H3 rv res ∧
          res * K13.dsub n Mi i = K13.dsub n M 0 ∧ K13.Sm (rz i) res ∧ (∀ p q, i ≤ p → p < n → q < n → K13.Sm (bz i) (Mi p q)) ∧ Mi i i ≠ 0, ?_, ?_⟩
        · refine ⟨_, rfl, _, rfl, rfl, _, rfl, ?_⟩
          by_cases hki : k0 = i
          · subst hki
            exact iteNS rfl ⟨vs, Mi, rv, res, _, _, rfl, s2, m2, hrv, hdet, hres, hsz, hk3⟩
          · have hne : ¬ V.int (k0 : Int) = V.int (i : Int) := fun e => hki (by have := V.int.inj e; omega)
            rw [decide_eq_false hne]
            refine iteT ?_
            obtain ⟨x, hx, rx⟩ := m2.mat.get hin
            obtain ⟨y, hy, ry⟩ := m2.mat.get hk2
            refine ⟨_, rfl, _, rfl, D, _, _, _, rfl, rfl, SqL.of m2.at_, at_of (j := i) rfl hx, _, rfl, _, rfl, D, _, _, _, rfl, rfl, SqL.of m2.at_, at_of (j := k0) rfl hy, by show 2 ≤ sizeLine; decide, fun t ht => ?_⟩
            have s3 : Same H2 (upd H2 t (.tup [x, y])) := same_new ht
            have m3 := m2.mono s3
            refine ⟨t, _, rfl, SqT.of upd_same, rfl, _, _, rfl, ?_⟩
            have m4 := m3.set (k := k0) (rx.mono s3) (m3.off i x hx)
            have m5 := m4.set (k := i) ((ry.mono s3).upd (m3.off k0 y hy) m3.at_) (m3.off k0 y hy)
            refine ⟨_, rfl, _, rfl, D, _, _, _, rfl, rfl, m3.at_, ixN_nat (by omega), _, _, rfl, _, rfl, _, rfl, D, _, _, _, rfl, rfl, upd_same, ixN_nat (by rw [List.length_set]; omega), rfl, ?_⟩
            have hDn : H D = none := hD
            refine ⟨_, rfl, rv, res, rfl, (((hrv.mono s3).upd m3.at_).upd m4.at_), fun ov H6 s6 ho => ?_⟩
            refine ⟨_, _, ov, -res, _, _, rfl, (same_upd (same_upd (s2.trans s3) hDn) hDn).trans s6, m5.mono s6, ho, ?_, hres.neg, ?_, ?_⟩
            · have e := K13.dsub_swap (M := Mi) (show i < k0 by omega) hk2
              have e2 : K13.dsub n (fun i_1 => if i_1 = i then Mi k0 else (fun i_2 => if i_2 = k0 then Mi i else Mi i_2) i_1) i = K13.dsub n (fun i_1 => if i_1 = i then Mi k0 else if i_1 = k0 then Mi i else Mi i_1) i := rfl
              rw [e2, e, ← hdet]
              grind
            · intro p q hp1 hp2 hq
              show K13.Sm _ ((if p = i then Mi k0 else if p = k0 then Mi i else Mi p) q)
              split
              · exact hsz k0 q hk1 hk2 hq
              · split
                · exact hsz i q (Nat.le_refl _) hin hq
                · exact hsz p q hp1 hp2 hq
            · show (if i = i then Mi k0 else if i = k0 then Mi i else Mi i) i ≠ 0
              rw [if_pos rfl]
              exact hk3
        · clear hdet hres hsz hk3 hrv m2 s2 hvl
          rintro σ H3 ⟨vs, Mi, rv, res, v4, v5, rfl, s2, m2, hrv, hdet, hres, hsz, hpiv⟩
          have hvl := m2.mat.1
          obtain ⟨x, hx, rx⟩ := m2.mat.get hin
          obtain ⟨b, ws, z, hbx, hb, hwl, hz, hq⟩ := id (rx.get hin)
          subst hbx
          refine ⟨_, rfl, _, rfl, _, rfl, D, _, _, _, rfl, rfl, SqL.of m2.at_, at_of (j := i) rfl hx, _, rfl, b, _, _, _, rfl, rfl, hb, at_of (j := i) rfl hz, ?_⟩
          have hsi := hsz i i (Nat.le_refl _) hin hin
          refine ⟨rv, z, res, Mi i i, rfl, hrv, hq, hres.mono (by omega), hsi.mono (by omega), trivial, fun pv H4 s4 hp => ?_⟩
          have hMt0 : ∀ p, Mi p = if p ≤ i then Mi p else if p < i + 1 + 0 then K13.elim Mi i p else Mi p := fun p => by
            by_cases q : p ≤ i
            · rw [if_pos q]
            · rw [if_neg q, if_neg (by omega)]
          refine ⟨_, rfl, _, _, rfl, rfl, _, rfl, D, vs, rfl, Or.inl (SqL.of (m2.mono s4).at_), ((i : Int) + 1), (vs.length : Int), rfl, by omega,
            for_range (lo := (i : Int) + 1) (n := ((vs.length : Int) - ((i : Int) + 1)).toNat) (fun t σ H5 => ∃ (vs' : List V) (Mt : Nat → Nat → Rat) (v5 : Option V), σ = [some (.ref D), none, some pv, some (.int i), v4, v5] ∧ Same H H5 ∧ MatD K H5 D vs' n n Mt ∧ RatV K H5 pv (res * Mi i i) ∧
              (∀ p, Mt p = if p ≤ i then Mi p else if p < i + 1 + t then K13.elim Mi i p else Mi p))
            ⟨vs, Mi, v5, rfl, s2.trans s4, m2.mono s4, hp, hMt0⟩ ?_ ?_⟩
          · rintro t σ H5 ht ⟨vs', Mt, v5, rfl, s5, m5, hpv, hMt⟩
            have hk : i + 1 + t < n := by omega
            have hvl' := m5.mat.1
            obtain ⟨y, hy, ry⟩ := m5.mat.get hk
            obtain ⟨x', hx', rx'⟩ := m5.mat.get hin
            have e1 : Mt (i + 1 + t) = Mi (i + 1 + t) := by rw [hMt, if_neg (by omega), if_neg (by omega)]
            have e2 : Mt i = Mi i := by rw [hMt, if_pos (Nat.le_refl _)]
            have ei : (i : Int) + 1 + (t : Int) = ((i + 1 + t : Nat) : Int) := by omega
            rw [ei]
            refine ⟨_, rfl, _, rfl, D, _, _, _, rfl, rfl, SqL.of m5.at_, at_of (j := i + 1 + t) rfl hy, _, rfl, _, rfl, D, _, _, _, rfl, rfl, SqL.of m5.at_, at_of (j := i) rfl hx', _, rfl, ?_⟩
            have hi1 : i ≤ 1 := by omega
            have hb641 : bz i ≤ 641 := by
              rcases Nat.lt_or_ge i 1 with h | h
              · have : i = 0 := by omega
                subst this; decide
              · have : i = 1 := by omega
                subst this; decide
            have hb1 : ∃ b, bz i = b + 1 := by
              rcases Nat.lt_or_ge i 1 with h | h
              · have : i = 0 := by omega
                subst this; exact ⟨159, rfl⟩
              · have : i = 1 := by omega
                subst this; exact ⟨640, rfl⟩
            obtain ⟨b1, hb1⟩ := hb1
            have hf : K13.Sm (bz i + (b1 + 1)) (Mi (i + 1 + t) i / Mi i i) := (hsz _ i (by omega) hk hin).div (by rw [← hb1]; exact hsi)
            refine ⟨y, x', n, i, Mt (i + 1 + t), Mt i, rfl, ry, rx', hin, by omega, by rw [e2]; exact hpiv, fun j hj => ?_, fun j hj => ?_, ?_, fun v H6 s6 hv hfr => ?_⟩
            · rw [e1]; exact (hsz _ j (by omega) hk hj).mono (by omega)
            · rw [e2]; exact (hsz i j (Nat.le_refl _) hin hj).mono (by omega)
            · rw [e1, e2]; exact hf.mono (by omega)
            have hvD : v ≠ .ref D := by
              rcases hfr with rfl | ⟨q, o, rfl, hq, _⟩
              · exact m5.off _ v hy
              · intro e
                have := V.ref.inj e
                subst this
                rw [m5.at_] at hq
                cases hq
            have m6 := m5.mono s6
            have m7 := m6.set (k := i + 1 + t) hv hvD
            refine ⟨_, rfl, _, rfl, D, _, _, _, rfl, rfl, m6.at_, ixN_nat (by omega), ?_⟩
            refine ⟨_, _, _, rfl, same_upd (s5.trans s6) hD, m7, (hpv.mono s6).upd m6.at_, fun p => ?_⟩
            show (if p = i + 1 + t then _ else Mt p) = _
            by_cases q1 : p = i + 1 + t
            · rw [if_pos q1, if_neg (by omega), if_pos (by omega), e1, e2, q1]
              rfl
            · rw [if_neg q1, hMt]
              by_cases q2 : p ≤ i
              · rw [if_pos q2, if_pos q2]
              · rw [if_neg q2, if_neg q2]
                by_cases q3 : p < i + 1 + t
                · rw [if_pos q3, if_pos (by omega)]
                · rw [if_neg q3, if_neg (by omega)]
          · rintro σ H5 ⟨vs', Mt, v5, rfl, s5, m5, hpv, hMt⟩
            refine ⟨vs', Mt, pv, res * Mi i i, _, _, _, rfl, s5, m5, hpv, ?_, ?_, ?_⟩
            · have e := K13.dsub_step (M := Mi) hin hpiv
              have e2 : K13.dsub n (fun p => if p ≤ i then Mi p else K13.elim Mi i p) (i + 1) = K13.dsub n Mt (i + 1) := K13.dsub_congr fun p h1 h2 => by
                rw [hMt p, if_neg (by omega), if_neg (by omega), if_pos (by omega)]
              rw [← e2, ← hdet, e]
              grind
            · refine (hres.mul hsi).mono ?_
              have : i = 0 ∨ i = 1 ∨ i = 2 := by omega
              rcases this with rfl | rfl | rfl <;> decide
            · intro p q h1 h2 h3
              rw [hMt p, if_neg (by omega), if_pos (by omega)]
              have hi1 : i = 0 ∨ i = 1 := by omega
              rcases hi1 with rfl | rfl
              · have a1 := hsz p q (by omega) h2 h3
                have a2 := hsz p 0 (by omega) h2 hin
                have a3 := hsz 0 q (by omega) hin h3
                exact (a1.sub ((a2.div (b := 159) hsi).mul a3)).mono (by decide)
              · have a1 := hsz p q (by omega) h2 h3
                have a2 := hsz p 1 (by omega) h2 hin
                have a3 := hsz 1 q (by omega) hin h3
                exact (a1.sub ((a2.div (b := 640) hsi).mul a3)).mono (by decide)
      · rw [decide_eq_true (show (-1 : Int) < 0 by decide)]
        refine iteT (k _ _ s2 ⟨aZ, rfl, ?_⟩)
        have e : K13.dsub n M 0 = 0 := by
          rw [← hdet, K13.dsub_zero hin fun j h1 h2 => hz j h1 h2]
          grind
        rw [e]
        exact T.zero _
    · rintro σ H2 ⟨vs, Mi, rv, res, v3, v4, v5, rfl, s2, m2, hrv, hdet, hres, hsz⟩
      have en : ((vs0.length : Nat) : Int).toNat = n := by omega
      rw [en, K13.dsub_end] at hdet
      refine ⟨_, rfl, k _ _ s2 ?_⟩
      have : res = K13.dsub n M 0 := by rw [← hdet]; grind
      rw [← this]
      exact hrv
end
end W13
namespace W13
open PySem L2
/-! ## the elimination of the inner nodes -/
/-- a comprehension over enumerate of a list -/
theorem lc_enum {K : PySem.W.Frag} {a : Addr} {xs : List V} {g : TG} {tt : TT} {te : TE} {vs : List Nat} {σ : L2.St} {H1 : Hp} {D : Addr} {Qd : Hp → Prop} (Pv : Nat → Hp → Prop) (h0 : Pv 0 (upd H1 D (.lst []))) (hq : ∀ i H, Pv i H → SqL K H a xs)
    (hs : ∀ (i : Nat) (x : V) (Tp : Addr) (H : Hp), xs[i]? = some x → Pv i H → H Tp = none → g (.ref Tp) (wipe σ vs) (upd H Tp (.tup [.int (i : Nat), x])) fun σ2 H2 => wipe σ2 vs = wipe σ vs ∧ tt σ2 H2 fun b H3 =>
      if b = true then te σ2 H3 fun y H4 => ∃ acc, H4 D = some (.lst acc) ∧ acc.length < sizeLine ∧ Pv (i + 1) (upd H4 D (.lst (acc ++ [y]))) else Pv (i + 1) H3) (hd : ∀ H, Pv xs.length H → Qd H) :
    ∃ W : Nat → Nat → Hp → Prop, (∃ m, W 0 m (upd H1 D (.lst []))) ∧ ∀ i m H, W i m H →
      ((Ite K a).stop i H ∧ Qd H) ∨ ((Ite K a).go i H ∧ ∃ Nx : Hp → Prop, (∀ H', Nx H' → ∃ m', m' < m ∧ W (i + 1) m' H') ∧ ∀ x H', (Ite K a).yld i H x H' → g x (wipe σ vs) H' fun σ2 H2 => wipe σ2 vs = wipe σ vs ∧ tt σ2 H2 fun b H3 =>
        if b = true then te σ2 H3 fun y H4 => ∃ acc, H4 D = some (.lst acc) ∧ acc.length < sizeLine ∧ Nx (upd H4 D (.lst (acc ++ [y]))) else Nx H3) := by
  refine ⟨fun i m H => m = xs.length - i ∧ i ≤ xs.length ∧ Pv i H, ⟨xs.length, rfl, Nat.zero_le _, h0⟩, ?_⟩
  rintro i m H ⟨rfl, hi, p⟩
  have qx := hq i H p
  by_cases hlt : i < xs.length
  · have hx : xs[i]? = some xs[i] := List.getElem?_eq_getElem hlt
    refine .inr ⟨⟨xs, _, qx, hx⟩, Pv (i + 1), fun H' p' => ⟨xs.length - (i + 1), by omega, rfl, hlt, p'⟩, fun v H' y => ?_⟩
    obtain ⟨Tp, x', rfl, hT, rfl, f1⟩ := y
    exact hs i x' Tp H (f1 xs qx) p hT
  · have e : i = xs.length := by omega
    subst e
    exact .inl ⟨⟨xs, qx, Nat.le_refl _⟩, hd H p⟩
/-- nats as values -/
def nats (l : List Nat) : List V := l.map fun (n : Nat) => V.int (n : Int)
theorem nats_get {l : List Nat} {i : Nat} {x : V} (h : (nats l)[i]? = some x) : ∃ n, l[i]? = some n ∧ x = .int (n : Int) := by
  unfold nats at h
  rw [List.getElem?_map] at h
  cases e : l[i]? with
  | none => rw [e] at h; cases h
  | some n =>
    rw [e] at h
    exact ⟨n, rfl, (Option.some.inj h).symm⟩
theorem nats_at {l : List Nat} {i n : Nat} (h : l[i]? = some n) : (nats l)[i]? = some (.int (n : Int)) := by
  unfold nats
  rw [List.getElem?_map, h]
  rfl
theorem nats_flat (l : List Nat) : (nats l).all flatV = true := by
  unfold nats
  rw [List.all_map]
  exact List.all_eq_true.mpr fun x _ => rfl
theorem inV_nats {l : List Nat} {n : Nat} : inV (.int (n : Int)) (nats l) = decide (n ∈ l) := by
  unfold inV nats
  rw [List.any_map]
  induction l with
  | nil => rfl
  | cons a l ih =>
    rw [List.any_cons, ih]
    have e : ((fun y => eqV y (V.int (n : Int))) ∘ fun (n : Nat) => V.int (n : Int)) a = decide (a = n) := by
      show ((a : Int) == (n : Int)) = decide (a = n)
      by_cases q : a = n
      · subst q; simp
      · have : ¬ (a : Int) = (n : Int) := by omega
        simp [q, this]
    rw [e]
    by_cases q : a = n
    · subst q; simp
    · have q' : ¬ n = a := fun z => q z.symm
      simp [q, q']
/-- a row of a table: a tuple -/
def RowT (K : PySem.W.Frag) (H : Hp) (v : V) (n : Nat) (r : Nat → Rat) : Prop := ∃ a vs, v = .ref a ∧ SqT K H a vs ∧ vs.length = n ∧ ∀ (j : Nat) x, vs[j]? = some x → RatV K H x (r j)
theorem RowT.mono {K : PySem.W.Frag} {H H' : Hp} {v : V} {n : Nat} {r : Nat → Rat} (h : RowT K H v n r) (e : Same H H') : RowT K H' v n r := by
  obtain ⟨a, vs, h1, h2, h3, h4⟩ := h
  exact ⟨a, vs, h1, Same.tup e h2, h3, fun j x hx => (h4 j x hx).mono e⟩
theorem RowT.upd {K : PySem.W.Frag} {H : Hp} {v : V} {n : Nat} {r : Nat → Rat} {D : Addr} {l : List V} {o : HO} (h : RowT K H v n r) (hD : H D = some (.lst l)) : RowT K (L2.upd H D o) v n r := by
  obtain ⟨a, vs, h1, h2, h3, h4⟩ := h
  exact ⟨a, vs, h1, SqT.upd h2 hD, h3, fun j x hx => (h4 j x hx).upd hD⟩
/-- a table: a tuple of tuples of ratios -/
def TabV (K : PySem.W.Frag) (H : Hp) (v : V) (n : Nat) (M : Nat → Nat → Rat) : Prop := ∃ a vs, v = .ref a ∧ SqT K H a vs ∧ vs.length = n ∧ ∀ (i : Nat) x, vs[i]? = some x → RowT K H x n (M i)
theorem TabV.mono {K : PySem.W.Frag} {H H' : Hp} {v : V} {n : Nat} {M : Nat → Nat → Rat} (h : TabV K H v n M) (e : Same H H') : TabV K H' v n M := by
  obtain ⟨a, vs, h1, h2, h3, h4⟩ := h
  exact ⟨a, vs, h1, Same.tup e h2, h3, fun i x hx => (h4 i x hx).mono e⟩
/-- the scope of the list that a def hands back as a tuple -/
def retScope (s : Stmt) (i : Nat) : Scope := match (defBody s).getD i (.Pass ⟨0, 0, 0, 0⟩) with
  | .Return (some (.Call _ [.ListComp _ _ sc _] _ _)) _ => sc
  | _ => { kind := .function, names := [], isGenerator := false, isCoroutine := false }
def spElim (K : PySem.W.Frag) : Sp := fun vs H Q _ => ∃ (a b : Addr) (rs : List V) (rim N : Nat) (M : Nat → Nat → Rat), vs = [.ref a, .ref b] ∧ SqL K H a rs ∧ MatL K H rs N N M ∧ SqL K H b (nats (K13.innr rim N)) ∧ rim ≤ N ∧ N < 100 ∧ (K13.innr rim N).length ≤ 9 ∧ K13.Stg M (K13.innr rim N) ∧
  ∀ v H', Same H H' → TabV K H' v rim (K13.elims M (K13.innr rim N)) → Q v H'
section
variable {P : Program} {w : World} {K : PySem.W.Frag} {mg : Str → Option Value} {base : Heap} {uS uG : Value} {aZ aO : Addr}
abbrev s_eliminate : Stmt := top 28
theorem sc_eliminate : FnScope ["rows", "inner", "row", "at", "pivot", "k", "kept", "j", "i"] ["rows", "inner"] (defScope s_eliminate) := ⟨rfl, rfl, rfl, by decide +kernel, rfl, by decide +kernel, by decide +kernel⟩
theorem ok_eliminate {f : Addr} {fd : FuncData} (F : Fun K "eliminate" "eliminate" s_eliminate f fd) (T : Txt K mg uS uG aZ aO) (DR : Df P w K mg base 3 "reduce_row" ["row", "pivot", "column"] (spReduce K)) :
    FnOk P w K mg base CX0 4 f fd ["rows", "inner"] (spElim K) := by
  obtain ⟨_, _, G_reduce_row, C_reduce_row⟩ := DR
  refine F.ok sc_eliminate (fun vs H Q E h => ?_) (fun cdv A outer s H vs Q E hr h => ?_)
  · obtain ⟨a, b, rs, rim, N, M, rfl, _⟩ := h
    rfl
  · obtain ⟨a, b, rs, rim, N, M, rfl, hS, hM, hI, hrN, hN, h9, G, k⟩ := h
    have nd := sc_eliminate.nd
    refine ⟨_,
      (pss_cons
        (ps_set (i := 0) nd rfl (by first | exact Or.inl rfl | exact Or.inr rfl) (pe_lc (own := [("row", 2)]) (g := gName 2) (te := tCB (rListOf K) (tCons (tVar 2) tNil)) rfl nd (pi_list (pv 0)) (blkOk_by (N := ["rows", "inner", "row", "at", "pivot", "k", "kept", "j", "i"]) (sc := defScope s_eliminate) (by decide +kernel))
      (fun _ _ _ _ _ => pg_name (i := 2) nd rfl (by first | exact Or.inl rfl | exact Or.inr rfl)) (fun _ _ _ _ _ => pts_nil)
      (fun _ _ _ _ _ => (pe_callTy cr_listOf (by rfl) T.list (by decide +kernel) (pa_cons (pv 2) pa_nil)))))
      (pss_cons
        (ps_for PassesOwn.never rfl (pi_list (pv 1)) (pg_name (i := 3) nd rfl (by first | exact Or.inl rfl | exact Or.inr rfl))
          (pss_one
            (ps_if (pt_cmpR (op_neD hr.units) (pe_ix ix_list (pe_ix ix_list (pv 0) (pv 3) (fun _ _ => rfl)) (pv 3) (fun _ _ => rfl)) (pe_glob rfl T.mZERO T.rZERO) (nomark _))
              (pss_cons
                (ps_set (i := 4) nd rfl (by first | exact Or.inl rfl | exact Or.inr rfl) (pe_ix ix_list (pv 0) (pv 3) (fun _ _ => rfl)))
              (pss_one
                (ps_set (i := 0) nd rfl (by first | exact Or.inl rfl | exact Or.inr rfl) (pe_lc (own := [("k", 5), ("row", 2)]) (g := gTup K 2 (gCons (gName 5) (gCons (gName 2) gNil))) rfl nd (pi_enum (by rfl) T.enumerate (pa_cons (pv 0) pa_nil)) (blkOk_by (N := ["rows", "inner", "row", "at", "pivot", "k", "kept", "j", "i"]) (sc := defScope s_eliminate) (by decide +kernel))
      (fun _ _ _ _ _ => pg_tup rfl (pgs_cons (pg_name (i := 5) nd rfl (by first | exact Or.inl rfl | exact Or.inr rfl)) (pgs_cons (pg_name (i := 2) nd rfl (by first | exact Or.inl rfl | exact Or.inr rfl)) pgs_nil))) (fun _ _ _ _ _ => pts_nil)
      (fun _ _ _ _ _ => (pe_ifExp (pt_cmpR op_eq (pv 5) (pv 3) (nomark _)) (pv 2) (pe_call G_reduce_row (hr.mono (by decide)) rfl C_reduce_row.m C_reduce_row.kp C_reduce_row.b .nil pass0 (pa_cons (pv 2) (pa_cons (pv 4) (pa_cons (pv 3) pa_nil))))))))))
              pss_nil)))
      (pss_cons
        (ps_set (i := 6) nd rfl (by first | exact Or.inl rfl | exact Or.inr rfl) (pe_lc (own := [("k", 5)]) (g := gName 5) (tt := tTest (tOp (rIn K true) (tVar 5) (tVar 1))) rfl nd (pi_range1 rfl T.range (pa_cons (pe_callB call_len_seq (by rfl) T.len PySem.boot_len (pa_cons (pv 0) pa_nil)) pa_nil)) (blkOk_by (N := ["rows", "inner", "row", "at", "pivot", "k", "kept", "j", "i"]) (sc := defScope s_eliminate) (by decide +kernel))
      (fun _ _ _ _ _ => pg_name (i := 5) nd rfl (by first | exact Or.inl rfl | exact Or.inr rfl)) (fun _ _ _ _ _ => pts_one (pt_cmpR op_notIn_seq (pv 5) (pv 1) (by rfl)))
      (fun _ _ _ _ _ => (pv 5))))
      (pss_one
        (ps_ret (pe_callTy cr_tupleOf (by rfl) T.tuple (by decide +kernel) (pa_cons (pe_lc (own := [("i", 8)]) (g := gName 8) (te := tCB (rTupleOf K) (tCons (tLc (iList K (tVar 6)) (gName 7) tYes (tOp (rIxL K) (tOp (rIxL K) (tVar 0) (tVar 8)) (tVar 7)) [7]) tNil)) rfl nd (pi_list (pv 6)) (blkOk_by (N := ["rows", "inner", "row", "at", "pivot", "k", "kept", "j", "i"]) (sc := defScope s_eliminate) (by decide +kernel))
      (fun _ _ _ _ _ => pg_name (i := 8) nd rfl (by first | exact Or.inl rfl | exact Or.inr rfl)) (fun _ _ _ _ _ => pts_nil)
      (fun _ _ _ _ _ => (pe_callTy cr_tupleOf (by rfl) T.tuple (by decide +kernel) (pa_cons (pe_lc (own := [("j", 7)]) (g := gName 7) (te := tOp (rIxL K) (tOp (rIxL K) (tVar 0) (tVar 8)) (tVar 7)) rfl nd (pi_list (pv 6)) (blkOk_by (N := ["rows", "inner", "row", "at", "pivot", "k", "kept", "j", "i"]) (sc := relS (retScope s_eliminate 3) (defScope s_eliminate)) (by decide +kernel))
      (fun _ _ _ _ _ => pg_name (i := 7) nd rfl (by first | exact Or.inl rfl | exact Or.inr rfl)) (fun _ _ _ _ _ => pts_nil)
      (fun _ _ _ _ _ => (pe_ix ix_list (pe_ix ix_list (pv 0) (pv 8) (fun _ _ => rfl)) (pv 7) (fun _ _ => rfl)))) pa_nil)))) pa_nil))))))), ?_⟩
    refine ⟨_, rfl, a, rfl, ⟨_, hS⟩, fun D hD => ?_⟩
    refine lc_copy (show (2 : Nat) < 9 by decide) hS hM hD (by omega) fun vs0 H0 s0 m0 t0 => ?_
    have nL : (nats (K13.innr rim N)).length = (K13.innr rim N).length := by unfold nats; rw [List.length_map]
    refine ⟨_, rfl, b, rfl, ⟨_, s0.seq hI⟩, for_list (K := K) (a := b) (xs := nats (K13.innr rim N)) (fun t σ H2 => ∃ (D' : Addr) (vs : List V) (v3 v4 : Option V), σ = [some (.ref D'), some (.ref b), none, v3, v4, none, none, none, none] ∧ Same H H2 ∧
        H2 D' = some (.lst vs) ∧ MatL K H2 vs N N (K13.elimXs M ((K13.innr rim N).take t)) ∧ ∀ (i : Nat) v, vs[i]? = some v → Trk H2 v)
      ⟨D, vs0, none, none, rfl, s0, m0.at_, m0.mat, t0⟩ (fun t σ H2 _ ⟨_, _, _, _, _, s2, _⟩ => s2.seq hI) ?_ ?_⟩
    · rintro t x σ H2 hx ⟨D', vs, v3, v4, rfl, s2, hD', m2, tr2⟩
      obtain ⟨v, hv, rfl⟩ := nats_get hx
      have hlt := (List.getElem?_eq_some_iff.mp hv).1
      have eI := (K13.at_split hv).1
      have hvm : v ∈ K13.innr rim N := List.mem_of_getElem? hv
      have hvN := (K13.mem_innr.mp hvm).2
      have hp := G.piv _ v _ eI
      have hpr := G.prow _ v _ eI
      have hrow := G.row _ _ (List.take_append_drop t (K13.innr rim N)).symm
      have htl : ((K13.innr rim N).take t).length = t := by rw [List.length_take]; omega
      have eX : K13.elimXs M ((K13.innr rim N).take (t + 1)) = K13.elimX (K13.elimXs M ((K13.innr rim N).take t)) v := by
        rw [← K13.elimXs_snoc, List.take_succ, hv]
        rfl
      rw [htl] at hrow
      generalize K13.elimXs M ((K13.innr rim N).take t) = Mt at m2 hp hpr hrow eX
      obtain ⟨y, hy, ry⟩ := m2.get hvN
      obtain ⟨c, ws, z, hbx, hb, hwl, hz, hq⟩ := id (ry.get hvN)
      subst hbx
      have hne : ¬ Mt v v = 0 := by grind
      refine ⟨_, rfl, _, rfl, D', _, _, _, rfl, rfl, SqL.of hD', at_of (j := v) rfl hy, _, rfl, c, _, _, _, rfl, rfl, hb, at_of (j := v) rfl hz, _, _, rat_dp hq, zero_dp (T.zero _), rfl, rfl, _, rfl, ?_⟩
      rw [rat_eqv, decide_eq_false hne]
      refine iteT ?_
      refine ⟨_, rfl, _, rfl, D', _, _, _, rfl, rfl, SqL.of hD', at_of (j := v) rfl hy, ?_⟩
      refine ⟨_, rfl, D', vs, rfl, SqL.of hD', fun E hE => ?_⟩
      refine lc_enum (K := K) (a := D') (xs := vs) (fun i H3 => Same H2 H3 ∧ ∃ acc, H3 E = some (.lst acc) ∧ acc.length = i ∧ ∀ (j : Nat) u, acc[j]? = some u → RowF K H3 u N (K13.elimX Mt v j) ∧ u ≠ .ref E ∧ Trk H3 u)
        ⟨same_new hE, [], upd_same, rfl, fun j u h => by cases h⟩ (fun i H3 ⟨s3, _⟩ => SqL.of (s3 _ _ hD')) ?_ ?_
      · rintro i x Tp H3 hx ⟨s3, acc, hacc, hal, haj⟩ hT
        have hi : i < N := by have := (List.getElem?_eq_some_iff.mp hx).1; have := m2.1; omega
        have s4 : Same H3 (upd H3 Tp (.tup [.int (i : Nat), x])) := same_new hT
        refine ⟨Tp, _, rfl, SqT.of upd_same, rfl, _, _, rfl, _, _, rfl, rfl, rfl, ?_⟩
        refine ⟨_, rfl, _, rfl, rfl, _, rfl, ?_⟩
        have rx := m2.2 i x hx
        have tx := tr2 i x hx
        have fin : ∀ (u : V) (H5 : Hp), Same (upd H3 Tp (.tup [.int (i : Nat), x])) H5 → RowF K H5 u N (K13.elimX Mt v i) → Trk H5 u → u ≠ .ref E → ∃ acc, H5 E = some (.lst acc) ∧ acc.length < sizeLine ∧
            (Same H2 (upd H5 E (.lst (acc ++ [u]))) ∧ ∃ acc', (upd H5 E (.lst (acc ++ [u]))) E = some (.lst acc') ∧ acc'.length = i + 1 ∧ ∀ (j : Nat) z, acc'[j]? = some z → RowF K (upd H5 E (.lst (acc ++ [u]))) z N (K13.elimX Mt v j) ∧ z ≠ .ref E ∧ Trk (upd H5 E (.lst (acc ++ [u]))) z) := fun u H5 s5 hu tu hne => by
          have hE5 : H5 E = some (.lst acc) := s5 _ _ (s4 _ _ hacc)
          refine ⟨acc, hE5, Nat.lt_of_lt_of_le (show acc.length < 1000 by omega) (by decide), same_upd ((s3.trans s4).trans s5) hE, acc ++ [u], upd_same, by simp [hal], fun j z hz => ?_⟩
          rcases snoc_get hz with ⟨_, h1⟩ | ⟨h1, rfl⟩
          · obtain ⟨a1, a2, a3⟩ := haj j z h1
            exact ⟨((a1.mono s4).mono s5).upd a2 hE5, a2, ((a3.mono s4).mono s5).upd⟩
          · rw [h1, hal]
            exact ⟨hu.upd hne hE5, hne, tu.upd⟩
        by_cases hiv : i = v
        · subst hiv
          rw [decide_eq_true rfl]
          refine iteT ⟨_, rfl, ?_⟩
          refine fin x _ (Same.refl _) ?_ ((tx.mono s3).mono s4) (tx.ne hE)
          have e : K13.elimX Mt i i = Mt i := by
            funext j
            show (if i = i then Mt i j else _) = _
            rw [if_pos rfl]
          rw [e]
          exact (rx.mono s3).mono s4
        · have hn2 : ¬ V.int (i : Int) = V.int (v : Int) := fun e => hiv (by have := V.int.inj e; omega)
          rw [decide_eq_false hn2]
          refine iteF ⟨_, rfl, _, rfl, _, rfl, ?_⟩
          have hsr : ∀ j, K13.Sm (160 + 161 * t) (Mt i j) := fun j => (hrow i).sm j
          have hsp : ∀ j, K13.Sm 160 (Mt v j) := fun j => hpr.sm j
          have ht8 : t ≤ 8 := by omega
          refine ⟨x, .ref c, N, v, Mt i, Mt v, rfl, (rx.mono s3).mono s4, (ry.mono s3).mono s4, hvN, by omega, hne, fun j _ => (hsr j).mono (by omega), fun j _ => (hsp j).mono (by omega), ((hsr v).div (b := 159) (hsp v)).mono (by omega), fun u H5 s5 hu hfr => ?_⟩
          have e : K13.elimX Mt v i = fun j => Mt i j - Mt i v / Mt v v * Mt v j := by
            funext j
            show (if i = v then Mt i j else _) = _
            rw [if_neg hiv]
            rfl
          have tu : Trk H5 u := by
            rcases hfr with rfl | ⟨q, o, rfl, _, hq2⟩
            · exact ((tx.mono s3).mono s4).mono s5
            · exact ⟨q, o, rfl, hq2⟩
          refine fin u H5 s5 (by rw [e]; exact hu) tu ?_
          rcases hfr with rfl | ⟨q, o, rfl, hq1, _⟩
          · exact tx.ne hE
          · intro e
            have := V.ref.inj e
            subst this
            rw [s4 _ _ hacc] at hq1
            cases hq1
      · rintro H3 ⟨s3, acc, hacc, hal, haj⟩
        refine ⟨E, acc, _, _, rfl, s2.trans s3, hacc, ⟨hal.trans m2.1, fun i u hu => ?_⟩, fun i u hu => (haj i u hu).2.2⟩
        rw [eX]
        exact (haj i u hu).1
    · rintro σ H2 ⟨D', vs, v3, v4, rfl, s2, hD', m2, tr2⟩
      rw [nL, List.take_length] at m2
      have hvl := m2.1
      -- the places that are kept
      refine ⟨_, rfl, D', vs, rfl, Or.inl (SqL.of hD'), (vs.length : Int), rfl, by omega, by omega, fun E hE => ?_⟩
      refine lc_range (lo := 0) (n := ((vs.length : Nat) : Int).toNat) (fun i H3 => Same H2 H3 ∧ H3 E = some (.lst (nats (List.range (min i rim))))) ⟨same_new hE, upd_same⟩ ?_ ?_
      · rintro i H3 hi ⟨s3, hE3⟩
        rw [Int.zero_add]
        refine ⟨rfl, _, rfl, _, rfl, b, _, rfl, Or.inl ((s2.trans s3).seq hI), rfl, nats_flat _, _, rfl, ?_⟩
        have et : (if true = true then !inV (V.int (i : Int)) (nats (K13.innr rim N)) else inV (V.int (i : Int)) (nats (K13.innr rim N))) = decide (i < rim) := by
          rw [if_pos rfl, inV_nats]
          have : i ∈ K13.innr rim N ↔ ¬ i < rim := by rw [K13.mem_innr]; omega
          have e3 : decide (i ∈ K13.innr rim N) = decide (¬ i < rim) := decide_eq_decide.mpr this
          rw [e3]
          by_cases q : i < rim <;> simp [q]
        rw [et]
        by_cases q : i < rim
        · rw [decide_eq_true q]
          refine iteT ⟨_, rfl, _, hE3, ?_, same_upd s3 hE, ?_⟩
          · unfold nats
            rw [List.length_map, List.length_range]
            exact Nat.lt_of_lt_of_le (show min i rim < 1000 by omega) (by decide)
          · have e1 : min i rim = i := by omega
            have e2 : min (i + 1) rim = i + 1 := by omega
            rw [upd_same, e1, e2, List.range_succ]
            unfold nats
            rw [List.map_append]
            rfl
        · rw [decide_eq_false q]
          refine iteF ⟨s3, ?_⟩
          have e1 : min i rim = min (i + 1) rim := by omega
          rw [← e1]
          exact hE3
      · rintro H3 ⟨s3, hE3⟩
        have e1 : min ((vs.length : Nat) : Int).toNat rim = rim := by omega
        rw [e1] at hE3
        have hD3 := s3 _ _ hD'
        have m3 := m2.mono s3
        have nR : (nats (List.range rim)).length = rim := by unfold nats; rw [List.length_map, List.length_range]
        have rg : ∀ {i : Nat} {x : V}, (nats (List.range rim))[i]? = some x → i < rim ∧ x = .int (i : Int) := fun {i x} h => by
          obtain ⟨n, h1, rfl⟩ := nats_get h
          obtain ⟨b1, e1⟩ := List.getElem?_eq_some_iff.mp h1
          rw [List.getElem_range] at e1
          rw [List.length_range] at b1
          exact ⟨b1, by rw [e1]⟩
        -- the table
        refine ⟨_, rfl, E, rfl, ⟨_, SqL.of hE3⟩, fun U hU => ?_⟩
        refine lc_list (K := K) (a := E) (xs := nats (List.range rim)) (fun i H4 => Same H3 H4 ∧ ∃ acc, H4 U = some (.lst acc) ∧ acc.length = i ∧ ∀ (j : Nat) z, acc[j]? = some z → RowT K H4 z rim (K13.elims M (K13.innr rim N) j))
          ⟨same_new hU, [], upd_same, rfl, fun j z h => by cases h⟩ (fun i H4 _ ⟨s4, _⟩ => SqL.of (s4 _ _ hE3)) ?_ ?_
        · rintro i x H4 hx ⟨s4, acc, hacc, hal, haj⟩
          obtain ⟨hi, rfl⟩ := rg hx
          refine ⟨rfl, ?_⟩
          refine ⟨_, rfl, E, rfl, ⟨_, SqL.of (s4 _ _ hE3)⟩, fun U2 hU2 => ?_⟩
          refine lc_list (K := K) (a := E) (xs := nats (List.range rim)) (fun t H5 => Same H4 H5 ∧ ∃ ac, H5 U2 = some (.lst ac) ∧ ac.length = t ∧ ∀ (j : Nat) z, ac[j]? = some z → RatV K H5 z (K13.elims M (K13.innr rim N) i j))
            ⟨same_new hU2, [], upd_same, rfl, fun j z h => by cases h⟩ (fun t H5 _ ⟨s5, _⟩ => SqL.of (s5 _ _ (s4 _ _ hE3))) ?_ ?_
          · rintro t y H5 hy ⟨s5, ac, hac, hcl, hcj⟩
            obtain ⟨ht, rfl⟩ := rg hy
            have m5 := (m3.mono s4).mono s5
            obtain ⟨u, hu, ru⟩ := m5.get (show i < N by omega)
            obtain ⟨c, ws, z, rfl, hc, hwl, hz, hq⟩ := ru.get (show t < N by omega)
            refine ⟨rfl, ?_⟩
            refine ⟨_, rfl, _, rfl, D', _, _, _, rfl, rfl, SqL.of (s5 _ _ (s4 _ _ hD3)), at_of (j := i) rfl hu, _, rfl, c, _, _, _, rfl, rfl, hc, at_of (j := t) rfl hz, ?_⟩
            refine ⟨ac, hac, Nat.lt_of_lt_of_le (show ac.length < 1000 by omega) (by decide), same_upd s5 hU2, ac ++ [z], upd_same, by simp [hcl], fun j z' hz' => ?_⟩
            rcases snoc_get hz' with ⟨_, h1⟩ | ⟨h1, rfl⟩
            · exact (hcj j z' h1).upd hac
            · rw [h1, hcl, ← G.fin i (fun h => by have := K13.mem_innr.mp h; omega) t]
              exact hq.upd hac
          · rintro H5 ⟨s5, ac, hac, hcl, hcj⟩
            refine ⟨U2, ac, rfl, Or.inl ⟨SqL.of hac, fun l hl => ?_⟩⟩
            have s6 : Same H5 (upd H5 l (.tup ac)) := same_new hl
            have hU6 := s6 _ _ (s5 _ _ hacc)
            refine ⟨acc, hU6, Nat.lt_of_lt_of_le (show acc.length < 1000 by omega) (by decide), same_upd ((s4.trans s5).trans s6) hU, acc ++ [.ref l], upd_same, by simp [hal], fun j z hz => ?_⟩
            rcases snoc_get hz with ⟨_, h1⟩ | ⟨h1, rfl⟩
            · exact (((haj j z h1).mono s5).mono s6).upd hU6
            · rw [h1, hal]
              refine RowT.upd ?_ hU6
              exact ⟨l, ac, rfl, SqT.of upd_same, hcl.trans nR, fun j x hx => (hcj j x hx).mono s6⟩
        · rintro H4 ⟨s4, acc, hacc, hal, haj⟩
          refine ⟨U, acc, rfl, Or.inl ⟨SqL.of hacc, fun l hl => ?_⟩⟩
          have s5 : Same H4 (upd H4 l (.tup acc)) := same_new hl
          refine k _ _ (((s2.trans s3).trans s4).trans s5) ⟨l, acc, rfl, SqT.of upd_same, hal.trans nR, fun j z hz => (haj j z hz).mono s5⟩
end
end W13
namespace W13
open PySem PySem.Spec PyProof.Rows L2
/-! ## enumerate of a tuple, zip of a list and a tuple -/
/-- the tuple at a, each item with its number in a new pair -/
def IteT (K : PySem.W.Frag) (a : Addr) : It :=
  ⟨fun i H => ∃ (xs : List V) (x : V), SqT K H a xs ∧ xs[i]? = some x,
   fun i H v H' => ∃ t x, v = .ref t ∧ H t = none ∧ H' = upd H t (.tup [.int (i : Nat), x]) ∧ ∀ xs, SqT K H a xs → xs[i]? = some x,
   fun i H => ∃ xs : List V, SqT K H a xs ∧ xs.length = i⟩
theorem enum_apart {h : Heap} {e it a : Addr} {c : Int} {old : Value} {its : Array Value} (he : IsEnum h e it c old) (p : IsTup h a its) : e ≠ a := fun q => by
  subst q
  obtain ⟨o, ho, hc, _⟩ := p
  have he' : h.get? e = some _ := he
  rw [ho] at he'
  cases he'
  exact absurd (Value.type.inj hc) (by decide)
theorem iter_apart {h : Heap} {it a : Addr} {i : Nat} {its : Array Value} (hi : h.IsTupleIter it a i) (p : IsTup h a its) : a ≠ it := fun q => by
  subst q
  obtain ⟨o, ho, hc, _⟩ := p
  obtain ⟨o', ho', hc', _⟩ := hi
  rw [ho] at ho'
  cases ho'
  rw [hc] at hc'
  exact absurd hc' (by decide)
theorem turn_enumT {P : Program} {w : World} {K : PySem.W.Frag} {elts : List Expr} {kk : Nat} {tpos : Pos} (a e it : Addr) :
    Turn P w K (.Tuple elts kk tpos) (IteT K a) [e, it] e (fun i h => (∃ old, IsEnum h e it ((i : Nat) : Int) old) ∧ h.IsTupleIter it a i ∧ e ≠ it) where
  mem := List.mem_cons_self
  obj := fun i h st b hb => by
    obtain ⟨⟨old, he⟩, ⟨o, ho, hc, hd⟩, _⟩ := st
    rcases (show b = e ∨ b = it by simpa using hb) with rfl | rfl
    · exact ⟨_, he, fun v q => nomatch q⟩
    · exact ⟨o, ho, fun v q => by rw [hd] at q; cases q⟩
  keep := fun i h h' st k => by
    obtain ⟨⟨old, he⟩, hi, hne⟩ := st
    exact ⟨⟨old, k e (by simp) _ he⟩, hi.at fun o q => k it (by simp) o q, hne⟩
  item := by
    intro X hP hw hK hc i pins s σ H E I hf st hg
    subst hP hw hK
    obtain ⟨⟨old, he⟩, hit, hne⟩ := st
    obtain ⟨xs, x, hq, hx⟩ := hg
    obtain ⟨its, rv, p, hz⟩ := I.tuple hq
    obtain ⟨u, hu, ru⟩ := rv.get hx
    have hea := enum_apart he p
    have hai := iter_apart hit p
    have hel : e < s.heap.objs.size := Heap.lt_size he
    have hil : it < s.heap.objs.size := by
      obtain ⟨_, q, _⟩ := hit
      exact Heap.lt_size q
    have hlt : i < its.toArray.size := by
      have := (List.getElem?_eq_some_iff.mp hu).1
      simpa using this
    have D := Draws.tuple (prog := X.prog) (w := X.w) (A := X.A.in1) (I.ok.hd hc) it a hai its.toArray
    refine wpAny_pyNext_enum_itemD D he ⟨hit, p⟩ hlt hne (by simp [hne, hea]) fun y h' tk hy ho hst hT hsz hk => ?_
    have ey : y = u := by
      have h1 : its.toArray[i]? = some y := hy
      rw [List.getElem?_toArray, hu] at h1
      exact (Option.some.inj h1).symm
    subst ey
    refine ⟨_, rfl, wpAny_letOwnedTupleGo_enum (s := { s with heap := h', toks := tk + 1 }) ho fun h'' he' sb => ?_⟩
    have hT2 : h''.get? s.heap.objs.size = some { cls := .type "tuple", data := .seq #[.int i tk, y] } := (sb.2 _ (Nat.ne_of_gt hel)).trans hT
    have new : ObjOk X.prog X.w (upd H s.heap.objs.size (.tup [.int (i : Nat), x])) h'' s.heap.objs.size (.tup [.int (i : Nat), x]) :=
      ⟨(show 2 ≤ sizeLine by decide), [.int i tk, y], .cons ⟨_, rfl⟩ (.cons ru .nil), ⟨_, hT2, rfl, _, rfl⟩⟩
    have I1 : Inv X pins σ (upd H s.heap.objs.size (.tup [.int (i : Nat), x])) { s with heap := h'', toks := tk + 1 } :=
      I.turnedNew (ch := [e, it]) (fun b ob hb q => (sb.2 b (fun z => hb (by simp [z]))).trans (hk b ob (fun z => hb (by simp [z])) (fun z => hb (by simp [z])) q)) hf (Nat.le_refl _) new
    refine ⟨.ref s.heap.objs.size, _, I1, rfl, ⟨_, x, rfl, I.hok.fresh (Nat.le_refl _), rfl, fun ys hy => by rw [I.tuple_inj hy hq]; exact hx⟩, ⟨⟨y, ?_⟩, hst.1.at fun o q => (sb.2 it (Ne.symm hne)).trans q, hne⟩, fun b hb => ?_⟩
    · rw [Int.natCast_add]
      exact he'
    · have hb' : b < s.heap.objs.size := by
        rcases (show b = e ∨ b = it by simpa using hb) with rfl | rfl
        · exact hel
        · exact hil
      rw [upd_ne (Nat.ne_of_lt hb')]
      exact (hf b hb).1
  done := by
    intro X hP hw hK hc i pins s σ H E I hf st hg
    subst hP hw hK
    obtain ⟨⟨old, he⟩, hit, hne⟩ := st
    obtain ⟨xs, hq, hx⟩ := hg
    obtain ⟨its, rv, p, hz⟩ := I.tuple hq
    obtain ⟨f0, f1, f2, f3, f4, f5⟩ := hf it (by simp)
    have hl := rv.length
    have D := Draws.tuple (prog := X.prog) (w := X.w) (A := X.A.in1) (I.ok.hd hc) it a (iter_apart hit p) its.toArray
    have hn : i = its.toArray.size := by simp; omega
    subst hn
    exact wpAny_pyNext_enum_endD D he ⟨hit, p⟩ fun h' eb => ⟨rfl, I.turned (t' := s.toks) (fun b o hb q => eb b o hb q) f0 f1 f3 f4 f5⟩
  self := fun A i s Q E st h => by
    obtain ⟨⟨_, he⟩, _⟩ := st
    exact wpAny_pyIter_enum he h
set_option maxHeartbeats 8000000 in
theorem meets_enum1 {v : Value} {o : Obj} {Hs : Heap → Prop} (B : Begins v o Hs) :
    Meets (Builtin.«enumerate.__new__» ⟨[.type "enumerate", v], []⟩) (fun _ R s => Hs s.heap ∧
      R (.ok (.ret (.ref (s.heap.push o).objs.size))) { s with heap := (s.heap.push o).push { cls := .type "enumerate", data := .fields #[.none, .bool false, .ref s.heap.objs.size, rawInt 0, .none, .none] } }) :=
  .of_wp fun prog w A R s h => by
    obtain ⟨hp, gg, dd, tk, os⟩ := s
    obtain ⟨h1, h⟩ := h
    have hsub := sub_enumerate
    have begun : ∀ {A' : Around} {E : Value → Shared → Prop} {Q : Value → Shared → Prop}, Q (.ref hp.objs.size) ⟨hp.push o, gg, dd, tk, os⟩ → wpAny (model prog w) A' (pyIter v) Q E ⟨hp, gg, dd, tk, os⟩ :=
      fun q => B.iter prog w _ _ ⟨hp, gg, dd, tk, os⟩ _ h1 q
    wp_walk using begun
    refine wpAny_stack_any fun st => wpAny_pure ?_
    split
    · rename_i c _ _ _ _ _
      cases (c == Value.type "enumerate") <;> (wp_walk using begun; exact ⟨_, rfl, h⟩)
    · wp_walk using begun; exact ⟨_, rfl, h⟩
theorem call_enum1 {prog : Program} {w : World} {A : Around} {E : Value → Shared → Prop} {s : Shared} {v : Value} {o : Obj} {Hs : Heap → Prop} {Q : Value → Shared → Prop} (B : Begins v o Hs) (h1 : Hs s.heap)
    (h : ∀ h', IsEnum h' (s.heap.objs.size + 1) s.heap.objs.size 0 .none → h'.get? s.heap.objs.size = some o → h'.objs.size = s.heap.objs.size + 2 → (∀ b u, s.heap.get? b = some u → h'.get? b = some u) → Q (.ref (s.heap.objs.size + 1)) { s with heap := h' }) :
    wpAny (model prog w) A (call (.type "enumerate") [v]) Q E s := by
  refine callType_new F.called_enumerate (by decide) (F.typeCall_enumerate_1 _) (F.newCall_enumerate_1 _) (fun obj => F.args_object_init_2 obj _) F.entry_enumerate_new (meets_enum1 B) ⟨h1, ?_⟩
  have z1 : (s.heap.push o).objs.size = s.heap.objs.size + 1 := Heap.size_push ..
  show _ ∧ _
  rw [z1]
  have g1 := Heap.get?_push_size (s.heap.push o) (o := { cls := .type "enumerate", data := .fields #[.none, .bool false, .ref s.heap.objs.size, rawInt 0, .none, .none] }) rfl
  rw [z1] at g1
  exact ⟨⟨_, g1, rfl⟩, h _ g1 (Heap.get?_push_of_some _ (Heap.get?_push_size _ B.free)) (by rw [Heap.size_push, z1]) fun b u x => Heap.get?_push_of_some _ (Heap.get?_push_of_some _ x)⟩
def iEnumT (K : PySem.W.Frag) (ta : TA) : TI := fun σ H R => ta σ H fun vs H1 => ∃ a xs, vs = [.ref a] ∧ SqT K H1 a xs ∧ R (IteT K a) H1
theorem pi_enumT {X : Cx} {e : Expr} {ta : TA} {p pos tpos : Pos} {elts : List Expr} {kk : Nat} (hg : Gl X "enumerate") (hm : X.mg "enumerate" = none) (ha : PA X [e] ta) (hs : starEach [e] X.env = [(false, eval e X.env)] := by rfl) :
    PI X (.Tuple elts kk tpos) (.Call (.Name "enumerate" p) [e] [] pos) (iEnumT X.K ta) := by
  refine ⟨fun pins s σ H R I h => ?_⟩
  refine Call_ (ld_blt I hg hm boot_enumerate (PyProof.Rows.callWith_type1 (thn (ha.run pos pins s σ H _ I h) fun us s1 ⟨vs, H1, I1, r1, q1⟩ => ?_) hs rfl))
  obtain ⟨a, xs, rfl, hq, q⟩ := q1
  obtain ⟨u, rfl, ru⟩ := vals1 r1
  cases ru
  obtain ⟨its, rv, p', hz⟩ := I1.tuple hq
  refine call_enum1 (begins_tuple a its.toArray) (show s1.heap.IsTuple a its.toArray from p') fun h' he ho hsz hk => wpAny_pyIter_enum he ?_
  have I2 : Inv X pins σ H1 { s1 with heap := h' } := I1.kept (t' := s1.toks) hk
  have new : ∀ b, b ∈ [s1.heap.objs.size + 1, s1.heap.objs.size] → FpOk X pins H1 b := fun b hb => by
    have hle : s1.heap.objs.size ≤ b := by
      rcases (show b = s1.heap.objs.size + 1 ∨ b = s1.heap.objs.size by simpa using hb) with z | z
      · rw [z]; exact Nat.le_succ _
      · rw [z]; exact Nat.le_refl _
    exact I1.fpOk hle (I1.hok.fresh hle)
  exact ⟨s1.heap.objs.size + 1, [s1.heap.objs.size + 1, s1.heap.objs.size], _, _, H1, rfl, I2, turn_enumT a (s1.heap.objs.size + 1) s1.heap.objs.size, ⟨⟨.none, he⟩, ⟨_, ho, rfl, rfl⟩, Nat.succ_ne_self _⟩, new, q⟩
/-- a loop over enumerate of a tuple -/
theorem for_enumT {K : PySem.W.Frag} {a : Addr} {xs : List V} {g : TG} {tb : TS} {D : Ends} {σ : L2.St} {H : Hp} (Pv : Nat → L2.St → Hp → Prop) (h0 : Pv 0 σ H) (hq : ∀ i σ H, Pv i σ H → SqT K H a xs)
    (hs : ∀ (i : Nat) (x : V) (t : Addr) (σ : L2.St) (H : Hp), xs[i]? = some x → Pv i σ H → H t = none → g (.ref t) σ (upd H t (.tup [.int (i : Nat), x])) fun σ2 H2 => tb { D with nx := Pv (i + 1), ct := Pv (i + 1), bk := D.nx } σ2 H2) (hd : ∀ σ H, Pv xs.length σ H → D.nx σ H) :
    ∃ W : Nat → Nat → L2.St → Hp → Prop, (∃ m, W 0 m σ H) ∧ ∀ i m σ H, W i m σ H →
      ((IteT K a).stop i H ∧ D.nx σ H) ∨ ((IteT K a).go i H ∧ ∃ N : L2.St → Hp → Prop, (∀ σ' H', N σ' H' → ∃ m', m' < m ∧ W (i + 1) m' σ' H') ∧ ∀ v H', (IteT K a).yld i H v H' → g v σ H' fun σ2 H2 => tb { D with nx := N, ct := N, bk := D.nx } σ2 H2) := by
  refine ⟨fun i m σ H => m = xs.length - i ∧ i ≤ xs.length ∧ Pv i σ H, ⟨xs.length, rfl, Nat.zero_le _, h0⟩, ?_⟩
  rintro i m σ H ⟨rfl, hi, p⟩
  have qx := hq i σ H p
  by_cases hlt : i < xs.length
  · refine .inr ⟨⟨xs, _, qx, List.getElem?_eq_getElem hlt⟩, Pv (i + 1), fun σ' H' p' => ⟨xs.length - (i + 1), by omega, rfl, hlt, p'⟩, fun v H' y => ?_⟩
    obtain ⟨t, x', rfl, hT, rfl, f1⟩ := y
    exact hs i x' t σ H (f1 xs qx) p hT
  · have e : i = xs.length := by omega
    subst e
    exact .inl ⟨⟨xs, qx, rfl⟩, hd σ H p⟩
/-- the list at a and the tuple at b, the items in new pairs -/
def ItzM (K : PySem.W.Frag) (a b : Addr) : It :=
  ⟨fun i H => ∃ (xs ys : List V) (x y : V), SqL K H a xs ∧ SqT K H b ys ∧ xs[i]? = some x ∧ ys[i]? = some y,
   fun i H v H' => ∃ t x y, v = .ref t ∧ H t = none ∧ H' = upd H t (.tup [x, y]) ∧ (∀ xs, SqL K H a xs → xs[i]? = some x) ∧ ∀ ys, SqT K H b ys → ys[i]? = some y,
   fun i H => ∃ xs ys : List V, SqL K H a xs ∧ SqT K H b ys ∧ xs.length = i ∧ ys.length = i⟩
theorem turn_zipM {P : Program} {w : World} {K : PySem.W.Frag} {elts : List Expr} {kk : Nat} {tpos : Pos} {a b z TI TO i1 i2 : Addr} (S : ZipSep2 z TI TO i1 i2 [i1, a] [i2, b]) (n1 : a ≠ i1) (n2 : b ≠ i2) :
    Turn P w K (.Tuple elts kk tpos) (ItzM K a b) [z, TI, TO, i1, i2] z (fun i h => IsZip h z TI TO .none ∧ IsTupOf2 h TI (.ref i1) (.ref i2) ∧ (∃ x y, IsTupOf2 h TO x y) ∧ h.IsListIter i1 a i ∧ h.IsTupleIter i2 b i) where
  mem := List.mem_cons_self
  obj := fun i h st c hc => by
    obtain ⟨hz, hTI, ⟨x, y, hTO⟩, ⟨o1, e1, _, d1⟩, ⟨o2, e2, _, d2⟩⟩ := st
    rcases (show c = z ∨ c = TI ∨ c = TO ∨ c = i1 ∨ c = i2 by simpa using hc) with q | q | q | q | q
    · rw [q]; exact ⟨_, hz, fun v q => nomatch q⟩
    · rw [q]; exact ⟨_, hTI, fun v q => nomatch q⟩
    · rw [q]; exact ⟨_, hTO, fun v q => nomatch q⟩
    · rw [q]; exact ⟨o1, e1, fun v q => by rw [d1] at q; cases q⟩
    · rw [q]; exact ⟨o2, e2, fun v q => by rw [d2] at q; cases q⟩
  keep := fun i h h' st k => by
    obtain ⟨hz, hTI, ⟨x, y, hTO⟩, h1, h2⟩ := st
    exact ⟨k z (by simp) _ hz, k TI (by simp) _ hTI, ⟨x, y, k TO (by simp) _ hTO⟩, h1.at fun o q => k i1 (by simp) o q, h2.at fun o q => k i2 (by simp) o q⟩
  item := by
    intro X hP hw hK hc i pins s σ H E I hf st hg
    subst hP hw hK
    obtain ⟨hz, hTI, ⟨x0, y0, hTO⟩, h1, h2⟩ := st
    obtain ⟨xs, ys, x, y, hqx, hqy, hx, hy⟩ := hg
    obtain ⟨its, rv, p, _⟩ := I.list hqx
    obtain ⟨its2, rv2, p2, _⟩ := I.tuple hqy
    obtain ⟨u, hu, ru⟩ := rv.get hx
    obtain ⟨u2, hu2, ru2⟩ := rv2.get hy
    have hzl : z < s.heap.objs.size := Heap.lt_size hz
    have lt1 : i < its.toArray.size := by
      have := (List.getElem?_eq_some_iff.mp hu).1
      simpa using this
    have lt2 : i < its2.toArray.size := by
      have := (List.getElem?_eq_some_iff.mp hu2).1
      simpa using this
    have D1 := Draws.list (prog := X.prog) (w := X.w) (A := X.A.in1) (I.ok.hd hc) i1 a n1 its.toArray
    have D2 := Draws.tuple (prog := X.prog) (w := X.w) (A := X.A.in1) (I.ok.hd hc) i2 b n2 its2.toArray
    refine wpAny_pyNext_zipD2_item S D1 D2 hz hTI hTO ⟨h1, p.isList⟩ ⟨h2, p2⟩ lt1 lt2 fun v1 v2 h' tk hv1 hv2 z' TO' st1 st2 hT hsz hk => ?_
    have q1 : v1 = u := by
      have h0 : its.toArray[i]? = some v1 := hv1
      rw [List.getElem?_toArray, hu] at h0
      exact (Option.some.inj h0).symm
    have q2 : v2 = u2 := by
      have h0 : its2.toArray[i]? = some v2 := hv2
      rw [List.getElem?_toArray, hu2] at h0
      exact (Option.some.inj h0).symm
    subst q1
    subst q2
    refine ⟨_, rfl, wpAny_letOwnedTupleGo_zip (s := { s with heap := h', toks := tk }) z' fun h'' z'' sb => ?_⟩
    have hT2 : h''.get? s.heap.objs.size = some { cls := .type "tuple", data := .seq #[v1, v2] } := (sb.2 _ (Nat.ne_of_gt hzl)).trans hT
    have new : ObjOk X.prog X.w (upd H s.heap.objs.size (.tup [x, y])) h'' s.heap.objs.size (.tup [x, y]) :=
      ⟨(show 2 ≤ sizeLine by decide), [v1, v2], .cons ru (.cons ru2 .nil), ⟨_, hT2, rfl, _, rfl⟩⟩
    have I1 : Inv X pins σ (upd H s.heap.objs.size (.tup [x, y])) { s with heap := h'', toks := tk } :=
      I.turnedNew (ch := [z, TI, TO, i1, i2]) (fun c o hb q => (sb.2 c (fun q' => hb (by simp [q']))).trans (hk c o (fun q' => hb (by simp [q'])) (fun q' => hb (by simp [q'])) (fun q' => hb (by simp [q'])) (fun q' => hb (by simp [q'])) q)) hf (Nat.le_refl _) new
    refine ⟨.ref s.heap.objs.size, _, I1, rfl, ⟨_, x, y, rfl, I.hok.fresh (Nat.le_refl _), rfl, fun l hl => by rw [I.list_inj hl hqx]; exact hx, fun l hl => by rw [I.tuple_inj hl hqy]; exact hy⟩, ⟨z'', ?_, ⟨v1, v2, ?_⟩, ?_, ?_⟩, fun c hcm => ?_⟩
    · exact (sb.2 _ S.TIz).trans (hk _ _ S.TIz S.TITO S.TIi1 S.TIi2 hTI)
    · exact (sb.2 _ S.TOz).trans TO'
    · exact st1.1.at fun o q => (sb.2 _ (fun e => S.zf1 (by rw [← e]; simp))).trans q
    · exact st2.1.at fun o q => (sb.2 _ (fun e => S.zf2 (by rw [← e]; simp))).trans q
    · have hlt : c < s.heap.objs.size := by
        rcases (show c = z ∨ c = TI ∨ c = TO ∨ c = i1 ∨ c = i2 by simpa using hcm) with q | q | q | q | q
        · rw [q]; exact hzl
        · rw [q]; exact Heap.lt_size hTI
        · rw [q]; exact Heap.lt_size hTO
        · rw [q]; obtain ⟨_, e1, _⟩ := h1; exact Heap.lt_size e1
        · rw [q]; obtain ⟨_, e2, _⟩ := h2; exact Heap.lt_size e2
      rw [upd_ne (Nat.ne_of_lt hlt)]
      exact (hf c hcm).1
  done := by
    intro X hP hw hK hc i pins s σ H E I hf st hg
    subst hP hw hK
    obtain ⟨hz, hTI, ⟨x0, y0, hTO⟩, h1, h2⟩ := st
    obtain ⟨xs, ys, hqx, hqy, e1, e2⟩ := hg
    obtain ⟨its, rv, p, _⟩ := I.list hqx
    obtain ⟨its2, rv2, p2, _⟩ := I.tuple hqy
    have l1 := rv.length
    have l2 := rv2.length
    have D1 := Draws.list (prog := X.prog) (w := X.w) (A := X.A.in1) (I.ok.hd hc) i1 a n1 its.toArray
    have D2 := Draws.tuple (prog := X.prog) (w := X.w) (A := X.A.in1) (I.ok.hd hc) i2 b n2 its2.toArray
    have s1 : its.toArray.size = i := by simp; omega
    have s2 : its2.toArray.size = i := by simp; omega
    exact wpAny_pyNext_zipD2_end S D1 D2 hz hTI hTO ⟨h1, p.isList⟩ ⟨h2, p2⟩ (by omega) (by omega) (.inl s1.symm) fun h' tk hk => ⟨rfl, I.turnedL (t' := tk) (ch := [z, TI, TO, i1, i2]) (fun c o hb q =>
      hk c o (fun q' => hb (by simp [q'])) (fun q' => hb (by simp [q'])) (fun q' => hb (by simp [q'])) (fun q' => hb (by simp [q'])) q) hf⟩
  self := fun A i s Q E st h => wpAny_pyIter_zip st.1 h
def iZipM (K : PySem.W.Frag) (ta : TA) : TI := fun σ H R => ta σ H fun vs H1 => ∃ a b xs ys, vs = [.ref a, .ref b] ∧ SqL K H1 a xs ∧ SqT K H1 b ys ∧ R (ItzM K a b) H1
theorem pi_zipM {X : Cx} {e e2 : Expr} {ta : TA} {p pos tpos : Pos} {elts : List Expr} {kk : Nat} (hg : Gl X "zip") (hm : X.mg "zip" = none) (ha : PA X [e, e2] ta)
    (hs : starEach [e, e2] X.env = (false, eval e X.env) :: starEach [e2] X.env := by rfl) (hpl : (backTo pos (starEach [e2] X.env)).any (·.1) = false := by rfl) :
    PI X (.Tuple elts kk tpos) (.Call (.Name "zip" p) [e, e2] [] pos) (iZipM X.K ta) := by
  refine ⟨fun pins s σ H R I h => ?_⟩
  refine Call_ (ld_blt I hg hm PyProof.Rows.boot_zip (PyProof.Rows.callWith_type1 (thn (ha.run pos pins s σ H _ I h) fun us s1 ⟨vs, H1, I1, r1, q1⟩ => ?_) hs hpl))
  obtain ⟨a, b, xs, ys, rfl, hqx, hqy, q⟩ := q1
  obtain ⟨u1, u2, rfl, ru1, ru2⟩ := vals2 r1
  cases ru1
  cases ru2
  obtain ⟨its, rv, p1, _⟩ := I1.list hqx
  obtain ⟨its2, rv2, p2, _⟩ := I1.tuple hqy
  have la : a < s1.heap.objs.size := by
    obtain ⟨o, _, ho, _⟩ := p1
    exact Heap.lt_size ho
  have lb : b < s1.heap.objs.size := by
    obtain ⟨o, ho, _⟩ := p2
    exact Heap.lt_size ho
  refine zip_begins2 (begins_list a its.toArray) (begins_tuple b its2.toArray) p1.isList (show s1.heap.IsTuple b its2.toArray from p2) fun h' hz hTI hTO o1 o2 hsz hk => wpAny_pyIter_zip hz ?_
  have I2 : Inv X pins σ H1 { s1 with heap := h' } := I1.kept (t' := s1.toks) hk
  have S := zip_sep2 (N := s1.heap.objs.size) (fp1 := [a]) (fp2 := [b]) (fun c hc => by rw [List.mem_singleton.mp hc]; exact la) (fun c hc => by rw [List.mem_singleton.mp hc]; exact lb)
  have new : ∀ c, c ∈ [s1.heap.objs.size + 4, s1.heap.objs.size + 2, s1.heap.objs.size + 3, s1.heap.objs.size, s1.heap.objs.size + 1] → FpOk X pins H1 c := fun c hc => by
    have hle : s1.heap.objs.size ≤ c := by
      rcases (show c = s1.heap.objs.size + 4 ∨ c = s1.heap.objs.size + 2 ∨ c = s1.heap.objs.size + 3 ∨ c = s1.heap.objs.size ∨ c = s1.heap.objs.size + 1 by simpa using hc) with q | q | q | q | q
      · rw [q]; exact Nat.le_add_right _ _
      · rw [q]; exact Nat.le_add_right _ _
      · rw [q]; exact Nat.le_add_right _ _
      · rw [q]; exact Nat.le_refl _
      · rw [q]; exact Nat.le_add_right _ _
    exact I1.fpOk hle (I1.hok.fresh hle)
  exact ⟨s1.heap.objs.size + 4, [s1.heap.objs.size + 4, s1.heap.objs.size + 2, s1.heap.objs.size + 3, s1.heap.objs.size, s1.heap.objs.size + 1], _, _, H1, rfl, I2, turn_zipM S (Nat.ne_of_lt la) (Nat.ne_of_lt (Nat.lt_succ_of_lt lb)), ⟨hz, hTI, ⟨_, _, hTO⟩, ⟨_, o1, rfl, rfl⟩, ⟨_, o2, rfl, rfl⟩⟩, new, q⟩
theorem for_zipM {K : PySem.W.Frag} {a b : Addr} {xs ys : List V} {g : TG} {tb : TS} {D : Ends} {σ : L2.St} {H : Hp} (hl : xs.length = ys.length) (Pv : Nat → L2.St → Hp → Prop) (h0 : Pv 0 σ H) (hq : ∀ i σ H, Pv i σ H → SqL K H a xs ∧ SqT K H b ys)
    (hs : ∀ (i : Nat) (x y : V) (t : Addr) (σ : L2.St) (H : Hp), xs[i]? = some x → ys[i]? = some y → Pv i σ H → H t = none → g (.ref t) σ (upd H t (.tup [x, y])) fun σ2 H2 => tb { D with nx := Pv (i + 1), ct := Pv (i + 1), bk := D.nx } σ2 H2) (hd : ∀ σ H, Pv xs.length σ H → D.nx σ H) :
    ∃ W : Nat → Nat → L2.St → Hp → Prop, (∃ m, W 0 m σ H) ∧ ∀ i m σ H, W i m σ H →
      ((ItzM K a b).stop i H ∧ D.nx σ H) ∨ ((ItzM K a b).go i H ∧ ∃ N : L2.St → Hp → Prop, (∀ σ' H', N σ' H' → ∃ m', m' < m ∧ W (i + 1) m' σ' H') ∧ ∀ v H', (ItzM K a b).yld i H v H' → g v σ H' fun σ2 H2 => tb { D with nx := N, ct := N, bk := D.nx } σ2 H2) := by
  refine ⟨fun i m σ H => m = xs.length - i ∧ i ≤ xs.length ∧ Pv i σ H, ⟨xs.length, rfl, Nat.zero_le _, h0⟩, ?_⟩
  rintro i m σ H ⟨rfl, hi, p⟩
  obtain ⟨qx, qy⟩ := hq i σ H p
  by_cases hlt : i < xs.length
  · refine .inr ⟨⟨xs, ys, _, _, qx, qy, List.getElem?_eq_getElem hlt, List.getElem?_eq_getElem (show i < ys.length by omega)⟩, Pv (i + 1), fun σ' H' p' => ⟨xs.length - (i + 1), by omega, rfl, hlt, p'⟩, fun v H' y => ?_⟩
    obtain ⟨t, x', y', rfl, hT, rfl, f1, f2⟩ := y
    exact hs i x' y' t σ H (f1 xs qx) (f2 ys qy) p hT
  · have e : i = xs.length := by omega
    subst e
    exact .inl ⟨⟨xs, ys, qx, qy, rfl, hl.symm⟩, hd σ H p⟩
end W13
namespace W13
open PySem L2
/-! ## nets -/
theorem two_mul (j : Int) : CMul 2 j := .inl ⟨by decide, by decide⟩
/-- the turns -/
def TurnsV (K : PySem.W.Frag) (H : Hp) (ts : List V) (T : List (List Nat)) : Prop := ts.length = T.length ∧ ∀ (i : Nat) x t, ts[i]? = some x → T[i]? = some t → ∃ d, x = .ref d ∧ SqT K H d (nats t)
theorem TurnsV.mono {K : PySem.W.Frag} {H H' : Hp} {ts : List V} {T : List (List Nat)} (h : TurnsV K H ts T) (e : Same H H') : TurnsV K H' ts T :=
  ⟨h.1, fun i x t h1 h2 => by
    obtain ⟨d, q1, q2⟩ := h.2 i x t h1 h2
    exact ⟨d, q1, Same.tup e q2⟩⟩
/-- ratios as values -/
def RatsV (K : PySem.W.Frag) (H : Hp) (qs : List V) (am : List Rat) : Prop := qs.length = am.length ∧ ∀ (i : Nat) x q, qs[i]? = some x → am[i]? = some q → RatV K H x q
theorem RatsV.mono {K : PySem.W.Frag} {H H' : Hp} {qs : List V} {am : List Rat} (h : RatsV K H qs am) (e : Same H H') : RatsV K H' qs am :=
  ⟨h.1, fun i x t h1 h2 => (h.2 i x t h1 h2).mono e⟩
def NetV (K : PySem.W.Frag) (H : Hp) (v : V) (rim : Nat) (T : List (List Nat)) (am : List Rat) : Prop :=
  ∃ a b c ts qs, v = .ref a ∧ SqT K H a [.int (rim : Int), .ref b, .ref c] ∧ SqT K H b ts ∧ TurnsV K H ts T ∧ SqT K H c qs ∧ RatsV K H qs am
theorem NetV.mono {K : PySem.W.Frag} {H H' : Hp} {v : V} {rim : Nat} {T : List (List Nat)} {am : List Rat} (h : NetV K H v rim T am) (e : Same H H') : NetV K H' v rim T am := by
  obtain ⟨a, b, c, ts, qs, h0, h1, h2, h3, h4, h5⟩ := h
  exact ⟨a, b, c, ts, qs, h0, Same.tup e h1, Same.tup e h2, h3.mono e, Same.tup e h4, h5.mono e⟩
/-- the places of the darts so far: the turns before i, of turn i the first t darts -/
def plc (T : List (List Nat)) (n i t : Nat) : List V := (List.range (2 * n)).map fun d => V.int (if K13.ndOf T d < i ∨ (K13.ndOf T d = i ∧ ∃ s, T[i]? = some s ∧ d ∈ s.take t) then (K13.ndOf T d : Int) + 1 else 0)
theorem plc_len {T : List (List Nat)} {n i t : Nat} : (plc T n i t).length = 2 * n := by simp [plc]
theorem plc_get {T : List (List Nat)} {n i t d : Nat} (h : d < 2 * n) : (plc T n i t)[d]? = some (V.int (if K13.ndOf T d < i ∨ (K13.ndOf T d = i ∧ ∃ s, T[i]? = some s ∧ d ∈ s.take t) then (K13.ndOf T d : Int) + 1 else 0)) := by
  unfold plc
  rw [List.getElem?_map, List.getElem?_range h]
  rfl
theorem plc_zero {T : List (List Nat)} {n : Nat} : plc T n 0 0 = List.replicate (2 * n) (V.int 0) := by
  apply List.ext_getElem?
  intro d
  by_cases h : d < 2 * n
  · rw [plc_get h, List.getElem?_replicate, if_pos h, if_neg]
    rintro (q | ⟨_, s, _, q⟩)
    · omega
    · simp at q
  · rw [List.getElem?_eq_none (by rw [plc_len]; omega), List.getElem?_eq_none (by simp; omega)]
theorem plc_next {T : List (List Nat)} {n i : Nat} {s : List Nat} (h : T[i]? = some s) (W : ∀ d, d ∈ s → K13.ndOf T d = i) (W2 : ∀ d, d < 2 * n → K13.ndOf T d = i → d ∈ s) : plc T n i s.length = plc T n (i + 1) 0 := by
  unfold plc
  refine List.map_congr_left fun d hd => ?_
  congr 1
  have hd := List.mem_range.mp hd
  have e : (K13.ndOf T d < i ∨ (K13.ndOf T d = i ∧ ∃ s', T[i]? = some s' ∧ d ∈ s'.take s.length)) ↔ (K13.ndOf T d < i + 1 ∨ (K13.ndOf T d = i + 1 ∧ ∃ s', T[i + 1]? = some s' ∧ d ∈ s'.take 0)) := by
    constructor
    · rintro (q | ⟨q, _⟩) <;> exact .inl (by omega)
    · rintro (q | ⟨_, s', _, q⟩)
      · by_cases z : K13.ndOf T d = i
        · exact .inr ⟨z, s, h, by rw [List.take_length]; exact W2 d hd z⟩
        · exact .inl (by omega)
      · simp at q
  by_cases q : (K13.ndOf T d < i + 1 ∨ (K13.ndOf T d = i + 1 ∧ ∃ s', T[i + 1]? = some s' ∧ d ∈ s'.take 0))
  · rw [if_pos q, if_pos (e.mpr q)]
  · rw [if_neg q, if_neg (fun z => q (e.mp z))]
theorem plc_step {T : List (List Nat)} {n i t d : Nat} {s : List Nat} (h : T[i]? = some s) (hd : s[t]? = some d) (hn : K13.ndOf T d = i) (hlt : d < 2 * n) : (plc T n i t).set d (V.int ((i : Int) + 1)) = plc T n i (t + 1) := by
  apply List.ext_getElem?
  intro x
  by_cases hx : x < 2 * n
  · rw [plc_get hx]
    have tk : s.take (t + 1) = s.take t ++ [d] := by
      rw [List.take_succ, hd]
      rfl
    by_cases q : x = d
    · subst q
      rw [List.getElem?_set_self (by rw [plc_len]; exact hx), if_pos (.inr ⟨hn, s, h, by rw [tk]; simp⟩), hn]
    · rw [List.getElem?_set_ne (fun e => q e.symm), plc_get hx]
      congr 2
      have e : (K13.ndOf T x < i ∨ (K13.ndOf T x = i ∧ ∃ s', T[i]? = some s' ∧ x ∈ s'.take t)) ↔ (K13.ndOf T x < i ∨ (K13.ndOf T x = i ∧ ∃ s', T[i]? = some s' ∧ x ∈ s'.take (t + 1))) := by
        constructor
        · rintro (z | ⟨z, s', h1, h2⟩)
          · exact .inl z
          · rw [h] at h1
            cases h1
            exact .inr ⟨z, s, h, by rw [tk]; simp [h2]⟩
        · rintro (z | ⟨z, s', h1, h2⟩)
          · exact .inl z
          · rw [h] at h1
            cases h1
            rw [tk] at h2
            rcases List.mem_append.mp h2 with h2 | h2
            · exact .inr ⟨z, s, h, h2⟩
            · exact absurd (by simpa using h2) q
      by_cases z : (K13.ndOf T x < i ∨ (K13.ndOf T x = i ∧ ∃ s', T[i]? = some s' ∧ x ∈ s'.take (t + 1)))
      · rw [if_pos z, if_pos (e.mpr z)]
      · rw [if_neg z, if_neg (fun y => z (e.mp y))]
  · rw [List.getElem?_eq_none (by rw [List.length_set, plc_len]; omega), List.getElem?_eq_none (by rw [plc_len]; omega)]
theorem plc_end {rim n : Nat} {T : List (List Nat)} (W : K13.WF rim T n) : plc T n T.length 0 = (List.range (2 * n)).map fun d => V.int ((K13.ndOf T d : Int) + 1) := by
  unfold plc
  refine List.map_congr_left fun d hd => ?_
  rw [if_pos (.inl (K13.ndOf_lt W (List.mem_range.mp hd)))]
def spNodes (K : PySem.W.Frag) : Sp := fun vs H Q _ => ∃ (v : V) (rim n : Nat) (T : List (List Nat)) (am : List Rat), vs = [v] ∧ NetV K H v rim T am ∧ K13.WF rim T n ∧ am.length = n ∧ n ≤ 9 ∧
  ∀ p H', Same H H' → H p = none → H' p = some (.lst ((List.range (2 * n)).map fun d => V.int ((K13.ndOf T d : Int) + 1))) → Q (.ref p) H'
section
variable {P : Program} {w : World} {K : PySem.W.Frag} {mg : Str → Option Value} {base : Heap} {uS uG : Value} {aZ aO : Addr}
abbrev s_nodes_of : Stmt := top 2
theorem sc_nodes_of : FnScope ["net", "places", "at", "turn", "dart"] ["net"] (defScope s_nodes_of) := ⟨rfl, rfl, rfl, by decide +kernel, rfl, by decide +kernel, by decide +kernel⟩
theorem ok_nodes_of {f : Addr} {fd : FuncData} (F : Fun K "nodes_of" "nodes_of" s_nodes_of f fd) (T : Txt K mg uS uG aZ aO) : FnOk P w K mg base CX0 1 f fd ["net"] (spNodes K) := by
  refine F.ok sc_nodes_of (fun vs H Q E h => ?_) (fun cdv A outer s H vs Q E hr h => ?_)
  · obtain ⟨v, rim, n, T0, am, rfl, _⟩ := h
    rfl
  · obtain ⟨v, rim, n, T0, am, rfl, ⟨a, b, c, ts, qs, rfl, ha, hb, ht, hc, hq⟩, W, hal, hn9, k⟩ := h
    have nd := sc_nodes_of.nd
    refine ⟨_,
      (pss_cons
        (ps_set (i := 1) nd rfl (by first | exact Or.inl rfl | exact Or.inr rfl) (pe_op op_rep (pe_lst (pa_cons pe_int pa_nil)) (pe_op op_mul pe_int (pe_callB call_len_seq (by rfl) T.len PySem.boot_len (pa_cons (pe_ix ix_tup (pv 0) pe_int (fun _ _ => rfl)) pa_nil)))))
      (pss_cons
        (ps_for PassesOwn.never rfl (pi_enumT (by rfl) T.enumerate (pa_cons (pe_ix ix_tup (pv 0) pe_int (fun _ _ => rfl)) pa_nil)) (pg_tup rfl (pgs_cons (pg_name (i := 2) nd rfl (by first | exact Or.inl rfl | exact Or.inr rfl)) (pgs_cons (pg_name (i := 3) nd rfl (by first | exact Or.inl rfl | exact Or.inr rfl)) pgs_nil)))
          (pss_one
            (ps_for PassesOwn.never rfl (pi_tup (pv 3)) (pg_name (i := 4) nd rfl (by first | exact Or.inl rfl | exact Or.inr rfl))
              (pss_one
                (ps_asg (pe_op op_add (pv 2) pe_int) (pg_sub (pv 1) (pv 4) set_list))))))
      (pss_one
        (ps_ret (pv 1))))), ?_⟩
    have hql : qs.length = n := hq.1.trans hal
    refine ⟨(by show 1 ≤ sizeLine; decide), fun l0 hl0 => ?_⟩
    have s0 : Same H (upd H l0 (.lst [.int 0])) := same_new hl0
    refine ⟨_, rfl, a, _, _, _, rfl, rfl, Same.tup s0 ha, rfl, c, qs, rfl, Or.inr (Same.tup s0 hc), _, _, rfl, rfl, two_mul _, ?_⟩
    refine ⟨l0, _, _, rfl, rfl, upd_same, by omega, by omega, ?_, fun p hp => ?_⟩
    · have : ([V.int 0] : List V).length * ((2 : Int) * (qs.length : Int)).toNat ≤ 100 := by show 1 * _ ≤ 100; omega
      exact Nat.le_trans this (by decide)
    have hp0 : H p = none := s0.free hp
    have e0 : (List.replicate ((2 : Int) * (qs.length : Int)).toNat [V.int 0]).flatten = plc T0 n 0 0 := by
      have : ((2 : Int) * (qs.length : Int)).toNat = 2 * n := by omega
      rw [this, plc_zero]
      induction (2 * n) with
      | zero => rfl
      | succ m ih => rw [List.replicate_succ, List.replicate_succ, List.flatten_cons, ih]; rfl
    rw [e0]
    have s1 : Same H (upd (upd H l0 (.lst [.int 0])) p (.lst (plc T0 n 0 0))) := s0.trans (same_new hp)
    refine ⟨_, rfl, a, _, _, _, rfl, rfl, Same.tup s1 ha, rfl, b, ts, rfl, Same.tup s1 hb, for_enumT (K := K) (a := b) (xs := ts) (fun i σ H2 => Same H H2 ∧ H2 p = some (.lst (plc T0 n i 0)) ∧ ∃ v2 v3 v4, σ = [some (.ref a), some (.ref p), v2, v3, v4])
      ⟨s1, upd_same, none, none, none, rfl⟩ (fun i σ H2 ⟨s2, _⟩ => Same.tup s2 hb) ?_ ?_⟩
    · rintro i x t σ H2 hx ⟨s2, hp2, v2, v3, v4, rfl⟩ hT
      have hi : i < T0.length := by have := (List.getElem?_eq_some_iff.mp hx).1; have := ht.1; omega
      have eT : T0[i]? = some T0[i] := List.getElem?_eq_getElem hi
      generalize T0[i] = tu at eT
      obtain ⟨d, rfl, hd⟩ := ht.2 i x tu hx eT
      have s3 : Same H2 (upd H2 t (.tup [.int (i : Nat), .ref d])) := same_new hT
      have hp3 := s3 _ _ hp2
      have hd3 := Same.tup (s2.trans s3) hd
      have W1 : ∀ x, x ∈ tu → K13.ndOf T0 x = i := fun x hx => K13.ndOf_eq W eT hx
      have W2 : ∀ x, x < 2 * n → K13.ndOf T0 x = i → x ∈ tu := fun x hx e => by
        obtain ⟨s', h1, h2⟩ := K13.ndOf_spec W hx
        rw [e, eT] at h1
        cases h1
        exact h2
      refine ⟨t, _, rfl, SqT.of upd_same, rfl, _, _, rfl, _, _, rfl, rfl, ?_⟩
      refine ⟨_, rfl, d, rfl, ⟨_, hd3⟩, for_tup (K := K) (a := d) (xs := nats tu) (fun j σ H4 => Same H H4 ∧ H4 p = some (.lst (plc T0 n i j)) ∧ ∃ v4, σ = [some (.ref a), some (.ref p), some (.int (i : Nat)), some (.ref d), v4])
        ⟨s2.trans s3, hp3, _, rfl⟩ (fun j σ H4 _ ⟨s4, _⟩ => Same.tup s4 hd) ?_ ?_⟩
      · rintro j y σ H4 hy ⟨s4, hp4, v4, rfl⟩
        obtain ⟨m, hm, rfl⟩ := nats_get hy
        have hmt := List.mem_of_getElem? hm
        have hml := W.lt eT hmt
        refine ⟨_, rfl, _, _, rfl, rfl, _, rfl, _, rfl, p, _, _, _, rfl, rfl, hp4, ixN_nat (by rw [plc_len]; exact hml), ?_⟩
        refine ⟨same_upd s4 hp0, ?_, _, rfl⟩
        rw [upd_same, plc_step eT hm (W1 m hmt) hml]
      · rintro σ H4 ⟨s4, hp4, v4, rfl⟩
        have el : (nats tu).length = tu.length := by unfold nats; rw [List.length_map]
        rw [el, plc_next eT W1 W2] at hp4
        exact ⟨s4, hp4, _, _, _, rfl⟩
    · rintro σ H2 ⟨s2, hp2, v2, v3, v4, rfl⟩
      rw [ht.1, plc_end W] at hp2
      exact ⟨_, rfl, k p H2 s2 hp0 hp2⟩
/-- the ends of the edges, as pairs -/
def EndsV (K : PySem.W.Frag) (H : Hp) (vs : List V) (E : List (Nat × Nat)) : Prop := vs.length = E.length ∧ ∀ (k : Nat) x e, vs[k]? = some x → E[k]? = some e → ∃ t, x = .ref t ∧ SqT K H t [.int ((e.1 : Int) + 1), .int ((e.2 : Int) + 1)]
theorem EndsV.mono {H H' : Hp} {vs : List V} {E : List (Nat × Nat)} (h : EndsV K H vs E) (e : Same H H') : EndsV K H' vs E :=
  ⟨h.1, fun i x t h1 h2 => by
    obtain ⟨d, q1, q2⟩ := h.2 i x t h1 h2
    exact ⟨d, q1, Same.tup e q2⟩⟩
def spEnds (K : PySem.W.Frag) : Sp := fun vs H Q _ => ∃ (v : V) (rim n : Nat) (T : List (List Nat)) (am : List Rat), vs = [v] ∧ NetV K H v rim T am ∧ K13.WF rim T n ∧ am.length = n ∧ n ≤ 9 ∧
  ∀ p es H', Same H H' → H p = none → H' p = some (.lst es) → EndsV K H' es (K13.endsT T n) → Q (.ref p) H'
abbrev s_ends_of : Stmt := top 3
theorem sc_ends_of : FnScope ["net", "places", "k"] ["net"] (defScope s_ends_of) := ⟨rfl, rfl, rfl, by decide +kernel, rfl, by decide +kernel, by decide +kernel⟩
theorem ok_ends_of {f : Addr} {fd : FuncData} (F : Fun K "ends_of" "ends_of" s_ends_of f fd) (T : Txt K mg uS uG aZ aO) (DN : Df P w K mg base 1 "nodes_of" ["net"] (spNodes K)) : FnOk P w K mg base CX0 2 f fd ["net"] (spEnds K) := by
  obtain ⟨_, _, G_nodes_of, C_nodes_of⟩ := DN
  refine F.ok sc_ends_of (fun vs H Q E h => ?_) (fun cdv A outer s H vs Q E hr h => ?_)
  · obtain ⟨v, rim, n, T0, am, rfl, _⟩ := h
    rfl
  · obtain ⟨v, rim, n, T0, am, rfl, hv, W, hal, hn9, k⟩ := h
    have nd := sc_ends_of.nd
    refine ⟨_,
      (pss_cons
        (ps_set (i := 1) nd rfl (by first | exact Or.inl rfl | exact Or.inr rfl) (pe_call G_nodes_of (hr.mono (by decide)) rfl C_nodes_of.m C_nodes_of.kp C_nodes_of.b .nil pass0 (pa_cons (pv 0) pa_nil)))
      (pss_one
        (ps_ret (pe_lc (own := [("k", 2)]) (g := gName 2) (te := tTup (tCons (tOp (rIxL K) (tVar 1) (tOp (rI CMul fun i j => .int (i * j)) (tC (.int 2)) (tVar 2))) (tCons (tOp (rIxL K) (tVar 1) (tOp (rI0 fun i j => .int (i + j)) (tOp (rI CMul fun i j => .int (i * j)) (tC (.int 2)) (tVar 2)) (tC (.int 1)))) tNil))) rfl nd (pi_range1 rfl T.range (pa_cons (pe_callB call_len_seq (by rfl) T.len PySem.boot_len (pa_cons (pe_ix ix_tup (pv 0) pe_int (fun _ _ => rfl)) pa_nil)) pa_nil)) (blkOk_by (N := ["net", "places", "k"]) (sc := defScope s_ends_of) (by decide +kernel))
      (fun _ _ _ _ _ => pg_name (i := 2) nd rfl (by first | exact Or.inl rfl | exact Or.inr rfl)) (fun _ _ _ _ _ => pts_nil)
      (fun _ _ _ _ _ => (pe_tup (pa_cons (pe_ix ix_list (pv 1) (pe_op op_mul pe_int (pv 2)) (fun _ _ => rfl)) (pa_cons (pe_ix ix_list (pv 1) (pe_op op_add (pe_op op_mul pe_int (pv 2)) pe_int) (fun _ _ => rfl)) pa_nil)))))))), ?_⟩
    refine ⟨_, rfl, v, rim, n, T0, am, rfl, hv, W, hal, hn9, fun p H1 s1 hp0 hp1 => ?_⟩
    obtain ⟨a, b, c, ts, qs, rfl, ha, hb, ht, hc, hq⟩ := hv.mono s1
    have hql : qs.length = n := hq.1.trans hal
    refine ⟨_, rfl, a, _, _, _, rfl, rfl, ha, rfl, c, qs, rfl, Or.inr hc, (qs.length : Int), rfl, by omega, by omega, fun D hD => ?_⟩
    have eget : ∀ {d : Nat}, d < 2 * n → ((List.range (2 * n)).map fun d => V.int ((K13.ndOf T0 d : Int) + 1))[d]? = some (V.int ((K13.ndOf T0 d : Int) + 1)) := fun {d} h => by
      rw [List.getElem?_map, List.getElem?_range h]
      rfl
    refine lc_range (lo := 0) (n := ((qs.length : Nat) : Int).toNat) (fun i H2 => Same H1 H2 ∧ ∃ acc, H2 D = some (.lst acc) ∧ acc.length = i ∧ ∀ (k : Nat) x, acc[k]? = some x → ∃ t, x = .ref t ∧ SqT K H2 t [.int ((K13.ndOf T0 (2 * k) : Int) + 1), .int ((K13.ndOf T0 (2 * k + 1) : Int) + 1)])
      ⟨same_new hD, [], upd_same, rfl, fun j z h => by cases h⟩ ?_ ?_
    · rintro i H2 hi ⟨s2, acc, hacc, hal2, haj⟩
      have hin : i < n := by omega
      rw [Int.zero_add]
      have hp2 := s2 _ _ hp1
      refine ⟨rfl, ?_⟩
      refine ⟨_, rfl, _, rfl, _, _, rfl, rfl, two_mul _, p, _, _, _, rfl, rfl, SqL.of hp2, at_of (j := 2 * i) (by omega) (eget (by omega)), ?_⟩
      refine ⟨_, rfl, _, rfl, _, _, rfl, rfl, two_mul _, _, _, rfl, rfl, p, _, _, _, rfl, rfl, SqL.of hp2, at_of (j := 2 * i + 1) (by omega) (eget (by omega)), (by show 2 ≤ sizeLine; decide), fun t ht => ?_⟩
      have s3 : Same H2 (upd H2 t (.tup [.int ((K13.ndOf T0 (2 * i) : Int) + 1), .int ((K13.ndOf T0 (2 * i + 1) : Int) + 1)])) := same_new ht
      have h3 := s3 _ _ hacc
      refine ⟨acc, h3, Nat.lt_of_lt_of_le (show acc.length < 1000 by omega) (by decide), same_upd (s2.trans s3) hD, acc ++ [.ref t], upd_same, by simp [hal2], fun j z hz => ?_⟩
      rcases snoc_get hz with ⟨_, h1⟩ | ⟨h1, rfl⟩
      · obtain ⟨t', h5, h6⟩ := haj j z h1
        exact ⟨t', h5, SqT.upd (Same.tup s3 h6) h3⟩
      · rw [h1, hal2]
        exact ⟨t, rfl, SqT.upd (SqT.of upd_same) h3⟩
    · rintro H2 ⟨s2, acc, hacc, hal2, haj⟩
      refine k D acc H2 (s1.trans s2) (s1.free hD) hacc ⟨by rw [hal2]; simp [K13.endsT]; omega, fun j x e hx he => ?_⟩
      obtain ⟨t, h1, h2⟩ := haj j x hx
      unfold K13.endsT at he
      rw [List.getElem?_map] at he
      have hj : j < n := by have := (List.getElem?_eq_some_iff.mp hx).1; omega
      rw [List.getElem?_range hj] at he
      cases he
      exact ⟨t, h1, h2⟩
end
end W13
namespace W13
open PySem L2
/-! ## the balance of a net -/
/-- tuples stay -/
def TK (K : PySem.W.Frag) (H H' : Hp) : Prop := ∀ (b : Addr) (xs : List V), SqT K H b xs → SqT K H' b xs
theorem TK.refl {K : PySem.W.Frag} {H : Hp} : TK K H H := fun _ _ h => h
theorem TK.trans {K : PySem.W.Frag} {A B C : Hp} (h : TK K A B) (g : TK K B C) : TK K A C := fun b xs q => g b xs (h b xs q)
theorem TK.same {K : PySem.W.Frag} {A B : Hp} (h : Same A B) : TK K A B := fun _ _ q => Same.tup h q
theorem TK.upd {K : PySem.W.Frag} {H : Hp} {D : Addr} {l : List V} {o : HO} (h : H D = some (.lst l)) : TK K H (L2.upd H D o) := fun _ _ q => SqT.upd q h
theorem RatV.tk {K : PySem.W.Frag} {H H' : Hp} {v : V} {q : Rat} (h : RatV K H v q) (t : TK K H H') : RatV K H' v q := by
  obtain ⟨a, h1, h2⟩ := h
  exact ⟨a, h1, t _ _ h2⟩
theorem RatsV.tk {K : PySem.W.Frag} {H H' : Hp} {qs : List V} {am : List Rat} (h : RatsV K H qs am) (t : TK K H H') : RatsV K H' qs am :=
  ⟨h.1, fun i x q h1 h2 => (h.2 i x q h1 h2).tk t⟩
theorem EndsV.tk {K : PySem.W.Frag} {H H' : Hp} {vs : List V} {E : List (Nat × Nat)} (h : EndsV K H vs E) (e : TK K H H') : EndsV K H' vs E :=
  ⟨h.1, fun i x t h1 h2 => by
    obtain ⟨d, q1, q2⟩ := h.2 i x t h1 h2
    exact ⟨d, q1, e _ _ q2⟩⟩
/-- a list of own lists: the rows of M, to be changed in place -/
structure MatS (K : PySem.W.Frag) (H : Hp) (D : Addr) (as : List Addr) (N : Nat) (M : Nat → Nat → Rat) : Prop where
  out : H D = some (.lst (as.map V.ref))
  len : as.length = N
  nd : as.Nodup
  nin : D ∉ as
  row : ∀ (i : Nat) a, as[i]? = some a → ∃ vs, H a = some (.lst vs) ∧ vs.length = N ∧ ∀ (j : Nat) x, vs[j]? = some x → RatV K H x (M i j)
theorem MatS.mono {K : PySem.W.Frag} {H H' : Hp} {D : Addr} {as : List Addr} {N : Nat} {M : Nat → Nat → Rat} (h : MatS K H D as N M) (e : Same H H') : MatS K H' D as N M :=
  ⟨e _ _ h.out, h.len, h.nd, h.nin, fun i a ha => by
    obtain ⟨vs, h1, h2, h3⟩ := h.row i a ha
    exact ⟨vs, e _ _ h1, h2, fun j x hx => (h3 j x hx).mono e⟩⟩
theorem MatS.at {K : PySem.W.Frag} {H : Hp} {D : Addr} {as : List Addr} {N : Nat} {M : Nat → Nat → Rat} (h : MatS K H D as N M) {i : Nat} (hi : i < N) : ∃ a vs, as[i]? = some a ∧ (as.map V.ref)[i]? = some (.ref a) ∧ H a = some (.lst vs) ∧ vs.length = N ∧ a ≠ D ∧ a ∈ as ∧ ∀ (j : Nat) x, vs[j]? = some x → RatV K H x (M i j) := by
  have e : as[i]? = some (as[i]'(by have := h.len; omega)) := List.getElem?_eq_getElem (by have := h.len; omega)
  obtain ⟨vs, h1, h2, h3⟩ := h.row i _ e
  exact ⟨_, vs, e, by rw [List.getElem?_map, e]; rfl, h1, h2, fun q => h.nin (q ▸ List.mem_of_getElem? e), List.mem_of_getElem? e, h3⟩
theorem MatS.set {K : PySem.W.Frag} {H : Hp} {D : Addr} {as : List Addr} {N : Nat} {M M' : Nat → Nat → Rat} (h : MatS K H D as N M) {i j : Nat} {a : Addr} {vs : List V} {v : V} {q : Rat} (ha : as[i]? = some a) (hv : H a = some (.lst vs)) (hq : RatV K H v q) (hM : ∀ x y, M' x y = if x = i ∧ y = j then q else M x y) :
    MatS K (upd H a (.lst (vs.set j v))) D as N M' := by
  have hne : a ≠ D := fun e => h.nin (e ▸ List.mem_of_getElem? ha)
  refine ⟨by rw [upd_ne hne.symm]; exact h.out, h.len, h.nd, h.nin, fun x b hb => ?_⟩
  obtain ⟨ws, h1, h2, h3⟩ := h.row x b hb
  by_cases hx : x = i
  · subst hx
    rw [ha] at hb
    cases hb
    rw [hv] at h1
    cases h1
    refine ⟨_, upd_same, by rw [List.length_set]; exact h2, fun y z hz => ?_⟩
    rw [hM]
    by_cases hy : y = j
    · subst hy
      rw [if_pos ⟨rfl, rfl⟩]
      have hl : y < vs.length := by
        have := (List.getElem?_eq_some_iff.mp hz).1
        rw [List.length_set] at this
        exact this
      rw [List.getElem?_set_self hl] at hz
      cases hz
      exact hq.upd hv
    · rw [if_neg (fun e => hy e.2)]
      rw [List.getElem?_set_ne (fun e => hy e.symm)] at hz
      exact (h3 y z hz).upd hv
  · have hab : b ≠ a := fun e => by
      subst e
      obtain ⟨l1, e1⟩ := List.getElem?_eq_some_iff.mp hb
      obtain ⟨l2, e2⟩ := List.getElem?_eq_some_iff.mp ha
      exact hx ((List.getElem?_inj l1 h.nd).mp (hb.trans ha.symm))
    refine ⟨ws, by rw [upd_ne hab]; exact h1, h2, fun y z hz => ?_⟩
    rw [hM, if_neg (fun e => hx e.1)]
    exact (h3 y z hz).upd hv
theorem MatS.matL {K : PySem.W.Frag} {H : Hp} {D : Addr} {as : List Addr} {N : Nat} {M : Nat → Nat → Rat} (h : MatS K H D as N M) : MatL K H (as.map V.ref) N N M := by
  refine ⟨by rw [List.length_map]; exact h.len, fun i v hv => ?_⟩
  rw [List.getElem?_map] at hv
  cases e : as[i]? with
  | none => rw [e] at hv; cases hv
  | some a =>
    rw [e] at hv
    cases hv
    obtain ⟨vs, h1, h2, h3⟩ := h.row i a e
    exact ⟨a, vs, rfl, SqL.of h1, h2, h3⟩
theorem half_set {M : Nat → Nat → Rat} {h t : Nat} {a : Rat} (x y : Nat) : K13.half M h t a x y = if x = h ∧ y = t then (if h = h ∧ t = h then M h h + a else M h t) - a else if x = h ∧ y = h then M h h + a else M x y := by
  unfold K13.half
  by_cases q1 : x = h
  · subst q1
    by_cases q2 : y = t
    · subst q2
      by_cases q3 : y = x
      · subst q3
        simp
      · simp [q3]
        grind
    · by_cases q3 : y = x
      · subst q3
        simp [q2]
        grind
      · simp [q2, q3]
        grind
  · simp [q1]
theorem w12_sm {m : Nat} {x : Rat} (h : K13.W12 m x) (hm : m < 4096) : K13.Sm 12 x := by
  obtain ⟨z, h1, h2⟩ := h
  exact K13.frac_sm (D := 12) (n := z) (by decide) h1 (by decide) (Nat.lt_of_le_of_lt h2 hm)
def spBal (K : PySem.W.Frag) : Sp := fun vs H Q _ => ∃ (v : V) (rim n : Nat) (T : List (List Nat)) (am : List Rat), vs = [v] ∧ NetV K H v rim T am ∧ K13.Net rim T n am ∧ T.length < 1000 ∧
  ∀ p rs H', Same H H' → H' p = some (.lst rs) → MatL K H' rs T.length T.length (K13.netK T n am) → Q (.ref p) H'
section
variable {P : Program} {w : World} {K : PySem.W.Frag} {mg : Str → Option Value} {base : Heap} {uS uG : Value} {aZ aO : Addr}
abbrev s_balance_of : Stmt := top 30
theorem sc_balance_of : FnScope ["net", "size", "rows", "_", "first", "second", "amount", "here", "there"] ["net"] (defScope s_balance_of) := ⟨rfl, rfl, rfl, by decide +kernel, rfl, by decide +kernel, by decide +kernel⟩
theorem ok_balance_of {f : Addr} {fd : FuncData} (F : Fun K "balance_of" "balance_of" s_balance_of f fd) (T : Txt K mg uS uG aZ aO) (DE : Df P w K mg base 2 "ends_of" ["net"] (spEnds K))
    (DP : Df P w K mg base 2 "plus" ["left", "right"] (spRR K (fun _ => True) (· + ·))) (DM : Df P w K mg base 2 "minus" ["left", "right"] (spRR K (fun _ => True) (· - ·))) :
    FnOk P w K mg base CX0 3 f fd ["net"] (spBal K) := by
  obtain ⟨_, _, G_ends_of, C_ends_of⟩ := DE
  obtain ⟨_, _, G_plus, C_plus⟩ := DP
  obtain ⟨_, _, G_minus, C_minus⟩ := DM
  refine F.ok sc_balance_of (fun vs H Q E h => ?_) (fun cdv A outer s H vs Q E hr h => ?_)
  · obtain ⟨v, rim, n, T0, am, rfl, _⟩ := h
    rfl
  · obtain ⟨v, rim, n, T0, am, rfl, hv, G, hN, k⟩ := h
    have nd := sc_balance_of.nd
    refine ⟨_,
      (pss_cons
        (ps_set (i := 1) nd rfl (by first | exact Or.inl rfl | exact Or.inr rfl) (pe_callB call_len_seq (by rfl) T.len PySem.boot_len (pa_cons (pe_ix ix_tup (pv 0) pe_int (fun _ _ => rfl)) pa_nil)))
      (pss_cons
        (ps_setLc (i := 2) (own := [("_", 3)]) (g := gName 3) rfl nd rfl rfl (sw_true rfl rfl rfl (by decide +kernel)) (pi_range1 rfl T.range (pa_cons (pv 1) pa_nil)) (blkOk_by (N := ["net", "size", "rows", "_", "first", "second", "amount", "here", "there"]) (sc := defScope s_balance_of) (by decide +kernel))
      (fun _ _ _ _ _ => pg_name (i := 3) nd rfl (by first | exact Or.inl rfl | exact Or.inr rfl)) (fun _ _ _ _ _ => pts_nil)
      (fun _ _ _ _ _ => (pe_op op_rep (pe_lst (pa_cons (pe_glob rfl T.mZERO T.rZERO) pa_nil)) (pv 1))))
      (pss_cons
        (ps_for PassesOwn.never rfl (pi_zipM (by rfl) T.zip (pa_cons (pe_call G_ends_of (hr.mono (by decide)) rfl C_ends_of.m C_ends_of.kp C_ends_of.b .nil pass0 (pa_cons (pv 0) pa_nil)) (pa_cons (pe_ix ix_tup (pv 0) pe_int (fun _ _ => rfl)) pa_nil))) (pg_tup rfl (pgs_cons (pg_tup rfl (pgs_cons (pg_name (i := 4) nd rfl (by first | exact Or.inl rfl | exact Or.inr rfl)) (pgs_cons (pg_name (i := 5) nd rfl (by first | exact Or.inl rfl | exact Or.inr rfl)) pgs_nil))) (pgs_cons (pg_name (i := 6) nd rfl (by first | exact Or.inl rfl | exact Or.inr rfl)) pgs_nil)))
          (pss_one
            (ps_for PassesOwn.never rfl (pi_tup (pe_tup (pa_cons (pe_tup (pa_cons (pe_op op_sub (pv 4) pe_int) (pa_cons (pe_op op_sub (pv 5) pe_int) pa_nil))) (pa_cons (pe_tup (pa_cons (pe_op op_sub (pv 5) pe_int) (pa_cons (pe_op op_sub (pv 4) pe_int) pa_nil))) pa_nil)))) (pg_tup rfl (pgs_cons (pg_name (i := 7) nd rfl (by first | exact Or.inl rfl | exact Or.inr rfl)) (pgs_cons (pg_name (i := 8) nd rfl (by first | exact Or.inl rfl | exact Or.inr rfl)) pgs_nil)))
              (pss_cons
                (ps_asg (pe_call G_plus (hr.mono (by decide)) rfl C_plus.m C_plus.kp C_plus.b .nil pass0 (pa_cons (pe_ix ix_list (pe_ix ix_list (pv 2) (pv 7) (fun _ _ => rfl)) (pv 7) (fun _ _ => rfl)) (pa_cons (pv 6) pa_nil))) (pg_sub (pe_ix ix_list (pv 2) (pv 7) (fun _ _ => rfl)) (pv 7) set_list))
              (pss_one
                (ps_asg (pe_call G_minus (hr.mono (by decide)) rfl C_minus.m C_minus.kp C_minus.b .nil pass0 (pa_cons (pe_ix ix_list (pe_ix ix_list (pv 2) (pv 7) (fun _ _ => rfl)) (pv 8) (fun _ _ => rfl)) (pa_cons (pv 6) pa_nil))) (pg_sub (pe_ix ix_list (pv 2) (pv 7) (fun _ _ => rfl)) (pv 8) set_list)))))))
      (pss_one
        (ps_ret (pv 2)))))), ?_⟩
    obtain ⟨a, b, c, ts, qs, rfl, ha, hb, ht, hc, hq⟩ := id hv
    have htl : ts.length = T0.length := ht.1
    have hql : qs.length = n := hq.1.trans G.len
    have h9 := G.nine
    refine ⟨_, rfl, a, _, _, _, rfl, rfl, ha, rfl, b, ts, rfl, Or.inr hb, ?_⟩
    refine ⟨_, rfl, (ts.length : Int), rfl, by omega, by omega, fun D hD => ?_⟩
    refine lc_range (lo := 0) (n := ((ts.length : Nat) : Int).toNat) (fun i H2 => Same H H2 ∧ ∃ as : List Addr, H2 D = some (.lst (as.map V.ref)) ∧ as.length = i ∧ as.Nodup ∧ D ∉ as ∧ (∀ x, x ∈ as → H x = none ∧ H2 x = some (.lst (List.replicate T0.length (.ref aZ)))))
      ⟨same_new hD, [], upd_same, rfl, List.nodup_nil, by simp, fun j h => by cases h⟩ ?_ ?_
    · rintro i H2 hi ⟨s2, as, hacc, hal, hnd, hDn, haj⟩
      rw [Int.zero_add]
      refine ⟨rfl, (by show 1 ≤ sizeLine; decide), fun l0 hl0 => ?_⟩
      have s3 : Same H2 (upd H2 l0 (.lst [.ref aZ])) := same_new hl0
      refine ⟨_, rfl, l0, _, _, rfl, rfl, upd_same, by omega, by omega, ?_, fun p hp => ?_⟩
      · have : ([V.ref aZ] : List V).length * ((ts.length : Nat) : Int).toNat ≤ 1000 := by show 1 * _ ≤ 1000; omega
        exact Nat.le_trans this (by decide)
      have e0 : (List.replicate ((ts.length : Nat) : Int).toNat [V.ref aZ]).flatten = List.replicate T0.length (V.ref aZ) := by
        have : ((ts.length : Nat) : Int).toNat = T0.length := by omega
        rw [this]
        generalize T0.length = m
        induction m with
        | zero => rfl
        | succ m ih => rw [List.replicate_succ, List.replicate_succ, List.flatten_cons, ih]; rfl
      rw [e0]
      have s4 := s3.trans (same_new (o := .lst (List.replicate T0.length (.ref aZ))) hp)
      have hp2 : H2 p = none := s3.free hp
      have hp0 : H p = none := s2.free hp2
      have hacc4 := s4 _ _ hacc
      have hpD : p ≠ D := fun e => by rw [e, hacc] at hp2; cases hp2
      refine ⟨_, hacc4, ?_, same_upd (s2.trans s4) hD, as ++ [p], by rw [upd_same, List.map_append]; rfl, by simp [hal], ?_, ?_, ?_⟩
      · rw [List.length_map]
        exact Nat.lt_of_lt_of_le (show as.length < 1000 by omega) (by decide)
      · rw [List.nodup_append]
        refine ⟨hnd, by simp, fun x hx y hy e => ?_⟩
        have hy := List.mem_singleton.mp hy
        subst hy
        subst e
        rw [(haj x hx).2] at hp2
        cases hp2
      · intro hm
        rcases List.mem_append.mp hm with hm | hm
        · exact hDn hm
        · exact hpD (List.mem_singleton.mp hm).symm
      · intro x hx
        rcases List.mem_append.mp hx with hx | hx
        · refine ⟨(haj x hx).1, ?_⟩
          rw [upd_ne (fun (e : x = D) => hDn (e ▸ hx))]
          exact s4 _ _ (haj x hx).2
        · have := List.mem_singleton.mp hx
          subst this
          refine ⟨hp0, ?_⟩
          rw [upd_ne hpD, upd_same]
    · rintro H2 ⟨s2, as, hacc, hal, hnd, hDn, haj⟩
      have hal : as.length = T0.length := by omega
      have m0 : MatS K H2 D as T0.length (fun _ _ => 0) := ⟨hacc, hal, hnd, hDn, fun i x hx => ⟨_, (haj x (List.mem_of_getElem? hx)).2, by simp, fun j z hz => by
        have := List.eq_of_mem_replicate (List.mem_of_getElem? hz)
        subst this
        exact ⟨aZ, rfl, T.zero _⟩⟩⟩
      refine ⟨_, rfl, _, rim, n, T0, am, rfl, hv.mono s2, G.inv.wf, G.len, h9, fun p es H3 s3 hpn hp hE => ?_⟩
      have s03 := s2.trans s3
      refine ⟨_, rfl, a, _, _, _, rfl, rfl, Same.tup s03 ha, rfl, p, c, es, qs, rfl, SqL.of hp, Same.tup s03 hc, ?_⟩
      have hpD : p ≠ D := fun e => by rw [e, hacc] at hpn; cases hpn
      have hpa : p ∉ as := fun e => by rw [(haj p e).2] at hpn; cases hpn
      have hfree : ∀ x, x ∈ as → H x = none := fun x hx => (haj x hx).1
      have hes : es.length = n := by rw [hE.1]; exact K13.Net.elen (rim := rim)
      let Mk : Nat → Nat → Nat → Rat := fun i => (((K13.endsT T0 n).zip am).take i).foldl K13.bal (fun _ _ => 0)
      have hMk : ∀ i x y, i ≤ n → K13.W12 (288 * i) (Mk i x y) := fun i x y hi => by
        have h := K13.W12.fold (k := 72) (L := ((K13.endsT T0 n).zip am).take i) (m := 0) (K := fun _ _ => 0) (fun _ _ => K13.W12.zero) (fun e he => G.w12 _ (List.of_mem_zip (a := e.1) (b := e.2) (List.mem_of_mem_take he)).2) x y
        refine h.mono ?_
        rw [List.length_take]
        have : min i ((K13.endsT T0 n).zip am).length ≤ i := Nat.min_le_left _ _
        omega
      refine for_zipM (K := K) (a := p) (b := c) (xs := es) (ys := qs) (hes.trans hql.symm) (fun i σ H4 => Same H H4 ∧ TK K H3 H4 ∧ H4 p = some (.lst es) ∧ MatS K H4 D as T0.length (Mk i) ∧ ∃ v3 v4 v5 v6 v7 v8, σ = [some (.ref a), some (.int (ts.length : Nat)), some (.ref D), v3, v4, v5, v6, v7, v8])
        ⟨s03, TK.refl, hp, m0.mono s3, _, none, none, none, none, none, rfl⟩ (fun i σ H4 ⟨s4, _, hp4, _⟩ => ⟨SqL.of hp4, Same.tup s4 hc⟩) ?_ ?_
      · rintro i x y t σ H4 hx hy ⟨s4, tk4, hp4, m4, v3, v4, v5, v6, v7, v8, rfl⟩ hT
        have hi : i < n := by have := (List.getElem?_eq_some_iff.mp hx).1; omega
        obtain ⟨⟨f1, g1⟩, hE1⟩ : ∃ e, (K13.endsT T0 n)[i]? = some e := ⟨_, List.getElem?_eq_getElem (by rw [K13.Net.elen (rim := rim)]; exact hi)⟩
        obtain ⟨q1, hq1⟩ : ∃ e, am[i]? = some e := ⟨_, List.getElem?_eq_getElem (by rw [G.len]; exact hi)⟩
        obtain ⟨t2, rfl, ht2⟩ := hE.2 i x _ hx hE1
        have ht2 := tk4 _ _ ht2
        have hya := (hq.2 i y q1 hy hq1).mono s4
        have hb1 : f1 < T0.length ∧ g1 < T0.length := by
          obtain ⟨k', hk', e1⟩ := List.mem_map.mp (List.mem_of_getElem? hE1)
          have hk' := List.mem_range.mp hk'
          have e2 : K13.ndOf T0 (2 * k') = f1 := congrArg Prod.fst e1
          have e3 : K13.ndOf T0 (2 * k' + 1) = g1 := congrArg Prod.snd e1
          rw [← e2, ← e3]
          exact ⟨K13.ndOf_lt G.inv.wf (by omega), K13.ndOf_lt G.inv.wf (by omega)⟩
        have eMk : Mk (i + 1) = K13.half (K13.half (Mk i) f1 g1 q1) g1 f1 q1 := by
          have e1 : ((K13.endsT T0 n).zip am)[i]? = some ((f1, g1), q1) := by
            rw [List.getElem?_zip_eq_some]
            exact ⟨hE1, hq1⟩
          show (((K13.endsT T0 n).zip am).take (i + 1)).foldl K13.bal (fun _ _ => 0) = _
          rw [List.take_succ, e1, List.foldl_append]
          rfl
        have w1 : K13.W12 72 q1 := G.w12 _ (List.mem_of_getElem? hq1)
        have wM : ∀ x y, K13.W12 2592 (Mk i x y) := fun x y => (hMk i x y (by omega)).mono (by omega)
        have s5 : Same H4 (upd H4 t (.tup [.ref t2, y])) := same_new hT
        refine ⟨t, _, rfl, SqT.of upd_same, rfl, _, _, rfl, t2, _, rfl, Same.tup s5 ht2, rfl, _, _, rfl, _, _, rfl, rfl, _, _, rfl, rfl, ?_⟩
        generalize upd H4 t (.tup [.ref t2, y]) = H5 at s5
        refine ⟨_, rfl, _, _, rfl, rfl, _, rfl, _, _, rfl, rfl, (by show 2 ≤ sizeLine; decide), fun p1 hp1 => ?_⟩
        have s6 : Same H5 (upd H5 p1 (.tup [.int ((f1 : Int) + 1 - 1), .int ((g1 : Int) + 1 - 1)])) := same_new hp1
        have r1 : SqT K (upd H5 p1 (.tup [.int ((f1 : Int) + 1 - 1), .int ((g1 : Int) + 1 - 1)])) p1 [.int (f1 : Int), .int (g1 : Int)] := by
          have e1 : (f1 : Int) + 1 - 1 = f1 := by omega
          have e2 : (g1 : Int) + 1 - 1 = g1 := by omega
          rw [e1, e2]
          exact SqT.of upd_same
        generalize upd H5 p1 (.tup [.int ((f1 : Int) + 1 - 1), .int ((g1 : Int) + 1 - 1)]) = H6 at s6 r1
        refine ⟨_, rfl, _, _, rfl, rfl, _, rfl, _, _, rfl, rfl, (by show 2 ≤ sizeLine; decide), fun p2 hp2 => ?_⟩
        have s7 : Same H6 (upd H6 p2 (.tup [.int ((g1 : Int) + 1 - 1), .int ((f1 : Int) + 1 - 1)])) := same_new hp2
        have r2 : SqT K (upd H6 p2 (.tup [.int ((g1 : Int) + 1 - 1), .int ((f1 : Int) + 1 - 1)])) p2 [.int (g1 : Int), .int (f1 : Int)] := by
          have e1 : (f1 : Int) + 1 - 1 = f1 := by omega
          have e2 : (g1 : Int) + 1 - 1 = g1 := by omega
          rw [e1, e2]
          exact SqT.of upd_same
        generalize upd H6 p2 (.tup [.int ((g1 : Int) + 1 - 1), .int ((f1 : Int) + 1 - 1)]) = H7 at s7 r2
        refine ⟨(by show 2 ≤ sizeLine; decide), fun p3 hp3 => ?_⟩
        have s8 : Same H7 (upd H7 p3 (.tup [.ref p1, .ref p2])) := same_new hp3
        have r3 : SqT K (upd H7 p3 (.tup [.ref p1, .ref p2])) p3 [.ref p1, .ref p2] := SqT.of upd_same
        have r1 := Same.tup s8 (Same.tup s7 r1)
        have r2 := Same.tup s8 r2
        have s48 : Same H4 (upd H7 p3 (.tup [.ref p1, .ref p2])) := ((s5.trans s6).trans s7).trans s8
        generalize upd H7 p3 (.tup [.ref p1, .ref p2]) = H8 at s8 r1 r2 r3 s48
        refine ⟨p3, rfl, ⟨_, r3⟩, for_tup (K := K) (a := p3) (xs := [.ref p1, .ref p2]) (fun j σ H9 => Same H H9 ∧ TK K H8 H9 ∧ H9 p = some (.lst es) ∧ MatS K H9 D as T0.length (if j = 0 then Mk i else if j = 1 then K13.half (Mk i) f1 g1 q1 else Mk (i + 1)) ∧
            ∃ v7 v8, σ = [some (.ref a), some (.int (ts.length : Nat)), some (.ref D), v3, some (.int ((f1 : Int) + 1)), some (.int ((g1 : Int) + 1)), some y, v7, v8])
          ⟨s4.trans s48, TK.refl, s48 _ _ hp4, m4.mono s48, _, _, rfl⟩ (fun j σ H9 _ ⟨_, tk9, _⟩ => tk9 _ _ r3) ?_ ?_⟩
        · rintro j z σ H9 hz ⟨s9, tk9, hp9, m9, v7, v8, rfl⟩
          obtain ⟨hh, tt, tp, M, rfl, htp, h1, h2, wM9, m9, hMn⟩ : ∃ (hh tt : Nat) (tp : Addr) (M : Nat → Nat → Rat), z = .ref tp ∧ SqT K H9 tp [.int (hh : Int), .int (tt : Int)] ∧ hh < T0.length ∧ tt < T0.length ∧ (∀ x y, K13.W12 2800 (M x y)) ∧ MatS K H9 D as T0.length M ∧
              (if j + 1 = 0 then Mk i else if j + 1 = 1 then K13.half (Mk i) f1 g1 q1 else Mk (i + 1)) = K13.half M hh tt q1 := by
            match j, hz with
            | 0, hz =>
              cases hz
              exact ⟨f1, g1, p1, Mk i, rfl, tk9 _ _ r1, hb1.1, hb1.2, fun x y => (wM x y).mono (by decide), m9, rfl⟩
            | 1, hz =>
              cases hz
              exact ⟨g1, f1, p2, K13.half (Mk i) f1 g1 q1, rfl, tk9 _ _ r2, hb1.2, hb1.1, fun x y => (K13.W12.half wM w1 x y).mono (by decide), m9, eMk⟩
          refine ⟨tp, _, rfl, htp, rfl, _, _, rfl, _, _, rfl, rfl, ?_⟩
          obtain ⟨ah, vh, e1, e2, e3, e4, e5, e6, e7⟩ := m9.at h1
          obtain ⟨xh, exh⟩ : ∃ z, vh[hh]? = some z := ⟨_, List.getElem?_eq_getElem (by omega)⟩
          have hy9 : RatV K H9 y q1 := (hq.2 i y q1 hy hq1).mono s9
          have w1s : K13.Sm 12 q1 := w12_sm w1 (by decide)
          have pn : p ≠ ah := fun e => hpa (e ▸ e6)
          refine ⟨_, rfl, _, rfl, D, _, _, _, rfl, rfl, SqL.of m9.out, at_of (j := hh) rfl e2, _, rfl, ah, _, _, _, rfl, rfl, SqL.of e3, at_of (j := hh) rfl exh, _, rfl, ?_⟩
          refine ⟨xh, y, M hh hh, q1, rfl, e7 hh xh exh, hy9, (w12_sm (wM9 hh hh) (by decide)).mono (by decide), w1s.mono (by decide), trivial, fun v H10 s10 hv10 => ?_⟩
          have m10 := m9.mono s10
          have e10 := s10 _ _ e3
          refine ⟨_, rfl, _, rfl, D, _, _, _, rfl, rfl, SqL.of m10.out, at_of (j := hh) rfl e2, _, rfl, ah, _, _, _, rfl, rfl, e10, ixN_nat (by rw [e4]; exact h1), ?_⟩
          have s11 : Same H (upd H10 ah (.lst (vh.set hh v))) := same_upd (s9.trans s10) (hfree ah e6)
          have tk11 : TK K H9 (upd H10 ah (.lst (vh.set hh v))) := (TK.same s10).trans (TK.upd e10)
          have m11 : MatS K (upd H10 ah (.lst (vh.set hh v))) D as T0.length (fun x y => if x = hh ∧ y = hh then M hh hh + q1 else M x y) := m10.set e1 e10 hv10 (fun x y => rfl)
          have hp11 : (upd H10 ah (.lst (vh.set hh v))) p = some (.lst es) := by rw [upd_ne pn]; exact s10 _ _ hp9
          have e11 : (upd H10 ah (.lst (vh.set hh v))) ah = some (.lst (vh.set hh v)) := upd_same
          generalize upd H10 ah (.lst (vh.set hh v)) = H11 at s11 tk11 m11 hp11 e11
          have hw : (vh.set hh v).length = T0.length := by rw [List.length_set]; exact e4
          generalize vh.set hh v = wh at e11 hw
          obtain ⟨xt, ext⟩ : ∃ z, wh[tt]? = some z := ⟨_, List.getElem?_eq_getElem (by omega)⟩
          obtain ⟨wh', f1', f2', f3'⟩ := m11.row hh ah e1
          rw [e11] at f1'
          cases f1'
          have wt : K13.W12 2900 (if hh = hh ∧ tt = hh then M hh hh + q1 else M hh tt) := by
            split
            · exact ((wM9 hh hh).add w1).mono (by decide)
            · exact (wM9 hh tt).mono (by decide)
          refine ⟨_, rfl, _, rfl, D, _, _, _, rfl, rfl, SqL.of m11.out, at_of (j := hh) rfl e2, _, rfl, ah, _, _, _, rfl, rfl, SqL.of e11, at_of (j := tt) rfl ext, _, rfl, ?_⟩
          refine ⟨xt, y, _, q1, rfl, f3' tt xt ext, hy9.tk tk11, (w12_sm wt (by decide)).mono (by decide), w1s.mono (by decide), trivial, fun v' H12 s12 hv12 => ?_⟩
          have m12 := m11.mono s12
          have e12 := s12 _ _ e11
          refine ⟨_, rfl, _, rfl, D, _, _, _, rfl, rfl, SqL.of m12.out, at_of (j := hh) rfl e2, _, rfl, ah, _, _, _, rfl, rfl, e12, ixN_nat (by rw [hw]; exact h2), ?_⟩
          refine ⟨same_upd (s11.trans s12) (hfree ah e6), ((tk9.trans tk11).trans (TK.same s12)).trans (TK.upd e12), ?_, ?_, _, _, rfl⟩
          · rw [upd_ne pn]
            exact s12 _ _ hp11
          · rw [hMn]
            exact m12.set e1 e12 hv12 half_set
        · rintro σ H9 ⟨s9, tk9, hp9, m9, v7, v8, rfl⟩
          exact ⟨s9, (tk4.trans (TK.same s48)).trans tk9, hp9, m9, _, _, _, _, _, _, rfl⟩
      · rintro σ H4 ⟨s4, tk4, hp4, m4, v3, v4, v5, v6, v7, v8, rfl⟩
        have : Mk es.length = K13.netK T0 n am := by
          show (((K13.endsT T0 n).zip am).take es.length).foldl K13.bal (fun _ _ => 0) = K13.kmat ((K13.endsT T0 n).zip am)
          rw [List.take_of_length_le (by rw [List.length_zip]; have := @K13.Net.elen rim n T0; omega)]
          rfl
        rw [this] at m4
        exact ⟨_, rfl, k D _ H4 s4 m4.out m4.matL⟩
end
end W13
namespace K13
theorem lap_map {r : Nat → Rat} {φ : Nat → Nat} : ∀ {C : List Nat} {f g : List Nat → Rat}, (∀ D, f D = g (D.map φ)) → lap (fun j => r (φ j)) C f = lap r (C.map φ) g
  | [], _, _, _ => rfl
  | c :: C, f, g, h => by
    show r (φ c) * f C - lap (fun j => r (φ j)) C (fun D => f (c :: D)) = r (φ c) * g (C.map φ) - lap r (C.map φ) (fun D => g (φ c :: D))
    rw [h C, lap_map (C := C) (f := fun D => f (c :: D)) (g := fun D => g (φ c :: D)) (fun D => h (c :: D))]
theorem det_cols {φ : Nat → Nat} : ∀ {R : List (Nat → Rat)} {C : List Nat}, det (R.map fun r => fun j => r (φ j)) C = det R (C.map φ)
  | [], [] => rfl
  | [], _ :: _ => rfl
  | r :: R, C => lap_map (fun D => det_cols)
theorem list_range (Q : List Nat) : (List.range Q.length).map (fun j => Q.getD j 0) = Q := by
  apply List.ext_getElem?
  intro i
  by_cases h : i < Q.length
  · rw [List.getElem?_map, List.getElem?_range h, List.getElem?_eq_getElem h]
    simp [List.getD, h]
  · rw [List.getElem?_eq_none (by simp; omega), List.getElem?_eq_none (by omega)]
theorem dsub_at {X : Nat → Nat → Rat} {P Q : List Nat} (h : P.length = Q.length) : dsub P.length (fun i j => - X (P.getD i 0) (Q.getD j 0)) 0 = det (P.map fun p => fun j => - X p j) Q := by
  unfold dsub
  rw [Nat.sub_zero, ← List.range_eq_range']
  have e1 : (List.range P.length).map (fun i j => - X (P.getD i 0) (Q.getD j 0)) = (P.map fun p => fun j => - X p j).map fun r => fun j => r (Q.getD j 0) := by
    rw [List.map_map]
    conv => rhs; rw [← list_range P, List.map_map]
    rfl
  rw [e1, det_cols, h, list_range]
end K13
namespace W13
open PySem L2
/-! ## the table, the minors -/
theorem rgV_innr {rim N : Nat} (h : rim ≤ N) : rgV (rim : Int) (N : Int) = nats (K13.innr rim N) := by
  unfold rgV nats K13.innr
  have e : ((N : Int) - (rim : Int)).toNat = N - rim := by omega
  rw [e, List.range'_eq_map_range, List.map_map]
  refine List.map_congr_left fun i hi => ?_
  show V.int ((rim : Int) + (i : Int)) = V.int ((rim + i : Nat) : Int)
  congr 1
def spTable (K : PySem.W.Frag) : Sp := fun vs H Q _ => ∃ (v : V) (rim n : Nat) (T : List (List Nat)) (am : List Rat), vs = [v] ∧ NetV K H v rim T am ∧ K13.Net rim T n am ∧ T.length < 100 ∧
  ∀ u H', Same H H' → TabV K H' u rim (K13.elims (K13.netK T n am) (K13.innr rim T.length)) → Q u H'
/-- nodes as the program counts them -/
def ups (l : List Nat) : List V := nats (l.map (· + 1))
theorem ups_get {l : List Nat} {i : Nat} {x : V} (h : (ups l)[i]? = some x) : ∃ n, l[i]? = some n ∧ x = .int ((n : Int) + 1) := by
  obtain ⟨m, h1, rfl⟩ := nats_get h
  rw [List.getElem?_map] at h1
  cases e : l[i]? with
  | none => rw [e] at h1; cases h1
  | some n =>
    rw [e] at h1
    exact ⟨n, rfl, by rw [← Option.some.inj h1]; rfl⟩
theorem ups_len {l : List Nat} : (ups l).length = l.length := by simp [ups, nats]
def spMinor (K : PySem.W.Frag) : Sp := fun vs H Q _ => ∃ (v : V) (h t : Addr) (rim : Nat) (X : Nat → Nat → Rat) (A B : List Nat), vs = [v, .ref h, .ref t] ∧ TabV K H v rim X ∧ SqT K H h (ups A) ∧ SqT K H t (ups B) ∧ A.length = B.length ∧ A.length ≤ 3 ∧ (∀ p, p ∈ A → p < rim) ∧ (∀ p, p ∈ B → p < rim) ∧
  (∀ i j, i < rim → j < rim → K13.Sm 160 (X i j)) ∧ ∀ u H', Same H H' → RatV K H' u (K13.det (A.map fun p => fun j => - X p j) B) → Q u H'
section
variable {P : Program} {w : World} {K : PySem.W.Frag} {mg : Str → Option Value} {base : Heap} {uS uG : Value} {aZ aO : Addr}
abbrev s_table_of : Stmt := top 31
theorem sc_table_of : FnScope ["net", "size"] ["net"] (defScope s_table_of) := ⟨rfl, rfl, rfl, by decide +kernel, rfl, by decide +kernel, by decide +kernel⟩
theorem ok_table_of {f : Addr} {fd : FuncData} (F : Fun K "table_of" "table_of" s_table_of f fd) (T : Txt K mg uS uG aZ aO) (DB : Df P w K mg base 3 "balance_of" ["net"] (spBal K)) (DE : Df P w K mg base 4 "eliminate" ["rows", "inner"] (spElim K)) :
    FnOk P w K mg base CX0 5 f fd ["net"] (spTable K) := by
  obtain ⟨_, _, G_balance_of, C_balance_of⟩ := DB
  obtain ⟨_, _, G_eliminate, C_eliminate⟩ := DE
  refine F.ok sc_table_of (fun vs H Q E h => ?_) (fun cdv A outer s H vs Q E hr h => ?_)
  · obtain ⟨v, rim, n, T0, am, rfl, _⟩ := h
    rfl
  · obtain ⟨v, rim, n, T0, am, rfl, hv, G, hN, k⟩ := h
    have nd := sc_table_of.nd
    refine ⟨_,
      (pss_cons
        (ps_set (i := 1) nd rfl (by first | exact Or.inl rfl | exact Or.inr rfl) (pe_callB call_len_seq (by rfl) T.len PySem.boot_len (pa_cons (pe_ix ix_tup (pv 0) pe_int (fun _ _ => rfl)) pa_nil)))
      (pss_one
        (ps_ret (pe_call G_eliminate (hr.mono (by decide)) rfl C_eliminate.m C_eliminate.kp C_eliminate.b .nil pass0 (pa_cons (pe_call G_balance_of (hr.mono (by decide)) rfl C_balance_of.m C_balance_of.kp C_balance_of.b .nil pass0 (pa_cons (pv 0) pa_nil)) (pa_cons (pe_listRg rfl (by rfl) T.list (prg_2 (by rfl) T.range (pe_ix ix_tup (pv 0) pe_int (fun _ _ => rfl)) (pv 1))) pa_nil)))))), ?_⟩
    obtain ⟨a, b, c, ts, qs, rfl, ha, hb, ht, hc, hq⟩ := id hv
    have htl : ts.length = T0.length := ht.1
    have hle := G.inv.wf.le
    refine ⟨_, rfl, a, _, _, _, rfl, rfl, ha, rfl, b, ts, rfl, Or.inr hb, ?_⟩
    refine ⟨_, rfl, _, rim, n, T0, am, rfl, hv, G, by omega, fun p rs H1 s1 hp hM => ?_⟩
    refine ⟨_, rfl, a, _, _, _, rfl, rfl, Same.tup s1 ha, rfl, _, rfl, _, _, rfl, rfl, RgOk.of_le (by omega) (by omega) (by omega) (by omega), fun q hq => ?_⟩
    rw [htl, rgV_innr hle]
    have s2 : Same H1 (upd H1 q (.lst (nats (K13.innr rim T0.length)))) := same_new hq
    have hl9 : (K13.innr rim T0.length).length ≤ 9 := by
      unfold K13.innr
      rw [List.length_range']
      have := G.inv.len
      have := G.nine
      omega
    exact ⟨p, q, rs, rim, T0.length, _, rfl, SqL.of (s2 _ _ hp), hM.mono s2, SqL.of upd_same, hle, hN, hl9, G.stg, fun u H2 s3 hu => k u H2 ((s1.trans s2).trans s3) hu⟩
abbrev s_minor : Stmt := top 33
theorem sc_minor : FnScope ["table", "heads", "tails", "j", "i"] ["table", "heads", "tails"] (defScope s_minor) := ⟨rfl, rfl, rfl, by decide +kernel, rfl, by decide +kernel, by decide +kernel⟩
theorem ok_minor {f : Addr} {fd : FuncData} (F : Fun K "minor" "minor" s_minor f fd) (T : Txt K mg uS uG aZ aO) (DD : Df P w K mg base 4 "determinant" ["rows"] (spDet K)) (DO : Df P w K mg base 1 "opposite" ["value"] (spOpp K)) :
    FnOk P w K mg base CX0 5 f fd ["table", "heads", "tails"] (spMinor K) := by
  obtain ⟨_, _, G_determinant, C_determinant⟩ := DD
  obtain ⟨_, _, G_opposite, C_opposite⟩ := DO
  refine F.ok sc_minor (fun vs H Q E h => ?_) (fun cdv A outer s H vs Q E hr h => ?_)
  · obtain ⟨v, h, t, rim, X, A, B, rfl, _⟩ := h
    rfl
  · obtain ⟨v, h, t, rim, X, A, B, rfl, hv, hA, hB, hl, h3, bA, bB, sX, k⟩ := h
    have nd := sc_minor.nd
    refine ⟨_,
      (pss_one
        (ps_ret (pe_call G_determinant (hr.mono (by decide)) rfl C_determinant.m C_determinant.kp C_determinant.b .nil pass0 (pa_cons (pe_lc (own := [("i", 4)]) (g := gName 4) (te := tLc (iTup K (tVar 2)) (gName 3) tYes _ [3]) rfl nd (pi_tup (pv 1)) (blkOk_by (N := ["table", "heads", "tails", "j", "i"]) (sc := defScope s_minor) (by decide +kernel))
      (fun _ _ _ _ _ => pg_name (i := 4) nd rfl (by first | exact Or.inl rfl | exact Or.inr rfl)) (fun _ _ _ _ _ => pts_nil)
      (fun _ _ _ _ _ => (pe_lc (own := [("j", 3)]) (g := gName 3) (te := tCall (spOpp K) [] E0 (tCons (tOp (rIxT K) (tOp (rIxT K) (tVar 0) (tOp (rI0 fun i j => .int (i - j)) (tVar 4) (tC (.int 1)))) (tOp (rI0 fun i j => .int (i - j)) (tVar 3) (tC (.int 1)))) tNil)) rfl nd (pi_tup (pv 2)) (blkOk_by (N := ["table", "heads", "tails", "j", "i"]) (sc := relS (retScope s_minor 0) (defScope s_minor)) (by decide +kernel))
      (fun _ _ _ _ _ => pg_name (i := 3) nd rfl (by first | exact Or.inl rfl | exact Or.inr rfl)) (fun _ _ _ _ _ => pts_nil)
      (fun _ _ _ _ _ => (pe_call G_opposite (hr.mono (by decide)) rfl C_opposite.m C_opposite.kp C_opposite.b .nil pass0 (pa_cons (pe_ix ix_tup (pe_ix ix_tup (pv 0) (pe_op op_sub (pv 4) pe_int) (fun _ _ => rfl)) (pe_op op_sub (pv 3) pe_int) (fun _ _ => rfl)) pa_nil)))))) pa_nil)))), ?_⟩
    obtain ⟨a, rs, rfl, ha, hrl, hri⟩ := hv
    refine ⟨_, rfl, h, rfl, ⟨_, hA⟩, fun D hD => ?_⟩
    refine lc_tup (K := K) (a := h) (xs := ups A) (fun i H2 => Same H H2 ∧ ∃ acc, H2 D = some (.lst acc) ∧ acc.length = i ∧ ∀ (j : Nat) z, acc[j]? = some z → RowF K H2 z B.length (fun t => - X (A.getD j 0) (B.getD t 0)) ∧ z ≠ .ref D)
      ⟨same_new hD, [], upd_same, rfl, fun j z h => by cases h⟩ (fun i H2 _ ⟨s2, _⟩ => Same.tup s2 hA) ?_ ?_
    · rintro i x H2 hx ⟨s2, acc, hacc, hal, haj⟩
      obtain ⟨p, hp, rfl⟩ := ups_get hx
      have hpr := bA p (List.mem_of_getElem? hp)
      have hil := (List.getElem?_eq_some_iff.mp hp).1
      have eA : A.getD i 0 = p := by simp [List.getD, hp]
      refine ⟨rfl, ?_⟩
      refine ⟨_, rfl, t, rfl, ⟨_, Same.tup s2 hB⟩, fun U hU => ?_⟩
      have hUD : U ≠ D := fun e => by rw [e, hacc] at hU; cases hU
      refine lc_tup (K := K) (a := t) (xs := ups B) (fun q H5 => Same H2 H5 ∧ ∃ ac, H5 U = some (.lst ac) ∧ ac.length = q ∧ ∀ (j : Nat) z, ac[j]? = some z → RatV K H5 z (- X p (B.getD j 0)))
        ⟨same_new hU, [], upd_same, rfl, fun j z h => by cases h⟩ (fun i H5 _ ⟨s5, _⟩ => Same.tup (s2.trans s5) hB) ?_ ?_
      · rintro q y H5 hy ⟨s5, ac, hac, hcl, hcj⟩
        obtain ⟨b, hb, rfl⟩ := ups_get hy
        have hbr := bB b (List.mem_of_getElem? hb)
        have hql := (List.getElem?_eq_some_iff.mp hb).1
        have eB : B.getD q 0 = b := by simp [List.getD, hb]
        obtain ⟨rv, hrv⟩ : ∃ z, rs[p]? = some z := ⟨_, List.getElem?_eq_getElem (by omega)⟩
        obtain ⟨c, ws, rfl, hc, hwl, hwj⟩ := (hri p rv hrv).mono (s2.trans s5)
        obtain ⟨z, hz⟩ : ∃ z, ws[b]? = some z := ⟨_, List.getElem?_eq_getElem (by omega)⟩
        refine ⟨rfl, ?_⟩
        refine ⟨_, rfl, _, rfl, _, _, rfl, rfl, a, _, _, _, rfl, rfl, Same.tup (s2.trans s5) ha, at_of (j := p) (by omega) hrv, _, rfl, _, _, rfl, rfl, c, _, _, _, rfl, rfl, hc, at_of (j := b) (by omega) hz, ?_⟩
        refine ⟨z, X p b, rfl, hwj b z hz, fun u H6 s6 hu => ?_⟩
        have hac6 := s6 _ _ hac
        refine ⟨ac, hac6, Nat.lt_of_lt_of_le (show ac.length < 1000 by omega) (by decide), same_upd (s5.trans s6) hU, ac ++ [u], upd_same, by simp [hcl], fun j z' hz' => ?_⟩
        rcases snoc_get hz' with ⟨_, h1⟩ | ⟨h1, rfl⟩
        · exact ((hcj j z' h1).mono s6).upd hac6
        · rw [h1, hcl, eB]
          exact hu.upd hac6
      · rintro H5 ⟨s5, ac, hac, hcl, hcj⟩
        have hacc5 := s5 _ _ hacc
        refine ⟨acc, hacc5, Nat.lt_of_lt_of_le (show acc.length < 1000 by have := @ups_len A; omega) (by decide), same_upd (s2.trans s5) hD, acc ++ [.ref U], upd_same, by simp [hal], fun j z hz => ?_⟩
        have up : ∀ {z : V} {r : Nat → Rat}, RowF K H5 z B.length r → z ≠ .ref D → RowF K (upd H5 D (.lst (acc ++ [.ref U]))) z B.length r := fun {z r} hrow hne => by
          obtain ⟨a1, vs1, rfl, g1, g2, g3⟩ := hrow
          have hne : a1 ≠ D := fun e => hne (by rw [e])
          exact ⟨a1, vs1, rfl, SqL.upd g1 hne, g2, fun j x hx => (g3 j x hx).upd hacc5⟩
        rcases snoc_get hz with ⟨_, h1⟩ | ⟨h1, rfl⟩
        · exact ⟨up ((haj j z h1).1.mono s5) (haj j z h1).2, (haj j z h1).2⟩
        · have hz2 : (V.ref U) ≠ .ref D := fun e => hUD (V.ref.inj e)
          rw [h1, hal, eA]
          exact ⟨up ⟨U, ac, rfl, SqL.of hac, hcl.trans ups_len, hcj⟩ hz2, hz2⟩
    · rintro H2 ⟨s2, acc, hacc, hal, haj⟩
      have hal : acc.length = A.length := hal.trans ups_len
      refine ⟨D, acc, A.length, (fun i j => - X (A.getD i 0) (B.getD j 0)), rfl, SqL.of hacc, ⟨hal, fun i z hz => hl ▸ (haj i z hz).1⟩, h3, fun i j hi hj => ?_, fun u H3 s3 hu => ?_⟩
      · refine (sX _ _ (bA _ ?_) (bB _ ?_)).neg
        · have : A[i]? = some A[i] := List.getElem?_eq_getElem hi
          simp [List.getD, this]
        · have hj : j < B.length := by omega
          have : B[j]? = some B[j] := List.getElem?_eq_getElem hj
          simp [List.getD, this]
      · rw [K13.dsub_at hl] at hu
        exact k u H3 (s2.trans s3) hu
end
end W13
namespace W13
open PySem L2
/-! ## the other way to the determinant -/
theorem dp_nats {K : PySem.W.Frag} {H : Hp} : ∀ l : List Nat, DpAll K H (nats l) (l.map fun (n : Nat) => PyData.int (n : Int))
  | [] => .nil
  | n :: l => .cons (.int _) (dp_nats l)
theorem eqv_nil (l : List Nat) : PyData.eqv (.list (l.map fun (n : Nat) => PyData.int (n : Int))) (.list []) = decide (l = []) := by
  cases l <;> rfl
theorem lay_nats : ∀ l : List Nat, PyData.canLayAll0 (l.map fun (n : Nat) => PyData.int (n : Int)) = true ∧ PyData.depthAll (l.map fun (n : Nat) => PyData.int (n : Int)) ≤ 1
  | [] => ⟨rfl, by decide⟩
  | n :: l => by
    obtain ⟨h1, h2⟩ := lay_nats l
    refine ⟨?_, ?_⟩
    · simpa [PyData.canLayAll0, PyData.canLay0] using h1
    · simp only [List.map_cons, PyData.depthAll, PyData.depth]
      omega
theorem shaped_nats (l : List Nat) : SeqAt.shaped (.list (l.map fun (n : Nat) => PyData.int (n : Int))) = true := by
  obtain ⟨h1, h2⟩ := lay_nats l
  unfold SeqAt.shaped
  rw [Bool.and_eq_true]
  refine ⟨?_, decide_eq_true ?_⟩
  · simpa [PyData.canLay0] using h1
  · simp only [PyData.depth]
    omega
/-- the rows from i on, t of them, that are not 0 at c -/
def fnd (M : Nat → Nat → Rat) (c i t : Nat) : List Nat := (List.range' i t).filter fun k => decide (M k c ≠ 0)
theorem fnd_succ {M : Nat → Nat → Rat} {c i t : Nat} : fnd M c i (t + 1) = if M (i + t) c ≠ 0 then fnd M c i t ++ [i + t] else fnd M c i t := by
  unfold fnd
  rw [List.range'_1_concat, List.filter_append]
  by_cases h : M (i + t) c ≠ 0
  · rw [if_pos h]
    simp [h]
  · rw [if_neg h]
    simp [h]
theorem fnd_len {M : Nat → Nat → Rat} {c i t : Nat} : (fnd M c i t).length ≤ t := by
  unfold fnd
  exact Nat.le_trans (List.length_filter_le _ _) (by simp)
theorem mem_fnd {M : Nat → Nat → Rat} {c i t k : Nat} : k ∈ fnd M c i t ↔ (i ≤ k ∧ k < i + t) ∧ M k c ≠ 0 := by
  unfold fnd
  rw [List.mem_filter, List.mem_range'_1, decide_eq_true_iff]
section
variable {P : Program} {w : World} {K : PySem.W.Frag} {mg : Str → Option Value} {base : Heap} {uS uG : Value} {aZ aO : Addr}
abbrev s_ldet : Stmt := top 52
theorem sc_ldet : FnScope ["_law_rows", "_law_row", "_law_whole", "_law_at_here", "_law_found", "_law_k", "_law_share", "_law_j"] ["_law_rows"] (defScope s_ldet) := ⟨rfl, rfl, rfl, by decide +kernel, rfl, by decide +kernel, by decide +kernel⟩
theorem ok_ldet {f : Addr} {fd : FuncData} (F : Fun K "_law_det" "_law_det" s_ldet f fd) (T : Txt K mg uS uG aZ aO)
    (DS : Df P w K mg base 3 "_law_sub" ["_law_left_here", "_law_right_here"] (spRR K (fun _ => True) (· - ·))) (DM : Df P w K mg base 3 "_law_mul" ["_law_left_here", "_law_right_here"] (spRR K (fun _ => True) (· * ·))) (DD : Df P w K mg base 3 "_law_div" ["_law_left_here", "_law_right_here"] (spRR K (fun q => q ≠ 0) (· / ·))) :
    FnOk P w K mg base CX0 4 f fd ["_law_rows"] (spDet K) := by
  obtain ⟨_, _, G_lsub, C_lsub⟩ := DS
  obtain ⟨_, _, G_lmul, C_lmul⟩ := DM
  obtain ⟨_, _, G_ldiv, C_ldiv⟩ := DD
  refine F.ok sc_ldet (fun vs H Q E h => ?_) (fun cdv A outer s H vs Q E hr h => ?_)
  · obtain ⟨a, rs, n, M, rfl, _⟩ := h
    rfl
  · obtain ⟨a, rs, n, M, rfl, hS, hM, hn, sm, k⟩ := h
    have nd := sc_ldet.nd
    refine ⟨_,
      (pss_cons
        (ps_set (i := 0) nd rfl (by first | exact Or.inl rfl | exact Or.inr rfl) (pe_lc (own := [("_law_row", 1)]) (g := gName 1) (te := tCB (rListOf K) (tCons (tVar 1) tNil)) rfl nd (pi_list (pv 0)) (blkOk_by (N := ["_law_rows", "_law_row", "_law_whole", "_law_at_here", "_law_found", "_law_k", "_law_share", "_law_j"]) (sc := defScope s_ldet) (by decide +kernel))
      (fun _ _ _ _ _ => pg_name (i := 1) nd rfl (by first | exact Or.inl rfl | exact Or.inr rfl)) (fun _ _ _ _ _ => pts_nil)
      (fun _ _ _ _ _ => (pe_callTy cr_listOf (by rfl) T.list (by decide +kernel) (pa_cons (pv 1) pa_nil)))))
      (pss_cons
        (ps_set (i := 2) nd rfl (by first | exact Or.inl rfl | exact Or.inr rfl) (pe_tup (pa_cons pe_int (pa_cons pe_int pa_nil))))
      (pss_cons
        (ps_for PassesOwn.never rfl (pi_range1 rfl T.range (pa_cons (pe_callB call_len_seq (by rfl) T.len PySem.boot_len (pa_cons (pv 0) pa_nil)) pa_nil)) (pg_name (i := 3) nd rfl (by first | exact Or.inl rfl | exact Or.inr rfl))
          (pss_cons
            (ps_setLc (i := 4) (own := [("_law_k", 5)]) (g := gName 5) (tt := tTest (tOp (rNeD K) (tOp (rIxL K) (tOp (rIxL K) (tVar 0) (tVar 5)) (tVar 3)) (tTup (tCons (tC (.int 0)) (tCons (tC (.int 1)) tNil))))) rfl nd rfl rfl (sw_true rfl rfl rfl (by decide +kernel)) (pi_range2 rfl T.range (pa_cons (pv 3) (pa_cons (pe_callB call_len_seq (by rfl) T.len PySem.boot_len (pa_cons (pv 0) pa_nil)) pa_nil))) (blkOk_by (N := ["_law_rows", "_law_row", "_law_whole", "_law_at_here", "_law_found", "_law_k", "_law_share", "_law_j"]) (sc := defScope s_ldet) (by decide +kernel))
      (fun _ _ _ _ _ => pg_name (i := 5) nd rfl (by first | exact Or.inl rfl | exact Or.inr rfl)) (fun _ _ _ _ _ => pts_one (pt_cmpR (op_neD hr.units) (pe_ix ix_list (pe_ix ix_list (pv 0) (pv 5) (fun _ _ => rfl)) (pv 3) (fun _ _ => rfl)) (pe_tup (pa_cons pe_int (pa_cons pe_int pa_nil))) (nomark _)))
      (fun _ _ _ _ _ => (pv 5)))
          (pss_cons
            (ps_if (pt_cmpR (op_eqD hr.units) (pv 4) (pe_lst pa_nil) (nomark _))
              (pss_one
                (ps_ret (pe_tup (pa_cons pe_int (pa_cons pe_int pa_nil)))))
              pss_nil)
          (C8.pss_cut
            (ps_if (pt_cmpR op_ne (pe_ix ix_list (pv 4) pe_int (fun _ _ => rfl)) (pv 3) (nomark _))
              (pss_cons
                (ps_set (i := 1) nd rfl (by first | exact Or.inl rfl | exact Or.inr rfl) (pe_ix ix_list (pv 0) (pv 3) (fun _ _ => rfl)))
              (pss_cons
                (ps_asg (pe_ix ix_list (pv 0) (pe_ix ix_list (pv 4) pe_int (fun _ _ => rfl)) (fun _ _ => rfl)) (pg_sub (pv 0) (pv 3) set_list))
              (pss_cons
                (ps_asg (pv 1) (pg_sub (pv 0) (pe_ix ix_list (pv 4) pe_int (fun _ _ => rfl)) set_list))
              (pss_one
                (ps_set (i := 2) nd rfl (by first | exact Or.inl rfl | exact Or.inr rfl) (pe_tup (pa_cons (pe_un un_neg (pe_ix ix_tup (pv 2) pe_int (fun _ _ => rfl))) (pa_cons (pe_ix ix_tup (pv 2) pe_int (fun _ _ => rfl)) pa_nil))))))))
              pss_nil)
          (pss_cons
            (ps_set (i := 2) nd rfl (by first | exact Or.inl rfl | exact Or.inr rfl) (pe_call G_lmul (hr.mono (by decide)) rfl C_lmul.m C_lmul.kp C_lmul.b .nil pass0 (pa_cons (pv 2) (pa_cons (pe_ix ix_list (pe_ix ix_list (pv 0) (pv 3) (fun _ _ => rfl)) (pv 3) (fun _ _ => rfl)) pa_nil))))
          (pss_one
            (ps_for PassesOwn.never rfl (pi_range2 rfl T.range (pa_cons (pe_op op_add (pv 3) pe_int) (pa_cons (pe_callB call_len_seq (by rfl) T.len PySem.boot_len (pa_cons (pv 0) pa_nil)) pa_nil))) (pg_name (i := 5) nd rfl (by first | exact Or.inl rfl | exact Or.inr rfl))
              (pss_cons
                (ps_set (i := 6) nd rfl (by first | exact Or.inl rfl | exact Or.inr rfl) (pe_call G_ldiv (hr.mono (by decide)) rfl C_ldiv.m C_ldiv.kp C_ldiv.b .nil pass0 (pa_cons (pe_ix ix_list (pe_ix ix_list (pv 0) (pv 5) (fun _ _ => rfl)) (pv 3) (fun _ _ => rfl)) (pa_cons (pe_ix ix_list (pe_ix ix_list (pv 0) (pv 3) (fun _ _ => rfl)) (pv 3) (fun _ _ => rfl)) pa_nil))))
              (pss_one
                (ps_asg (pe_lc (own := [("_law_j", 7)]) (g := gName 7) (te := tCall (spRR K (fun _ => True) (· - ·)) [] E0 (tCons (tOp (rIxL K) (tOp (rIxL K) (tVar 0) (tVar 5)) (tVar 7)) (tCons (tCall (spRR K (fun _ => True) (· * ·)) [] E0 (tCons (tVar 6) (tCons (tOp (rIxL K) (tOp (rIxL K) (tVar 0) (tVar 3)) (tVar 7)) tNil))) tNil))) rfl nd (pi_range1 rfl T.range (pa_cons (pe_callB call_len_seq (by rfl) T.len PySem.boot_len (pa_cons (pv 0) pa_nil)) pa_nil)) (blkOk_by (N := ["_law_rows", "_law_row", "_law_whole", "_law_at_here", "_law_found", "_law_k", "_law_share", "_law_j"]) (sc := defScope s_ldet) (by decide +kernel))
      (fun _ _ _ _ _ => pg_name (i := 7) nd rfl (by first | exact Or.inl rfl | exact Or.inr rfl)) (fun _ _ _ _ _ => pts_nil)
      (fun _ _ _ _ _ => (pe_call G_lsub (hr.mono (by decide)) rfl C_lsub.m C_lsub.kp C_lsub.b .nil pass0 (pa_cons (pe_ix ix_list (pe_ix ix_list (pv 0) (pv 5) (fun _ _ => rfl)) (pv 7) (fun _ _ => rfl)) (pa_cons (pe_call G_lmul (hr.mono (by decide)) rfl C_lmul.m C_lmul.kp C_lmul.b .nil pass0 (pa_cons (pv 6) (pa_cons (pe_ix ix_list (pe_ix ix_list (pv 0) (pv 3) (fun _ _ => rfl)) (pv 7) (fun _ _ => rfl)) pa_nil))) pa_nil))))) (pg_sub (pv 0) (pv 5) set_list)))))))))))
      (pss_one
        (ps_ret (pv 2)))))), ?_⟩
    refine ⟨_, rfl, a, rfl, ⟨_, hS⟩, fun D hD => ?_⟩
    refine lc_copy (show (1 : Nat) < 8 by decide) hS hM hD (by omega) fun vs0 H0 s0 m0 _ => ?_
    have hlen := m0.mat.1
    refine ⟨(by show 2 ≤ sizeLine; decide), fun t0 ht0 => ?_⟩
    have s0' : Same H0 (upd H0 t0 (.tup [.int 1, .int 1])) := same_new ht0
    have r0 : RatV K (upd H0 t0 (.tup [.int 1, .int 1])) (.ref t0) 1 := ⟨t0, rfl, SqT.of upd_same⟩
    have m0 := m0.mono s0'
    have s0 := s0.trans s0'
    generalize upd H0 t0 (.tup [.int 1, .int 1]) = H1 at s0' r0 m0 s0
    refine ⟨_, rfl, D, vs0, rfl, Or.inl (SqL.of m0.at_), (vs0.length : Int), rfl, by omega, by omega,
      for_range (lo := 0) (n := ((vs0.length : Nat) : Int).toNat) (fun i σ H2 => ∃ (vs : List V) (Mi : Nat → Nat → Rat) (rv : V) (res : Rat) (v1 v3 v4 v5 v6 : Option V), σ = [some (.ref D), v1, some rv, v3, v4, v5, v6, none] ∧ Same H H2 ∧ MatD K H2 D vs n n Mi ∧ RatV K H2 rv res ∧
        res * K13.dsub n Mi i = K13.dsub n M 0 ∧ K13.Sm (rz i) res ∧ ∀ p q, i ≤ p → p < n → q < n → K13.Sm (bz i) (Mi p q))
      ⟨vs0, M, .ref t0, 1, none, none, none, none, none, rfl, s0, m0, r0, by grind, K13.Sm.one, fun p q _ h1 h2 => sm p q h1 h2⟩ ?_ ?_⟩
    · rintro i σ H2 hi ⟨vs, Mi, rv, res, v1, v3, v4, v5, v6, rfl, s2, m2, hrv, hdet, hres, hsz⟩
      have hin : i < n := by omega
      have hvl := m2.mat.1
      have hbz : bz i ≤ 2565 := by unfold bz; split <;> decide
      have hrz : rz i ≤ 3367 := by unfold rz; split <;> decide
      rw [Int.zero_add]
      refine ⟨_, rfl, _, rfl, D, vs, rfl, Or.inl (SqL.of m2.at_), (i : Int), (vs.length : Int), rfl, by omega, fun U hU => ?_⟩
      have hUD : U ≠ D := fun e => by rw [e, m2.at_] at hU; cases hU
      refine lc_range (lo := (i : Int)) (n := ((vs.length : Int) - (i : Int)).toNat) (fun t H3 => Same H2 H3 ∧ H3 U = some (.lst (nats (fnd Mi i i t)))) ⟨same_new hU, upd_same⟩ ?_ ?_
      · rintro t H3 ht ⟨s3, hU3⟩
        have hk : i + t < n := by omega
        have m3 := m2.mono s3
        obtain ⟨x, hx, rx⟩ := m3.mat.get hk
        obtain ⟨b, ws, z, rfl, hb, hwl, hz, hq⟩ := rx.get hin
        have e1 : (i : Int) + (t : Int) = ((i + t : Nat) : Int) := by omega
        rw [e1]
        refine ⟨rfl, _, rfl, _, rfl, D, _, _, _, rfl, rfl, SqL.of m3.at_, at_of (j := i + t) rfl hx, _, rfl, b, _, _, _, rfl, rfl, hb, at_of (j := i) rfl hz, (by show 2 ≤ sizeLine; decide), fun p hp => ?_⟩
        have s4 : Same H3 (upd H3 p (.tup [.int 0, .int 1])) := same_new hp
        refine ⟨_, _, rat_dp (hq.mono s4), zero_dp (SqT.of upd_same), rfl, rfl, _, rfl, ?_⟩
        rw [rat_eqv]
        have hU4 := s4 _ _ hU3
        by_cases q : Mi (i + t) i = 0
        · rw [decide_eq_true q]
          refine iteF ⟨s3.trans s4, ?_⟩
          rw [fnd_succ, if_neg (fun h => h q)]
          exact hU4
        · rw [decide_eq_false q]
          have := @fnd_len Mi i i t
          refine iteT ⟨_, rfl, _, hU4, Nat.lt_of_lt_of_le (show (nats (fnd Mi i i t)).length < 1000 by unfold nats; rw [List.length_map]; omega) (by decide), same_upd (s3.trans s4) hU, ?_⟩
          rw [upd_same, fnd_succ, if_pos q]
          unfold nats
          rw [List.map_append]
          rfl
      rintro H3 ⟨s3, hU3⟩
      have en : ((vs.length : Int) - (i : Int)).toNat = n - i := by omega
      rw [en] at hU3
      have m3 := m2.mono s3
      have hrv := hrv.mono s3
      have s2 := s2.trans s3
      clear m2
      refine ⟨_, rfl, (by show 0 ≤ sizeLine; decide), fun p hp => ?_⟩
      have s4 : Same H3 (upd H3 p (.lst [])) := same_new hp
      refine ⟨_, _, .lst (SqL.of (s4 _ _ hU3)) (dp_nats _), .lst (SqL.of upd_same) .nil, shaped_nats _, rfl, _, rfl, ?_⟩
      rw [eqv_nil]
      have hU4 := s4 _ _ hU3
      have m4 := m3.mono s4
      have hrv := hrv.mono s4
      have s2 := s2.trans s4
      generalize upd H3 p (.lst []) = H4 at s4 hU4 m4 hrv s2
      clear m3
      by_cases hz : fnd Mi i i (n - i) = []
      · rw [decide_eq_true hz]
        refine iteT ⟨(by show 2 ≤ sizeLine; decide), fun p hp => k _ _ (s2.trans (same_new hp)) ⟨p, rfl, ?_⟩⟩
        have e : K13.dsub n M 0 = 0 := by
          rw [← hdet, K13.dsub_zero hin fun j h1 h2 => ?_]
          · grind
          · by_cases q : Mi j i = 0
            · exact q
            · have : j ∈ fnd Mi i i (n - i) := mem_fnd.mpr ⟨⟨h1, by omega⟩, q⟩
              rw [hz] at this
              cases this
        rw [e]
        exact SqT.of upd_same
      · rw [decide_eq_false hz]
        refine iteF ?_
        obtain ⟨k0, rest, ek⟩ := List.exists_cons_of_ne_nil hz
        rw [ek] at hU4
        have hk0 := mem_fnd.mp (show k0 ∈ fnd Mi i i (n - i) by rw [ek]; exact List.mem_cons_self)
        have hk1 := hk0.1.1
        have hk2 : k0 < n := by omega
        have hk3 := hk0.2
        refine ⟨fun σ H3 => ∃ (vs : List V) (Mi : Nat → Nat → Rat) (rv : V) (res : Rat) (v1 v4 v5 v6 : Option V), σ = [some (.ref D), v1, some rv, some (.int i), v4, v5, v6, none] ∧ Same H H3 ∧ MatD K H3 D vs n n Mi ∧ RatV K H3 rv res ∧
          res * K13.dsub n Mi i = K13.dsub n M 0 ∧ K13.Sm (rz i) res ∧ (∀ p q, i ≤ p → p < n → q < n → K13.Sm (bz i) (Mi p q)) ∧ Mi i i ≠ 0, ?_, ?_⟩
        · refine ⟨_, rfl, U, _, _, _, rfl, rfl, SqL.of hU4, at_of (j := 0) rfl rfl, _, rfl, rfl, _, rfl, ?_⟩
          by_cases hki : k0 = i
          · subst hki
            exact iteNS rfl ⟨vs, Mi, rv, res, _, _, _, _, rfl, s2, m4, hrv, hdet, hres, hsz, hk3⟩
          · have hne : ¬ V.int (k0 : Int) = V.int (i : Int) := fun e => hki (by have := V.int.inj e; omega)
            rw [decide_eq_false hne]
            refine iteT ?_
            obtain ⟨x, hx, rx⟩ := m4.mat.get hin
            obtain ⟨y, hy, ry⟩ := m4.mat.get hk2
            refine ⟨_, rfl, _, rfl, D, _, _, _, rfl, rfl, SqL.of m4.at_, at_of (j := i) rfl hx, ?_⟩
            have m5 := m4.set (k := i) ry (m4.off k0 y hy)
            refine ⟨_, rfl, _, rfl, U, _, _, _, rfl, rfl, SqL.of hU4, at_of (j := 0) rfl rfl, D, _, _, _, rfl, rfl, SqL.of m4.at_, at_of (j := k0) rfl hy, _, rfl, _, rfl, D, _, _, _, rfl, rfl, m4.at_, ixN_nat (by omega), ?_⟩
            have hU5 : (upd H4 D (.lst (vs.set i y))) U = some (.lst (nats (k0 :: rest))) := by rw [upd_ne hUD]; exact hU4
            have m6 := m5.set (k := k0) (rx.upd (m4.off i x hx) m4.at_) (m4.off i x hx)
            refine ⟨_, rfl, _, rfl, _, rfl, U, _, _, _, rfl, rfl, SqL.of hU5, at_of (j := 0) rfl rfl, D, _, _, _, rfl, rfl, m5.at_, ixN_nat (by rw [List.length_set]; omega), ?_⟩
            obtain ⟨ra, rfl, hra⟩ := (hrv.upd m4.at_ (o := .lst (vs.set i y))).upd m5.at_ (o := .lst ((vs.set i y).set k0 x))
            have s6 : Same H (upd (upd H4 D (.lst (vs.set i y))) D (.lst ((vs.set i y).set k0 x))) := same_upd (same_upd s2 hD) hD
            generalize upd (upd H4 D (.lst (vs.set i y))) D (.lst ((vs.set i y).set k0 x)) = H6 at m6 hra s6
            refine ⟨_, rfl, ra, _, _, _, rfl, rfl, hra, rfl, _, rfl, _, rfl, ra, _, _, _, rfl, rfl, hra, rfl, (by show 2 ≤ sizeLine; decide), fun p hp => ?_⟩
            have s7 : Same H6 (upd H6 p (.tup [.int (-res.num), .int (res.den : Int)])) := same_new hp
            refine ⟨_, _, .ref p, -res, _, _, _, _, rfl, s6.trans s7, m6.mono s7, ⟨p, rfl, ?_⟩, ?_, hres.neg, ?_, ?_⟩
            · rw [Rat.neg_num, Rat.neg_den]
              exact SqT.of upd_same
            · have e := K13.dsub_swap (M := Mi) (show i < k0 by omega) hk2
              have e2 : K13.dsub n (fun i_1 => if i_1 = k0 then Mi i else (fun i_2 => if i_2 = i then Mi k0 else Mi i_2) i_1) i = K13.dsub n (fun i_1 => if i_1 = i then Mi k0 else if i_1 = k0 then Mi i else Mi i_1) i := K13.dsub_congr fun p _ _ => by
                by_cases q1 : p = k0
                · rw [if_pos q1, if_neg (fun h => hki (q1.symm.trans h)), if_pos q1]
                · rw [if_neg q1]
                  show (if p = i then Mi k0 else Mi p) = _
                  by_cases q2 : p = i
                  · rw [if_pos q2, if_pos q2]
                  · rw [if_neg q2, if_neg q2, if_neg q1]
              rw [e2, e, ← hdet]
              grind
            · intro p q hp1 hp2 hq
              show K13.Sm _ ((if p = k0 then Mi i else if p = i then Mi k0 else Mi p) q)
              split
              · exact hsz i q (Nat.le_refl _) hin hq
              · split
                · exact hsz k0 q hk1 hk2 hq
                · exact hsz p q hp1 hp2 hq
            · show (if i = k0 then Mi i else if i = i then Mi k0 else Mi i) i ≠ 0
              rw [if_neg (fun h => hki h.symm), if_pos rfl]
              exact hk3
        · clear hdet hres hsz hk3 hrv m4 s2 hvl hz ek hk0 hU4 hU3
          rintro σ H3 ⟨vs, Mi, rv, res, v1, v4, v5, v6, rfl, s2, m2, hrv, hdet, hres, hsz, hpiv⟩
          have hvl := m2.mat.1
          obtain ⟨x, hx, rx⟩ := m2.mat.get hin
          obtain ⟨b, ws, z, hbx, hb, hwl, hz, hq⟩ := id (rx.get hin)
          subst hbx
          refine ⟨_, rfl, _, rfl, _, rfl, D, _, _, _, rfl, rfl, SqL.of m2.at_, at_of (j := i) rfl hx, _, rfl, b, _, _, _, rfl, rfl, hb, at_of (j := i) rfl hz, ?_⟩
          have hsi := hsz i i (Nat.le_refl _) hin hin
          refine ⟨rv, z, res, Mi i i, rfl, hrv, hq, hres.mono (by omega), hsi.mono (by omega), trivial, fun pv H4 s4 hp => ?_⟩
          have hMt0 : ∀ p, Mi p = if p ≤ i then Mi p else if p < i + 1 + 0 then K13.elim Mi i p else Mi p := fun p => by
            by_cases q : p ≤ i
            · rw [if_pos q]
            · rw [if_neg q, if_neg (by omega)]
          refine ⟨_, rfl, _, _, rfl, rfl, _, rfl, D, vs, rfl, Or.inl (SqL.of (m2.mono s4).at_), ((i : Int) + 1), (vs.length : Int), rfl, by omega,
            for_range (lo := (i : Int) + 1) (n := ((vs.length : Int) - ((i : Int) + 1)).toNat) (fun t σ H5 => ∃ (vs' : List V) (Mt : Nat → Nat → Rat) (v5 v6 : Option V), σ = [some (.ref D), v1, some pv, some (.int i), v4, v5, v6, none] ∧ Same H H5 ∧ MatD K H5 D vs' n n Mt ∧ RatV K H5 pv (res * Mi i i) ∧
              (∀ p, Mt p = if p ≤ i then Mi p else if p < i + 1 + t then K13.elim Mi i p else Mi p))
            ⟨vs, Mi, v5, v6, rfl, s2.trans s4, m2.mono s4, hp, hMt0⟩ ?_ ?_⟩
          · rintro t σ H5 ht ⟨vs', Mt, v5, v6, rfl, s5, m5, hpv, hMt⟩
            have hk : i + 1 + t < n := by omega
            have hvl' := m5.mat.1
            obtain ⟨y, hy, ry⟩ := m5.mat.get hk
            obtain ⟨x', hx', rx'⟩ := m5.mat.get hin
            have e1 : Mt (i + 1 + t) = Mi (i + 1 + t) := by rw [hMt, if_neg (by omega), if_neg (by omega)]
            have e2 : Mt i = Mi i := by rw [hMt, if_pos (Nat.le_refl _)]
            have ei : (i : Int) + 1 + (t : Int) = ((i + 1 + t : Nat) : Int) := by omega
            rw [ei]
            rw [e1] at ry
            rw [e2] at rx'
            have hi1 : i ≤ 1 := by omega
            have hb641 : bz i ≤ 641 := by
              rcases Nat.lt_or_ge i 1 with h | h
              · have : i = 0 := by omega
                subst this; decide
              · have : i = 1 := by omega
                subst this; decide
            have hb1 : ∃ b, bz i = b + 1 := by
              rcases Nat.lt_or_ge i 1 with h | h
              · have : i = 0 := by omega
                subst this; exact ⟨159, rfl⟩
              · have : i = 1 := by omega
                subst this; exact ⟨640, rfl⟩
            obtain ⟨b1, hb1⟩ := hb1
            have hf : K13.Sm (bz i + (b1 + 1)) (Mi (i + 1 + t) i / Mi i i) := (hsz _ i (by omega) hk hin).div (by rw [← hb1]; exact hsi)
            obtain ⟨by_, wy, zy, hby, hbb, hwyl, hzy, hqy⟩ := id (ry.get hin)
            subst hby
            obtain ⟨bx_, wx, zx, hbx2, hbbx, hwxl, hzx, hqx⟩ := id (rx'.get hin)
            subst hbx2
            refine ⟨_, rfl, _, rfl, D, _, _, _, rfl, rfl, SqL.of m5.at_, at_of (j := i + 1 + t) rfl hy, _, rfl, by_, _, _, _, rfl, rfl, hbb, at_of (j := i) rfl hzy, _, rfl, _, rfl, D, _, _, _, rfl, rfl, SqL.of m5.at_, at_of (j := i) rfl hx', _, rfl, bx_, _, _, _, rfl, rfl, hbbx, at_of (j := i) rfl hzx, ?_⟩
            refine ⟨zy, zx, _, _, rfl, hqy, hqx, (hsz _ i (by omega) hk hin).mono (by omega), hsi.mono (by omega), hpiv, fun sv H6 s6 hsv => ?_⟩
            have m6 := m5.mono s6
            refine ⟨_, rfl, D, vs', rfl, Or.inl (SqL.of m6.at_), (vs'.length : Int), rfl, by omega, by omega, fun U2 hU2 => ?_⟩
            have hU2D : U2 ≠ D := fun e => by rw [e, m6.at_] at hU2; cases hU2
            refine lc_range (lo := 0) (n := ((vs'.length : Nat) : Int).toNat) (fun j H7 => Same H6 H7 ∧ ∃ acc, H7 U2 = some (.lst acc) ∧ acc.length = j ∧ ∀ (j : Nat) z, acc[j]? = some z → RatV K H7 z (K13.elim Mi i (i + 1 + t) j))
              ⟨same_new hU2, [], upd_same, rfl, fun j z h => by cases h⟩ ?_ ?_
            · rintro j H7 hj ⟨s7, acc, hacc, hal, haj⟩
              rw [Int.zero_add]
              have hjn : j < n := by omega
              have m7 := m6.mono s7
              have ry7 := (ry.mono s6).mono s7
              have rx7 := (rx'.mono s6).mono s7
              obtain ⟨c1, w1, z1, hc1, hb1', hwl1, hz1, hq1⟩ := ry7.get hjn
              cases hc1
              obtain ⟨c2, w2, z2, hc2, hb2', hwl2, hz2, hq2⟩ := rx7.get hjn
              cases hc2
              refine ⟨rfl, ?_⟩
              refine ⟨_, rfl, _, rfl, D, _, _, _, rfl, rfl, SqL.of m7.at_, at_of (j := i + 1 + t) rfl hy, _, rfl, by_, _, _, _, rfl, rfl, hb1', at_of (j := j) rfl hz1, _, rfl, _, rfl, _, rfl, D, _, _, _, rfl, rfl, SqL.of m7.at_, at_of (j := i) rfl hx', _, rfl, bx_, _, _, _, rfl, rfl, hb2', at_of (j := j) rfl hz2, ?_⟩
              have a1 := hsz i j (Nat.le_refl _) hin hjn
              refine ⟨sv, z2, _, _, rfl, hsv.mono s7, hq2, hf.mono (by omega), a1.mono (by omega), trivial, fun pv2 H8 s8 hp8 => ?_⟩
              refine ⟨z1, pv2, _, _, rfl, hq1.mono s8, hp8, (hsz _ j (by omega) hk hjn).mono (by omega), (hf.mul a1).mono (by omega), trivial, fun v H9 s9 hv9 => ?_⟩
              have hacc9 := s9 _ _ (s8 _ _ hacc)
              refine ⟨acc, hacc9, Nat.lt_of_lt_of_le (show acc.length < 1000 by omega) (by decide), same_upd ((s7.trans s8).trans s9) hU2, acc ++ [v], upd_same, by simp [hal], fun j' z hz => ?_⟩
              rcases snoc_get hz with ⟨_, h1⟩ | ⟨h1, rfl⟩
              · exact (((haj j' z h1).mono s8).mono s9).upd hacc9
              · rw [h1, hal]
                exact hv9.upd hacc9
            rintro H7 ⟨s7, acc, hacc, hal, haj⟩
            have m7 := m6.mono s7
            have hv : RowF K H7 (.ref U2) n (K13.elim Mi i (i + 1 + t)) := ⟨U2, acc, rfl, SqL.of hacc, by omega, haj⟩
            have hvD : V.ref U2 ≠ .ref D := fun e => hU2D (V.ref.inj e)
            have m8 := m7.set (k := i + 1 + t) hv hvD
            refine ⟨_, rfl, _, rfl, D, _, _, _, rfl, rfl, m7.at_, ixN_nat (by omega), ?_⟩
            refine ⟨_, _, _, _, rfl, same_upd ((s5.trans s6).trans s7) hD, m8, ((hpv.mono s6).mono s7).upd m7.at_, fun p => ?_⟩
            show (if p = i + 1 + t then _ else Mt p) = _
            by_cases q1 : p = i + 1 + t
            · rw [if_pos q1, if_neg (by omega), if_pos (by omega), q1]
            · rw [if_neg q1, hMt]
              by_cases q2 : p ≤ i
              · rw [if_pos q2, if_pos q2]
              · rw [if_neg q2, if_neg q2]
                by_cases q3 : p < i + 1 + t
                · rw [if_pos q3, if_pos (by omega)]
                · rw [if_neg q3, if_neg (by omega)]
          · rintro σ H5 ⟨vs', Mt, v5, v6, rfl, s5, m5, hpv, hMt⟩
            refine ⟨vs', Mt, pv, res * Mi i i, _, _, _, _, _, rfl, s5, m5, hpv, ?_, ?_, ?_⟩
            · have e := K13.dsub_step (M := Mi) hin hpiv
              have e2 : K13.dsub n (fun p => if p ≤ i then Mi p else K13.elim Mi i p) (i + 1) = K13.dsub n Mt (i + 1) := K13.dsub_congr fun p h1 h2 => by
                rw [hMt p, if_neg (by omega), if_neg (by omega), if_pos (by omega)]
              rw [← e2, ← hdet, e]
              grind
            · refine (hres.mul hsi).mono ?_
              have : i = 0 ∨ i = 1 ∨ i = 2 := by omega
              rcases this with rfl | rfl | rfl <;> decide
            · intro p q h1 h2 h3
              rw [hMt p, if_neg (by omega), if_pos (by omega)]
              have hi1 : i = 0 ∨ i = 1 := by omega
              rcases hi1 with rfl | rfl
              · have a1 := hsz p q (by omega) h2 h3
                have a2 := hsz p 0 (by omega) h2 hin
                have a3 := hsz 0 q (by omega) hin h3
                exact (a1.sub ((a2.div (b := 159) hsi).mul a3)).mono (by decide)
              · have a1 := hsz p q (by omega) h2 h3
                have a2 := hsz p 1 (by omega) h2 hin
                have a3 := hsz 1 q (by omega) hin h3
                exact (a1.sub ((a2.div (b := 640) hsi).mul a3)).mono (by decide)
    · rintro σ H2 ⟨vs, Mi, rv, res, v1, v3, v4, v5, v6, rfl, s2, m2, hrv, hdet, hres, hsz⟩
      have en : ((vs0.length : Nat) : Int).toNat = n := by omega
      rw [en, K13.dsub_end] at hdet
      refine ⟨_, rfl, k _ _ s2 ?_⟩
      have : res = K13.dsub n M 0 := by rw [← hdet]; grind
      rw [← this]
      exact hrv
abbrev s_lminor : Stmt := top 53
theorem sc_lminor : FnScope ["_law_table_here", "_law_heads", "_law_tails", "_law_rows", "_law_i", "_law_j"] ["_law_table_here", "_law_heads", "_law_tails"] (defScope s_lminor) := ⟨rfl, rfl, rfl, by decide +kernel, rfl, by decide +kernel, by decide +kernel⟩
theorem ok_lminor {f : Addr} {fd : FuncData} (F : Fun K "_law_minor" "_law_minor" s_lminor f fd) (T : Txt K mg uS uG aZ aO) (DD : Df P w K mg base 4 "_law_det" ["_law_rows"] (spDet K)) :
    FnOk P w K mg base CX0 5 f fd ["_law_table_here", "_law_heads", "_law_tails"] (spMinor K) := by
  obtain ⟨_, _, G_ldet, C_ldet⟩ := DD
  refine F.ok sc_lminor (fun vs H Q E h => ?_) (fun cdv A outer s H vs Q E hr h => ?_)
  · obtain ⟨v, h, t, rim, X, A, B, rfl, _⟩ := h
    rfl
  · obtain ⟨v, h, t, rim, X, A, B, rfl, hv, hA, hB, hl, h3, bA, bB, sX, k⟩ := h
    have nd := sc_lminor.nd
    refine ⟨_,
      (pss_cons
        (ps_set (i := 3) nd rfl (by first | exact Or.inl rfl | exact Or.inr rfl) (pe_lst pa_nil))
      (pss_cons
        (ps_for PassesOwn.never rfl (pi_tup (pv 1)) (pg_name (i := 4) nd rfl (by first | exact Or.inl rfl | exact Or.inr rfl))
          (pss_one
            (ps_expr (pe_bm PySem.F.plainAttrs_list PySem.F.slot_list_append PySem.F.type_list_append mt_append (pv 3) (pa_cons (pe_lc (own := [("_law_j", 5)]) (g := gName 5) (te := tTup (tCons (tUn (rU fun i => .int (-i)) (tOp (rIxT K) (tOp (rIxT K) (tOp (rIxT K) (tVar 0) (tOp (rI0 fun i j => .int (i - j)) (tVar 4) (tC (.int 1)))) (tOp (rI0 fun i j => .int (i - j)) (tVar 5) (tC (.int 1)))) (tC (.int 0)))) (tCons (tOp (rIxT K) (tOp (rIxT K) (tOp (rIxT K) (tVar 0) (tOp (rI0 fun i j => .int (i - j)) (tVar 4) (tC (.int 1)))) (tOp (rI0 fun i j => .int (i - j)) (tVar 5) (tC (.int 1)))) (tC (.int 1))) tNil))) rfl nd (pi_tup (pv 2)) (blkOk_by (N := ["_law_table_here", "_law_heads", "_law_tails", "_law_rows", "_law_i", "_law_j"]) (sc := defScope s_lminor) (by decide +kernel))
      (fun _ _ _ _ _ => pg_name (i := 5) nd rfl (by first | exact Or.inl rfl | exact Or.inr rfl)) (fun _ _ _ _ _ => pts_nil)
      (fun _ _ _ _ _ => (pe_tup (pa_cons (pe_un un_neg (pe_ix ix_tup (pe_ix ix_tup (pe_ix ix_tup (pv 0) (pe_op op_sub (pv 4) pe_int) (fun _ _ => rfl)) (pe_op op_sub (pv 5) pe_int) (fun _ _ => rfl)) pe_int (fun _ _ => rfl))) (pa_cons (pe_ix ix_tup (pe_ix ix_tup (pe_ix ix_tup (pv 0) (pe_op op_sub (pv 4) pe_int) (fun _ _ => rfl)) (pe_op op_sub (pv 5) pe_int) (fun _ _ => rfl)) pe_int (fun _ _ => rfl)) pa_nil))))) pa_nil)))))
      (pss_one
        (ps_ret (pe_call G_ldet (hr.mono (by decide)) rfl C_ldet.m C_ldet.kp C_ldet.b .nil pass0 (pa_cons (pv 3) pa_nil)))))), ?_⟩
    obtain ⟨a, rs, rfl, ha, hrl, hri⟩ := hv
    refine ⟨(by show 0 ≤ sizeLine; decide), fun D hD => ?_⟩
    refine ⟨_, rfl, h, rfl, ⟨_, Same.tup (same_new hD) hA⟩, for_tup (K := K) (a := h) (xs := ups A) (fun i σ H2 => (∃ v4, σ = [some (.ref a), some (.ref h), some (.ref t), some (.ref D), v4, none]) ∧ Same H H2 ∧ ∃ acc, H2 D = some (.lst acc) ∧ acc.length = i ∧ ∀ (j : Nat) z, acc[j]? = some z → RowF K H2 z B.length (fun t => - X (A.getD j 0) (B.getD t 0)) ∧ z ≠ .ref D)
      ⟨⟨none, rfl⟩, same_new hD, [], upd_same, rfl, fun j z h => by cases h⟩ (fun i σ H2 _ ⟨_, s2, _⟩ => Same.tup s2 hA) ?_ ?_⟩
    · rintro i x σ H2 hx ⟨⟨v4, rfl⟩, s2, acc, hacc, hal, haj⟩
      obtain ⟨p, hp, rfl⟩ := ups_get hx
      have hpr := bA p (List.mem_of_getElem? hp)
      have hil := (List.getElem?_eq_some_iff.mp hp).1
      have eA : A.getD i 0 = p := by simp [List.getD, hp]
      refine ⟨_, rfl, .inl ⟨rfl, _, SqL.of hacc⟩, ?_⟩
      refine ⟨_, rfl, t, rfl, ⟨_, Same.tup s2 hB⟩, fun U hU => ?_⟩
      have hUD : U ≠ D := fun e => by rw [e, hacc] at hU; cases hU
      refine lc_tup (K := K) (a := t) (xs := ups B) (fun q H5 => Same H2 H5 ∧ ∃ ac, H5 U = some (.lst ac) ∧ ac.length = q ∧ ∀ (j : Nat) z, ac[j]? = some z → RatV K H5 z (- X p (B.getD j 0)))
        ⟨same_new hU, [], upd_same, rfl, fun j z h => by cases h⟩ (fun i H5 _ ⟨s5, _⟩ => Same.tup (s2.trans s5) hB) ?_ ?_
      · rintro q y H5 hy ⟨s5, ac, hac, hcl, hcj⟩
        obtain ⟨b, hb, rfl⟩ := ups_get hy
        have hbr := bB b (List.mem_of_getElem? hb)
        have hql := (List.getElem?_eq_some_iff.mp hb).1
        have eB : B.getD q 0 = b := by simp [List.getD, hb]
        obtain ⟨rv, hrv⟩ : ∃ z, rs[p]? = some z := ⟨_, List.getElem?_eq_getElem (by omega)⟩
        obtain ⟨c, ws, rfl, hc, hwl, hwj⟩ := (hri p rv hrv).mono (s2.trans s5)
        obtain ⟨z, hz⟩ : ∃ z, ws[b]? = some z := ⟨_, List.getElem?_eq_getElem (by omega)⟩
        obtain ⟨za, rfl, hza⟩ := hwj b z hz
        have ha5 := Same.tup (s2.trans s5) ha
        refine ⟨rfl, ?_⟩
        refine ⟨_, rfl, _, rfl, _, _, rfl, rfl, a, _, _, _, rfl, rfl, ha5, at_of (j := p) (by omega) hrv, _, rfl, _, _, rfl, rfl, c, _, _, _, rfl, rfl, hc, at_of (j := b) (by omega) hz, za, _, _, _, rfl, rfl, hza, rfl, _, rfl, ?_⟩
        refine ⟨_, rfl, _, rfl, _, _, rfl, rfl, a, _, _, _, rfl, rfl, ha5, at_of (j := p) (by omega) hrv, _, rfl, _, _, rfl, rfl, c, _, _, _, rfl, rfl, hc, at_of (j := b) (by omega) hz, za, _, _, _, rfl, rfl, hza, rfl, (by show 2 ≤ sizeLine; decide), fun u hu => ?_⟩
        have s6 : Same H5 (upd H5 u (.tup [.int (-(X p b).num), .int ((X p b).den : Int)])) := same_new hu
        have hac6 := s6 _ _ hac
        refine ⟨ac, hac6, Nat.lt_of_lt_of_le (show ac.length < 1000 by omega) (by decide), same_upd (s5.trans s6) hU, ac ++ [.ref u], upd_same, by simp [hcl], fun j z' hz' => ?_⟩
        rcases snoc_get hz' with ⟨_, h1⟩ | ⟨h1, rfl⟩
        · exact ((hcj j z' h1).mono s6).upd hac6
        · rw [h1, hcl, eB]
          refine RatV.upd ⟨u, rfl, ?_⟩ hac6
          rw [Rat.neg_num, Rat.neg_den]
          exact SqT.of upd_same
      · rintro H5 ⟨s5, ac, hac, hcl, hcj⟩
        have hacc5 := s5 _ _ hacc
        refine ⟨D, acc, _, rfl, rfl, hacc5, Nat.lt_of_lt_of_le (show acc.length < 1000 by have := @ups_len A; omega) (by decide), ⟨_, rfl⟩, same_upd (s2.trans s5) hD, acc ++ [.ref U], upd_same, by simp [hal], fun j z hz => ?_⟩
        rcases snoc_get hz with ⟨_, h1⟩ | ⟨h1, rfl⟩
        · exact ⟨((haj j z h1).1.mono s5).upd (haj j z h1).2 hacc5, (haj j z h1).2⟩
        · have hz2 : (V.ref U) ≠ .ref D := fun e => hUD (V.ref.inj e)
          rw [h1, hal, eA]
          exact ⟨RowF.upd ⟨U, ac, rfl, SqL.of hac, hcl.trans ups_len, hcj⟩ hz2 hacc5, hz2⟩
    · rintro σ H2 ⟨⟨v4, rfl⟩, s2, acc, hacc, hal, haj⟩
      have hal : acc.length = A.length := hal.trans ups_len
      refine ⟨_, rfl, D, acc, A.length, (fun i j => - X (A.getD i 0) (B.getD j 0)), rfl, SqL.of hacc, ⟨hal, fun i z hz => hl ▸ (haj i z hz).1⟩, h3, fun i j hi hj => ?_, fun u H3 s3 hu => ?_⟩
      · refine (sX _ _ (bA _ ?_) (bB _ ?_)).neg
        · have : A[i]? = some A[i] := List.getElem?_eq_getElem hi
          simp [List.getD, this]
        · have hj : j < B.length := by omega
          have : B[j]? = some B[j] := List.getElem?_eq_getElem hj
          simp [List.getD, this]
      · rw [K13.dsub_at hl] at hu
        exact k u H3 (s2.trans s3) hu
end
end W13
namespace W13
open PySem L2
/-! ## two answers are the same -/
theorem tyx_tup {K : PySem.W.Frag} {H : Hp} {a : Addr} {xs : List V} (h : SqT K H a xs) : TyX K H (.ref a) (.type "tuple") := by
  rcases h with (h | ⟨o, h⟩) | ⟨o, its, n, h1, h2, _⟩
  · exact .base (.tup h)
  · exact .fTuple h
  · exact .kTuple h1 h2
theorem int_eqd (i j : Int) : decide (V.int i = V.int j) = decide (i = j) := by
  by_cases h : i = j
  · subst h; simp
  · have : ¬ V.int i = V.int j := fun e => h (V.int.inj e)
    rw [decide_eq_false h, decide_eq_false this]
theorem rat_same (p q : Rat) : (decide (p.num = q.num) && decide (p.den = q.den)) = decide (p = q) := by
  by_cases h : p = q
  · subst h; simp
  · rw [decide_eq_false h]
    by_cases h1 : p.num = q.num
    · by_cases h2 : p.den = q.den
      · exact absurd (Rat.ext h1 h2) h
      · simp [h2]
    · simp [h1]
def spNone : Sp := fun _ _ _ _ => False
def spSameI : Sp := fun vs H Q _ => ∃ i j : Int, vs = [.int i, .int j] ∧ Q (.bl (decide (i = j))) H
def spSameR (K : PySem.W.Frag) : Sp := fun vs H Q _ => ∃ (x y : V) (p q : Rat), vs = [x, y] ∧ RatV K H x p ∧ RatV K H y q ∧ ∀ H', Same H H' → Q (.bl (decide (p = q))) H'
section
variable {P : Program} {w : World} {K : PySem.W.Frag} {mg : Str → Option Value} {base : Heap} {uS uG : Value} {aZ aO : Addr}
theorem ok_none {f : Addr} {fd : FuncData} {ps : List Str} : FnOk P w K mg base CX0 0 f fd ps spNone := ⟨fun _ _ _ _ h => h.elim, fun _ _ _ _ _ _ _ _ _ _ _ _ _ h => h.elim⟩
abbrev s_lsame : Stmt := top 42
theorem sc_lsame : FnScope ["_law_actual", "_law_due", "_law_k"] ["_law_actual", "_law_due"] (defScope s_lsame) := ⟨rfl, rfl, rfl, by decide +kernel, rfl, by decide +kernel, by decide +kernel⟩
theorem ok_lsame_of {f : Addr} {fd : FuncData} {lv : Nat} {spr sp : Sp} (F : Fun K "_law_same" "_law_same" s_lsame f fd) (T : Txt K mg uS uG aZ aO) (N : Nm K mg "_law_same" ["_law_actual", "_law_due"] f fd)
    (G_lsame : FnOk P w K mg base CX0 lv f fd ["_law_actual", "_law_due"] spr) (hsp : sp = spSameI ∨ (sp = spSameR K ∧ spr = spSameI)) : FnOk P w K mg base CX0 (lv + 1) f fd ["_law_actual", "_law_due"] sp := by
  have C_lsame := N
  refine F.ok sc_lsame (fun vs H Q E h => ?_) (fun cdv A outer s H vs Q E hr h => ?_)
  · rcases hsp with rfl | ⟨rfl, _⟩
    · obtain ⟨i, j, rfl, _⟩ := h
      rfl
    · obtain ⟨x, y, p, q, rfl, _⟩ := h
      rfl
  · have nd := sc_lsame.nd
    refine ⟨_,
      (pss_cons
        (ps_if (pt_val (pe_callB call_isi (by rfl) T.isinstance (by decide +kernel) (pa_cons (pv 1) (pa_cons (pe_bltn (by rfl) T.tuple (by decide +kernel) (v := .ty "tuple") (u := .type "tuple") rfl) pa_nil))))
          (pss_cons
            (ps_if (PW.pt (pw_or (pt_not (pt_val (pe_callB call_isi (by rfl) T.isinstance (by decide +kernel) (pa_cons (pv 0) (pa_cons (pe_bltn (by rfl) T.tuple (by decide +kernel) (v := .ty "tuple") (u := .type "tuple") rfl) pa_nil))))) (pw_or1 (pt_cmpR op_ne (pe_callB call_len_seq (by rfl) T.len PySem.boot_len (pa_cons (pv 0) pa_nil)) (pe_callB call_len_seq (by rfl) T.len PySem.boot_len (pa_cons (pv 1) pa_nil)) (nomark _)))))
              (pss_one
                (ps_ret pe_bl))
              pss_nil)
          (pss_one
            (ps_ret (pe_callB (cr_all rfl) (by rfl) T.all (by decide +kernel) (pa_cons (pe_lc (own := [("_law_k", 2)]) (g := gName 2) (te := tCall spr [] E0 (tCons (tOp (rIxT K) (tVar 0) (tVar 2)) (tCons (tOp (rIxT K) (tVar 1) (tVar 2)) tNil))) rfl nd (pi_range1 rfl T.range (pa_cons (pe_callB call_len_seq (by rfl) T.len PySem.boot_len (pa_cons (pv 1) pa_nil)) pa_nil)) (blkOk_by (N := ["_law_actual", "_law_due", "_law_k"]) (sc := defScope s_lsame) (by decide +kernel))
      (fun _ _ _ _ _ => pg_name (i := 2) nd rfl (by first | exact Or.inl rfl | exact Or.inr rfl)) (fun _ _ _ _ _ => pts_nil)
      (fun _ _ _ _ _ => (pe_call G_lsame hr rfl C_lsame.m C_lsame.kp C_lsame.b .nil pass0 (pa_cons (pe_ix ix_tup (pv 0) (pv 2) (fun _ _ => rfl)) (pa_cons (pe_ix ix_tup (pv 1) (pv 2) (fun _ _ => rfl)) pa_nil))))) pa_nil)))))
          pss_nil)
      (pss_cons
        (ps_if (pt_val (pe_callB call_isi (by rfl) T.isinstance (by decide +kernel) (pa_cons (pv 1) (pa_cons (pe_bltn (by rfl) T.list (by decide +kernel) (v := .ty "list") (u := .type "list") rfl) pa_nil))))
          (pss_one
            (ps_ret (pe_and (pe_callB call_isi (by rfl) T.isinstance (by decide +kernel) (pa_cons (pv 0) (pa_cons (pe_bltn (by rfl) T.list (by decide +kernel) (v := .ty "list") (u := .type "list") rfl) pa_nil))) (pe_one (pe_call G_lsame hr rfl C_lsame.m C_lsame.kp C_lsame.b .nil pass0 (pa_cons (pe_callTy call_tuple_of (by rfl) T.tuple (by decide +kernel) (pa_cons (pv 0) pa_nil)) (pa_cons (pe_callTy call_tuple_of (by rfl) T.tuple (by decide +kernel) (pa_cons (pv 1) pa_nil)) pa_nil)))))))
          pss_nil)
      (pss_cons
        (ps_if (pt_cmpR op_isN (pv 1) pe_non (nomark _))
          (pss_one
            (ps_ret (pe_cmpR op_isN (pv 0) pe_non (nomark _))))
          pss_nil)
      (pss_cons
        (ps_if (pt_val (pe_callB call_isi (by rfl) T.isinstance (by decide +kernel) (pa_cons (pv 1) (pa_cons (pe_bltn (by rfl) T.bool (by decide +kernel) (v := .ty "bool") (u := .type "bool") rfl) pa_nil))))
          (pss_one
            (ps_ret (pe_and (pe_callB call_isi (by rfl) T.isinstance (by decide +kernel) (pa_cons (pv 0) (pa_cons (pe_bltn (by rfl) T.bool (by decide +kernel) (v := .ty "bool") (u := .type "bool") rfl) pa_nil))) (pe_one (pe_cmpR op_eq (pv 0) (pv 1) (nomark _))))))
          pss_nil)
      (pss_cons
        (ps_if (pt_val (pe_callB call_isi (by rfl) T.isinstance (by decide +kernel) (pa_cons (pv 1) (pa_cons (pe_bltn (by rfl) T.str (by decide +kernel) (v := .ty "str") (u := .type "str") rfl) pa_nil))))
          (pss_one
            (ps_ret (pe_and (pe_callB call_isi (by rfl) T.isinstance (by decide +kernel) (pa_cons (pv 0) (pa_cons (pe_bltn (by rfl) T.str (by decide +kernel) (v := .ty "str") (u := .type "str") rfl) pa_nil))) (pe_one (pe_cmpR op_eq (pv 0) (pv 1) (nomark _))))))
          pss_nil)
      (pss_one
        (ps_ret (pe_and (pe_callB call_isi (by rfl) T.isinstance (by decide +kernel) (pa_cons (pv 0) (pa_cons (pe_bltn (by rfl) T.int (by decide +kernel) (v := .ty "int") (u := .type "int") rfl) pa_nil))) (pe_and (pe_not (pe_callB call_isi (by rfl) T.isinstance (by decide +kernel) (pa_cons (pv 0) (pa_cons (pe_bltn (by rfl) T.bool (by decide +kernel) (v := .ty "bool") (u := .type "bool") rfl) pa_nil)))) (pe_one (pe_cmpR op_eq (pv 0) (pv 1) (nomark _)))))))))))), ?_⟩
    rcases hsp with rfl | ⟨rfl, rfl⟩
    · obtain ⟨i, j, rfl, k⟩ := h
      refine ⟨_, rfl, _, _, _, _, false, rfl, .ty _, .base (.int j), kit_ty (by decide +kernel), _, rfl, iteF ?_⟩
      refine ⟨_, rfl, _, _, _, _, false, rfl, .ty _, .base (.int j), kit_ty (by decide +kernel), _, rfl, iteF ?_⟩
      refine ⟨_, rfl, rfl, _, rfl, ?_⟩
      rw [decide_eq_false (fun h : V.int j = .non => nomatch h)]
      refine iteF ?_
      refine ⟨_, rfl, _, _, _, _, false, rfl, .ty _, .base (.int j), kit_ty (by decide +kernel), _, rfl, iteF ?_⟩
      refine ⟨_, rfl, _, _, _, _, false, rfl, .ty _, .base (.int j), kit_ty (by decide +kernel), _, rfl, iteF ?_⟩
      refine ⟨_, rfl, _, _, _, _, true, rfl, .ty _, .base (.int i), kit_ty (by decide +kernel), _, rfl, ?_⟩
      refine ⟨_, rfl, _, _, _, _, false, rfl, .ty _, .base (.int i), kit_ty (by decide +kernel), ?_⟩
      refine ⟨_, rfl, true, rfl, iteT ?_⟩
      refine ⟨_, rfl, _, rfl, rfl, ?_⟩
      rw [int_eqd]
      exact k
    · obtain ⟨x, y, p, q, rfl, hx, hy, k⟩ := h
      obtain ⟨a, rfl, ha⟩ := hx
      obtain ⟨b, rfl, hb⟩ := hy
      refine ⟨_, rfl, _, _, _, _, true, rfl, .ty _, tyx_tup hb, kit_ty (by decide +kernel), _, rfl, iteT ?_⟩
      refine ⟨_, rfl, _, _, _, _, true, rfl, .ty _, tyx_tup ha, kit_ty (by decide +kernel), ?_⟩
      refine ⟨_, rfl, iteF ?_⟩
      refine ⟨_, rfl, a, _, rfl, .inr ha, _, rfl, b, _, rfl, .inr hb, rfl, _, rfl, ?_⟩
      refine iteNS rfl ?_
      refine ⟨_, rfl, b, _, rfl, .inr hb, _, rfl, by simp, by simp, fun D hD => ?_⟩
      refine lc_range (lo := 0) (n := 2) (fun i H2 => Same H H2 ∧ H2 D = some (.lst (([decide (p.num = q.num), decide (p.den = q.den)].take i).map V.bl)))
        ⟨same_new hD, upd_same⟩ ?_ ?_
      · rintro i H2 hi ⟨s2, hacc⟩
        rw [Int.zero_add]
        have ha2 := Same.tup s2 ha
        have hb2 := Same.tup s2 hb
        have fin : ∀ (i : Nat) (b : Bool) (l : List Bool), l.length < 1000 → H2 D = some (.lst (l.map V.bl)) → ∃ acc, H2 D = some (.lst acc) ∧ acc.length < sizeLine ∧ Same H (upd H2 D (.lst (acc ++ [.bl b]))) ∧ (upd H2 D (.lst (acc ++ [.bl b]))) D = some (.lst ((l ++ [b]).map V.bl)) := fun i b l hl h => by
          refine ⟨_, h, ?_, same_upd s2 hD, ?_⟩
          · rw [List.length_map]
            exact Nat.lt_of_lt_of_le hl (by decide)
          · rw [upd_same, List.map_append]
            rfl
        have : i = 0 ∨ i = 1 := by omega
        rcases this with rfl | rfl
        · refine ⟨rfl, ?_⟩
          refine ⟨_, rfl, _, rfl, a, _, _, _, rfl, rfl, ha2, at_of (j := 0) rfl rfl, _, rfl, _, rfl, b, _, _, _, rfl, rfl, hb2, at_of (j := 0) rfl rfl, ?_⟩
          exact ⟨_, _, rfl, fin 0 _ [] (by decide) hacc⟩
        · refine ⟨rfl, ?_⟩
          refine ⟨_, rfl, _, rfl, a, _, _, _, rfl, rfl, ha2, at_of (j := 1) rfl rfl, _, rfl, _, rfl, b, _, _, _, rfl, rfl, hb2, at_of (j := 1) rfl rfl, ?_⟩
          refine ⟨_, _, rfl, ?_⟩
          have e : decide ((p.den : Int) = (q.den : Int)) = decide (p.den = q.den) := by
            by_cases h : p.den = q.den
            · simp [h]
            · have : ¬ ((p.den : Int) = (q.den : Int)) := by omega
              simp [h, this]
          rw [e]
          exact fin 1 _ [_] (by simp) hacc
      · rintro H2 ⟨s2, hacc⟩
        refine ⟨D, _, rfl, SqL.of hacc, ?_⟩
        have e : ([decide (p.num = q.num), decide (p.den = q.den)].take 2).all id = decide (p = q) := by
          rw [← rat_same]
          show (decide (p.num = q.num) && (decide (p.den = q.den) && true)) = _
          rw [Bool.and_true]
        rw [e]
        exact k H2 s2
theorem ok_lsame {f : Addr} {fd : FuncData} (F : Fun K "_law_same" "_law_same" s_lsame f fd) (T : Txt K mg uS uG aZ aO) (N : Nm K mg "_law_same" ["_law_actual", "_law_due"] f fd) : FnOk P w K mg base CX0 2 f fd ["_law_actual", "_law_due"] (spSameR K) :=
  ok_lsame_of F T N (ok_lsame_of F T N ok_none (.inl rfl)) (.inr ⟨rfl, rfl⟩)
end
end W13
namespace W13
open PySem L2
/-! ## the drawn numbers -/
/-- nothing but a is changed -/
def But (a : Addr) (H H' : Hp) : Prop := ∀ b u, b ≠ a → H b = some u → H' b = some u
theorem But.refl {a : Addr} {H : Hp} : But a H H := fun _ _ _ h => h
theorem But.trans {a : Addr} {A B C : Hp} (h : But a A B) (g : But a B C) : But a A C := fun b u n q => g b u n (h b u n q)
theorem But.same {a : Addr} {A B : Hp} (h : Same A B) : But a A B := fun b u _ q => h b u q
theorem But.upd {a : Addr} {H : Hp} {o : HO} : But a H (L2.upd H a o) := fun b u n q => by rw [upd_ne n]; exact q
theorem But.seq {K : PySem.W.Frag} {a b : Addr} {H H' : Hp} {xs : List V} (e : But a H H') (h : SqL K H b xs) (n : b ≠ a) : SqL K H' b xs := by
  rcases h with (h | ⟨u, h⟩) | h
  · exact .inl (.inl (e _ _ n h))
  · exact .inl (.inr ⟨u, e _ _ n h⟩)
  · exact .inr h
theorem But.tk {K : PySem.W.Frag} {a : Addr} {H H' : Hp} {l : List V} (e : But a H H') (ha : H a = some (.lst l)) : TK K H H' := fun b xs h => by
  rcases h with (h | ⟨u, h⟩) | h
  · exact .inl (.inl (e _ _ (ne_of h ha (by intro q; cases q)) h))
  · exact .inl (.inr ⟨u, e _ _ (ne_of h ha (by intro q; cases q)) h⟩)
  · exact .inr h
/-- the state of the draws stands at a, its script at s -/
def StA (H : Hp) (a s : Addr) : Prop := ∃ (ns : List Int) (p : Nat) (h c : Int), H a = some (.lst [.ref s, .int (p : Int), .int h, .int c]) ∧ s ≠ a ∧ H s = some (.lst (ns.map V.int))
theorem StA.mono {H H' : Hp} {a s : Addr} (h : StA H a s) (e : Same H H') : StA H' a s := by
  obtain ⟨ns, p, h, c, h1, h2, h3⟩ := h
  exact ⟨ns, p, h, c, e _ _ h1, h2, e _ _ h3⟩
theorem StA.lst {H : Hp} {a s : Addr} (h : StA H a s) : (∃ l, H a = some (.lst l)) ∧ ∃ l, H s = some (.lst l) := by
  obtain ⟨ns, p, h, c, h1, _, h3⟩ := h
  exact ⟨⟨_, h1⟩, _, h3⟩
theorem StA.off {H : Hp} {a s b : Addr} {o : HO} (h : StA H a s) (h1 : b ≠ a) (h2 : b ≠ s) : StA (L2.upd H b o) a s := by
  obtain ⟨ns, p, h, c, g1, g2, g3⟩ := h
  exact ⟨ns, p, h, c, by rw [upd_ne h1.symm]; exact g1, g2, by rw [upd_ne h2.symm]; exact g3⟩
theorem amounts : ∀ (r : Fin 6) (t : Fin 4), 0 < Rat.divInt (1 + ((r.val : Nat) : Int)) (1 + ((t.val : Nat) : Int)) ∧ Rat.divInt (1 + ((r.val : Nat) : Int)) (1 + ((t.val : Nat) : Int)) * 12 = ((12 * (1 + ((r.val : Nat) : Int)) / (1 + ((t.val : Nat) : Int)) : Int) : Rat) ∧ (12 * (1 + ((r.val : Nat) : Int)) / (1 + ((t.val : Nat) : Int))).natAbs ≤ 72 := by decide +kernel
def spPick : Sp := fun vs H Q _ => ∃ (a s : Addr) (m : Nat), vs = [.ref a, .int (m : Int)] ∧ StA H a s ∧ 0 < m ∧ m < 1000 ∧ ∀ (r : Nat) (H' : Hp), r < m → But a H H' → StA H' a s → Q (.int (r : Int)) H'
def spAmount (K : PySem.W.Frag) : Sp := fun vs H Q _ => ∃ (a s : Addr), vs = [.ref a] ∧ StA H a s ∧ ∀ (v : V) (q : Rat) (H' : Hp), 0 < q → K13.W12 72 q → But a H H' → StA H' a s → RatV K H' v q → Q v H'
section
variable {P : Program} {w : World} {K : PySem.W.Frag} {mg : Str → Option Value} {base : Heap} {uS uG : Value} {aZ aO : Addr}
abbrev s_lpick : Stmt := top 35
theorem sc_lpick : FnScope ["_law_state", "_law_limit", "_law_value", "_law_cell", "_law_mixed"] ["_law_state", "_law_limit"] (defScope s_lpick) := ⟨rfl, rfl, rfl, by decide +kernel, rfl, by decide +kernel, by decide +kernel⟩
theorem ok_lpick {f : Addr} {fd : FuncData} (F : Fun K "_law_pick" "_law_pick" s_lpick f fd) (T : Txt K mg uS uG aZ aO) : FnOk P w K mg base CX0 1 f fd ["_law_state", "_law_limit"] spPick := by
  refine F.ok sc_lpick (fun vs H Q E h => ?_) (fun cdv A outer s H vs Q E hr h => ?_)
  · obtain ⟨a, sa, m, rfl, _⟩ := h
    rfl
  · obtain ⟨a, sa, m, rfl, ⟨ns, p, hh, cc, ha, hsa, hS⟩, hm0, hm1, k⟩ := h
    have nd := sc_lpick.nd
    refine ⟨_,
      (pss_cons
        (ps_asg (pe_op op_add (pe_ix ix_list (pv 0) pe_int (fun _ _ => rfl)) pe_int) (pg_sub (pv 0) pe_int set_list))
      (pss_cons
        (ps_if (pt_cmpR op_gt (pe_ix ix_list (pv 0) pe_int (fun _ _ => rfl)) pe_int (nomark _))
          (pss_cons
            (ps_set (i := 2) nd rfl (by first | exact Or.inl rfl | exact Or.inr rfl) (pe_op op_mod (pe_callTy call_int1 (by rfl) T.int (by decide +kernel) (pa_cons (pe_ix ix_list (pv 0) pe_int (fun _ _ => rfl)) pa_nil)) (pv 1)))
          (pss_cons
            (ps_asg (pe_op op_fdiv (pe_ix ix_list (pv 0) pe_int (fun _ _ => rfl)) (pv 1)) (pg_sub (pv 0) pe_int set_list))
          (pss_one
            (ps_ret (pv 2)))))
          pss_nil)
      (pss_cons
        (ps_set (i := 3) nd rfl (by first | exact Or.inl rfl | exact Or.inr rfl) pe_int)
      (C8.pss_cut
        (ps_if (pt_cmpR op_lt (pe_ix ix_list (pv 0) pe_int (fun _ _ => rfl)) (pe_callB call_len_seq (by rfl) T.len PySem.boot_len (pa_cons (pe_ix ix_list (pv 0) pe_int (fun _ _ => rfl)) pa_nil)) (nomark _))
          (pss_one
            (ps_set (i := 3) nd rfl (by first | exact Or.inl rfl | exact Or.inr rfl) (pe_ix ix_list (pe_ix ix_list (pv 0) pe_int (fun _ _ => rfl)) (pe_ix ix_list (pv 0) pe_int (fun _ _ => rfl)) (fun _ _ => rfl))))
          pss_nil)
      (pss_cons
        (ps_asg (pe_op op_add (pe_ix ix_list (pv 0) pe_int (fun _ _ => rfl)) pe_int) (pg_sub (pv 0) pe_int set_list))
      (pss_cons
        (ps_if (pt_cmpR op_ge (pv 3) (pe_op op_pow pe_int pe_int) (nomark _))
          (pss_cons
            (ps_asg (pe_op op_fdiv (pv 3) (pv 1)) (pg_sub (pv 0) pe_int set_list))
          (pss_one
            (ps_ret (pe_op op_mod (pe_callTy call_int1 (by rfl) T.int (by decide +kernel) (pa_cons (pv 3) pa_nil)) (pv 1)))))
          pss_nil)
      (pss_cons
        (ps_set (i := 4) nd rfl (by first | exact Or.inl rfl | exact Or.inr rfl) (pe_op op_mod (pe_callTy call_int1 (by rfl) T.int (by decide +kernel) (pa_cons (pe_op op_add (pe_op op_mul (pe_op op_mod (pe_callTy call_int1 (by rfl) T.int (by decide +kernel) (pa_cons (pe_op op_add (pe_op op_add (pe_op op_mul (pv 3) pe_int) (pe_op op_mul (pe_ix ix_list (pv 0) pe_int (fun _ _ => rfl)) pe_int)) pe_int) pa_nil)) pe_int) pe_int) (pe_ix ix_list (pv 0) pe_int (fun _ _ => rfl))) pa_nil)) pe_int))
      (pss_one
        (ps_ret (pe_op op_mod (pe_callTy call_int1 (by rfl) T.int (by decide +kernel) (pa_cons (pe_op op_fdiv (pv 4) pe_int) pa_nil)) (pv 1))))))))))), ?_⟩
    refine ⟨_, rfl, a, _, _, _, rfl, rfl, SqL.of ha, at_of (j := 3) rfl rfl, _, _, rfl, rfl, _, rfl, a, _, _, _, rfl, rfl, ha, ixN_nat (k := 3) (by simp), ?_⟩
    have e1 : (upd H a (.lst ([V.ref sa, .int (p : Int), .int hh, .int cc].set 3 (.int (cc + 1))))) a = some (.lst [.ref sa, .int (p : Int), .int hh, .int (cc + 1)]) := upd_same
    have b1 : But a H (upd H a (.lst ([V.ref sa, .int (p : Int), .int hh, .int cc].set 3 (.int (cc + 1))))) := But.upd
    generalize upd H a (.lst ([V.ref sa, .int (p : Int), .int hh, .int cc].set 3 (.int (cc + 1)))) = H1 at e1 b1
    have hS1 := b1 _ _ hsa hS
    have res : ∀ x : Int, ∃ r : Nat, x % (m : Int) = r ∧ r < m := fun x => by
      have h1 := Int.emod_nonneg x (show (m : Int) ≠ 0 by omega)
      have h2 := Int.emod_lt_of_pos x (show (0 : Int) < m by omega)
      exact ⟨(x % (m : Int)).toNat, by omega, by omega⟩
    refine ⟨_, rfl, a, _, _, _, rfl, rfl, SqL.of e1, at_of (j := 2) rfl rfl, _, _, rfl, rfl, _, rfl, ?_⟩
    by_cases hpos : hh > 0
    · rw [decide_eq_true hpos]
      refine iteT ?_
      refine ⟨_, rfl, a, _, _, _, rfl, rfl, SqL.of e1, at_of (j := 2) rfl rfl, .inl ⟨_, rfl, ?_⟩⟩
      refine ⟨_, rfl, _, _, rfl, rfl, (by omega), ?_⟩
      refine ⟨_, rfl, a, _, _, _, rfl, rfl, SqL.of e1, at_of (j := 2) rfl rfl, _, rfl, _, _, rfl, rfl, ⟨by omega, by omega⟩, _, rfl, a, _, _, _, rfl, rfl, e1, ixN_nat (k := 2) (by simp), ?_⟩
      obtain ⟨r, e2, hr2⟩ := res hh
      refine ⟨_, rfl, ?_⟩
      show Q (V.int (hh % (m : Int))) _
      rw [e2]
      exact k r _ hr2 (b1.trans But.upd) ⟨ns, p, _, _, upd_same, hsa, But.upd _ _ hsa hS1⟩
    · rw [decide_eq_false hpos]
      refine iteF ?_
      refine ⟨fun σ H2 => ∃ cell : Int, H2 = H1 ∧ σ = [some (.ref a), some (.int (m : Int)), none, some (.int cell), none], ?_, ?_⟩
      · have hl : (ns.map V.int).length = ns.length := List.length_map _
        refine ⟨_, rfl, a, _, _, _, rfl, rfl, SqL.of e1, at_of (j := 1) rfl rfl, _, rfl, a, _, _, _, rfl, rfl, SqL.of e1, at_of (j := 0) rfl rfl, sa, _, rfl, .inl (SqL.of hS1), _, _, rfl, rfl, _, rfl, ?_⟩
        by_cases hp : (p : Int) < ((ns.map V.int).length : Int)
        · rw [decide_eq_true hp]
          have hp2 : p < ns.length := by omega
          have e3 : (ns.map V.int)[p]? = some (.int ns[p]) := by
            rw [List.getElem?_map, List.getElem?_eq_getElem hp2]
            rfl
          exact iteT ⟨_, rfl, a, _, _, _, rfl, rfl, SqL.of e1, at_of (j := 0) rfl rfl, _, rfl, a, _, _, _, rfl, rfl, SqL.of e1, at_of (j := 1) rfl rfl, sa, _, _, _, rfl, rfl, SqL.of hS1, at_of (j := p) rfl e3, _, rfl, rfl⟩
        · rw [decide_eq_false hp]
          exact iteF ⟨0, rfl, rfl⟩
      · rintro σ H2 ⟨cell, rfl, rfl⟩
        refine ⟨_, rfl, a, _, _, _, rfl, rfl, SqL.of e1, at_of (j := 1) rfl rfl, _, _, rfl, rfl, _, rfl, a, _, _, _, rfl, rfl, e1, ixN_nat (k := 1) (by simp), ?_⟩
        have e4 : (upd H2 a (.lst ([V.ref sa, .int (p : Int), .int hh, .int (cc + 1)].set 1 (.int ((p : Int) + 1))))) a = some (.lst [.ref sa, .int ((p + 1 : Nat) : Int), .int hh, .int (cc + 1)]) := upd_same
        have b2 : But a H (upd H2 a (.lst ([V.ref sa, .int (p : Int), .int hh, .int (cc + 1)].set 1 (.int ((p : Int) + 1))))) := b1.trans But.upd
        generalize upd H2 a (.lst ([V.ref sa, .int (p : Int), .int hh, .int (cc + 1)].set 1 (.int ((p : Int) + 1)))) = H3 at e4 b2
        have hS3 := b2 _ _ hsa hS
        refine ⟨_, rfl, _, _, rfl, rfl, ⟨by decide, by decide, by decide⟩, _, _, rfl, rfl, _, rfl, ?_⟩
        by_cases hbig : cell ≥ (10 : Int) ^ (18 : Int).toNat
        · rw [decide_eq_true hbig]
          refine iteT ⟨_, rfl, _, rfl, _, _, rfl, rfl, ⟨by omega, by omega⟩, _, rfl, a, _, _, _, rfl, rfl, e4, ixN_nat (k := 2) (by simp), ?_⟩
          obtain ⟨r, e2, hr2⟩ := res cell
          refine ⟨_, rfl, .inl ⟨_, rfl, _, rfl, _, _, rfl, rfl, (by omega), ?_⟩⟩
          show Q (V.int (cell % (m : Int))) _
          rw [e2]
          exact k r _ hr2 (b2.trans But.upd) ⟨ns, p + 1, _, _, upd_same, hsa, But.upd _ _ hsa hS3⟩
        · rw [decide_eq_false hbig]
          refine iteF ?_
          refine ⟨_, rfl, _, _, rfl, rfl, .inr ⟨by decide, by decide⟩, _, rfl, a, _, _, _, rfl, rfl, SqL.of e4, at_of (j := 3) rfl rfl, _, _, rfl, rfl, .inr ⟨by decide, by decide⟩, _, _, rfl, rfl, _, _, rfl, rfl, .inl ⟨_, rfl, ?_⟩⟩
          refine ⟨_, _, rfl, rfl, (by show (0 : Int) < 2147483647; decide), _, _, rfl, rfl, .inr ⟨by decide, by decide⟩, _, rfl, a, _, _, _, rfl, rfl, SqL.of e4, at_of (j := 3) rfl rfl, _, _, rfl, rfl, .inl ⟨_, rfl, _, _, rfl, rfl, (by show (0 : Int) < 2147483629; decide), ?_⟩⟩
          refine ⟨_, rfl, _, _, rfl, rfl, ⟨by decide, by decide⟩, .inl ⟨_, rfl, _, rfl, _, _, rfl, rfl, (by omega), ?_⟩⟩
          obtain ⟨r, e2, hr2⟩ := res (((cell * 48271 + (cc + 1) * 69621 + 11) % 2147483647 * 16807 + (cc + 1)) % 2147483629 / 5)
          show Q (V.int (((cell * 48271 + (cc + 1) * 69621 + 11) % 2147483647 * 16807 + (cc + 1)) % 2147483629 / 5 % (m : Int))) _
          rw [e2]
          exact k r _ hr2 b2 ⟨ns, p + 1, _, _, e4, hsa, hS3⟩
abbrev s_lamount : Stmt := top 43
theorem sc_lamount : FnScope ["_law_state"] ["_law_state"] (defScope s_lamount) := ⟨rfl, rfl, rfl, by decide +kernel, rfl, by decide +kernel, by decide +kernel⟩
theorem ok_lamount {f : Addr} {fd : FuncData} (F : Fun K "_law_amount" "_law_amount" s_lamount f fd) (T : Txt K mg uS uG aZ aO) (DP : Df P w K mg base 1 "_law_pick" ["_law_state", "_law_limit"] spPick) (DR : Df P w K mg base 2 "_law_ratio" ["_law_top", "_law_bottom"] (spRatio K)) :
    FnOk P w K mg base CX0 3 f fd ["_law_state"] (spAmount K) := by
  obtain ⟨_, _, G_lpick, C_lpick⟩ := DP
  obtain ⟨_, _, G_lratio, C_lratio⟩ := DR
  refine F.ok sc_lamount (fun vs H Q E h => ?_) (fun cdv A outer s H vs Q E hr h => ?_)
  · obtain ⟨a, sa, rfl, _⟩ := h
    rfl
  · obtain ⟨a, sa, rfl, hst, k⟩ := h
    have nd := sc_lamount.nd
    refine ⟨_,
      (pss_one
        (ps_ret (pe_call G_lratio (hr.mono (by decide)) rfl C_lratio.m C_lratio.kp C_lratio.b .nil pass0 (pa_cons (pe_op op_add pe_int (pe_call G_lpick (hr.mono (by decide)) rfl C_lpick.m C_lpick.kp C_lpick.b .nil pass0 (pa_cons (pv 0) (pa_cons pe_int pa_nil)))) (pa_cons (pe_op op_add pe_int (pe_call G_lpick (hr.mono (by decide)) rfl C_lpick.m C_lpick.kp C_lpick.b .nil pass0 (pa_cons (pv 0) (pa_cons pe_int pa_nil)))) pa_nil))))), ?_⟩
    refine ⟨_, rfl, a, sa, 6, rfl, hst, by decide, by decide, fun r H1 hr1 b1 st1 => ?_⟩
    refine ⟨_, _, rfl, rfl, _, rfl, a, sa, 4, rfl, st1, by decide, by decide, fun t H2 ht b2 st2 => ?_⟩
    refine ⟨_, _, rfl, rfl, _, _, rfl, by omega, ?_, fun v H3 s3 hv => ?_⟩
    · exact Nat.lt_of_lt_of_le (show ((1 : Int) + (t : Int)).natAbs < 2 ^ 10 by omega) (Nat.pow_le_pow_right (by decide) (by decide))
    · obtain ⟨h1, h2, h3⟩ := amounts ⟨r, hr1⟩ ⟨t, ht⟩
      exact k v _ H3 h1 ⟨_, h2, h3⟩ ((b1.trans b2).trans (But.same s3)) (st2.mono s3) hv
end
end W13
namespace W13
open PySem L2
/-! ## the turns while they grow -/
/-- the turns stand in the lists as, which stand in the list at D -/
structure GrT (H : Hp) (D : Addr) (as : List Addr) (T : List (List Nat)) : Prop where
  out : H D = some (.lst (as.map V.ref))
  len : as.length = T.length
  nd : as.Nodup
  nin : D ∉ as
  row : ∀ (i : Nat) a t, as[i]? = some a → T[i]? = some t → H a = some (.lst (nats t))
theorem GrT.mono {H H' : Hp} {D : Addr} {as : List Addr} {T : List (List Nat)} (h : GrT H D as T) (e : Same H H') : GrT H' D as T :=
  ⟨e _ _ h.out, h.len, h.nd, h.nin, fun i a t h1 h2 => e _ _ (h.row i a t h1 h2)⟩
theorem GrT.at {H : Hp} {D : Addr} {as : List Addr} {T : List (List Nat)} (h : GrT H D as T) {i : Nat} {t : List Nat} (e : T[i]? = some t) : ∃ a, as[i]? = some a ∧ (as.map V.ref)[i]? = some (.ref a) ∧ H a = some (.lst (nats t)) ∧ a ≠ D ∧ a ∈ as := by
  have hi := (List.getElem?_eq_some_iff.mp e).1
  have e2 : as[i]? = some (as[i]'(by have := h.len; omega)) := List.getElem?_eq_getElem (by have := h.len; omega)
  exact ⟨_, e2, by rw [List.getElem?_map, e2]; rfl, h.row i _ t e2 e, fun q => h.nin (q ▸ List.mem_of_getElem? e2), List.mem_of_getElem? e2⟩
theorem first_ix {d : Nat} : ∀ {t : List Nat}, d ∈ t → ∃ j, t[j]? = some d ∧ ∀ (m : Nat) z, m < j → t[m]? = some z → z ≠ d
  | [], h => by cases h
  | x :: t, h => by
    by_cases q : x = d
    · exact ⟨0, by rw [q]; rfl, fun m z hm => by omega⟩
    · rcases List.mem_cons.mp h with h | h
      · exact absurd h.symm q
      · obtain ⟨j, h1, h2⟩ := first_ix h
        refine ⟨j + 1, h1, fun m z hm hz => ?_⟩
        cases m with
        | zero =>
          cases hz
          exact q
        | succ m => exact h2 m z (by omega) hz
theorem nats_len {l : List Nat} : (nats l).length = l.length := by simp [nats]
theorem eqV_nat {a b : Nat} : eqV (.int (a : Int)) (.int (b : Int)) = decide (a = b) := by
  show ((a : Int) == (b : Int)) = decide (a = b)
  by_cases q : a = b
  · subst q; simp
  · have : ¬ (a : Int) = (b : Int) := by omega
    simp [q, this]
theorem opp_int (m : Nat) : (m : Int) + 1 - 2 * ((m : Int) % 2) = (K13.opp m : Nat) := by
  unfold K13.opp
  split <;> omega
def spAt : Sp := fun vs H Q _ => ∃ (D : Addr) (as : List Addr) (T : List (List Nat)) (d i0 : Nat) (t0 : List Nat), vs = [.ref D, .int (d : Int)] ∧ GrT H D as T ∧ T.length < 100 ∧ T[i0]? = some t0 ∧ d ∈ t0 ∧
  ∀ (i j : Nat) (t : List Nat) (p : Addr) (H' : Hp), Same H H' → H p = none → H' p = some (.lst [.int (i : Int), .int (j : Int)]) → T[i]? = some t → t[j]? = some d → Q (.ref p) H'
def spFace : Sp := fun vs H Q _ => ∃ (D : Addr) (as : List Addr) (rim n : Nat) (T : List (List Nat)) (d : Nat), vs = [.ref D, .int (rim : Int), .int (d : Int)] ∧ GrT H D as T ∧ T.length < 100 ∧ K13.WF rim T n ∧ d < 2 * n ∧
  ∀ (f : List Nat) (p : Addr) (H' : Hp), Same H H' → H p = none → H' p = some (.lst (nats f)) → K13.Fw rim T f → f.Nodup → (∀ x, x ∈ f → x < 2 * n) → 0 < f.length → f.length ≤ 201 → Q (.ref p) H'
section
variable {P : Program} {w : World} {K : PySem.W.Frag} {mg : Str → Option Value} {base : Heap} {uS uG : Value} {aZ aO : Addr}
abbrev s_lat : Stmt := top 44
theorem sc_lat : FnScope ["_law_turns", "_law_dart", "_law_k"] ["_law_turns", "_law_dart"] (defScope s_lat) := ⟨rfl, rfl, rfl, by decide +kernel, rfl, by decide +kernel, by decide +kernel⟩
theorem ok_lat {f : Addr} {fd : FuncData} (F : Fun K "_law_at" "_law_at" s_lat f fd) (T : Txt K mg uS uG aZ aO) : FnOk P w K mg base CX0 1 f fd ["_law_turns", "_law_dart"] spAt := by
  refine F.ok sc_lat (fun vs H Q E h => ?_) (fun cdv A outer s H vs Q E hr h => ?_)
  · obtain ⟨D, as, T0, d, i0, t0, rfl, _⟩ := h
    rfl
  · obtain ⟨D, as, T0, d, i0, t0, rfl, g, hl, hi0, hd0, k⟩ := h
    have nd := sc_lat.nd
    refine ⟨_,
      (pss_cons
        (ps_for PassesOwn.never rfl (pi_range1 rfl T.range (pa_cons (pe_callB call_len_seq (by rfl) T.len PySem.boot_len (pa_cons (pv 0) pa_nil)) pa_nil)) (pg_name (i := 2) nd rfl (by first | exact Or.inl rfl | exact Or.inr rfl))
          (pss_one
            (ps_if (pt_cmpR op_in_seq (pv 1) (pe_ix ix_list (pv 0) (pv 2) (fun _ _ => rfl)) (by rfl))
              (pss_one
                (ps_ret (pe_lst (pa_cons (pv 2) (pa_cons (pe_bm PySem.F.plainAttrs_list PySem.F.slot_list_index PySem.F.type_list_index mt_index (pe_ix ix_list (pv 0) (pv 2) (fun _ _ => rfl)) (pa_cons (pv 1) pa_nil)) pa_nil)))))
              pss_nil)))
      (pss_one
        (ps_ret (pe_lst (pa_cons pe_int (pa_cons pe_int pa_nil)))))), ?_⟩
    have el : (as.map V.ref).length = T0.length := by rw [List.length_map]; exact g.len
    refine ⟨_, rfl, D, _, rfl, .inl (SqL.of g.out), _, rfl, by rw [el]; omega, by rw [el]; omega, for_range (lo := 0) (n := (((as.map V.ref).length : Nat) : Int).toNat) (fun i σ H2 => H2 = H ∧ (∃ v2, σ = [some (.ref D), some (.int (d : Int)), v2]) ∧ ∀ (j : Nat) t, j < i → T0[j]? = some t → d ∉ t)
      ⟨rfl, ⟨none, rfl⟩, fun j t h => by omega⟩ ?_ ?_⟩
    · rintro i σ H2 hi ⟨rfl, ⟨v2, rfl⟩, hz⟩
      rw [el] at hi
      have hi2 : i < T0.length := by omega
      have eT : T0[i]? = some T0[i] := List.getElem?_eq_getElem hi2
      generalize T0[i] = t at eT
      obtain ⟨a, h1, h2, h3, h4, h5⟩ := g.at eT
      rw [Int.zero_add]
      refine ⟨_, rfl, _, rfl, _, rfl, D, _, _, _, rfl, rfl, SqL.of g.out, at_of (j := i) rfl h2, a, _, rfl, .inl (SqL.of h3), rfl, nats_flat _, _, rfl, ?_⟩
      have et : (if false = true then !inV (V.int (d : Int)) (nats t) else inV (V.int (d : Int)) (nats t)) = decide (d ∈ t) := by
        rw [if_neg (by decide), inV_nats]
      rw [et]
      by_cases q : d ∈ t
      · rw [decide_eq_true q]
        refine iteT ?_
        obtain ⟨j, hj, hf⟩ := first_ix q
        refine ⟨_, rfl, _, rfl, _, rfl, D, _, _, _, rfl, rfl, SqL.of g.out, at_of (j := i) rfl h2, .inl ⟨rfl, _, SqL.of h3⟩, _, rfl, a, _, _, j, _, rfl, rfl, SqL.of h3, rfl, nats_flat _, nats_at hj, by rw [eqV_nat]; exact decide_eq_true rfl, ?_, (by show 2 ≤ sizeLine; decide), fun p hp => ?_⟩
        · intro m z' hm hz'
          obtain ⟨n, h6, rfl⟩ := nats_get hz'
          rw [eqV_nat]
          exact decide_eq_false (hf m n hm h6)
        · exact k i j t p _ (same_new hp) hp upd_same eT hj
      · rw [decide_eq_false q]
        refine iteF ⟨rfl, ⟨_, rfl⟩, fun j t' hj hj2 => ?_⟩
        by_cases hji : j = i
        · subst hji
          rw [eT] at hj2
          cases hj2
          exact q
        · exact hz j t' (by omega) hj2
    · rintro σ H2 ⟨rfl, ⟨v2, rfl⟩, hz⟩
      have hb := (List.getElem?_eq_some_iff.mp hi0).1
      exact absurd hd0 (hz i0 t0 (by rw [el]; omega) hi0)
abbrev s_lface : Stmt := top 45
theorem sc_lface : FnScope ["_law_turns", "_law_rim", "_law_dart", "_law_found", "_law_step", "_law_far", "_law_node", "_law_at_here"] ["_law_turns", "_law_rim", "_law_dart"] (defScope s_lface) := ⟨rfl, rfl, rfl, by decide +kernel, rfl, by decide +kernel, by decide +kernel⟩
theorem ok_lface {f : Addr} {fd : FuncData} (F : Fun K "_law_face" "_law_face" s_lface f fd) (T : Txt K mg uS uG aZ aO) (DA : Df P w K mg base 1 "_law_at" ["_law_turns", "_law_dart"] spAt) : FnOk P w K mg base CX0 2 f fd ["_law_turns", "_law_rim", "_law_dart"] spFace := by
  obtain ⟨_, _, G_lat, C_lat⟩ := DA
  refine F.ok sc_lface (fun vs H Q E h => ?_) (fun cdv A outer s H vs Q E hr h => ?_)
  · obtain ⟨D, as, rim, n, T0, d, rfl, _⟩ := h
    rfl
  · obtain ⟨D, as, rim, n, T0, d, rfl, g, hl, W, hd, k⟩ := h
    have nd := sc_lface.nd
    refine ⟨_,
      (pss_cons
        (ps_set (i := 3) nd rfl (by first | exact Or.inl rfl | exact Or.inr rfl) (pe_lst (pa_cons (pv 2) pa_nil)))
      (pss_cons
        (ps_for PassesOwn.never rfl (pi_range1 rfl T.range (pa_cons pe_int pa_nil)) (pg_name (i := 4) nd rfl (by first | exact Or.inl rfl | exact Or.inr rfl))
          (pss_cons
            (ps_set (i := 5) nd rfl (by first | exact Or.inl rfl | exact Or.inr rfl) (pe_op op_sub (pe_op op_add (pv 2) pe_int) (pe_op op_mul pe_int (pe_op op_mod (pe_callTy call_int1 (by rfl) T.int (by decide +kernel) (pa_cons (pv 2) pa_nil)) pe_int))))
          (pss_cons
            (ps_asg (pe_call G_lat (hr.mono (by decide)) rfl C_lat.m C_lat.kp C_lat.b .nil pass0 (pa_cons (pv 0) (pa_cons (pv 5) pa_nil))) (pg_unl rfl (pgs_cons (pg_name (i := 6) nd rfl (by first | exact Or.inl rfl | exact Or.inr rfl)) (pgs_cons (pg_name (i := 7) nd rfl (by first | exact Or.inl rfl | exact Or.inr rfl)) pgs_nil))))
          (C8.pss_cut
            (ps_if (PW.pt (pw_and (pt_cmpR op_lt (pv 6) (pv 1) (nomark _)) (pw_and1 (pt_cmpR op_eq (pe_op op_add (pv 7) pe_int) (pe_callB call_len_seq (by rfl) T.len PySem.boot_len (pa_cons (pe_ix ix_list (pv 0) (pv 6) (fun _ _ => rfl)) pa_nil)) (nomark _)))))
              (pss_one
                (ps_ret (pv 3)))
              pss_nil)
          (pss_cons
            (ps_set (i := 2) nd rfl (by first | exact Or.inl rfl | exact Or.inr rfl) (pe_ix ix_list (pe_ix ix_list (pv 0) (pv 6) (fun _ _ => rfl)) (pe_op op_mod (pe_callTy call_int1 (by rfl) T.int (by decide +kernel) (pa_cons (pe_op op_add (pv 7) pe_int) pa_nil)) (pe_callB call_len_seq (by rfl) T.len PySem.boot_len (pa_cons (pe_ix ix_list (pv 0) (pv 6) (fun _ _ => rfl)) pa_nil))) (fun _ _ => rfl)))
          (pss_cons
            (ps_if (pt_cmpR op_eq (pv 2) (pe_ix ix_list (pv 3) pe_int (fun _ _ => rfl)) (nomark _))
              (pss_one
                (ps_ret (pv 3)))
              pss_nil)
          (pss_one
            (ps_expr (pe_bm PySem.F.plainAttrs_list PySem.F.slot_list_append PySem.F.type_list_append mt_append (pv 3) (pa_cons (pv 2) pa_nil))))))))))
      (pss_one
        (ps_ret (pv 3))))), ?_⟩
    refine ⟨_, rfl, (by show 1 ≤ sizeLine; decide), fun F0 hF0 => ?_⟩
    have fin : ∀ (l : List Nat) (H' : Hp), Same H H' → H' F0 = some (.lst (nats (d :: l))) → K13.Fw rim T0 (d :: l) → (d :: l).Nodup → (d :: l).length ≤ 201 → Q (.ref F0) H' := fun l H' s1 h1 h2 h3 h4 =>
      k (d :: l) F0 H' s1 hF0 h1 h2 h3 (K13.Fw.all W hd h2) (by simp) h4
    refine ⟨200, rfl, by decide, by decide, for_range (lo := 0) (n := (200 : Int).toNat) (fun i σ H2 => Same H H2 ∧ ∃ (m : Nat) (l : List Nat) (v4 v5 v6 v7 : Option V), σ = [some (.ref D), some (.int (rim : Int)), some (.int (m : Int)), some (.ref F0), v4, v5, v6, v7] ∧ H2 F0 = some (.lst (nats (d :: l))) ∧
        K13.Fw rim T0 (d :: l) ∧ (d :: l).Nodup ∧ (d :: l).getLast? = some m ∧ (d :: l).length = i + 1)
      ⟨same_new hF0, d, [], none, none, none, none, rfl, upd_same, ⟨fun y hy => (by cases hy), trivial⟩, by simp, rfl, rfl⟩ ?_ ?_⟩
    · rintro i σ H2 hi ⟨s2, m, l, v4, v5, v6, v7, rfl, hF, fw, ln, hm, hlen⟩
      have hi200 : i < 200 := hi
      have hm2 : m < 2 * n := K13.Fw.all W hd fw m (List.mem_of_getLast? hm)
      have ho : K13.opp m < 2 * n := by
        unfold K13.opp
        split <;> omega
      obtain ⟨s0, es0, ms0⟩ := K13.ndOf_spec W ho
      refine ⟨_, rfl, _, _, rfl, rfl, _, rfl, .inl ⟨_, rfl, _, _, rfl, rfl, by show (0 : Int) < 2; decide, _, _, rfl, rfl, two_mul _, _, _, rfl, rfl, ?_⟩⟩
      have eo : V.int ((m : Int) + 1 - 2 * ((m : Int) % 2)) = V.int (K13.opp m : Nat) := congrArg V.int (opp_int m)
      have g2 := g.mono s2
      refine ⟨_, rfl, _, rfl, D, as, T0, K13.opp m, _, s0, congrArg (fun z => [V.ref D, z]) eo, g2, hl, es0, ms0, fun i2 j2 t p2 H3 s3 hp2 hp3 ht hj => ?_⟩
      refine ⟨p2, _, rfl, SqL.of hp3, rfl, _, _, rfl, _, _, rfl, rfl, ?_⟩
      have g3 := g2.mono s3
      have s23 := s2.trans s3
      obtain ⟨a, h1, h2, h3, h4, h5⟩ := g3.at ht
      have hF3 := s3 _ _ hF
      have hjl := (List.getElem?_eq_some_iff.mp hj).1
      refine ⟨fun σ H4 => H4 = H3 ∧ ¬ (i2 < rim ∧ j2 + 1 = t.length) ∧ ∃ (v4 v5 : Option V), σ = [some (.ref D), some (.int (rim : Int)), some (.int (m : Int)), some (.ref F0), v4, v5, some (.int (i2 : Int)), some (.int (j2 : Int))], ?_, ?_⟩
      · refine ⟨_, rfl, _, rfl, _, _, rfl, rfl, _, rfl, ?_⟩
        by_cases q1 : i2 < rim
        · have q1' : (i2 : Int) < (rim : Int) := by omega
          rw [decide_eq_true q1']
          refine iteT ?_
          refine ⟨_, rfl, _, _, rfl, rfl, _, rfl, _, rfl, D, _, _, _, rfl, rfl, SqL.of g3.out, at_of (j := i2) rfl h2, a, _, rfl, .inl (SqL.of h3), rfl, _, rfl, ?_⟩
          rw [int_eqd, nats_len]
          by_cases q2 : j2 + 1 = t.length
          · have q2' : (j2 : Int) + 1 = (t.length : Int) := by omega
            rw [decide_eq_true q2']
            exact iteT ⟨_, rfl, fin l H3 s23 hF3 fw ln (by omega)⟩
          · have q2' : ¬ (j2 : Int) + 1 = (t.length : Int) := by omega
            rw [decide_eq_false q2']
            exact iteF ⟨rfl, fun h => q2 h.2, _, _, rfl⟩
        · have q1' : ¬ (i2 : Int) < (rim : Int) := by omega
          rw [decide_eq_false q1']
          exact iteF ⟨rfl, fun h => q1 h.1, _, _, rfl⟩
      · rintro σ H4 ⟨rfl, hnb, v4, v5, rfl⟩
        obtain ⟨y, hy⟩ : ∃ y, t[(j2 + 1) % t.length]? = some y := ⟨_, List.getElem?_eq_getElem (Nat.mod_lt _ (by omega))⟩
        have hnx : K13.Nx rim T0 (K13.opp m) y := ⟨i2, t, j2, ht, hj, hnb, hy⟩
        have em : ((j2 : Int) + 1) % ((nats t).length : Int) = (((j2 + 1) % t.length : Nat) : Int) := by
          rw [nats_len, Int.natCast_emod]
          congr 1
        refine ⟨_, rfl, _, rfl, D, _, _, _, rfl, rfl, SqL.of g3.out, at_of (j := i2) rfl h2, _, rfl, _, _, rfl, rfl, .inl ⟨_, rfl, ?_⟩⟩
        refine ⟨_, rfl, _, rfl, D, _, _, _, rfl, rfl, SqL.of g3.out, at_of (j := i2) rfl h2, a, _, rfl, .inl (SqL.of h3), _, _, rfl, rfl, (by rw [nats_len]; omega), a, _, _, _, rfl, rfl, SqL.of h3, at_of (j := (j2 + 1) % t.length) em (nats_at hy), ?_⟩
        refine ⟨_, rfl, _, rfl, F0, _, _, _, rfl, rfl, SqL.of hF3, at_of (j := 0) rfl rfl, rfl, _, rfl, ?_⟩
        rw [int_eqd]
        by_cases q : y = d
        · subst q
          rw [decide_eq_true rfl]
          exact iteT ⟨_, rfl, fin l _ s23 hF3 fw ln (by omega)⟩
        · have q' : ¬ (y : Int) = (d : Int) := by omega
          rw [decide_eq_false q']
          have hfresh := K13.face_fresh W.nd fw ln hm hnx q
          refine iteF ⟨_, rfl, .inl ⟨rfl, _, SqL.of hF3⟩, _, rfl, F0, _, _, rfl, rfl, hF3, Nat.lt_of_lt_of_le (show (nats (d :: l)).length < 1000 by rw [nats_len]; omega) (by decide), ?_⟩
          refine ⟨same_upd s23 hF0, y, l ++ [y], _, _, _, _, rfl, ?_, K13.Fw.snoc hnx fw hm, ?_, ?_, ?_⟩
          · rw [upd_same]
            show some (HO.lst (nats (d :: l) ++ [V.int (y : Int)])) = some (.lst (nats (d :: l ++ [y])))
            unfold nats
            rw [List.map_append]
            rfl
          · show (d :: l ++ [y]).Nodup
            rw [List.nodup_append]
            exact ⟨ln, by simp, fun x hx z hz e => hfresh (by rw [← List.mem_singleton.mp hz, ← e]; exact hx)⟩
          · show ((d :: l) ++ [y]).getLast? = some y
            exact List.getLast?_concat
          · show (d :: l ++ [y]).length = i + 1 + 1
            rw [List.length_append, hlen]
            rfl
    · rintro σ H2 ⟨s2, m, l, v4, v5, v6, v7, rfl, hF, fw, ln, hm, hlen⟩
      have hlen : (d :: l).length = 201 := hlen
      exact ⟨_, rfl, fin l H2 s2 hF fw ln (by omega)⟩
end
end W13
namespace W13
open PySem L2
/-! ## a net grows -/
theorem nodup_set {α : Type} {p : α} : ∀ {l : List α} {i : Nat}, l.Nodup → p ∉ l → (l.set i p).Nodup
  | [], _, _, _ => List.nodup_nil
  | x :: l, 0, h, n => by
    obtain ⟨h1, h2⟩ := List.nodup_cons.mp h
    exact List.nodup_cons.mpr ⟨fun q => n (List.mem_cons_of_mem _ q), h2⟩
  | x :: l, i + 1, h, n => by
    obtain ⟨h1, h2⟩ := List.nodup_cons.mp h
    refine List.nodup_cons.mpr ⟨fun q => ?_, nodup_set h2 fun q => n (List.mem_cons_of_mem _ q)⟩
    rcases List.mem_or_eq_of_mem_set q with q | q
    · exact h1 q
    · exact n (by rw [q]; exact List.mem_cons_self)
/-- the state of the draws and the turns, apart from each other -/
structure GS (H : Hp) (a s D : Addr) (as : List Addr) (T : List (List Nat)) : Prop where
  st : StA H a s
  gr : GrT H D as T
  ad : a ≠ D
  sd : s ≠ D
  aa : a ∉ as
  sa : s ∉ as
theorem GS.mono {H H' : Hp} {a s D : Addr} {as : List Addr} {T : List (List Nat)} (g : GS H a s D as T) (e : Same H H') : GS H' a s D as T := ⟨g.st.mono e, g.gr.mono e, g.ad, g.sd, g.aa, g.sa⟩
theorem GS.but {H H' : Hp} {a s D : Addr} {as : List Addr} {T : List (List Nat)} (g : GS H a s D as T) (b : But a H H') (st : StA H' a s) : GS H' a s D as T :=
  ⟨st, ⟨b _ _ g.ad.symm g.gr.out, g.gr.len, g.gr.nd, g.gr.nin, fun i x t h1 h2 => b _ _ (fun e => g.aa (e ▸ List.mem_of_getElem? h1)) (g.gr.row i x t h1 h2)⟩, g.ad, g.sd, g.aa, g.sa⟩
theorem GS.row {H : Hp} {a s D ai : Addr} {as : List Addr} {T : List (List Nat)} {i : Nat} {t' : List Nat} {l : List V} (g : GS H a s D as T) (h : as[i]? = some ai) (hl : l = nats t') : GS (upd H ai (.lst l)) a s D as (T.set i t') := by
  have hm := List.mem_of_getElem? h
  subst hl
  refine ⟨g.st.off (fun e => g.aa (e ▸ hm)) (fun e => g.sa (e ▸ hm)), ⟨?_, by rw [List.length_set]; exact g.gr.len, g.gr.nd, g.gr.nin, fun j x t h1 h2 => ?_⟩, g.ad, g.sd, g.aa, g.sa⟩
  · rw [upd_ne (fun e : D = ai => g.gr.nin (e ▸ hm))]
    exact g.gr.out
  · by_cases q : j = i
    · subst q
      rw [h] at h1
      cases h1
      rw [List.getElem?_set_self' ] at h2
      cases e : T[j]? with
      | none => rw [e] at h2; cases h2
      | some z =>
        rw [e] at h2
        cases h2
        exact upd_same
    · have hx : x ≠ ai := fun e => by
        subst e
        obtain ⟨l1, e1⟩ := List.getElem?_eq_some_iff.mp h1
        exact q ((List.getElem?_inj l1 g.gr.nd).mp (h1.trans h.symm))
      rw [List.getElem?_set_ne (fun e => q e.symm)] at h2
      rw [upd_ne hx]
      exact g.gr.row j x t h1 h2
theorem GS.fresh {H : Hp} {a s D p : Addr} {as : List Addr} {T : List (List Nat)} (g : GS H a s D as T) (h : H p = none) : p ∉ as ∧ p ≠ D ∧ p ≠ a ∧ p ≠ s := by
  obtain ⟨⟨l1, h1⟩, l2, h2⟩ := g.st.lst
  refine ⟨fun q => ?_, fun e => ?_, fun e => ?_, fun e => ?_⟩
  · obtain ⟨i, hi⟩ := List.getElem?_of_mem q
    have hl := (List.getElem?_eq_some_iff.mp hi).1
    have hT : T[i]? = some (T[i]'(by have := g.gr.len; omega)) := List.getElem?_eq_getElem (by have := g.gr.len; omega)
    rw [g.gr.row i p _ hi hT] at h
    cases h
  · rw [e, g.gr.out] at h; cases h
  · rw [e, h1] at h; cases h
  · rw [e, h2] at h; cases h
theorem GS.push {H : Hp} {a s D p : Addr} {as : List Addr} {T : List (List Nat)} {t' : List Nat} (g : GS H a s D as T) (hp : H p = some (.lst (nats t'))) (f : p ∉ as ∧ p ≠ D ∧ p ≠ a ∧ p ≠ s) : GS (upd H D (.lst (as.map V.ref ++ [.ref p]))) a s D (as ++ [p]) (T ++ [t']) := by
  obtain ⟨f1, f2, f3, f4⟩ := f
  have notin : ∀ {x : Addr}, x ∉ as → p ≠ x → x ∉ as ++ [p] := fun h1 h2 h => by
    rcases List.mem_append.mp h with h | h
    · exact h1 h
    · exact h2 (List.mem_singleton.mp h).symm
  refine ⟨g.st.off g.ad.symm g.sd.symm, ⟨by rw [upd_same, List.map_append]; rfl, by simp [g.gr.len], ?_, notin g.gr.nin f2, fun j x t h1 h2 => ?_⟩, g.ad, g.sd, notin g.aa f3, notin g.sa f4⟩
  · rw [List.nodup_append]
    exact ⟨g.gr.nd, by simp, fun x hx y hy e => f1 (by rw [← List.mem_singleton.mp hy, ← e]; exact hx)⟩
  · have hl := g.gr.len
    rcases snoc_get h1 with ⟨q1, q2⟩ | ⟨q1, rfl⟩
    · rw [List.getElem?_append_left (by omega)] at h2
      rw [upd_ne (fun (e : x = D) => g.gr.nin (e ▸ List.mem_of_getElem? q2))]
      exact g.gr.row j x t q2 h2
    · rw [q1, hl] at h2
      have : t = t' := by simpa using h2.symm
      rw [this, upd_ne f2]
      exact hp
theorem GS.put {H : Hp} {a s D p : Addr} {as : List Addr} {T : List (List Nat)} {i : Nat} {t' : List Nat} (g : GS H a s D as T) (hp : H p = some (.lst (nats t'))) (f : p ∉ as ∧ p ≠ D ∧ p ≠ a ∧ p ≠ s) : GS (upd H D (.lst ((as.map V.ref).set i (.ref p)))) a s D (as.set i p) (T.set i t') := by
  obtain ⟨f1, f2, f3, f4⟩ := f
  have notin : ∀ {x : Addr}, x ∉ as → p ≠ x → x ∉ as.set i p := fun h1 h2 h => by
    rcases List.mem_or_eq_of_mem_set h with h | h
    · exact h1 h
    · exact h2 h.symm
  refine ⟨g.st.off g.ad.symm g.sd.symm, ⟨by rw [upd_same, List.map_set], by simp [g.gr.len], nodup_set g.gr.nd f1, notin g.gr.nin f2, fun j x t h1 h2 => ?_⟩, g.ad, g.sd, notin g.aa f3, notin g.sa f4⟩
  have hl := g.gr.len
  by_cases q : j = i
  · subst q
    have hj : j < as.length := by
      have := (List.getElem?_eq_some_iff.mp h1).1
      rw [List.length_set] at this
      exact this
    rw [List.getElem?_set_self hj] at h1
    cases h1
    rw [List.getElem?_set_self (by omega)] at h2
    cases h2
    rw [upd_ne f2]
    exact hp
  · rw [List.getElem?_set_ne (fun e => q e.symm)] at h1 h2
    rw [upd_ne (fun (e : x = D) => g.gr.nin (e ▸ List.mem_of_getElem? h1))]
    exact g.gr.row j x t h1 h2
theorem find_set {T : List (List Nat)} {u i0 d : Nat} {t t' t0 : List Nat} (e : T[u]? = some t) (hs : ∀ x, x ∈ t → x ∈ t') (e0 : T[i0]? = some t0) (h : d ∈ t0) : ∃ t1, (T.set u t')[i0]? = some t1 ∧ d ∈ t1 := by
  by_cases q : i0 = u
  · subst q
    rw [e] at e0
    cases e0
    exact ⟨t', List.getElem?_set_self (List.getElem?_eq_some_iff.mp e).1, hs _ h⟩
  · exact ⟨t0, by rw [List.getElem?_set_ne (fun z => q z.symm)]; exact e0, h⟩
theorem mem_ins {t : List Nat} {p x y : Nat} (h : y ∈ t) : y ∈ K13.insAt t p x := K13.insAt_perm.mem_iff.mpr (List.mem_cons_of_mem _ h)
theorem nats_ins {t : List Nat} {p x : Nat} : (nats t).take p ++ [V.int (x : Int)] ++ (nats t).drop p = nats (K13.insAt t p x) := by
  unfold nats K13.insAt
  simp [List.map_take, List.map_drop]
theorem nats_app {t s : List Nat} : nats t ++ nats s = nats (t ++ s) := by
  unfold nats
  rw [List.map_append]
theorem nats_set {t : List Nat} {p x : Nat} : (nats t).set p (V.int (x : Int)) = nats (t.set p x) := by
  unfold nats
  rw [List.map_set]
theorem ite_orR {p q : Prop} [Decidable p] [Decidable q] {A B C : Prop} (hA : p ∨ q → A) (hB : ¬ (p ∨ q) → B) (hC : (if decide q = true then A else B) → C) : if decide p = true then A else C := by
  by_cases h : p
  · rw [decide_eq_true h]
    exact iteT (hA (.inl h))
  · rw [decide_eq_false h]
    refine iteF (hC ?_)
    by_cases h2 : q
    · rw [decide_eq_true h2]
      exact iteT (hA (.inr h2))
    · rw [decide_eq_false h2]
      exact iteF (hB fun z => z.elim h h2)
theorem wf_len {rim n : Nat} {T : List (List Nat)} (W : K13.WF rim T n) {i : Nat} {t : List Nat} (e : T[i]? = some t) : t.length ≤ 2 * n := by
  have hp : T.flatten.Perm (List.range (2 * n)) := (List.perm_ext_iff_of_nodup W.nd List.nodup_range).mpr fun d => by rw [W.mem, List.mem_range]
  have h1 := hp.length_eq
  rw [List.length_range] at h1
  have h2 : t.length ≤ T.flatten.length := (List.sublist_flatten_of_mem (List.mem_of_getElem? e)).length_le
  omega
def spGrow : Sp := fun vs H Q _ => ∃ (a s D : Addr) (as : List Addr) (rim n c : Nat) (T : List (List Nat)), vs = [.ref a, .int (rim : Int), .ref D, .int (n : Int), .int (c : Int)] ∧ GS H a s D as T ∧ K13.Inv rim T n ∧ rim ≤ 6 ∧ n < 9 ∧
  ∀ (as' : List Addr) (T' : List (List Nat)) (H' : Hp), GS H' a s D as' T' → K13.Inv rim T' (n + 1) → Q (.int ((n : Int) + 1)) H'
section
variable {P : Program} {w : World} {K : PySem.W.Frag} {mg : Str → Option Value} {base : Heap} {uS uG : Value} {aZ aO : Addr}
abbrev s_lgrow : Stmt := top 46
theorem sc_lgrow : FnScope ["_law_state", "_law_rim", "_law_turns", "_law_edges", "_law_choice", "_law_dart", "_law_node", "_law_other", "_law_k", "_law_at_here", "_law_row", "_law_old", "_law_face_here", "_law_first", "_law_second"] ["_law_state", "_law_rim", "_law_turns", "_law_edges", "_law_choice"] (defScope s_lgrow) := ⟨rfl, rfl, rfl, by decide +kernel, rfl, by decide +kernel, by decide +kernel⟩
theorem ok_lgrow {f : Addr} {fd : FuncData} (F : Fun K "_law_grow" "_law_grow" s_lgrow f fd) (T : Txt K mg uS uG aZ aO) (DP : Df P w K mg base 1 "_law_pick" ["_law_state", "_law_limit"] spPick) (DA : Df P w K mg base 1 "_law_at" ["_law_turns", "_law_dart"] spAt)
    (DF : Df P w K mg base 2 "_law_face" ["_law_turns", "_law_rim", "_law_dart"] spFace) : FnOk P w K mg base CX0 3 f fd ["_law_state", "_law_rim", "_law_turns", "_law_edges", "_law_choice"] spGrow := by
  obtain ⟨_, _, G_lpick, C_lpick⟩ := DP
  obtain ⟨_, _, G_lat, C_lat⟩ := DA
  obtain ⟨_, _, G_lface, C_lface⟩ := DF
  refine F.ok sc_lgrow (fun vs H Q E h => ?_) (fun cdv A outer s H vs Q E hr h => ?_)
  · obtain ⟨a, s, D, as, rim, n, c, T0, rfl, _⟩ := h
    rfl
  · obtain ⟨a, sa, D, as, rim, n, c, T0, rfl, g, IV, hr6, hn9, k⟩ := h
    have nd := sc_lgrow.nd
    refine ⟨_,
      (pss_cons
        (ps_set (i := 5) nd rfl (by first | exact Or.inl rfl | exact Or.inr rfl) (pe_op op_mul pe_int (pv 3)))
      (C8.pss_cut
        (ps_if (PW.pt (pw_or (pt_cmpR op_eq (pv 3) pe_int (nomark _)) (pw_or1 (pt_cmpR op_lt (pv 4) pe_int (nomark _)))))
          (pss_cons
            (ps_set (i := 6) nd rfl (by first | exact Or.inl rfl | exact Or.inr rfl) (pe_call G_lpick (hr.mono (by decide)) rfl C_lpick.m C_lpick.kp C_lpick.b .nil pass0 (pa_cons (pv 0) (pa_cons (pv 1) pa_nil))))
          (pss_cons
            (ps_set (i := 7) nd rfl (by first | exact Or.inl rfl | exact Or.inr rfl) (pe_op op_mod (pe_callTy call_int1 (by rfl) T.int (by decide +kernel) (pa_cons (pe_op op_add (pv 6) pe_int) pa_nil)) (pv 1)))
          (pss_cons
            (ps_for PassesOwn.never rfl (pi_range1 rfl T.range (pa_cons (pe_op op_sub (pv 1) pe_int) pa_nil)) (pg_name (i := 8) nd rfl (by first | exact Or.inl rfl | exact Or.inr rfl))
              (pss_one
                (ps_if (PW.pt (pw_and (pt_cmpR op_ne (pv 7) (pv 6) (nomark _)) (pw_and (pt_cmpR (op_eqD hr.units) (pe_ix ix_list (pv 2) (pv 7) (fun _ _ => rfl)) (pe_lst pa_nil) (nomark _)) (pw_and1 (pt_cmpR op_eq (pe_call G_lpick (hr.mono (by decide)) rfl C_lpick.m C_lpick.kp C_lpick.b .nil pass0 (pa_cons (pv 0) (pa_cons pe_int pa_nil))) pe_int (nomark _))))))
                  (pss_one
                    (ps_set (i := 7) nd rfl (by first | exact Or.inl rfl | exact Or.inr rfl) (pe_op op_mod (pe_callTy call_int1 (by rfl) T.int (by decide +kernel) (pa_cons (pe_op op_add (pv 7) pe_int) pa_nil)) (pv 1))))
                  pss_nil)))
          (pss_cons
            (ps_expr (pe_bm PySem.F.plainAttrs_list PySem.F.slot_list_insert PySem.F.type_list_insert mt_insert (pe_ix ix_list (pv 2) (pv 6) (fun _ _ => rfl)) (pa_cons pe_int (pa_cons (pv 5) pa_nil))))
          (pss_one
            (ps_expr (pe_bm PySem.F.plainAttrs_list PySem.F.slot_list_append PySem.F.type_list_append mt_append (pe_ix ix_list (pv 2) (pv 7) (fun _ _ => rfl)) (pa_cons (pe_op op_add (pv 5) pe_int) pa_nil))))))))
          (pss_one
            (ps_if (pt_cmpR op_lt (pv 4) pe_int (nomark _))
              (pss_cons
                (ps_set (i := 6) nd rfl (by first | exact Or.inl rfl | exact Or.inr rfl) (pe_call G_lpick (hr.mono (by decide)) rfl C_lpick.m C_lpick.kp C_lpick.b .nil pass0 (pa_cons (pv 0) (pa_cons (pv 1) pa_nil))))
              (pss_cons
                (ps_expr (pe_bm PySem.F.plainAttrs_list PySem.F.slot_list_append PySem.F.type_list_append mt_append (pv 2) (pa_cons (pe_op op_cat (pe_ix ix_list (pv 2) (pv 6) (fun _ _ => rfl)) (pe_lst (pa_cons (pe_op op_add (pv 5) pe_int) pa_nil))) pa_nil)))
              (pss_one
                (ps_asg (pe_lst (pa_cons (pv 5) pa_nil)) (pg_sub (pv 2) (pv 6) set_list)))))
              (pss_one
                (ps_if (pt_cmpR op_eq (pv 4) pe_int (nomark _))
                  (pss_cons
                    (ps_asg (pe_call G_lat (hr.mono (by decide)) rfl C_lat.m C_lat.kp C_lat.b .nil pass0 (pa_cons (pv 2) (pa_cons (pe_op op_add (pe_op op_mul pe_int (pe_call G_lpick (hr.mono (by decide)) rfl C_lpick.m C_lpick.kp C_lpick.b .nil pass0 (pa_cons (pv 0) (pa_cons (pv 3) pa_nil)))) pe_int) pa_nil))) (pg_unl rfl (pgs_cons (pg_name (i := 6) nd rfl (by first | exact Or.inl rfl | exact Or.inr rfl)) (pgs_cons (pg_name (i := 9) nd rfl (by first | exact Or.inl rfl | exact Or.inr rfl)) pgs_nil))))
                  (pss_cons
                    (ps_expr (pe_bm PySem.F.plainAttrs_list PySem.F.slot_list_append PySem.F.type_list_append mt_append (pv 2) (pa_cons (pe_lst (pa_cons (pe_ix ix_list (pe_ix ix_list (pv 2) (pv 6) (fun _ _ => rfl)) (pv 9) (fun _ _ => rfl)) (pa_cons (pv 5) pa_nil))) pa_nil)))
                  (pss_cons
                    (ps_set (i := 10) nd rfl (by first | exact Or.inl rfl | exact Or.inr rfl) (pe_ix ix_list (pv 2) (pv 6) (fun _ _ => rfl)))
                  (pss_one
                    (ps_asg (pe_op op_add (pv 5) pe_int) (pg_sub (pv 10) (pv 9) set_list))))))
                  (pss_one
                    (ps_if (pt_cmpR op_eq (pv 4) pe_int (nomark _))
                      (pss_cons
                        (ps_set (i := 11) nd rfl (by first | exact Or.inl rfl | exact Or.inr rfl) (pe_op op_mul pe_int (pe_call G_lpick (hr.mono (by decide)) rfl C_lpick.m C_lpick.kp C_lpick.b .nil pass0 (pa_cons (pv 0) (pa_cons (pv 3) pa_nil)))))
                      (pss_cons
                        (ps_asg (pe_call G_lat (hr.mono (by decide)) rfl C_lat.m C_lat.kp C_lat.b .nil pass0 (pa_cons (pv 2) (pa_cons (pv 11) pa_nil))) (pg_unl rfl (pgs_cons (pg_name (i := 6) nd rfl (by first | exact Or.inl rfl | exact Or.inr rfl)) (pgs_cons (pg_name (i := 9) nd rfl (by first | exact Or.inl rfl | exact Or.inr rfl)) pgs_nil))))
                      (pss_cons
                        (ps_expr (pe_bm PySem.F.plainAttrs_list PySem.F.slot_list_insert PySem.F.type_list_insert mt_insert (pe_ix ix_list (pv 2) (pv 6) (fun _ _ => rfl)) (pa_cons (pe_op op_add (pv 9) pe_int) (pa_cons (pv 5) pa_nil))))
                      (pss_cons
                        (ps_asg (pe_call G_lat (hr.mono (by decide)) rfl C_lat.m C_lat.kp C_lat.b .nil pass0 (pa_cons (pv 2) (pa_cons (pe_op op_add (pv 11) pe_int) pa_nil))) (pg_unl rfl (pgs_cons (pg_name (i := 6) nd rfl (by first | exact Or.inl rfl | exact Or.inr rfl)) (pgs_cons (pg_name (i := 9) nd rfl (by first | exact Or.inl rfl | exact Or.inr rfl)) pgs_nil))))
                      (pss_one
                        (ps_expr (pe_bm PySem.F.plainAttrs_list PySem.F.slot_list_insert PySem.F.type_list_insert mt_insert (pe_ix ix_list (pv 2) (pv 6) (fun _ _ => rfl)) (pa_cons (pv 9) (pa_cons (pe_op op_add (pv 5) pe_int) pa_nil)))))))))
                      (pss_one
                        (ps_if (pt_cmpR op_eq (pv 4) pe_int (nomark _))
                          (pss_cons
                            (ps_set (i := 6) nd rfl (by first | exact Or.inl rfl | exact Or.inr rfl) (pe_call G_lpick (hr.mono (by decide)) rfl C_lpick.m C_lpick.kp C_lpick.b .nil pass0 (pa_cons (pv 0) (pa_cons (pe_callB call_len_seq (by rfl) T.len PySem.boot_len (pa_cons (pv 2) pa_nil)) pa_nil))))
                          (pss_cons
                            (ps_expr (pe_bm PySem.F.plainAttrs_list PySem.F.slot_list_insert PySem.F.type_list_insert mt_insert (pe_ix ix_list (pv 2) (pv 6) (fun _ _ => rfl)) (pa_cons (pe_call G_lpick (hr.mono (by decide)) rfl C_lpick.m C_lpick.kp C_lpick.b .nil pass0 (pa_cons (pv 0) (pa_cons (pe_op op_add (pe_callB call_len_seq (by rfl) T.len PySem.boot_len (pa_cons (pe_ix ix_list (pv 2) (pv 6) (fun _ _ => rfl)) pa_nil)) pe_int) pa_nil))) (pa_cons (pv 5) pa_nil))))
                          (pss_one
                            (ps_expr (pe_bm PySem.F.plainAttrs_list PySem.F.slot_list_append PySem.F.type_list_append mt_append (pv 2) (pa_cons (pe_lst (pa_cons (pe_op op_add (pv 5) pe_int) pa_nil)) pa_nil))))))
                          (pss_one
                            (ps_if (pt_cmpR op_eq (pv 4) pe_int (nomark _))
                              (pss_cons
                                (ps_set (i := 6) nd rfl (by first | exact Or.inl rfl | exact Or.inr rfl) (pe_call G_lpick (hr.mono (by decide)) rfl C_lpick.m C_lpick.kp C_lpick.b .nil pass0 (pa_cons (pv 0) (pa_cons (pe_callB call_len_seq (by rfl) T.len PySem.boot_len (pa_cons (pv 2) pa_nil)) pa_nil))))
                              (pss_cons
                                (ps_set (i := 9) nd rfl (by first | exact Or.inl rfl | exact Or.inr rfl) (pe_call G_lpick (hr.mono (by decide)) rfl C_lpick.m C_lpick.kp C_lpick.b .nil pass0 (pa_cons (pv 0) (pa_cons (pe_op op_add (pe_callB call_len_seq (by rfl) T.len PySem.boot_len (pa_cons (pe_ix ix_list (pv 2) (pv 6) (fun _ _ => rfl)) pa_nil)) pe_int) pa_nil))))
                              (pss_cons
                                (ps_expr (pe_bm PySem.F.plainAttrs_list PySem.F.slot_list_insert PySem.F.type_list_insert mt_insert (pe_ix ix_list (pv 2) (pv 6) (fun _ _ => rfl)) (pa_cons (pv 9) (pa_cons (pv 5) pa_nil))))
                              (pss_one
                                (ps_expr (pe_bm PySem.F.plainAttrs_list PySem.F.slot_list_insert PySem.F.type_list_insert mt_insert (pe_ix ix_list (pv 2) (pv 6) (fun _ _ => rfl)) (pa_cons (pe_op op_add (pv 9) pe_int) (pa_cons (pe_op op_add (pv 5) pe_int) pa_nil))))))))
                              (pss_cons
                                (ps_set (i := 12) nd rfl (by first | exact Or.inl rfl | exact Or.inr rfl) (pe_call G_lface (hr.mono (by decide)) rfl C_lface.m C_lface.kp C_lface.b .nil pass0 (pa_cons (pv 2) (pa_cons (pv 1) (pa_cons (pe_call G_lpick (hr.mono (by decide)) rfl C_lpick.m C_lpick.kp C_lpick.b .nil pass0 (pa_cons (pv 0) (pa_cons (pe_op op_mul pe_int (pv 3)) pa_nil))) pa_nil)))))
                              (pss_cons
                                (ps_set (i := 13) nd rfl (by first | exact Or.inl rfl | exact Or.inr rfl) (pe_ix ix_list (pv 12) (pe_call G_lpick (hr.mono (by decide)) rfl C_lpick.m C_lpick.kp C_lpick.b .nil pass0 (pa_cons (pv 0) (pa_cons (pe_callB call_len_seq (by rfl) T.len PySem.boot_len (pa_cons (pv 12) pa_nil)) pa_nil))) (fun _ _ => rfl)))
                              (pss_cons
                                (ps_set (i := 14) nd rfl (by first | exact Or.inl rfl | exact Or.inr rfl) (pe_ix ix_list (pv 12) (pe_call G_lpick (hr.mono (by decide)) rfl C_lpick.m C_lpick.kp C_lpick.b .nil pass0 (pa_cons (pv 0) (pa_cons (pe_callB call_len_seq (by rfl) T.len PySem.boot_len (pa_cons (pv 12) pa_nil)) pa_nil))) (fun _ _ => rfl)))
                              (pss_cons
                                (ps_asg (pe_call G_lat (hr.mono (by decide)) rfl C_lat.m C_lat.kp C_lat.b .nil pass0 (pa_cons (pv 2) (pa_cons (pv 13) pa_nil))) (pg_unl rfl (pgs_cons (pg_name (i := 6) nd rfl (by first | exact Or.inl rfl | exact Or.inr rfl)) (pgs_cons (pg_name (i := 9) nd rfl (by first | exact Or.inl rfl | exact Or.inr rfl)) pgs_nil))))
                              (pss_cons
                                (ps_expr (pe_bm PySem.F.plainAttrs_list PySem.F.slot_list_insert PySem.F.type_list_insert mt_insert (pe_ix ix_list (pv 2) (pv 6) (fun _ _ => rfl)) (pa_cons (pv 9) (pa_cons (pv 5) pa_nil))))
                              (pss_cons
                                (ps_asg (pe_call G_lat (hr.mono (by decide)) rfl C_lat.m C_lat.kp C_lat.b .nil pass0 (pa_cons (pv 2) (pa_cons (pv 14) pa_nil))) (pg_unl rfl (pgs_cons (pg_name (i := 6) nd rfl (by first | exact Or.inl rfl | exact Or.inr rfl)) (pgs_cons (pg_name (i := 9) nd rfl (by first | exact Or.inl rfl | exact Or.inr rfl)) pgs_nil))))
                              (pss_one
                                (ps_expr (pe_bm PySem.F.plainAttrs_list PySem.F.slot_list_insert PySem.F.type_list_insert mt_insert (pe_ix ix_list (pv 2) (pv 6) (fun _ _ => rfl)) (pa_cons (pv 9) (pa_cons (pe_op op_add (pv 5) pe_int) pa_nil))))))))))))))))))))))
      (pss_one
        (ps_ret (pe_op op_add (pv 3) pe_int))))), ?_⟩
    have W := IV.wf
    have hT15 : T0.length ≤ 14 := by have := IV.len; omega
    have rimp := W.pos
    have riml := W.le
    have rowlt : ∀ {i : Nat} {t : List Nat}, T0[i]? = some t → t.length ≤ 16 := fun e => by have := wf_len W e; omega
    refine ⟨_, rfl, _, _, rfl, rfl, two_mul _, ?_⟩
    refine ⟨fun σ H' => ∃ (v5 v6 v7 v8 v9 v10 v11 v12 v13 v14 : Option V) (as' : List Addr) (T' : List (List Nat)), σ = [some (.ref a), some (.int (rim : Int)), some (.ref D), some (.int (n : Int)), some (.int (c : Int)), v5, v6, v7, v8, v9, v10, v11, v12, v13, v14] ∧ GS H' a sa D as' T' ∧ K13.Inv rim T' (n + 1), ?_, ?_⟩
    · refine ⟨_, rfl, rfl, _, rfl, ?_⟩
      refine ite_orR (fun _ => ?_) (fun hA => ?_) (fun h => ⟨_, rfl, _, _, rfl, rfl, _, rfl, h⟩)
      · -- a link along the rim
        refine ⟨_, rfl, _, rfl, a, sa, rim, rfl, g.st, rimp, by omega, fun u H1 hu b1 st1 => ?_⟩
        have g1 := g.but b1 st1
        have em : ∀ j : Nat, ((j : Int) + 1) % (rim : Int) = ((K13.nx rim j : Nat) : Int) := fun j => by
          unfold K13.nx
          rw [Int.natCast_emod]
          congr 1
        refine ⟨_, rfl, _, _, rfl, rfl, .inl ⟨_, rfl, _, rfl, _, _, rfl, rfl, (by show (0 : Int) < rim; omega), ?_⟩⟩
        refine ⟨_, rfl, _, _, rfl, rfl, _, rfl, by omega, by omega, for_range (lo := 0) (n := ((rim : Int) - 1).toNat) (fun i σ H2 => ∃ (z : Int) (j : Nat) (gs : List Nat) (v8 : Option V), σ = [some (.ref a), some (.int (rim : Int)), some (.ref D), some (.int (n : Int)), some (.int (c : Int)), some (.int (2 * (n : Int))), some (.int (u : Int)), some (.int z), v8, none, none, none, none, none, none] ∧
            z = (j : Int) ∧ K13.Skip rim T0 u j gs ∧ GS H2 a sa D as T0)
          ⟨_, K13.nx rim u, [u], none, rfl, em u, .base, g1⟩ ?_ ?_⟩
        · rintro i σ H2 hi ⟨z, j, gs, v8, rfl, rfl, sk, g2⟩
          have hj := (sk.ok hu).jlt
          refine ⟨_, rfl, _, rfl, rfl, _, rfl, ?_⟩
          by_cases hju : j = u
          · subst hju
            exact iteNS rfl ⟨_, j, gs, _, rfl, rfl, sk, g2⟩
          · have hne : ¬ V.int (j : Int) = V.int (u : Int) := fun e => hju (by have := V.int.inj e; omega)
            rw [decide_eq_false hne]
            refine iteT ?_
            obtain ⟨t, eT⟩ : ∃ t, T0[j]? = some t := ⟨_, List.getElem?_eq_getElem (by omega)⟩
            obtain ⟨x, h1, h2, h3, h4, h5⟩ := g2.gr.at eT
            refine ⟨_, rfl, _, rfl, D, _, _, _, rfl, rfl, SqL.of g2.gr.out, at_of (j := j) rfl h2, (by show 0 ≤ sizeLine; decide), fun p hp => ?_⟩
            have s3 : Same H2 (upd H2 p (.lst [])) := same_new hp
            refine ⟨_, _, .lst (SqL.of (s3 _ _ h3)) (dp_nats _), .lst (SqL.of upd_same) .nil, shaped_nats _, rfl, _, rfl, ?_⟩
            rw [eqv_nil]
            have g3 := g2.mono s3
            generalize upd H2 p (.lst []) = H3 at g3
            by_cases he : t = []
            · rw [decide_eq_true he]
              refine iteT ?_
              subst he
              refine ⟨_, rfl, a, sa, 2, rfl, g3.st, by decide, by decide, fun r H4 hr b4 st4 => ?_⟩
              have g4 := g3.but b4 st4
              refine ⟨rfl, _, rfl, ite2 (fun _ => ?_) (fun _ => ⟨_, j, gs, _, rfl, rfl, sk, g4⟩)⟩
              exact ⟨_, rfl, _, _, rfl, rfl, .inl ⟨_, rfl, _, rfl, _, _, rfl, rfl, (by show (0 : Int) < rim; omega), _, K13.nx rim j, _, _, rfl, em j, .step sk hju eT, g4⟩⟩
            · rw [decide_eq_false he]
              exact iteF ⟨_, j, gs, _, rfl, rfl, sk, g3⟩
        · rintro σ H2 ⟨z, j, gs, v8, rfl, rfl, sk, g2⟩
          have hj := (sk.ok hu).jlt
          obtain ⟨t, eT⟩ : ∃ t, T0[u]? = some t := ⟨_, List.getElem?_eq_getElem (by omega)⟩
          have htl := rowlt eT
          obtain ⟨x, h1, h2, h3, h4, h5⟩ := g2.gr.at eT
          refine ⟨_, rfl, _, rfl, D, _, _, _, rfl, rfl, SqL.of g2.gr.out, at_of (j := u) rfl h2, .inl ⟨rfl, _, SqL.of h3⟩, _, rfl, x, _, _, _, rfl, rfl, h3, small1000 (by rw [nats_len]; omega), by decide, by decide, ?_⟩
          have g3 : GS (upd H2 x (.lst ((nats t).take (0 : Int).toNat ++ [V.int (2 * (n : Int))] ++ (nats t).drop (0 : Int).toNat))) a sa D as (T0.set u (2 * n :: t)) := g2.row h1 rfl
          generalize upd H2 x (.lst ((nats t).take (0 : Int).toNat ++ [V.int (2 * (n : Int))] ++ (nats t).drop (0 : Int).toNat)) = H3 at g3
          obtain ⟨s, eS⟩ : ∃ s, (T0.set u (2 * n :: t))[j]? = some s := ⟨_, List.getElem?_eq_getElem (by rw [List.length_set]; omega)⟩
          obtain ⟨y, i1, i2, i3, i4, i5⟩ := g3.gr.at eS
          have hsl : s.length ≤ 17 := by
            by_cases z : j = u
            · subst z
              rw [List.getElem?_set_self (List.getElem?_eq_some_iff.mp eT).1] at eS
              cases eS
              rw [List.length_cons]
              omega
            · rw [List.getElem?_set_ne (fun e => z e.symm)] at eS
              have := rowlt eS
              omega
          refine ⟨_, rfl, _, rfl, D, _, _, _, rfl, rfl, SqL.of g3.gr.out, at_of (j := j) rfl i2, .inl ⟨rfl, _, SqL.of i3⟩, _, rfl, _, _, rfl, rfl, y, _, _, rfl, rfl, i3, small1000 (by rw [nats_len]; omega), ?_⟩
          have g4 := g3.row (t' := s ++ [2 * n + 1]) (l := nats s ++ [V.int (2 * (n : Int) + 1)]) i1 (by rw [← nats_app]; rfl)
          exact ⟨_, _, _, _, _, _, _, _, _, _, _, _, rfl, g4, K13.inv_rim IV hu sk eT eS⟩
      · have hn0 : 0 < n := by
          rcases Nat.eq_zero_or_pos n with h | h
          · exact absurd (.inl (by rw [h]; rfl)) hA
          · exact h
        clear hA
        refine ⟨_, rfl, _, _, rfl, rfl, _, rfl, ite2 (fun _ => ?_) (fun _ => ?_)⟩
        · -- a new rim node ahead of an old one
          refine ⟨_, rfl, _, rfl, a, sa, rim, rfl, g.st, rimp, by omega, fun u H1 hu b1 st1 => ?_⟩
          have g1 := g.but b1 st1
          obtain ⟨t, eT⟩ : ∃ t, T0[u]? = some t := ⟨_, List.getElem?_eq_getElem (by omega)⟩
          have htl := rowlt eT
          obtain ⟨x, h1, h2, h3, h4, h5⟩ := g1.gr.at eT
          refine ⟨_, rfl, .inl ⟨rfl, _, SqL.of g1.gr.out⟩, _, rfl, _, rfl, D, _, _, _, rfl, rfl, SqL.of g1.gr.out, at_of (j := u) rfl h2, _, rfl, _, _, rfl, rfl, (by show 1 ≤ sizeLine; decide), fun p1 hp1 => ?_⟩
          have s2 : Same H1 (upd H1 p1 (.lst [.int (2 * (n : Int) + 1)])) := same_new hp1
          have e1 : (upd H1 p1 (.lst [.int (2 * (n : Int) + 1)])) p1 = some (.lst [.int (2 * (n : Int) + 1)]) := upd_same
          generalize upd H1 p1 (.lst [.int (2 * (n : Int) + 1)]) = H2 at s2 e1
          refine ⟨x, p1, _, _, rfl, rfl, s2 _ _ h3, e1, Nat.le_of_lt (small1000 (by rw [nats_len]; show t.length + 1 ≤ 1000; omega)), fun p2 hp2 => ?_⟩
          have s3 : Same H2 (upd H2 p2 (.lst (nats t ++ [.int (2 * (n : Int) + 1)]))) := same_new hp2
          have e2 : (upd H2 p2 (.lst (nats t ++ [.int (2 * (n : Int) + 1)]))) p2 = some (.lst (nats (t ++ [2 * n + 1]))) := by
            rw [upd_same, ← nats_app]
            rfl
          generalize upd H2 p2 (.lst (nats t ++ [.int (2 * (n : Int) + 1)])) = H3 at s3 e2
          have g2 := g1.mono s2
          have g3 := g2.mono s3
          have asl : (as.map V.ref).length ≤ 14 := by rw [List.length_map, g3.gr.len]; exact hT15
          refine ⟨D, _, _, rfl, rfl, g3.gr.out, small1000 (by omega), ?_⟩
          have g4 := g3.push e2 (g2.fresh hp2)
          refine ⟨_, rfl, (by show 1 ≤ sizeLine; decide), fun p3 hp3 => ?_⟩
          generalize upd H3 D (.lst (as.map V.ref ++ [.ref p2])) = H4 at g4 hp3
          have g5 := g4.mono (same_new (o := .lst [.int (2 * (n : Int))]) hp3)
          refine ⟨_, rfl, _, rfl, D, _, _, _, rfl, rfl, g5.gr.out, ixN_nat (by rw [List.length_map, g5.gr.len, List.length_append]; omega), ?_⟩
          have g6 := g5.put (i := u) (t' := [2 * n]) (by rw [upd_same]; rfl) (g4.fresh hp3)
          exact ⟨_, _, _, _, _, _, _, _, _, _, _, _, rfl, g6, K13.inv_spike IV hu eT⟩
        · refine ⟨_, rfl, rfl, _, rfl, ite2 (fun _ => ?_) (fun _ => ?_)⟩
          · -- an edge in two
            refine ⟨_, rfl, _, rfl, _, rfl, a, sa, n, rfl, g.st, hn0, by omega, fun kk H1 hk b1 st1 => ?_⟩
            have g1 := g.but b1 st1
            obtain ⟨t0, et0, mt0⟩ := K13.ndOf_spec W (show 2 * kk + 1 < 2 * n by omega)
            refine ⟨_, _, rfl, rfl, two_mul _, _, _, rfl, rfl, D, as, T0, 2 * kk + 1, _, t0, rfl, g1.gr, by omega, et0, mt0, fun u p t q H2 s2 hq hq2 eT hp => ?_⟩
            refine ⟨q, _, rfl, SqL.of hq2, rfl, _, _, rfl, _, _, rfl, rfl, ?_⟩
            have g2 := g1.mono s2
            have htl := rowlt eT
            obtain ⟨x, h1, h2, h3, h4, h5⟩ := g2.gr.at eT
            have hpl := (List.getElem?_eq_some_iff.mp hp).1
            have hul := (List.getElem?_eq_some_iff.mp eT).1
            refine ⟨_, rfl, .inl ⟨rfl, _, SqL.of g2.gr.out⟩, _, rfl, _, rfl, D, _, _, _, rfl, rfl, SqL.of g2.gr.out, at_of (j := u) rfl h2, _, rfl, x, _, _, _, rfl, rfl, SqL.of h3, at_of (j := p) rfl (nats_at hp), _, rfl, (by show 2 ≤ sizeLine; decide), fun p1 hp1 => ?_⟩
            have s3 : Same H2 (upd H2 p1 (.lst [.int ((2 * kk + 1 : Nat) : Int), .int (2 * (n : Int))])) := same_new hp1
            have e1 : (upd H2 p1 (.lst [.int ((2 * kk + 1 : Nat) : Int), .int (2 * (n : Int))])) p1 = some (.lst (nats [2 * kk + 1, 2 * n])) := upd_same
            generalize upd H2 p1 (.lst [.int ((2 * kk + 1 : Nat) : Int), .int (2 * (n : Int))]) = H3 at s3 e1
            have g3 := g2.mono s3
            have asl : (as.map V.ref).length ≤ 14 := by rw [List.length_map, g3.gr.len]; exact hT15
            refine ⟨D, _, _, rfl, rfl, g3.gr.out, small1000 (by omega), ?_⟩
            have g4 := g3.push e1 (g2.fresh hp1)
            generalize upd H3 D (.lst (as.map V.ref ++ [.ref p1])) = H4 at g4
            have eT4 : (T0 ++ [[2 * kk + 1, 2 * n]])[u]? = some t := by rw [List.getElem?_append_left hul]; exact eT
            obtain ⟨y, i1, i2, i3, i4, i5⟩ := g4.gr.at eT4
            refine ⟨_, rfl, _, rfl, D, _, _, _, rfl, rfl, SqL.of g4.gr.out, at_of (j := u) rfl i2, ?_⟩
            refine ⟨_, rfl, _, _, rfl, rfl, _, rfl, _, rfl, y, _, _, _, rfl, rfl, i3, ixN_nat (by rw [nats_len]; exact hpl), ?_⟩
            have g5 := g4.row (t' := t.set p (2 * n + 1)) i1 nats_set
            exact ⟨_, _, _, _, _, _, _, _, _, _, _, _, rfl, g5, K13.inv_sub IV hk eT hp⟩
          · refine ⟨_, rfl, rfl, _, rfl, ite2 (fun _ => ?_) (fun _ => ?_)⟩
            · -- beside an edge
              refine ⟨_, rfl, _, rfl, a, sa, n, rfl, g.st, hn0, by omega, fun kk H1 hk b1 st1 => ?_⟩
              have g1 := g.but b1 st1
              obtain ⟨t0, et0, mt0⟩ := K13.ndOf_spec W (show 2 * kk < 2 * n by omega)
              refine ⟨_, _, rfl, rfl, two_mul _, _, rfl, _, rfl, D, as, T0, 2 * kk, _, t0, rfl, g1.gr, by omega, et0, mt0, fun u p t q H2 s2 hq hq2 eT hp => ?_⟩
              refine ⟨q, _, rfl, SqL.of hq2, rfl, _, _, rfl, _, _, rfl, rfl, ?_⟩
              have g2 := g1.mono s2
              have htl := rowlt eT
              obtain ⟨x, h1, h2, h3, h4, h5⟩ := g2.gr.at eT
              have hpl := (List.getElem?_eq_some_iff.mp hp).1
              refine ⟨_, rfl, _, rfl, D, _, _, _, rfl, rfl, SqL.of g2.gr.out, at_of (j := u) rfl h2, .inl ⟨rfl, _, SqL.of h3⟩, _, rfl, _, _, rfl, rfl, _, rfl, x, _, _, _, rfl, rfl, h3, small1000 (by rw [nats_len]; omega), by omega, by omega, ?_⟩
              have ep : ((p : Int) + 1).toNat = p + 1 := by omega
              have g3 := g2.row (t' := K13.insAt t (p + 1) (2 * n)) (l := (nats t).take ((p : Int) + 1).toNat ++ [V.int (2 * (n : Int))] ++ (nats t).drop ((p : Int) + 1).toNat) h1 (by rw [ep]; exact nats_ins)
              generalize upd H2 x (.lst ((nats t).take ((p : Int) + 1).toNat ++ [V.int (2 * (n : Int))] ++ (nats t).drop ((p : Int) + 1).toNat)) = H3 at g3
              obtain ⟨t9, et9, mt9⟩ := K13.ndOf_spec W (show 2 * kk + 1 < 2 * n by omega)
              obtain ⟨t1, et1, mt1⟩ := find_set (t' := K13.insAt t (p + 1) (2 * n)) eT (fun x hx => mem_ins hx) et9 mt9
              refine ⟨_, rfl, _, rfl, _, _, rfl, rfl, D, as, _, 2 * kk + 1, _, t1, rfl, g3.gr, by rw [List.length_set]; omega, et1, mt1, fun v q s q2 H4 s4 hq3 hq4 eS hqs => ?_⟩
              refine ⟨q2, _, rfl, SqL.of hq4, rfl, _, _, rfl, _, _, rfl, rfl, ?_⟩
              have g4 := g3.mono s4
              obtain ⟨y, i1, i2, i3, i4, i5⟩ := g4.gr.at eS
              have hsl : s.length ≤ 17 := by
                by_cases z : v = u
                · subst z
                  rw [List.getElem?_set_self (List.getElem?_eq_some_iff.mp eT).1] at eS
                  cases eS
                  have := (K13.insAt_perm (t := t) (p := p + 1) (y := 2 * n)).length_eq
                  rw [this, List.length_cons]
                  omega
                · rw [List.getElem?_set_ne (fun e => z e.symm)] at eS
                  have := rowlt eS
                  omega
              have hql := (List.getElem?_eq_some_iff.mp hqs).1
              refine ⟨_, rfl, _, rfl, D, _, _, _, rfl, rfl, SqL.of g4.gr.out, at_of (j := v) rfl i2, .inl ⟨rfl, _, SqL.of i3⟩, _, rfl, _, rfl, _, _, rfl, rfl, y, _, _, _, rfl, rfl, i3, small1000 (by rw [nats_len]; omega), by omega, by omega, ?_⟩
              have g5 := g4.row (t' := K13.insAt s q (2 * n + 1)) (l := (nats s).take q ++ [V.int (2 * (n : Int) + 1)] ++ (nats s).drop q) i1 nats_ins
              exact ⟨_, _, _, _, _, _, _, _, _, _, _, _, rfl, g5, K13.inv_par IV hk eT hp eS hqs⟩
            · refine ⟨_, rfl, rfl, _, rfl, ite2 (fun _ => ?_) (fun _ => ?_)⟩
              · -- a loose end
                have asl : (as.map V.ref).length = T0.length := by rw [List.length_map, g.gr.len]
                refine ⟨_, rfl, _, rfl, D, _, rfl, .inl (SqL.of g.gr.out), a, sa, _, rfl, g.st, by omega, by omega, fun u H1 hu b1 st1 => ?_⟩
                have g1 := g.but b1 st1
                obtain ⟨t, eT⟩ : ∃ t, T0[u]? = some t := ⟨_, List.getElem?_eq_getElem (by omega)⟩
                have htl := rowlt eT
                have hul := (List.getElem?_eq_some_iff.mp eT).1
                obtain ⟨x, h1, h2, h3, h4, h5⟩ := g1.gr.at eT

                refine ⟨_, rfl, _, rfl, D, _, _, _, rfl, rfl, SqL.of g1.gr.out, at_of (j := u) rfl h2, .inl ⟨rfl, _, SqL.of h3⟩, _, rfl, _, rfl, _, rfl, D, _, _, _, rfl, rfl, SqL.of g1.gr.out, at_of (j := u) rfl h2, x, _, rfl, .inl (SqL.of h3), _, _, rfl, rfl, ?_⟩
                refine ⟨a, sa, (nats t).length + 1, rfl, g1.st, by omega, by rw [nats_len]; omega, fun p H2 hp b2 st2 => ?_⟩
                have g2 := g1.but b2 st2
                have h3' := g2.gr.row u x t h1 eT
                refine ⟨_, rfl, x, _, _, _, rfl, rfl, h3', small1000 (by rw [nats_len]; omega), by omega, by rw [nats_len] at hp; omega, ?_⟩
                have g3 := g2.row (t' := K13.insAt t p (2 * n)) (l := (nats t).take p ++ [V.int (2 * (n : Int))] ++ (nats t).drop p) h1 nats_ins
                have g3 : GS (upd H2 x (.lst ((nats t).take (p : Int).toNat ++ [V.int (2 * (n : Int))] ++ (nats t).drop (p : Int).toNat))) a sa D as (T0.set u (K13.insAt t p (2 * n))) := g3
                generalize upd H2 x (.lst ((nats t).take (p : Int).toNat ++ [V.int (2 * (n : Int))] ++ (nats t).drop (p : Int).toNat)) = H3 at g3
                refine ⟨_, rfl, .inl ⟨rfl, _, SqL.of g3.gr.out⟩, _, rfl, _, _, rfl, rfl, (by show 1 ≤ sizeLine; decide), fun p1 hp1 => ?_⟩
                have g4 := g3.mono (same_new (o := .lst [.int (2 * (n : Int) + 1)]) hp1)
                refine ⟨D, _, _, rfl, rfl, g4.gr.out, small1000 (by omega), ?_⟩
                have g5 := g4.push (t' := [2 * n + 1]) (by rw [upd_same]; rfl) (g3.fresh hp1)
                exact ⟨_, _, _, _, _, _, _, _, _, _, _, _, rfl, g5, K13.inv_pend IV eT⟩
              · refine ⟨_, rfl, rfl, _, rfl, ite2 (fun _ => ?_) (fun _ => ?_)⟩
                · -- a loop
                  have asl : (as.map V.ref).length = T0.length := by rw [List.length_map, g.gr.len]
                  refine ⟨_, rfl, _, rfl, D, _, rfl, .inl (SqL.of g.gr.out), a, sa, _, rfl, g.st, by omega, by omega, fun u H1 hu b1 st1 => ?_⟩
                  have g1 := g.but b1 st1
                  obtain ⟨t, eT⟩ : ∃ t, T0[u]? = some t := ⟨_, List.getElem?_eq_getElem (by omega)⟩
                  have htl := rowlt eT
                  have hul := (List.getElem?_eq_some_iff.mp eT).1
                  obtain ⟨x, h1, h2, h3, h4, h5⟩ := g1.gr.at eT

                  refine ⟨_, rfl, _, rfl, _, rfl, D, _, _, _, rfl, rfl, SqL.of g1.gr.out, at_of (j := u) rfl h2, x, _, rfl, .inl (SqL.of h3), _, _, rfl, rfl, ?_⟩
                  refine ⟨a, sa, (nats t).length + 1, rfl, g1.st, by omega, by rw [nats_len]; omega, fun p H2 hp b2 st2 => ?_⟩
                  have hp : p < t.length + 1 := by rw [nats_len] at hp; exact hp
                  have g2 := g1.but b2 st2
                  have h3' := g2.gr.row u x t h1 eT
                  refine ⟨_, rfl, _, rfl, D, _, _, _, rfl, rfl, SqL.of g2.gr.out, at_of (j := u) rfl h2, .inl ⟨rfl, _, SqL.of h3'⟩, _, rfl, _, rfl, x, _, _, _, rfl, rfl, h3', small1000 (by rw [nats_len]; omega), by omega, by omega, ?_⟩
                  have g3 : GS (upd H2 x (.lst ((nats t).take (p : Int).toNat ++ [V.int (2 * (n : Int))] ++ (nats t).drop (p : Int).toNat))) a sa D as (T0.set u (K13.insAt t p (2 * n))) := g2.row (t' := K13.insAt t p (2 * n)) (l := (nats t).take p ++ [V.int (2 * (n : Int))] ++ (nats t).drop p) h1 nats_ins
                  generalize upd H2 x (.lst ((nats t).take (p : Int).toNat ++ [V.int (2 * (n : Int))] ++ (nats t).drop (p : Int).toNat)) = H3 at g3
                  have eS : (T0.set u (K13.insAt t p (2 * n)))[u]? = some (K13.insAt t p (2 * n)) := List.getElem?_set_self hul
                  obtain ⟨y, i1, i2, i3, i4, i5⟩ := g3.gr.at eS
                  have hsl : (K13.insAt t p (2 * n)).length ≤ 17 := by
                    have := (K13.insAt_perm (t := t) (p := p) (y := 2 * n)).length_eq
                    rw [this, List.length_cons]
                    omega
                  refine ⟨_, rfl, _, rfl, D, _, _, _, rfl, rfl, SqL.of g3.gr.out, at_of (j := u) rfl i2, .inl ⟨rfl, _, SqL.of i3⟩, _, rfl, _, _, rfl, rfl, _, rfl, _, _, rfl, rfl, y, _, _, _, rfl, rfl, i3, small1000 (by rw [nats_len]; omega), by omega, by omega, ?_⟩
                  have ep : ((p : Int) + 1).toNat = p + 1 := by omega
                  have g4 := g3.row (t' := K13.insAt (K13.insAt t p (2 * n)) (p + 1) (2 * n + 1)) (l := (nats (K13.insAt t p (2 * n))).take ((p : Int) + 1).toNat ++ [V.int (2 * (n : Int) + 1)] ++ (nats (K13.insAt t p (2 * n))).drop ((p : Int) + 1).toNat) i1 (by rw [ep]; exact nats_ins)
                  exact ⟨_, _, _, _, _, _, _, _, _, _, _, _, rfl, g4, K13.inv_loop IV eT (by omega)⟩
                · -- across a face
                  refine ⟨_, rfl, _, rfl, _, rfl, _, rfl, _, _, rfl, rfl, two_mul _, a, sa, 2 * n, rfl, g.st, by omega, by omega, fun d H1 hd b1 st1 => ?_⟩
                  have g1 := g.but b1 st1
                  refine ⟨D, as, rim, n, T0, d, rfl, g1.gr, by omega, W, hd, fun f p1 H2 s2 hp1 hp2 fw fnd flt fpos flen => ?_⟩
                  have g2 := g1.mono s2
                  obtain ⟨f1, f2, f3, f4⟩ := g1.fresh hp1
                  refine ⟨_, rfl, _, rfl, _, rfl, p1, _, rfl, .inl (SqL.of hp2), a, sa, _, rfl, g2.st, by rw [nats_len]; exact fpos, by rw [nats_len]; omega, fun fa H3 hfa b3 st3 => ?_⟩
                  rw [nats_len] at hfa
                  have hp3 := b3 _ _ f3 hp2
                  have g3 := g2.but b3 st3
                  obtain ⟨first, hfirst⟩ : ∃ z, f[fa]? = some z := ⟨_, List.getElem?_eq_getElem hfa⟩
                  refine ⟨p1, _, _, _, rfl, rfl, SqL.of hp3, at_of (j := fa) rfl (nats_at hfirst), ?_⟩
                  refine ⟨_, rfl, _, rfl, _, rfl, p1, _, rfl, .inl (SqL.of hp3), a, sa, _, rfl, g3.st, by rw [nats_len]; exact fpos, by rw [nats_len]; omega, fun fb H4 hfb b4 st4 => ?_⟩
                  rw [nats_len] at hfb
                  have hp4 := b4 _ _ f3 hp3
                  have g4 := g3.but b4 st4
                  obtain ⟨second, hsecond⟩ : ∃ z, f[fb]? = some z := ⟨_, List.getElem?_eq_getElem hfb⟩
                  refine ⟨p1, _, _, _, rfl, rfl, SqL.of hp4, at_of (j := fb) rfl (nats_at hsecond), ?_⟩
                  obtain ⟨t0, et0, mt0⟩ := K13.ndOf_spec W (flt first (List.mem_of_getElem? hfirst))
                  refine ⟨_, rfl, _, rfl, D, as, T0, first, _, t0, rfl, g4.gr, by omega, et0, mt0, fun u p t q H5 s5 hq hq2 eT hp => ?_⟩
                  refine ⟨q, _, rfl, SqL.of hq2, rfl, _, _, rfl, _, _, rfl, rfl, ?_⟩
                  have g5 := g4.mono s5
                  have htl := rowlt eT
                  obtain ⟨x, h1, h2, h3, h4, h5⟩ := g5.gr.at eT
                  have hpl := (List.getElem?_eq_some_iff.mp hp).1
                  refine ⟨_, rfl, _, rfl, D, _, _, _, rfl, rfl, SqL.of g5.gr.out, at_of (j := u) rfl h2, .inl ⟨rfl, _, SqL.of h3⟩, _, rfl, _, rfl, x, _, _, _, rfl, rfl, h3, small1000 (by rw [nats_len]; omega), by omega, by omega, ?_⟩
                  have g6 : GS (upd H5 x (.lst ((nats t).take (p : Int).toNat ++ [V.int (2 * (n : Int))] ++ (nats t).drop (p : Int).toNat))) a sa D as (T0.set u (K13.insAt t p (2 * n))) := g5.row (t' := K13.insAt t p (2 * n)) (l := (nats t).take p ++ [V.int (2 * (n : Int))] ++ (nats t).drop p) h1 nats_ins
                  generalize upd H5 x (.lst ((nats t).take (p : Int).toNat ++ [V.int (2 * (n : Int))] ++ (nats t).drop (p : Int).toNat)) = H6 at g6
                  obtain ⟨t9, et9, mt9⟩ := K13.ndOf_spec W (flt second (List.mem_of_getElem? hsecond))
                  obtain ⟨t1, et1, mt1⟩ := find_set (t' := K13.insAt t p (2 * n)) eT (fun x hx => mem_ins hx) et9 mt9
                  refine ⟨_, rfl, _, rfl, D, as, _, second, _, t1, rfl, g6.gr, by rw [List.length_set]; omega, et1, mt1, fun v q s q2 H7 s7 hq3 hq4 eS hqs => ?_⟩
                  refine ⟨q2, _, rfl, SqL.of hq4, rfl, _, _, rfl, _, _, rfl, rfl, ?_⟩
                  have g7 := g6.mono s7
                  obtain ⟨y, i1, i2, i3, i4, i5⟩ := g7.gr.at eS
                  have hsl : s.length ≤ 17 := by
                    by_cases z : v = u
                    · subst z
                      rw [List.getElem?_set_self (List.getElem?_eq_some_iff.mp eT).1] at eS
                      cases eS
                      have := (K13.insAt_perm (t := t) (p := p) (y := 2 * n)).length_eq
                      rw [this, List.length_cons]
                      omega
                    · rw [List.getElem?_set_ne (fun e => z e.symm)] at eS
                      have := rowlt eS
                      omega
                  have hql := (List.getElem?_eq_some_iff.mp hqs).1
                  refine ⟨_, rfl, _, rfl, D, _, _, _, rfl, rfl, SqL.of g7.gr.out, at_of (j := v) rfl i2, .inl ⟨rfl, _, SqL.of i3⟩, _, rfl, _, rfl, _, _, rfl, rfl, y, _, _, _, rfl, rfl, i3, small1000 (by rw [nats_len]; omega), by omega, by omega, ?_⟩
                  have g8 := g7.row (t' := K13.insAt s q (2 * n + 1)) (l := (nats s).take q ++ [V.int (2 * (n : Int) + 1)] ++ (nats s).drop q) i1 nats_ins
                  exact ⟨_, _, _, _, _, _, _, _, _, _, _, _, rfl, g8, K13.inv_chord IV fw fnd flt hfirst hsecond eT hp eS hqs⟩
    · rintro σ H' ⟨v5, v6, v7, v8, v9, v10, v11, v12, v13, v14, as', T', rfl, g', V'⟩
      exact ⟨_, rfl, _, _, rfl, rfl, k as' T' H' g' V'⟩
end
end W13
namespace W13
open PySem L2
/-! ## a net is drawn -/
theorem GS.off {H : Hp} {a s D b : Addr} {as : List Addr} {T : List (List Nat)} {o : HO} (g : GS H a s D as T) (f : b ∉ as ∧ b ≠ D ∧ b ≠ a ∧ b ≠ s) : GS (upd H b o) a s D as T := by
  obtain ⟨f1, f2, f3, f4⟩ := f
  refine ⟨g.st.off f3 f4, ⟨?_, g.gr.len, g.gr.nd, g.gr.nin, fun i x t h1 h2 => ?_⟩, g.ad, g.sd, g.aa, g.sa⟩
  · rw [upd_ne f2.symm]
    exact g.gr.out
  · rw [upd_ne (fun (e : x = b) => f1 (e ▸ List.mem_of_getElem? h1))]
    exact g.gr.row i x t h1 h2
def spNet (K : PySem.W.Frag) : Sp := fun vs H Q _ => ∃ (a s : Addr) (m : Nat), vs = [.ref a, .int (m : Int), .int 9] ∧ StA H a s ∧ 0 < m ∧ m ≤ 6 ∧
  ∀ (v : V) (rim n : Nat) (T : List (List Nat)) (am : List Rat) (H' : Hp), NetV K H' v rim T am → K13.Net rim T n am → rim ≤ 6 → Q v H'
section
variable {P : Program} {w : World} {K : PySem.W.Frag} {mg : Str → Option Value} {base : Heap} {uS uG : Value} {aZ aO : Addr}
abbrev s_lnet : Stmt := top 47
theorem sc_lnet : FnScope ["_law_state", "_law_most_rim", "_law_most_edges", "_law_rim", "_law_turns", "_law_k", "_law_edges", "_law_amounts", "_law_turn"] ["_law_state", "_law_most_rim", "_law_most_edges"] (defScope s_lnet) := ⟨rfl, rfl, rfl, by decide +kernel, rfl, by decide +kernel, by decide +kernel⟩
theorem ok_lnet {f : Addr} {fd : FuncData} (F : Fun K "_law_net" "_law_net" s_lnet f fd) (T : Txt K mg uS uG aZ aO) (DP : Df P w K mg base 1 "_law_pick" ["_law_state", "_law_limit"] spPick) (DG : Df P w K mg base 3 "_law_grow" ["_law_state", "_law_rim", "_law_turns", "_law_edges", "_law_choice"] spGrow)
    (DA : Df P w K mg base 3 "_law_amount" ["_law_state"] (spAmount K)) : FnOk P w K mg base CX0 4 f fd ["_law_state", "_law_most_rim", "_law_most_edges"] (spNet K) := by
  obtain ⟨_, _, G_lpick, C_lpick⟩ := DP
  obtain ⟨_, _, G_lgrow, C_lgrow⟩ := DG
  obtain ⟨_, _, G_lamount, C_lamount⟩ := DA
  refine F.ok sc_lnet (fun vs H Q E h => ?_) (fun cdv A outer s H vs Q E hr h => ?_)
  · obtain ⟨a, s, m, rfl, _⟩ := h
    rfl
  · obtain ⟨a, sa, m, rfl, hst, hm0, hm6, k⟩ := h
    have nd := sc_lnet.nd
    refine ⟨_,
      (pss_cons
        (ps_set (i := 3) nd rfl (by first | exact Or.inl rfl | exact Or.inr rfl) (pe_op op_add pe_int (pe_call G_lpick (hr.mono (by decide)) rfl C_lpick.m C_lpick.kp C_lpick.b .nil pass0 (pa_cons (pv 0) (pa_cons (pv 1) pa_nil)))))
      (pss_cons
        (ps_setLc (i := 4) (own := [("_law_k", 5)]) (g := gName 5) rfl nd rfl rfl (sw_true rfl rfl rfl (by decide +kernel)) (pi_range1 rfl T.range (pa_cons (pv 3) pa_nil)) (blkOk_by (N := ["_law_state", "_law_most_rim", "_law_most_edges", "_law_rim", "_law_turns", "_law_k", "_law_edges", "_law_amounts", "_law_turn"]) (sc := defScope s_lnet) (by decide +kernel))
      (fun _ _ _ _ _ => pg_name (i := 5) nd rfl (by first | exact Or.inl rfl | exact Or.inr rfl)) (fun _ _ _ _ _ => pts_nil)
      (fun _ _ _ _ _ => (pe_lst pa_nil)))
      (pss_cons
        (ps_set (i := 6) nd rfl (by first | exact Or.inl rfl | exact Or.inr rfl) pe_int)
      (pss_cons
        (ps_for PassesOwn.never rfl (pi_range1 rfl T.range (pa_cons (pe_call G_lpick (hr.mono (by decide)) rfl C_lpick.m C_lpick.kp C_lpick.b .nil pass0 (pa_cons (pv 0) (pa_cons (pe_op op_add (pv 2) pe_int) pa_nil))) pa_nil)) (pg_name (i := 5) nd rfl (by first | exact Or.inl rfl | exact Or.inr rfl))
          (pss_one
            (ps_set (i := 6) nd rfl (by first | exact Or.inl rfl | exact Or.inr rfl) (pe_call G_lgrow (hr.mono (by decide)) rfl C_lgrow.m C_lgrow.kp C_lgrow.b .nil pass0 (pa_cons (pv 0) (pa_cons (pv 3) (pa_cons (pv 4) (pa_cons (pv 6) (pa_cons (pe_call G_lpick (hr.mono (by decide)) rfl C_lpick.m C_lpick.kp C_lpick.b .nil pass0 (pa_cons (pv 0) (pa_cons pe_int pa_nil))) pa_nil)))))))))
      (pss_cons
        (ps_setLc (i := 7) (own := [("_law_k", 5)]) (g := gName 5) rfl nd rfl rfl (sw_true rfl rfl rfl (by decide +kernel)) (pi_range1 rfl T.range (pa_cons (pv 6) pa_nil)) (blkOk_by (N := ["_law_state", "_law_most_rim", "_law_most_edges", "_law_rim", "_law_turns", "_law_k", "_law_edges", "_law_amounts", "_law_turn"]) (sc := defScope s_lnet) (by decide +kernel))
      (fun _ _ _ _ _ => pg_name (i := 5) nd rfl (by first | exact Or.inl rfl | exact Or.inr rfl)) (fun _ _ _ _ _ => pts_nil)
      (fun _ _ _ _ _ => (pe_call G_lamount (hr.mono (by decide)) rfl C_lamount.m C_lamount.kp C_lamount.b .nil pass0 (pa_cons (pv 0) pa_nil))))
      (pss_one
        (ps_ret (pe_tup (pa_cons (pv 3) (pa_cons (pe_callTy cr_tupleOf (by rfl) T.tuple (by decide +kernel) (pa_cons (pe_lc (own := [("_law_turn", 8)]) (g := gName 8) (te := tCB (rTupleOf K) (tCons (tVar 8) tNil)) rfl nd (pi_list (pv 4)) (blkOk_by (N := ["_law_state", "_law_most_rim", "_law_most_edges", "_law_rim", "_law_turns", "_law_k", "_law_edges", "_law_amounts", "_law_turn"]) (sc := defScope s_lnet) (by decide +kernel))
      (fun _ _ _ _ _ => pg_name (i := 8) nd rfl (by first | exact Or.inl rfl | exact Or.inr rfl)) (fun _ _ _ _ _ => pts_nil)
      (fun _ _ _ _ _ => (pe_callTy cr_tupleOf (by rfl) T.tuple (by decide +kernel) (pa_cons (pv 8) pa_nil)))) pa_nil)) (pa_cons (pe_callTy cr_tupleOf (by rfl) T.tuple (by decide +kernel) (pa_cons (pv 7) pa_nil)) pa_nil))))))))))), ?_⟩
    refine ⟨_, rfl, _, rfl, a, sa, m, rfl, hst, hm0, by omega, fun r H1 hr1 b1 st1 => ?_⟩
    refine ⟨_, _, rfl, rfl, _, rfl, _, rfl, by omega, by omega, fun D hD => ?_⟩
    have hra : ∀ {i : Nat}, i < ((1 : Int) + (r : Int)).toNat ↔ i < 1 + r := by intro i; omega
    obtain ⟨⟨la, hla⟩, ls, hls⟩ := st1.lst
    have aD : a ≠ D := fun e => by rw [e, hD] at hla; cases hla
    have sD : sa ≠ D := fun e => by rw [e, hD] at hls; cases hls
    refine lc_range (lo := 0) (n := ((1 : Int) + (r : Int)).toNat) (fun i H2 => Same H1 H2 ∧ ∃ as : List Addr, H2 D = some (.lst (as.map V.ref)) ∧ as.length = i ∧ as.Nodup ∧ D ∉ as ∧ (∀ x, x ∈ as → H1 x = none ∧ H2 x = some (.lst [])))
      ⟨same_new hD, [], upd_same, rfl, List.nodup_nil, by simp, fun j h => by cases h⟩ ?_ ?_
    · rintro i H2 hi ⟨s2, as, hacc, hal, hnd, hDn, haj⟩
      rw [Int.zero_add]
      refine ⟨rfl, (by show 0 ≤ sizeLine; decide), fun p hp => ?_⟩
      have s3 : Same H2 (upd H2 p (.lst [])) := same_new hp
      have hp0 : H1 p = none := s2.free hp
      have hacc3 := s3 _ _ hacc
      have hpD : p ≠ D := fun e => by rw [e, hacc] at hp; cases hp
      have hi7 : i < 7 := by have := hra.mp hi; omega
      refine ⟨_, hacc3, small1000 (by rw [List.length_map]; omega), same_upd (s2.trans s3) hD, as ++ [p], by rw [upd_same, List.map_append]; rfl, by simp [hal], ?_, ?_, ?_⟩
      · rw [List.nodup_append]
        refine ⟨hnd, by simp, fun x hx y hy e => ?_⟩
        have hy := List.mem_singleton.mp hy
        subst hy
        subst e
        rw [(haj x hx).2] at hp
        cases hp
      · intro hm
        rcases List.mem_append.mp hm with hm | hm
        · exact hDn hm
        · exact hpD (List.mem_singleton.mp hm).symm
      · intro x hx
        rcases List.mem_append.mp hx with hx | hx
        · refine ⟨(haj x hx).1, ?_⟩
          rw [upd_ne (fun (e : x = D) => hDn (e ▸ hx))]
          exact s3 _ _ (haj x hx).2
        · have := List.mem_singleton.mp hx
          subst this
          exact ⟨hp0, by rw [upd_ne hpD, upd_same]⟩
    · rintro H2 ⟨s2, as, hacc, hal, hnd, hDn, haj⟩
      have hal : as.length = 1 + r := by omega
      have g2 : GS H2 a sa D as (List.replicate (1 + r) []) := ⟨st1.mono s2, ⟨hacc, by simp [hal], hnd, hDn, fun i x t h1 h2 => by
          have := List.eq_of_mem_replicate (List.mem_of_getElem? h2)
          subst this
          exact (haj x (List.mem_of_getElem? h1)).2⟩, aD, sD, fun q => (by rw [(haj a q).1] at hla; cases hla), fun q => (by rw [(haj sa q).1] at hls; cases hls)⟩
      refine ⟨_, rfl, _, rfl, _, _, rfl, rfl, a, sa, 10, rfl, g2.st, by decide, by decide, fun e H3 he b3 st3 => ?_⟩
      have g3 := g2.but b3 st3
      refine ⟨(e : Int), rfl, by omega, by omega, for_range (lo := 0) (n := (e : Int).toNat) (fun i σ H4 => ∃ (v5 : Option V) (as : List Addr) (T' : List (List Nat)), σ = [some (.ref a), some (.int (m : Int)), some (.int 9), some (.int (1 + (r : Int))), some (.ref D), v5, some (.int (i : Int)), none, none] ∧ GS H4 a sa D as T' ∧ K13.Inv (1 + r) T' i)
        ⟨none, as, _, rfl, g3, K13.inv_start (by omega)⟩ ?_ ?_⟩
      · rintro i σ H4 hi ⟨v5, as, T', rfl, g4, inv4⟩
        have hi9 : i < e := by omega
        refine ⟨_, rfl, _, rfl, _, rfl, _, rfl, _, rfl, a, sa, 13, rfl, g4.st, by decide, by decide, fun c H5 hc b5 st5 => ?_⟩
        have g5 := g4.but b5 st5
        refine ⟨a, sa, D, as, 1 + r, i, c, T', rfl, g5, inv4, by omega, by omega, fun as' T2 H6 g6 inv6 => ?_⟩
        exact ⟨_, as', T2, rfl, g6, inv6⟩
      · rintro σ H4 ⟨v5, as, T', rfl, g4, inv4⟩
        have eE : (e : Int).toNat = e := Int.toNat_natCast e
        rw [eE] at inv4 ⊢
        have he9 : e ≤ 9 := by omega
        refine ⟨_, rfl, (e : Int), rfl, by omega, by omega, fun L hL => ?_⟩
        have fL := g4.fresh hL
        refine lc_range (lo := 0) (n := (e : Int).toNat) (fun i H5 => GS H5 a sa D as T' ∧ ∃ (acc : List V) (am : List Rat), H5 L = some (.lst acc) ∧ am.length = i ∧ RatsV K H5 acc am ∧ (∀ q, q ∈ am → 0 < q) ∧ ∀ q, q ∈ am → K13.W12 72 q)
          ⟨g4.mono (same_new hL), [], [], upd_same, rfl, ⟨rfl, fun i x q h => (by cases h)⟩, fun q h => (by cases h), fun q h => (by cases h)⟩ ?_ ?_
        · rintro i H5 hi ⟨g5, acc, am, hacc, hal, hrv, hpos, hw⟩
          rw [Int.zero_add]
          refine ⟨rfl, ?_⟩
          refine ⟨_, rfl, a, sa, rfl, g5.st, fun v q H6 hq hw6 b6 st6 hv => ?_⟩
          have g6 := g5.but b6 st6
          have hacc6 := b6 _ _ fL.2.2.1 hacc
          obtain ⟨l5, hl5⟩ := g5.st.lst.1
          have tk6 := b6.tk (K := K) hl5
          have hlen := hrv.1
          refine ⟨acc, hacc6, small1000 (by omega), g6.off fL, acc ++ [v], am ++ [q], upd_same, by simp [hal], ⟨by simp [hlen], fun j x q' h1 h2 => ?_⟩, fun q' h => ?_, fun q' h => ?_⟩
          · rcases snoc_get h1 with ⟨q1, q2⟩ | ⟨q1, rfl⟩
            · rw [List.getElem?_append_left (by omega)] at h2
              exact ((hrv.2 j x q' q2 h2).tk tk6).upd hacc6
            · rw [q1, hlen] at h2
              have : q' = q := by simpa using h2.symm
              rw [this]
              exact hv.upd hacc6
          · rcases List.mem_append.mp h with h | h
            · exact hpos _ h
            · rw [List.mem_singleton.mp h]; exact hq
          · rcases List.mem_append.mp h with h | h
            · exact hw _ h
            · rw [List.mem_singleton.mp h]; exact hw6
        · rintro H5 ⟨g5, acc, am, hacc, hal, hrv, hpos, hw⟩
          rw [eE] at hal
          have hT15 : T'.length ≤ 15 := by have := inv4.len; omega
          refine ⟨_, rfl, _, rfl, D, rfl, ⟨_, SqL.of g5.gr.out⟩, fun U hU => ?_⟩
          have fU := g5.fresh hU
          have hUL : U ≠ L := fun e => by rw [e, hacc] at hU; cases hU
          have elen : (as.map V.ref).length = T'.length := by rw [List.length_map]; exact g5.gr.len
          refine lc_list (K := K) (a := D) (xs := as.map V.ref) (fun i H6 => Same H5 H6 ∧ ∃ ac, H6 U = some (.lst ac) ∧ ac.length = i ∧ ∀ (j : Nat) z t, ac[j]? = some z → T'[j]? = some t → ∃ d, z = .ref d ∧ SqT K H6 d (nats t))
            ⟨same_new hU, [], upd_same, rfl, fun j z t h => by cases h⟩ (fun i H6 _ ⟨s6, _⟩ => SqL.of (s6 _ _ g5.gr.out)) ?_ ?_
          · rintro i x H6 hx ⟨s6, ac, hac, hcl, hcj⟩
            have hi : i < T'.length := by have := (List.getElem?_eq_some_iff.mp hx).1; omega
            obtain ⟨t, eT⟩ : ∃ t, T'[i]? = some t := ⟨_, List.getElem?_eq_getElem hi⟩
            obtain ⟨y, h1, h2, h3, h4, h5⟩ := g5.gr.at eT
            rw [h2] at hx
            cases hx
            refine ⟨rfl, ?_⟩
            refine ⟨_, rfl, y, nats t, rfl, .inl ⟨SqL.of (s6 _ _ h3), fun l hl => ?_⟩⟩
            have s7 : Same H6 (upd H6 l (.tup (nats t))) := same_new hl
            have hac7 := s7 _ _ hac
            refine ⟨ac, hac7, small1000 (by omega), same_upd (s6.trans s7) hU, ac ++ [.ref l], upd_same, by simp [hcl], fun j z t' h6 h7 => ?_⟩
            rcases snoc_get h6 with ⟨_, q2⟩ | ⟨q1, rfl⟩
            · obtain ⟨d, e1, e2⟩ := hcj j z t' q2 h7
              exact ⟨d, e1, SqT.upd (Same.tup s7 e2) hac7⟩
            · rw [q1, hcl, eT] at h7
              cases h7
              exact ⟨l, rfl, SqT.upd (SqT.of upd_same) hac7⟩
          · rintro H6 ⟨s6, ac, hac, hcl, hcj⟩
            refine ⟨U, ac, rfl, .inl ⟨SqL.of hac, fun l1 hl1 => ?_⟩⟩
            have s7 : Same H6 (upd H6 l1 (.tup ac)) := same_new hl1
            refine ⟨_, rfl, L, acc, rfl, .inl ⟨SqL.of (s7 _ _ (s6 _ _ hacc)), fun l2 hl2 => ?_⟩⟩
            have s8 : Same (upd H6 l1 (.tup ac)) (upd (upd H6 l1 (.tup ac)) l2 (.tup acc)) := same_new hl2
            refine ⟨(by show 3 ≤ sizeLine; decide), fun l3 hl3 => ?_⟩
            have s9 : Same (upd (upd H6 l1 (.tup ac)) l2 (.tup acc)) (upd (upd (upd H6 l1 (.tup ac)) l2 (.tup acc)) l3 (.tup [.int (1 + (r : Int)), .ref l1, .ref l2])) := same_new hl3
            refine k (.ref l3) (1 + r) e T' am _ ⟨l3, l1, l2, ac, acc, rfl, SqT.of upd_same, Same.tup (s8.trans s9) (SqT.of upd_same), ⟨hcl.trans elen, fun i x t h1 h2 => ?_⟩, Same.tup s9 (SqT.of upd_same), hrv.mono ((s6.trans s7).trans (s8.trans s9))⟩ ⟨inv4, hal, he9, hpos, hw⟩ (by omega)
            obtain ⟨d, e1, e2⟩ := hcj i x t h1 h2
            exact ⟨d, e1, Same.tup (s7.trans (s8.trans s9)) e2⟩
end
end W13
namespace W13
open PySem PySem.Spec PyProof.Rows L2
/-! ## set(xs) of a list of whole numbers -/
/-- an empty set, as it is laid -/
abbrev fs (w : World) : Obj := { cls := .type "set", dict := none, data := .set #[] 0 (.fresh 0 0 (!w.params.followText "set-order")) }
section
variable {P : Program} {w : World} {A : Around} {E : Value → Shared → Prop} {s : Shared}
set_option maxHeartbeats 8000000 in
theorem set_of_list {l : Addr} {xs : Array Value} (ns : List Int) {Q : Value → Shared → Prop} (calm : A.handled = none) (isl : s.heap.IsList l xs) (hxs : IntsAre xs.toList ns) (few : ns.length + 1 < scanBound)
    (next : ∀ (h' : Heap) (tk c : Nat), SetR w h' s.heap.objs.size (fun j => decide (j ∈ ns)) c → c ≤ ns.length → (∀ b o, s.heap.get? b = some o → h'.get? b = some o) → Q (.ref s.heap.objs.size) { s with heap := h', toks := tk }) :
    wpAny (model P w) A (call (.type "set") [.ref l]) Q E s := by
  have sz : xs.size = ns.length := by
    have q := IntsAre.length hxs
    simpa using q
  obtain ⟨cm, tm, mro⟩ := F.called_set.mro
  have made := F.called_set.made
  have sb1 := F.called_set.sub
  refine wpAny_call (codeAny_of_tree (show wpAny _ _ (callAny (.type "set") _) _ _ _ from ?_))
  refine wpAny_pure (And.intro (Code.quiet_builtin _ (by decide +kernel)) ?_)
  refine codeAny_builtin F.entry_type_call ?_
  rw [Around.under_plain (weight_type_call_type "set" [Value.ref l] []) rfl]
  have nt := F.called_set.notType
  have cc := F.called_set.canCreate
  have tc := F.typeCall_set_1 (Value.ref l)
  repeat (any_goals (first | wp_step | assumption))
  refine codeAny_mono (code_set_led1 (Value.ref l) (E := E) (Q₁ := fun v t => v = .ref s.heap.objs.size ∧ t = { s with heap := s.heap.push (fs w) }) ⟨rfl, rfl⟩) fun r t hrt => ?_
  match r, hrt with
  | .error e, hrt => exact hrt
  | .ok (.ret v), hrt =>
    obtain ⟨rfl, rfl⟩ := hrt
    have at0 : (s.heap.push (fs w)).get? s.heap.objs.size = some (fs w) := Heap.get?_push_size _ rfl
    have ty0 : Shared.TypeIs { s with heap := s.heap.push (fs w) } (.ref s.heap.objs.size) "set" := ⟨_, at0, rfl⟩
    have il := F.called_set.init.lookup
    have ib := F.called_set.init.bind (Value.ref s.heap.objs.size)
    repeat (any_goals (first | wp_step | assumption))
    refine codeAny_mono (codeAny_call_builtin (R := wants (fun v t => v = .none ∧ ∃ h' tk c, t = { s with heap := h', toks := tk } ∧ SetR w h' s.heap.objs.size (fun j => decide (j ∈ ns)) c ∧ c ≤ ns.length ∧ ∀ b o, s.heap.get? b = some o → h'.get? b = some o) E)
      F.called_set.init.plain F.entry_set_init (check_set_init_1 ty0 ?_)) fun r t hrt => ?_
    · obtain ⟨⟨kc, kd, kt, ks⟩, got, isc, nn, isd⟩ := isl
      simp only at isc isd
      subst isc isd
      have got1 : (s.heap.push (fs w)).get? l = some ⟨.type "list", kd, .seq xs nn, ks⟩ := Heap.get?_push_of_some _ got
      have isl1 : (s.heap.push (fs w)).IsList l xs := ⟨_, got1, rfl, nn, rfl⟩
      have sb2 := F.sub_list_set
      have sb3 := F.sub_list_frozenset
      have nd2 : (Value.type "list" == .type "dict") = false := by decide
      have lt0 : l < s.heap.objs.size := Heap.lt_size got
      have sz1 : (s.heap.push (fs w)).objs.size = s.heap.objs.size + 1 := Heap.size_push ..
      have calm3 : A.in1.in1.in1.handled = none := by simp [calm]
      unfold Builtin.«set.__init__» noKeywords Builtin.Frozenset.updateFrom
      generalize eP : pyIter = Pi
      wp_walk
      subst eP
      refine wpAny_pyIter_list isl1 (wpAny_bind (wpAny_runValue ?_))
      have ne1 : l ≠ (s.heap.push (fs w)).objs.size := by rw [sz1]; exact Nat.ne_of_lt (Nat.lt_succ_of_lt lt0)
      have no1 : s.heap.objs.size ∉ [(s.heap.push (fs w)).objs.size, l] := by
        rw [sz1]
        simp only [List.mem_cons, List.not_mem_nil, or_false, not_or]
        exact ⟨Nat.ne_of_lt (Nat.lt_succ_self _), Nat.ne_of_gt lt0⟩
      have item : ∀ (i : Nat) (v : Value), xs[i]? = some v → ∃ k t, ns[i]? = some k ∧ v = .int k t := fun i v hv => by
        have hi := (Array.getElem?_eq_some_iff.mp hv).1
        rw [sz] at hi
        obtain ⟨t, e⟩ := IntsAre.int_at hxs i v (by simpa using hv)
        exact ⟨ns[i], t, List.getElem?_eq_getElem hi, by simpa [List.getD, hi] using e⟩
      refine set_update_ints ((Walks.list calm3 _ l ne1 xs).toS) s.heap.objs.size no1 ns sz few item (xs.size - 0) 0 _ (by omega) (Nat.zero_le _) ⟨⟨_, Heap.get?_push_size _ rfl, rfl, rfl⟩, isl1.push _⟩ ⟨0, Nat.le_refl 0, setR_new_at (Heap.get?_push_of_some _ at0)⟩ ?_
      intro t c mv hc R
      obtain ⟨h', gn, dr, tk, os'⟩ := t
      obtain rfl : gn = s.gens := mv.gens
      obtain rfl : dr = s.drawn := mv.drawn
      obtain rfl : os' = s.os := mv.os
      rw [sz] at hc
      refine wpAny_pure (show wpAny _ _ (ret Value.none) _ _ _ from wpAny_pure ⟨rfl, h', tk, c, rfl, R, hc, fun b o e => ?_⟩)
      have hb : b < s.heap.objs.size := Heap.lt_size e
      refine mv.heap b o ?_ (Heap.get?_push_of_some _ (Heap.get?_push_of_some _ e))
      rw [sz1]
      simp only [List.mem_cons, List.not_mem_nil, or_false, not_or]
      exact ⟨Nat.ne_of_lt hb, Nat.ne_of_lt (Nat.lt_succ_of_lt hb)⟩
    · match r, hrt with
      | .error e, hrt => exact hrt
      | .ok (.ret v), hrt =>
        obtain ⟨rfl, h', tk, c, rfl, q1, q2, q3⟩ := hrt
        repeat (any_goals (first | wp_step | assumption))
        exact next _ _ _ q1 q2 q3
      | .ok (.next), hrt => exact hrt.elim
end
theorem ints_vals : ∀ {ns : List Int} {us : List Value}, Vals (ns.map V.int) us → IntsAre us ns
  | [], _, .nil => .nil
  | n :: ns, _, .cons r t => by
    obtain ⟨k, rfl⟩ := r
    exact .cons n k (ints_vals t)
/-- set(xs): the set of the numbers of a list -/
def rSetL (K : PySem.W.Frag) (w : World) : List V → Hp → VK → Prop := fun vs H Q => ∃ (l : Addr) (ns : List Int), vs = [V.ref l] ∧ SqL K H l (ns.map V.int) ∧ ns.length ≤ 1000 ∧ ∀ (p : Addr) (c : Nat), H p = none → c ≤ ns.length → Q (.ref p) (upd H p (SetO w p (fun j => decide (j ∈ ns)) c))
theorem cr_setL {X : Cx} (hc : X.calm = true) : CallR X (.type "set") (rSetL X.K X.w) := by
  intro pins s σ H vs us Q I r h
  obtain ⟨l, ns, rfl, hl, hn, q⟩ := h
  rw [Vals.ref1 r]
  obtain ⟨its, rv, pl, _⟩ := I.list hl
  refine set_of_list (P := X.prog) (w := X.w) ns (I.ok.hd hc) pl.isList (by simpa using ints_vals rv) (by unfold scanBound; omega) fun h' tk c R hcn k => ?_
  have hp : H s.heap.objs.size = none := I.hok.fresh (Nat.le_refl _)
  exact ⟨.ref s.heap.objs.size, _, I.laid (t' := tk) k (Nat.le_refl _) (setO_new R), rfl, q _ c hp hcn⟩
end W13
namespace W13
open PySem L2
/-! ## the law's own ends and joins -/
/-- rows that were made, each with the same items -/
structure NewR (H0 H : Hp) (D : Addr) (as : List Addr) (l : List V) : Prop where
  same : Same H0 H
  out : H D = some (.lst (as.map V.ref))
  nd : as.Nodup
  nin : D ∉ as
  row : ∀ x, x ∈ as → H0 x = none ∧ H x = some (.lst l)
theorem NewR.start {H0 : Hp} {D : Addr} {l : List V} (hD : H0 D = none) : NewR H0 (upd H0 D (.lst [])) D [] l := ⟨same_new hD, upd_same, List.nodup_nil, by simp, fun x h => by cases h⟩
theorem NewR.push {H0 H : Hp} {D p : Addr} {as : List Addr} {l : List V} (h : NewR H0 H D as l) (hD : H0 D = none) (hp : H p = none) : NewR H0 (upd (upd H p (.lst l)) D (.lst (as.map V.ref ++ [.ref p]))) D (as ++ [p]) l ∧ (upd H p (.lst l)) D = some (.lst (as.map V.ref)) := by
  have s3 : Same H (upd H p (.lst l)) := same_new hp
  have hp0 : H0 p = none := h.same.free hp
  have hacc3 := s3 _ _ h.out
  have hpD : p ≠ D := fun e => by rw [e, h.out] at hp; cases hp
  refine ⟨⟨same_upd (h.same.trans s3) hD, by rw [upd_same, List.map_append]; rfl, ?_, ?_, ?_⟩, hacc3⟩
  · rw [List.nodup_append]
    refine ⟨h.nd, by simp, fun x hx y hy e => ?_⟩
    have hy := List.mem_singleton.mp hy
    subst hy
    subst e
    rw [(h.row x hx).2] at hp
    cases hp
  · intro hm
    rcases List.mem_append.mp hm with hm | hm
    · exact h.nin hm
    · exact hpD (List.mem_singleton.mp hm).symm
  · intro x hx
    rcases List.mem_append.mp hx with hx | hx
    · refine ⟨(h.row x hx).1, ?_⟩
      rw [upd_ne (fun (e : x = D) => h.nin (e ▸ hx))]
      exact s3 _ _ (h.row x hx).2
    · have := List.mem_singleton.mp hx
      subst this
      exact ⟨hp0, by rw [upd_ne hpD, upd_same]⟩
theorem NewR.grT {H0 H : Hp} {D : Addr} {as : List Addr} {t : List Nat} {T : List (List Nat)} (h : NewR H0 H D as (nats t)) (hl : as.length = T.length) (hT : ∀ s, s ∈ T → s = t) : GrT H D as T :=
  ⟨h.out, hl, h.nd, h.nin, fun i x s h1 h2 => by
    rw [hT s (List.mem_of_getElem? h2)]
    exact (h.row x (List.mem_of_getElem? h1)).2⟩
theorem GrT.row' {H : Hp} {D ai : Addr} {as : List Addr} {T : List (List Nat)} {i : Nat} {t' : List Nat} {l : List V} (g : GrT H D as T) (h : as[i]? = some ai) (hl : l = nats t') : GrT (upd H ai (.lst l)) D as (T.set i t') := by
  have hm := List.mem_of_getElem? h
  subst hl
  refine ⟨?_, by rw [List.length_set]; exact g.len, g.nd, g.nin, fun j x t h1 h2 => ?_⟩
  · rw [upd_ne (fun e : D = ai => g.nin (e ▸ hm))]
    exact g.out
  · by_cases q : j = i
    · subst q
      rw [h] at h1
      cases h1
      rw [List.getElem?_set_self'] at h2
      cases e : T[j]? with
      | none => rw [e] at h2; cases h2
      | some z =>
        rw [e] at h2
        cases h2
        exact upd_same
    · have hx : x ≠ ai := fun e => by
        subst e
        obtain ⟨l1, e1⟩ := List.getElem?_eq_some_iff.mp h1
        exact q ((List.getElem?_inj l1 g.nd).mp (h1.trans h.symm))
      rw [List.getElem?_set_ne (fun e => q e.symm)] at h2
      rw [upd_ne hx]
      exact g.row j x t h1 h2
theorem GrT.off {H : Hp} {D b : Addr} {as : List Addr} {T : List (List Nat)} {o : HO} (g : GrT H D as T) (h1 : b ∉ as) (h2 : b ≠ D) : GrT (upd H b o) D as T :=
  ⟨by rw [upd_ne h2.symm]; exact g.out, g.len, g.nd, g.nin, fun i x t e1 e2 => by
    rw [upd_ne (fun e : x = b => h1 (e ▸ List.mem_of_getElem? e1))]
    exact g.row i x t e1 e2⟩
/-- where the darts lie so far -/
def pl (T : List (List Nat)) (i t d : Nat) : Nat := if K13.ndOf T d < i ∨ (K13.ndOf T d = i ∧ ∃ s, T[i]? = some s ∧ d ∈ s.take t) then K13.ndOf T d else 0
theorem pl_zero {T : List (List Nat)} {d : Nat} : pl T 0 0 d = 0 := by
  unfold pl
  split
  · next h =>
    rcases h with h | ⟨h, _⟩
    · omega
    · exact h
  · rfl
theorem pl_step {T : List (List Nat)} {i t d x : Nat} {s : List Nat} (h : T[i]? = some s) (hd : s[t]? = some d) (hn : K13.ndOf T d = i) : pl T i (t + 1) x = if x = d then i else pl T i t x := by
  unfold pl
  have tk : s.take (t + 1) = s.take t ++ [d] := by
    rw [List.take_succ, hd]
    rfl
  by_cases q : x = d
  · subst q
    rw [if_pos rfl, if_pos (.inr ⟨hn, s, h, by rw [tk]; simp⟩), hn]
  · rw [if_neg q]
    have e : (K13.ndOf T x < i ∨ (K13.ndOf T x = i ∧ ∃ s', T[i]? = some s' ∧ x ∈ s'.take (t + 1))) ↔ (K13.ndOf T x < i ∨ (K13.ndOf T x = i ∧ ∃ s', T[i]? = some s' ∧ x ∈ s'.take t)) := by
      constructor
      · rintro (z | ⟨z, s', h1, h2⟩)
        · exact .inl z
        · rw [h] at h1
          cases h1
          rw [tk] at h2
          rcases List.mem_append.mp h2 with h2 | h2
          · exact .inr ⟨z, s, h, h2⟩
          · exact absurd (by simpa using h2) q
      · rintro (z | ⟨z, s', h1, h2⟩)
        · exact .inl z
        · rw [h] at h1
          cases h1
          exact .inr ⟨z, s, h, by rw [tk]; simp [h2]⟩
    by_cases z : (K13.ndOf T x < i ∨ (K13.ndOf T x = i ∧ ∃ s', T[i]? = some s' ∧ x ∈ s'.take t))
    · rw [if_pos z, if_pos (e.mpr z)]
    · rw [if_neg z, if_neg (fun y => z (e.mp y))]
theorem pl_next {T : List (List Nat)} {i x : Nat} {s : List Nat} (h : T[i]? = some s) (W2 : K13.ndOf T x = i → x ∈ s) : pl T i s.length x = pl T (i + 1) 0 x := by
  unfold pl
  by_cases z : K13.ndOf T x < i + 1
  · have e2 : K13.ndOf T x < i ∨ (K13.ndOf T x = i ∧ ∃ s', T[i]? = some s' ∧ x ∈ s'.take s.length) := by
      by_cases y : K13.ndOf T x = i
      · exact .inr ⟨y, s, h, by rw [List.take_length]; exact W2 y⟩
      · exact .inl (by omega)
    have e1 : K13.ndOf T x < i + 1 ∨ (K13.ndOf T x = i + 1 ∧ ∃ s', T[i + 1]? = some s' ∧ x ∈ s'.take 0) := .inl z
    rw [if_pos e2, if_pos e1]
  · rw [if_neg, if_neg]
    · rintro (q | ⟨_, s', _, q⟩)
      · exact z q
      · simp at q
    · rintro (q | ⟨q, _⟩) <;> omega
/-- the rows of a list of ends -/
def rws (f : Nat → Nat) (n : Nat) : List (List Nat) := (List.range n).map fun k => [f (2 * k), f (2 * k + 1)]
theorem rws_len {f : Nat → Nat} {n : Nat} : (rws f n).length = n := by simp [rws]
theorem rws_get {f : Nat → Nat} {n k : Nat} (h : k < n) : (rws f n)[k]? = some [f (2 * k), f (2 * k + 1)] := by
  unfold rws
  rw [List.getElem?_map, List.getElem?_range h]
  rfl
theorem rws_congr {f g : Nat → Nat} {n : Nat} (h : ∀ x, x < 2 * n → f x = g x) : rws f n = rws g n := by
  unfold rws
  refine List.map_congr_left fun k hk => ?_
  have hk := List.mem_range.mp hk
  rw [h _ (by omega), h _ (by omega)]
theorem rws_set {f g : Nat → Nat} {n d v : Nat} (hd : d < 2 * n) (hg : ∀ x, g x = if x = d then v else f x) : (rws f n).set (d / 2) ([f (2 * (d / 2)), f (2 * (d / 2) + 1)].set (d % 2) v) = rws g n := by
  apply List.ext_getElem?
  intro k
  by_cases hk : k < n
  · rw [rws_get hk]
    by_cases q : k = d / 2
    · subst q
      rw [List.getElem?_set_self (by rw [rws_len]; exact hk), hg, hg]
      rcases Nat.mod_two_eq_zero_or_one d with h | h
      · rw [h, if_pos (by omega), if_neg (by omega)]
        rfl
      · rw [h, if_neg (by omega), if_pos (by omega)]
        rfl
    · rw [List.getElem?_set_ne (fun e => q e.symm), rws_get hk, hg, hg, if_neg (by omega), if_neg (by omega)]
  · rw [List.getElem?_eq_none (by rw [List.length_set, rws_len]; omega), List.getElem?_eq_none (by rw [rws_len]; omega)]
def endRows (T : List (List Nat)) (n : Nat) : List (List Nat) := (K13.endsT T n).map fun e => [e.1, e.2]
theorem endRows_eq {T : List (List Nat)} {n : Nat} : endRows T n = rws (K13.ndOf T) n := by
  unfold endRows rws K13.endsT
  rw [List.map_map]
  rfl
def spLEnds (K : PySem.W.Frag) : Sp := fun vs H Q _ => ∃ (v : V) (rim n : Nat) (T : List (List Nat)) (am : List Rat), vs = [v] ∧ NetV K H v rim T am ∧ K13.WF rim T n ∧ am.length = n ∧ n ≤ 9 ∧ T.length < 100 ∧
  ∀ (D : Addr) (as : List Addr) (H' : Hp), Same H H' → H D = none → (∀ x, x ∈ as → H x = none) → GrT H' D as (endRows T n) → Q (.ref D) H'
/-- the joins: row u holds the nodes that are joined with u -/
def JnV (K : PySem.W.Frag) (H : Hp) (D : Addr) (J : List (List Nat)) : Prop := ∃ vs : List V, SqL K H D vs ∧ vs.length = J.length ∧ ∀ (u : Nat) x t, vs[u]? = some x → J[u]? = some t → ∃ d, x = .ref d ∧ H d = some (.lst (nats t))
theorem JnV.mono {K : PySem.W.Frag} {H H' : Hp} {D : Addr} {J : List (List Nat)} (h : JnV K H D J) (e : Same H H') : JnV K H' D J := by
  obtain ⟨vs, h1, h2, h3⟩ := h
  exact ⟨vs, e.seq h1, h2, fun u x t a b => by
    obtain ⟨d, q1, q2⟩ := h3 u x t a b
    exact ⟨d, q1, e _ _ q2⟩⟩
structure JnOk (T J : List (List Nat)) : Prop where
  len : J.length = T.length + 1
  nd : ∀ (u : Nat) t, J[u]? = some t → t.Nodup
  few : ∀ (u : Nat) t, J[u]? = some t → t.length ≤ 18
  mem : ∀ (u : Nat) t v, J[u]? = some t → (v ∈ t ↔ K13.adj1 T u v)
def spJoins (K : PySem.W.Frag) : Sp := fun vs H Q _ => ∃ (v : V) (rim n : Nat) (T : List (List Nat)) (am : List Rat), vs = [v] ∧ NetV K H v rim T am ∧ K13.WF rim T n ∧ am.length = n ∧ n ≤ 9 ∧ T.length < 100 ∧
  ∀ (D : Addr) (J : List (List Nat)) (H' : Hp), Same H H' → JnV K H' D J → JnOk T J → Q (.ref D) H'
/-- the joins after i of the edges -/
structure JoinI (E : List (Nat × Nat)) (N i : Nat) (J : List (List Nat)) : Prop where
  len : J.length = N + 1
  few : ∀ (u : Nat) t, J[u]? = some t → t.length ≤ 2 * i
  mem : ∀ (u : Nat) t v, J[u]? = some t → (v ∈ t ↔ ∃ e, e ∈ E.take i ∧ e.1 ≠ e.2 ∧ ((u = e.1 + 1 ∧ v = e.2 + 1) ∨ (u = e.2 + 1 ∧ v = e.1 + 1)))
theorem take_one {α : Type} {E : List α} {i : Nat} {e : α} (h : E[i]? = some e) : E.take (i + 1) = E.take i ++ [e] := by
  rw [List.take_succ, h]
  rfl
theorem JoinI.skip {E : List (Nat × Nat)} {N i : Nat} {J : List (List Nat)} {f : Nat} (h : JoinI E N i J) (e : E[i]? = some (f, f)) : JoinI E N (i + 1) J := by
  refine ⟨h.len, fun u t ht => by have := h.few u t ht; omega, fun u t v ht => (h.mem u t v ht).trans ?_⟩
  rw [take_one e]
  constructor
  · rintro ⟨x, h1, h2⟩
    exact ⟨x, List.mem_append_left _ h1, h2⟩
  · rintro ⟨x, h1, h2, h3⟩
    rcases List.mem_append.mp h1 with h1 | h1
    · exact ⟨x, h1, h2, h3⟩
    · have := List.mem_singleton.mp h1
      subst this
      exact absurd rfl h2
theorem JoinI.two {E : List (Nat × Nat)} {N i f g : Nat} {J : List (List Nat)} {a b : List Nat} (h : JoinI E N i J) (e : E[i]? = some (f, g)) (hne : f ≠ g) (ha : J[f + 1]? = some a) (hb : J[g + 1]? = some b) : JoinI E N (i + 1) ((J.set (f + 1) (a ++ [g + 1])).set (g + 1) (b ++ [f + 1])) := by
  have lf := (List.getElem?_eq_some_iff.mp ha).1
  have lg := (List.getElem?_eq_some_iff.mp hb).1
  have look : ∀ {u : Nat} {t : List Nat}, ((J.set (f + 1) (a ++ [g + 1])).set (g + 1) (b ++ [f + 1]))[u]? = some t → (u = g + 1 ∧ t = b ++ [f + 1]) ∨ (u = f + 1 ∧ t = a ++ [g + 1]) ∨ (u ≠ g + 1 ∧ u ≠ f + 1 ∧ J[u]? = some t) := fun {u t} ht => by
    by_cases q1 : u = g + 1
    · subst q1
      rw [List.getElem?_set_self (by rw [List.length_set]; exact lg)] at ht
      exact .inl ⟨rfl, (Option.some.inj ht).symm⟩
    · rw [List.getElem?_set_ne (fun z => q1 z.symm)] at ht
      by_cases q2 : u = f + 1
      · subst q2
        rw [List.getElem?_set_self lf] at ht
        exact .inr (.inl ⟨rfl, (Option.some.inj ht).symm⟩)
      · rw [List.getElem?_set_ne (fun z => q2 z.symm)] at ht
        exact .inr (.inr ⟨q1, q2, ht⟩)
  have old : ∀ {u v : Nat}, (∃ x, x ∈ E.take (i + 1) ∧ x.1 ≠ x.2 ∧ ((u = x.1 + 1 ∧ v = x.2 + 1) ∨ (u = x.2 + 1 ∧ v = x.1 + 1))) ↔ (∃ x, x ∈ E.take i ∧ x.1 ≠ x.2 ∧ ((u = x.1 + 1 ∧ v = x.2 + 1) ∨ (u = x.2 + 1 ∧ v = x.1 + 1))) ∨ ((u = f + 1 ∧ v = g + 1) ∨ (u = g + 1 ∧ v = f + 1)) := fun {u v} => by
    rw [take_one e]
    constructor
    · rintro ⟨x, h1, h2, h3⟩
      rcases List.mem_append.mp h1 with h1 | h1
      · exact .inl ⟨x, h1, h2, h3⟩
      · have := List.mem_singleton.mp h1
        subst this
        exact .inr h3
    · rintro (⟨x, h1, h2, h3⟩ | h3)
      · exact ⟨x, List.mem_append_left _ h1, h2, h3⟩
      · exact ⟨(f, g), by simp, hne, h3⟩
  refine ⟨by rw [List.length_set, List.length_set]; exact h.len, fun u t ht => ?_, fun u t v ht => ?_⟩
  · rcases look ht with ⟨_, rfl⟩ | ⟨_, rfl⟩ | ⟨_, _, h3⟩
    · have := h.few _ _ hb
      rw [List.length_append, List.length_singleton]
      omega
    · have := h.few _ _ ha
      rw [List.length_append, List.length_singleton]
      omega
    · have := h.few _ _ h3
      omega
  · rw [old]
    rcases look ht with ⟨rfl, rfl⟩ | ⟨rfl, rfl⟩ | ⟨q1, q2, h3⟩
    · rw [List.mem_append, List.mem_singleton, h.mem _ _ v hb]
      refine or_congr Iff.rfl ⟨fun z => .inr ⟨rfl, z⟩, ?_⟩
      rintro (⟨z, _⟩ | ⟨_, z⟩)
      · omega
      · exact z
    · rw [List.mem_append, List.mem_singleton, h.mem _ _ v ha]
      refine or_congr Iff.rfl ⟨fun z => .inl ⟨rfl, z⟩, ?_⟩
      rintro (⟨_, z⟩ | ⟨z, _⟩)
      · exact z
      · omega
    · rw [h.mem _ _ v h3]
      refine ⟨.inl, ?_⟩
      rintro (z | ⟨z, _⟩ | ⟨z, _⟩)
      · exact z
      · exact absurd z q2
      · exact absurd z q1
theorem ends_adj {rim n u v : Nat} {T : List (List Nat)} (W : K13.WF rim T n) : (∃ e, e ∈ (K13.endsT T n).take n ∧ e.1 ≠ e.2 ∧ ((u = e.1 + 1 ∧ v = e.2 + 1) ∨ (u = e.2 + 1 ∧ v = e.1 + 1))) ↔ K13.adj1 T u v := by
  have el : (K13.endsT T n).take n = K13.endsT T n := List.take_of_length_le (by rw [K13.Net.elen (rim := rim)]; exact Nat.le_refl _)
  rw [el]
  constructor
  · rintro ⟨⟨a, b⟩, h1, h2, ⟨rfl, rfl⟩ | ⟨rfl, rfl⟩⟩
    · exact ⟨a, b, rfl, rfl, h2, (K13.adjE_iff W).mp (.inl h1)⟩
    · exact ⟨b, a, rfl, rfl, fun z => h2 z.symm, (K13.adjE_iff W).mp (.inr h1)⟩
  · rintro ⟨a, b, rfl, rfl, h2, h3⟩
    rcases (K13.adjE_iff W).mpr h3 with h | h
    · exact ⟨(a, b), h, h2, .inl ⟨rfl, rfl⟩⟩
    · exact ⟨(b, a), h, fun z => h2 z.symm, .inr ⟨rfl, rfl⟩⟩
section
variable {P : Program} {w : World} {K : PySem.W.Frag} {mg : Str → Option Value} {base : Heap} {uS uG : Value} {aZ aO : Addr}
abbrev s_lends : Stmt := top 48
theorem sc_lends : FnScope ["_law_net_here", "_law_ends_here", "_law_k", "_law_node", "_law_dart", "_law_row"] ["_law_net_here"] (defScope s_lends) := ⟨rfl, rfl, rfl, by decide +kernel, rfl, by decide +kernel, by decide +kernel⟩
theorem ok_lends {f : Addr} {fd : FuncData} (F : Fun K "_law_ends" "_law_ends" s_lends f fd) (T : Txt K mg uS uG aZ aO) : FnOk P w K mg base CX0 1 f fd ["_law_net_here"] (spLEnds K) := by
  refine F.ok sc_lends (fun vs H Q E h => ?_) (fun cdv A outer s H vs Q E hr h => ?_)
  · obtain ⟨v, rim, n, T0, am, rfl, _⟩ := h
    rfl
  · obtain ⟨v, rim, n, T0, am, rfl, ⟨a, b, c, ts, qs, rfl, ha, hb, ht, hc, hq⟩, W, hal, hn9, hN, k⟩ := h
    have nd := sc_lends.nd
    refine ⟨_,
      (pss_cons
        (ps_setLc (i := 1) (own := [("_law_k", 2)]) (g := gName 2) rfl nd rfl rfl (sw_true rfl rfl rfl (by decide +kernel)) (pi_range1 rfl T.range (pa_cons (pe_callB call_len_seq (by rfl) T.len PySem.boot_len (pa_cons (pe_ix ix_tup (pv 0) pe_int (fun _ _ => rfl)) pa_nil)) pa_nil)) (blkOk_by (N := ["_law_net_here", "_law_ends_here", "_law_k", "_law_node", "_law_dart", "_law_row"]) (sc := defScope s_lends) (by decide +kernel))
      (fun _ _ _ _ _ => pg_name (i := 2) nd rfl (by first | exact Or.inl rfl | exact Or.inr rfl)) (fun _ _ _ _ _ => pts_nil)
      (fun _ _ _ _ _ => (pe_lst (pa_cons pe_int (pa_cons pe_int pa_nil)))))
      (pss_cons
        (ps_for PassesOwn.never rfl (pi_range1 rfl T.range (pa_cons (pe_callB call_len_seq (by rfl) T.len PySem.boot_len (pa_cons (pe_ix ix_tup (pv 0) pe_int (fun _ _ => rfl)) pa_nil)) pa_nil)) (pg_name (i := 3) nd rfl (by first | exact Or.inl rfl | exact Or.inr rfl))
          (pss_one
            (ps_for PassesOwn.never rfl (pi_tup (pe_ix ix_tup (pe_ix ix_tup (pv 0) pe_int (fun _ _ => rfl)) (pv 3) (fun _ _ => rfl))) (pg_name (i := 4) nd rfl (by first | exact Or.inl rfl | exact Or.inr rfl))
              (pss_cons
                (ps_set (i := 5) nd rfl (by first | exact Or.inl rfl | exact Or.inr rfl) (pe_ix ix_list (pv 1) (pe_op op_fdiv (pv 4) pe_int) (fun _ _ => rfl)))
              (pss_one
                (ps_asg (pv 3) (pg_sub (pv 5) (pe_op op_mod (pe_callTy call_int1 (by rfl) T.int (by decide +kernel) (pa_cons (pv 4) pa_nil)) pe_int) set_list)))))))
      (pss_one
        (ps_ret (pv 1))))), ?_⟩
    have hql : qs.length = n := hq.1.trans hal
    have htl := ht.1
    refine ⟨_, rfl, a, _, _, _, rfl, rfl, ha, rfl, c, qs, rfl, .inr hc, _, rfl, by omega, by omega, fun D hD => ?_⟩
    refine lc_range (lo := 0) (n := ((qs.length : Nat) : Int).toNat) (fun i H2 => ∃ as, NewR H H2 D as (nats [0, 0]) ∧ as.length = i) ⟨[], .start hD, rfl⟩ ?_ ?_
    · rintro i H2 hi ⟨as, g, hl⟩
      rw [Int.zero_add]
      refine ⟨rfl, (by show 2 ≤ sizeLine; decide), fun p hp => ?_⟩
      obtain ⟨g2, e2⟩ := g.push hD hp
      exact ⟨_, e2, small1000 (by rw [List.length_map]; omega), as ++ [p], g2, by simp [hl]⟩
    · rintro H2 ⟨as, g, hl⟩
      have hl : as.length = n := by omega
      have hfree : ∀ x, x ∈ as → H x = none := fun x hx => (g.row x hx).1
      have g0 : GrT H2 D as (rws (pl T0 0 0) n) := g.grT (by rw [rws_len]; exact hl) fun s hs => by
        obtain ⟨k', _, rfl⟩ := List.mem_map.mp hs
        rw [pl_zero, pl_zero]
      have s2 := g.same
      refine ⟨_, rfl, a, _, _, _, rfl, rfl, Same.tup s2 ha, rfl, b, ts, rfl, .inr (Same.tup s2 hb), _, rfl, by omega, by omega, for_range (lo := 0) (n := ((ts.length : Nat) : Int).toNat) (fun i σ H3 => Same H H3 ∧ GrT H3 D as (rws (pl T0 i 0) n) ∧ ∃ v3 v4 v5, σ = [some (.ref a), some (.ref D), none, v3, v4, v5])
        ⟨s2, g0, none, none, none, rfl⟩ ?_ ?_⟩
      · rintro i σ H3 hi ⟨s3, g3, v3, v4, v5, rfl⟩
        have hi : i < T0.length := by omega
        rw [Int.zero_add]
        obtain ⟨tu, eT⟩ : ∃ t, T0[i]? = some t := ⟨_, List.getElem?_eq_getElem hi⟩
        obtain ⟨x, hx⟩ : ∃ x, ts[i]? = some x := ⟨_, List.getElem?_eq_getElem (by omega)⟩
        obtain ⟨d, rfl, hd⟩ := ht.2 i x tu hx eT
        have hd3 := Same.tup s3 hd
        refine ⟨_, rfl, a, _, _, _, rfl, rfl, Same.tup s3 ha, rfl, _, rfl, b, _, _, _, rfl, rfl, Same.tup s3 hb, at_of (j := i) rfl hx, d, rfl, ⟨_, hd3⟩, for_tup (K := K) (a := d) (xs := nats tu) (fun j σ H4 => Same H H4 ∧ GrT H4 D as (rws (pl T0 i j) n) ∧ ∃ v4 v5, σ = [some (.ref a), some (.ref D), none, some (.int (i : Int)), v4, v5])
          ⟨s3, g3, _, _, rfl⟩ (fun j σ H4 _ ⟨s4, _⟩ => Same.tup s4 hd) ?_ ?_⟩
        · rintro j y σ H4 hy ⟨s4, g4, v4, v5, rfl⟩
          obtain ⟨m, hm, rfl⟩ := nats_get hy
          have hml := W.lt eT (List.mem_of_getElem? hm)
          have hnd := K13.ndOf_eq W eT (List.mem_of_getElem? hm)
          have hk : m / 2 < n := by omega
          obtain ⟨r, h1, h2, h3, h4, h5⟩ := g4.at (rws_get (f := pl T0 i j) hk)
          have ed : (m : Int) / 2 = ((m / 2 : Nat) : Int) := by omega
          refine ⟨_, rfl, _, rfl, _, _, rfl, rfl, ⟨by decide, by decide⟩, D, _, _, _, rfl, rfl, SqL.of g4.out, at_of (j := m / 2) ed h2, ?_⟩
          have em : (m : Int) % 2 = ((m % 2 : Nat) : Int) := by omega
          have hlt2 : m % 2 < 2 := Nat.mod_lt _ (by decide)
          refine ⟨_, rfl, _, rfl, _, rfl, .inl ⟨_, rfl, _, _, rfl, rfl, (by show (0 : Int) < 2; decide), r, _, _, _, rfl, rfl, h3, (by rw [em]; exact ixN_nat hlt2), ?_⟩⟩
          have g5 := g4.row' (i := m / 2) (t' := [pl T0 i j (2 * (m / 2)), pl T0 i j (2 * (m / 2) + 1)].set (m % 2) i) h1 (nats_set (t := [pl T0 i j (2 * (m / 2)), pl T0 i j (2 * (m / 2) + 1)]) (p := m % 2) (x := i))
          rw [rws_set hml (fun x => pl_step eT hm hnd)] at g5
          exact ⟨same_upd s4 (hfree r h5), g5, _, _, rfl⟩
        · rintro σ H4 ⟨s4, g4, v4, v5, rfl⟩
          rw [nats_len, rws_congr (fun x hx => pl_next eT fun e => by
            obtain ⟨s', q1, q2⟩ := K13.ndOf_spec W hx
            rw [e, eT] at q1
            cases q1
            exact q2)] at g4
          exact ⟨s4, g4, _, _, _, rfl⟩
      · rintro σ H3 ⟨s3, g3, v3, v4, v5, rfl⟩
        refine ⟨_, rfl, k D as H3 s3 hD hfree ?_⟩
        have e : rws (pl T0 ((ts.length : Nat) : Int).toNat 0) n = endRows T0 n := by
          rw [endRows_eq]
          refine rws_congr fun x hx => ?_
          unfold pl
          have := K13.ndOf_lt W hx
          rw [if_pos (.inl (by omega))]
        rw [← e]
        exact g3
abbrev s_ljoins : Stmt := top 57
theorem sc_ljoins : FnScope ["_law_net_here", "_law_joins_here", "_law_k", "_law_first", "_law_second", "_law_row"] ["_law_net_here"] (defScope s_ljoins) := ⟨rfl, rfl, rfl, by decide +kernel, rfl, by decide +kernel, by decide +kernel⟩
theorem ok_ljoins {f : Addr} {fd : FuncData} (F : Fun K "_law_joins" "_law_joins" s_ljoins f fd) (T : Txt K mg uS uG aZ aO) (DE : Df P w K mg base 1 "_law_ends" ["_law_net_here"] (spLEnds K)) : FnOk P w K mg base CX0 2 f fd ["_law_net_here"] (spJoins K) := by
  obtain ⟨_, _, G_lends, C_lends⟩ := DE
  refine F.ok sc_ljoins (fun vs H Q E h => ?_) (fun cdv A outer s H vs Q E hr h => ?_)
  · obtain ⟨v, rim, n, T0, am, rfl, _⟩ := h
    rfl
  · obtain ⟨v, rim, n, T0, am, rfl, hv, W, hal, hn9, hN, k⟩ := h
    have nd := sc_ljoins.nd
    refine ⟨_,
      (pss_cons
        (ps_setLc (i := 1) (own := [("_law_k", 2)]) (g := gName 2) rfl nd rfl rfl (sw_true rfl rfl rfl (by decide +kernel)) (pi_range1 rfl T.range (pa_cons (pe_op op_add (pe_callB call_len_seq (by rfl) T.len PySem.boot_len (pa_cons (pe_ix ix_tup (pv 0) pe_int (fun _ _ => rfl)) pa_nil)) pe_int) pa_nil)) (blkOk_by (N := ["_law_net_here", "_law_joins_here", "_law_k", "_law_first", "_law_second", "_law_row"]) (sc := defScope s_ljoins) (by decide +kernel))
      (fun _ _ _ _ _ => pg_name (i := 2) nd rfl (by first | exact Or.inl rfl | exact Or.inr rfl)) (fun _ _ _ _ _ => pts_nil)
      (fun _ _ _ _ _ => (pe_lst pa_nil)))
      (pss_cons
        (ps_for PassesOwn.never rfl (pi_list (pe_call G_lends (hr.mono (by decide)) rfl C_lends.m C_lends.kp C_lends.b .nil pass0 (pa_cons (pv 0) pa_nil))) (pg_unl rfl (pgs_cons (pg_name (i := 3) nd rfl (by first | exact Or.inl rfl | exact Or.inr rfl)) (pgs_cons (pg_name (i := 4) nd rfl (by first | exact Or.inl rfl | exact Or.inr rfl)) pgs_nil)))
          (pss_one
            (ps_if (pt_cmpR op_ne (pv 3) (pv 4) (nomark _))
              (pss_cons
                (ps_expr (pe_bm PySem.F.plainAttrs_list PySem.F.slot_list_append PySem.F.type_list_append mt_append (pe_ix ix_list (pv 1) (pe_op op_add (pv 3) pe_int) (fun _ _ => rfl)) (pa_cons (pe_op op_add (pv 4) pe_int) pa_nil)))
              (pss_one
                (ps_expr (pe_bm PySem.F.plainAttrs_list PySem.F.slot_list_append PySem.F.type_list_append mt_append (pe_ix ix_list (pv 1) (pe_op op_add (pv 4) pe_int) (fun _ _ => rfl)) (pa_cons (pe_op op_add (pv 3) pe_int) pa_nil)))))
              pss_nil)))
      (pss_one
        (ps_ret (pe_lc (own := [("_law_row", 5)]) (g := gName 5) (te := tCB (rSortedSet w) (tCons (tCB (rSetL K w) (tCons (tVar 5) tNil)) tNil)) rfl nd (pi_list (pv 1)) (blkOk_by (N := ["_law_net_here", "_law_joins_here", "_law_k", "_law_first", "_law_second", "_law_row"]) (sc := defScope s_ljoins) (by decide +kernel))
      (fun _ _ _ _ _ => pg_name (i := 5) nd rfl (by first | exact Or.inl rfl | exact Or.inr rfl)) (fun _ _ _ _ _ => pts_nil)
      (fun _ _ _ _ _ => (pe_callB (cr_sortedSet rfl) (by rfl) T.sorted (by decide +kernel) (pa_cons (pe_callTy (cr_setL rfl) (by rfl) T.set (by decide +kernel) (pa_cons (pv 5) pa_nil)) pa_nil)))))))), ?_⟩
    obtain ⟨a, b, c, ts, qs, rfl, ha, hb, ht, hc, hq⟩ := id hv
    have htl := ht.1
    refine ⟨_, rfl, a, _, _, _, rfl, rfl, ha, rfl, b, ts, rfl, .inr hb, _, _, rfl, rfl, _, rfl, by omega, by omega, fun D hD => ?_⟩
    refine lc_range (lo := 0) (n := (((ts.length : Nat) : Int) + 1).toNat) (fun i H2 => ∃ as, NewR H H2 D as (nats []) ∧ as.length = i) ⟨[], .start hD, rfl⟩ ?_ ?_
    · rintro i H2 hi ⟨as, g, hl⟩
      rw [Int.zero_add]
      refine ⟨rfl, (by show 0 ≤ sizeLine; decide), fun p hp => ?_⟩
      obtain ⟨g2, e2⟩ := g.push hD hp
      exact ⟨_, e2, small1000 (by rw [List.length_map]; omega), as ++ [p], g2, by simp [hl]⟩
    · rintro H2 ⟨as, g, hl⟩
      have hl : as.length = T0.length + 1 := by omega
      have hfree : ∀ x, x ∈ as → H x = none := fun x hx => (g.row x hx).1
      have g0 : GrT H2 D as (List.replicate (T0.length + 1) []) := g.grT (by rw [List.length_replicate]; exact hl) fun s hs => List.eq_of_mem_replicate hs
      have j0 : JoinI (K13.endsT T0 n) T0.length 0 (List.replicate (T0.length + 1) []) := ⟨List.length_replicate, fun u t hh => by
        rw [List.eq_of_mem_replicate (List.mem_of_getElem? hh)]
        exact Nat.zero_le _, fun u t v hh => by
        rw [List.eq_of_mem_replicate (List.mem_of_getElem? hh)]
        simp⟩
      have s2 := g.same
      refine ⟨_, rfl, .ref a, rim, n, T0, am, rfl, hv.mono s2, W, hal, hn9, hN, fun D2 as2 H3 s3 hD2 hf2 g3 => ?_⟩
      have hDD : D ≠ D2 := fun e => by rw [← e, g.out] at hD2; cases hD2
      have hDas : D ∉ as2 := fun e => by have := hf2 D e; rw [g.out] at this; cases this
      have hasn : ∀ x, x ∈ as → x ≠ D2 ∧ x ∉ as2 := fun x hx => by
        have h1 := (g.row x hx).2
        exact ⟨fun e => (by rw [← e, h1] at hD2; cases hD2), fun e => (by have := hf2 x e; rw [h1] at this; cases this)⟩
      have hlen2 : as2.length = n := by rw [g3.len]; unfold endRows; rw [List.length_map, K13.Net.elen (rim := rim)]
      refine ⟨D2, rfl, ⟨_, SqL.of g3.out⟩, for_list (K := K) (a := D2) (xs := as2.map V.ref) (fun i σ H4 => Same H H4 ∧ GrT H4 D2 as2 (endRows T0 n) ∧ (∃ J, GrT H4 D as J ∧ JoinI (K13.endsT T0 n) T0.length i J) ∧ ∃ v3 v4, σ = [some (.ref a), some (.ref D), none, v3, v4, none])
        ⟨s2.trans s3, g3, ⟨_, g0.mono s3, j0⟩, none, none, rfl⟩ (fun i σ H4 _ ⟨_, g4, _⟩ => SqL.of g4.out) ?_ ?_⟩
      · rintro i x σ H4 hx ⟨s4, g4, ⟨J, gJ, jI⟩, v3, v4, rfl⟩
        have hi : i < n := by have := (List.getElem?_eq_some_iff.mp hx).1; rw [List.length_map] at this; omega
        obtain ⟨⟨f1, f2⟩, hE⟩ : ∃ e, (K13.endsT T0 n)[i]? = some e := ⟨_, List.getElem?_eq_getElem (by rw [K13.Net.elen (rim := rim)]; exact hi)⟩
        have hER : (endRows T0 n)[i]? = some [f1, f2] := by
          unfold endRows
          rw [List.getElem?_map, hE]
          rfl
        obtain ⟨r, h1, h2, h3, h4, h5⟩ := g4.at hER
        rw [h2] at hx
        cases hx
        have hb1 : f1 < T0.length ∧ f2 < T0.length := by
          obtain ⟨k', hk', e1⟩ := List.mem_map.mp (List.mem_of_getElem? hE)
          have hk' := List.mem_range.mp hk'
          have e2 : K13.ndOf T0 (2 * k') = f1 := congrArg Prod.fst e1
          have e3 : K13.ndOf T0 (2 * k' + 1) = f2 := congrArg Prod.snd e1
          rw [← e2, ← e3]
          exact ⟨K13.ndOf_lt W (by omega), K13.ndOf_lt W (by omega)⟩
        refine ⟨r, _, rfl, SqL.of h3, rfl, _, _, rfl, _, _, rfl, rfl, ?_⟩
        refine ⟨_, rfl, _, rfl, rfl, _, rfl, ?_⟩
        by_cases hne : f1 = f2
        · subst hne
          exact iteNS rfl ⟨s4, g4, ⟨J, gJ, jI.skip hE⟩, _, _, rfl⟩
        · have hne' : ¬ V.int (f1 : Int) = V.int (f2 : Int) := fun e => hne (by have := V.int.inj e; omega)
          rw [decide_eq_false hne']
          refine iteT ?_
          have hJl := jI.len
          obtain ⟨ra, era⟩ : ∃ t, J[f1 + 1]? = some t := ⟨_, List.getElem?_eq_getElem (by omega)⟩
          obtain ⟨rb, erb⟩ : ∃ t, J[f2 + 1]? = some t := ⟨_, List.getElem?_eq_getElem (by omega)⟩
          have hla := jI.few _ _ era
          have hlb := jI.few _ _ erb
          obtain ⟨xa, i1, i2, i3, i4, i5⟩ := gJ.at era
          refine ⟨_, rfl, _, rfl, _, _, rfl, rfl, D, _, _, _, rfl, rfl, SqL.of gJ.out, at_of (j := f1 + 1) rfl i2, .inl ⟨rfl, _, SqL.of i3⟩, _, rfl, _, _, rfl, rfl, xa, _, _, rfl, rfl, i3, small1000 (by rw [nats_len]; omega), ?_⟩
          have s5 := same_upd (o := .lst (nats ra ++ [.int ((f2 : Int) + 1)])) s4 (hfree xa i5)
          have g5 := g4.off (b := xa) (o := .lst (nats ra ++ [.int ((f2 : Int) + 1)])) (hasn xa i5).2 (hasn xa i5).1
          have gJ5 := gJ.row' (i := f1 + 1) (t' := ra ++ [f2 + 1]) (l := nats ra ++ [.int ((f2 : Int) + 1)]) i1 (by rw [← nats_app]; rfl)
          generalize upd H4 xa (.lst (nats ra ++ [.int ((f2 : Int) + 1)])) = H5 at s5 g5 gJ5
          have erb5 : (J.set (f1 + 1) (ra ++ [f2 + 1]))[f2 + 1]? = some rb := by rw [List.getElem?_set_ne (by omega)]; exact erb
          obtain ⟨xb, j1, j2, j3, j4, j5⟩ := gJ5.at erb5
          refine ⟨_, rfl, _, rfl, _, _, rfl, rfl, D, _, _, _, rfl, rfl, SqL.of gJ5.out, at_of (j := f2 + 1) rfl j2, .inl ⟨rfl, _, SqL.of j3⟩, _, rfl, _, _, rfl, rfl, xb, _, _, rfl, rfl, j3, small1000 (by rw [nats_len]; omega), ?_⟩
          refine ⟨same_upd s5 (hfree xb j5), g5.off (hasn xb j5).2 (hasn xb j5).1, ⟨_, gJ5.row' (i := f2 + 1) (t' := rb ++ [f1 + 1]) (l := nats rb ++ [.int ((f1 : Int) + 1)]) j1 (by rw [← nats_app]; rfl), jI.two hE hne era erb⟩, _, _, rfl⟩
      · rintro σ H4 ⟨s4, g4, ⟨J, gJ, jI⟩, v3, v4, rfl⟩
        rw [List.length_map, hlen2] at jI
        have hJl := jI.len
        have hasl : (as.map V.ref).length = J.length := by rw [List.length_map]; exact gJ.len
        refine ⟨_, rfl, D, rfl, ⟨_, SqL.of gJ.out⟩, fun U hU => ?_⟩
        refine lc_list (K := K) (a := D) (xs := as.map V.ref) (fun i H5 => Same H4 H5 ∧ ∃ (ac : List V) (J' : List (List Nat)), H5 U = some (.lst ac) ∧ ac.length = i ∧ J'.length = i ∧ (∀ (j : Nat) x t, ac[j]? = some x → J'[j]? = some t → ∃ d, x = .ref d ∧ d ≠ U ∧ H5 d = some (.lst (nats t))) ∧
            ∀ (j : Nat) t t', J'[j]? = some t → J[j]? = some t' → t.Nodup ∧ t.length ≤ 18 ∧ ∀ v, v ∈ t ↔ v ∈ t')
          ⟨same_new hU, [], [], upd_same, rfl, rfl, fun j x t h => (by cases h), fun j t t' h => (by cases h)⟩ (fun i H5 _ ⟨s5, _⟩ => SqL.of (s5 _ _ gJ.out)) ?_ ?_
        · rintro i x H5 hx ⟨s5, ac, J', hac, hcl, hcl2, hcj, hok⟩
          have hi : i < J.length := by have := (List.getElem?_eq_some_iff.mp hx).1; omega
          obtain ⟨t, eT⟩ : ∃ t, J[i]? = some t := ⟨_, List.getElem?_eq_getElem hi⟩
          have htl2 := jI.few _ _ eT
          obtain ⟨r, h1, h2, h3, h4, h5⟩ := gJ.at eT
          rw [h2] at hx
          cases hx
          have ent : nats t = (t.map fun (m : Nat) => (m : Int)).map V.int := by
            unfold nats
            rw [List.map_map]
            rfl
          refine ⟨rfl, ?_⟩
          refine ⟨_, rfl, r, t.map fun (m : Nat) => (m : Int), rfl, (by rw [← ent]; exact SqL.of (s5 _ _ h3)), by rw [List.length_map]; omega, fun p c hp hcn => ?_⟩
          rw [List.length_map] at hcn
          have s6 : Same H5 (upd H5 p (SetO w p (fun j => decide (j ∈ t.map fun (m : Nat) => (m : Int))) c)) := same_new hp
          refine ⟨p, _, c, rfl, upd_same, by omega, fun ns p2 pw hmem hlen hp2 => ?_⟩
          generalize upd H5 p (SetO w p (fun j => decide (j ∈ t.map fun (m : Nat) => (m : Int))) c) = H6 at s6 hp2
          have s7 : Same H6 (upd H6 p2 (.lst (ns.map V.int))) := same_new hp2
          have hac7 := s7 _ _ (s6 _ _ hac)
          have hnn : ∀ z, z ∈ ns → ∃ m : Nat, m ∈ t ∧ z = (m : Int) := fun z hz => by
            have := (hmem z).mp hz
            obtain ⟨m, h6, h7⟩ := List.mem_map.mp (of_decide_eq_true this)
            exact ⟨m, h6, h7.symm⟩
          have eback : (ns.map Int.toNat).map (fun (m : Nat) => (m : Int)) = ns := by
            rw [List.map_map]
            conv => rhs; rw [← List.map_id ns]
            refine List.map_congr_left fun z hz => ?_
            obtain ⟨m, _, rfl⟩ := hnn z hz
            rfl
          have ens : ns.map V.int = nats (ns.map Int.toNat) := by
            conv => lhs; rw [← eback]
            unfold nats
            rw [List.map_map]
            rfl
          have hpU : p2 ≠ U := fun e => by rw [e] at hp2; have := (s6 _ _ hac); rw [this] at hp2; cases hp2
          refine ⟨ac, hac7, small1000 (by omega), same_upd ((s5.trans s6).trans s7) hU, ac ++ [.ref p2], J' ++ [ns.map Int.toNat], upd_same, by simp [hcl], by simp [hcl2], fun j z t' h6 h7 => ?_, fun j t1 t2 h6 h7 => ?_⟩
          · rcases snoc_get h6 with ⟨q1, q2⟩ | ⟨q1, rfl⟩
            · rw [List.getElem?_append_left (by omega)] at h7
              obtain ⟨d, e1, e2, e3⟩ := hcj j z t' q2 h7
              exact ⟨d, e1, e2, by rw [upd_ne e2]; exact s7 _ _ (s6 _ _ e3)⟩
            · rw [q1, hcl, ← hcl2] at h7
              have : t' = ns.map Int.toNat := by simpa using h7.symm
              rw [this]
              refine ⟨p2, rfl, hpU, ?_⟩
              rw [upd_ne hpU, upd_same, ens]
          · rcases snoc_get h6 with ⟨q1, q2⟩ | ⟨q1, rfl⟩
            · exact hok j t1 t2 q2 h7
            · rw [q1, hcl2, eT] at h7
              cases h7
              refine ⟨?_, ?_, fun v => ?_⟩
              · have hnd : ns.Nodup := pw.imp fun h => Int.ne_of_lt h
                have hnd2 : ((ns.map Int.toNat).map (fun (m : Nat) => (m : Int))).Nodup := by rw [eback]; exact hnd
                exact List.Pairwise.of_map _ (fun a b (h : (a : Int) ≠ (b : Int)) e => h (by rw [e])) hnd2
              · rw [List.length_map, hlen]
                omega
              · rw [List.mem_map]
                constructor
                · rintro ⟨z, hz, rfl⟩
                  obtain ⟨m, h8, rfl⟩ := hnn z hz
                  exact h8
                · intro hv2
                  exact ⟨(v : Int), (hmem _).mpr (decide_eq_true (List.mem_map.mpr ⟨v, hv2, rfl⟩)), rfl⟩
        · rintro H5 ⟨s5, ac, J', hac, hcl, hcl2, hcj, hok⟩
          have hJ' : J'.length = J.length := hcl2.trans hasl
          refine k U J' H5 (s4.trans s5) ⟨ac, SqL.of hac, hcl.trans hcl2.symm, fun u x t h1 h2 => ?_⟩ ⟨by omega, fun u t hu => ?_, fun u t hu => ?_, fun u t v hu => ?_⟩
          · obtain ⟨d, e1, _, e3⟩ := hcj u x t h1 h2
            exact ⟨d, e1, e3⟩
          · obtain ⟨t', e'⟩ : ∃ t, J[u]? = some t := ⟨_, List.getElem?_eq_getElem (by have := (List.getElem?_eq_some_iff.mp hu).1; omega)⟩
            exact (hok u t t' hu e').1
          · obtain ⟨t', e'⟩ : ∃ t, J[u]? = some t := ⟨_, List.getElem?_eq_getElem (by have := (List.getElem?_eq_some_iff.mp hu).1; omega)⟩
            exact (hok u t t' hu e').2.1
          · obtain ⟨t', e'⟩ : ∃ t, J[u]? = some t := ⟨_, List.getElem?_eq_getElem (by have := (List.getElem?_eq_some_iff.mp hu).1; omega)⟩
            rw [(hok u t t' hu e').2.2 v, jI.mem u t' v e', ends_adj W]
end
end W13
namespace W13
open PySem L2
/-! ## the pairs of the rim -/
/-- the values are lists of these rows, each at a place of N -/
inductive RV (H : Hp) (N : Addr → Prop) : List V → List (List Nat) → Prop
  | nil : RV H N [] []
  | cons {d : Addr} {vs : List V} {t : List Nat} {L : List (List Nat)} : N d → H d = some (.lst (nats t)) → RV H N vs L → RV H N (.ref d :: vs) (t :: L)
theorem RV.len {H : Hp} {N : Addr → Prop} {vs : List V} {L : List (List Nat)} (h : RV H N vs L) : vs.length = L.length := by
  induction h with
  | nil => rfl
  | cons _ _ _ ih => simp [ih]
theorem RV.mono {H H' : Hp} {N : Addr → Prop} {vs : List V} {L : List (List Nat)} (h : RV H N vs L) (e : Same H H') : RV H' N vs L := by
  induction h with
  | nil => exact .nil
  | cons n a _ ih => exact .cons n (e _ _ a) ih
theorem RV.upd {H : Hp} {N : Addr → Prop} {X : Addr} {o : HO} {vs : List V} {L : List (List Nat)} (h : RV H N vs L) (hX : ∀ d, N d → d ≠ X) : RV (L2.upd H X o) N vs L := by
  induction h with
  | nil => exact .nil
  | cons n a _ ih => exact .cons n (by rw [upd_ne (hX _ n)]; exact a) ih
theorem RV.imp {H : Hp} {N N' : Addr → Prop} {vs : List V} {L : List (List Nat)} (h : RV H N vs L) (hN : ∀ d t, H d = some (.lst (nats t)) → N d → N' d) : RV H N' vs L := by
  induction h with
  | nil => exact .nil
  | cons n a _ ih => exact .cons (hN _ _ a n) a ih
theorem RV.app {H : Hp} {N : Addr → Prop} {vs ws : List V} {L M : List (List Nat)} (h : RV H N vs L) (g : RV H N ws M) : RV H N (vs ++ ws) (L ++ M) := by
  induction h with
  | nil => exact g
  | cons n a _ ih => exact .cons n a ih
theorem RV.get {H : Hp} {N : Addr → Prop} {vs : List V} {L : List (List Nat)} (h : RV H N vs L) : ∀ {u : Nat} {x : V}, vs[u]? = some x → ∃ d t, x = .ref d ∧ N d ∧ L[u]? = some t ∧ H d = some (.lst (nats t)) := by
  induction h with
  | nil => intro u x hx; cases hx
  | cons n a _ ih =>
    intro u x hx
    cases u with
    | zero =>
      cases hx
      exact ⟨_, _, rfl, n, rfl, a⟩
    | succ u => exact ih hx
/-- made since H, and not X -/
def Nw (H : Hp) (X d : Addr) : Prop := H d = none ∧ d ≠ X
theorem RV.to {H0 H : Hp} {X Y : Addr} {vs : List V} {L : List (List Nat)} (h : RV H (Nw H0 X) vs L) (hY : H Y = none) : RV H (Nw H0 Y) vs L :=
  h.imp fun d t a n => ⟨n.1, fun e => by rw [e, hY] at a; cases a⟩
def subR (c : Nat) : Nat → List (List Nat)
  | 0 => [[]]
  | k + 1 => subR c k ++ ((subR c k).filter fun t => decide (t.length < c)).map (· ++ [k + 1])
def subs (m c : Nat) : List (List Nat) := (subR c m).filter fun t => decide (t.length = c)
theorem subR_len {c : Nat} : ∀ k, (subR c k).length ≤ 2 ^ k
  | 0 => Nat.le_refl 1
  | k + 1 => by
    have ih := subR_len (c := c) k
    have h := List.length_filter_le (fun t : List Nat => decide (t.length < c)) (subR c k)
    show (subR c k ++ _).length ≤ _
    rw [List.length_append, List.length_map, Nat.pow_succ]
    omega
theorem subR_row {c : Nat} : ∀ k, ∀ t, t ∈ subR c k → t.length ≤ k
  | 0, t, h => by
    rw [List.mem_singleton.mp h]
    exact Nat.le_refl _
  | k + 1, t, h => by
    rcases List.mem_append.mp h with h | h
    · have := subR_row k t h
      omega
    · obtain ⟨s, hs, rfl⟩ := List.mem_map.mp h
      have := subR_row k s (List.mem_filter.mp hs).1
      rw [List.length_append, List.length_singleton]
      omega
theorem len64 {c k : Nat} (h : k ≤ 6) : (subR c k).length ≤ 64 := Nat.le_trans (subR_len k) (Nat.le_trans (Nat.pow_le_pow_right (by decide) h) (by decide))
theorem filt_one {α : Type} {p : α → Bool} {L : List α} {i : Nat} {e : α} (h : L[i]? = some e) : (L.take (i + 1)).filter p = (L.take i).filter p ++ (if p e = true then [e] else []) := by
  rw [take_one h, List.filter_append]
  congr 1
  by_cases q : p e = true
  · rw [if_pos q, List.filter_cons_of_pos q]
    rfl
  · rw [if_neg q, List.filter_cons_of_neg q]
    rfl
def spSubs : Sp := fun vs H Q _ => ∃ m c : Nat, vs = [.int (m : Int), .int (c : Int)] ∧ m ≤ 6 ∧ ∀ (D : Addr) (ws : List V) (H' : Hp), Same H H' → H D = none → H' D = some (.lst ws) → RV H' (Nw H D) ws (subs m c) → Q (.ref D) H'
/-- pairs of tuples -/
inductive PV (K : PySem.W.Frag) (H : Hp) : List V → List (List Nat × List Nat) → Prop
  | nil : PV K H [] []
  | cons {d x y : Addr} {vs : List V} {a b : List Nat} {L : List (List Nat × List Nat)} : SqT K H d [.ref x, .ref y] → SqT K H x (nats a) → SqT K H y (nats b) → PV K H vs L → PV K H (.ref d :: vs) ((a, b) :: L)
theorem PV.tk {K : PySem.W.Frag} {H H' : Hp} {vs : List V} {L : List (List Nat × List Nat)} (h : PV K H vs L) (e : TK K H H') : PV K H' vs L := by
  induction h with
  | nil => exact .nil
  | cons a b c _ ih => exact .cons (e _ _ a) (e _ _ b) (e _ _ c) ih
theorem PV.len {K : PySem.W.Frag} {H : Hp} {vs : List V} {L : List (List Nat × List Nat)} (h : PV K H vs L) : vs.length = L.length := by
  induction h with
  | nil => rfl
  | cons _ _ _ _ ih => simp [ih]
theorem PV.app {K : PySem.W.Frag} {H : Hp} {vs ws : List V} {L M : List (List Nat × List Nat)} (h : PV K H vs L) (g : PV K H ws M) : PV K H (vs ++ ws) (L ++ M) := by
  induction h with
  | nil => exact g
  | cons a b c _ ih => exact .cons a b c ih
theorem PV.get {K : PySem.W.Frag} {H : Hp} {vs : List V} {L : List (List Nat × List Nat)} (h : PV K H vs L) : ∀ {u : Nat} {v : V}, vs[u]? = some v → ∃ d x y a b, v = .ref d ∧ L[u]? = some (a, b) ∧ SqT K H d [.ref x, .ref y] ∧ SqT K H x (nats a) ∧ SqT K H y (nats b) := by
  induction h with
  | nil => intro u x hx; cases hx
  | cons a b c _ ih =>
    intro u x hx
    cases u with
    | zero =>
      cases hx
      exact ⟨_, _, _, _, _, rfl, rfl, a, b, c⟩
    | succ u => exact ih hx
def circ (ch : List Nat) (h s : Nat) : List Nat := ch.drop (2 * h - s) ++ ch.take (2 * h - s)
def pr (ch : List Nat) (h s : Nat) : List Nat × List Nat := ((circ ch h s).take h, ((circ ch h s).drop h).reverse)
def turnsOf (h : Nat) (ch : List Nat) : List (List Nat × List Nat) := (List.range h).map (pr ch h)
def blk (m h : Nat) : List (List Nat × List Nat) := (subs m (2 * h)).flatMap (turnsOf h)
def pairsF (m : Nat) : List (List Nat × List Nat) := (List.range' 1 (m / 2)).flatMap (blk m)
theorem cut_drop {xs : List V} {k : Nat} : cutV xs (some (k : Int)) none = xs.drop k := by
  unfold cutV
  rw [HT.sIx_nat, HT.sIx_none]
  by_cases h : k ≤ xs.length
  · rw [Nat.min_eq_left h, List.take_of_length_le (by rw [List.length_drop]; exact Nat.le_refl _)]
  · rw [Nat.min_eq_right (by omega), List.drop_length, List.drop_of_length_le (by omega), List.take_nil]
theorem cut_take {xs : List V} {k : Nat} : cutV xs none (some (k : Int)) = xs.take k := by
  unfold cutV
  rw [HT.sIx_nat, HT.sIx_none, List.drop_zero, Nat.sub_zero]
  by_cases h : k ≤ xs.length
  · rw [Nat.min_eq_left h]
  · rw [Nat.min_eq_right (by omega), List.take_length, List.take_of_length_le (by omega)]
theorem nats_drop {l : List Nat} {k : Nat} : (nats l).drop k = nats (l.drop k) := by
  unfold nats
  rw [List.map_drop]
theorem nats_take {l : List Nat} {k : Nat} : (nats l).take k = nats (l.take k) := by
  unfold nats
  rw [List.map_take]
theorem nats_rev {l : List Nat} : (nats l).reverse = nats l.reverse := by
  unfold nats
  rw [List.map_reverse]
theorem pairs_few : ∀ m : Fin 7, (pairsF m.val).length ≤ 500 ∧ ∀ h, h < 4 → (blk m.val h).length ≤ 400 := by decide +kernel
/-- what is asked of a pair -/
def POk (m : Nat) (p : List Nat × List Nat) : Prop := p.1 = (p.1.map (· - 1)).map (· + 1) ∧ p.2 = (p.2.map (· - 1)).map (· + 1) ∧ (p.1.map (· - 1)).length = (p.2.map (· - 1)).length ∧ (p.1.map (· - 1)).length ≤ 3 ∧ 1 ≤ (p.1.map (· - 1)).length ∧
  (p.1.map (· - 1) ++ p.2.map (· - 1)).Nodup ∧ (∀ x, x ∈ p.1.map (· - 1) ++ p.2.map (· - 1) → x < m) ∧ K13.Circ (p.1.map (· - 1)) (p.2.map (· - 1))
instance (m : Nat) (p : List Nat × List Nat) : Decidable (POk m p) := by unfold POk; infer_instance
theorem pairs_ok : ∀ m : Fin 7, ∀ p, p ∈ pairsF m.val → POk m.val p := by decide +kernel
def spPairs (K : PySem.W.Frag) : Sp := fun vs H Q _ => ∃ m : Nat, vs = [.int (m : Int)] ∧ m ≤ 6 ∧ ∀ (D : Addr) (ws : List V) (H' : Hp), Same H H' → H' D = some (.lst ws) → PV K H' ws (pairsF m) → Q (.ref D) H'
section
variable {P : Program} {w : World} {K : PySem.W.Frag} {mg : Str → Option Value} {base : Heap} {uS uG : Value} {aZ aO : Addr}
abbrev s_lsubsets : Stmt := top 54
theorem sc_lsubsets : FnScope ["_law_size", "_law_count", "_law_rows", "_law_k", "_law_row"] ["_law_size", "_law_count"] (defScope s_lsubsets) := ⟨rfl, rfl, rfl, by decide +kernel, rfl, by decide +kernel, by decide +kernel⟩
theorem ok_lsubsets {f : Addr} {fd : FuncData} (F : Fun K "_law_subsets" "_law_subsets" s_lsubsets f fd) (T : Txt K mg uS uG aZ aO) : FnOk P w K mg base CX0 1 f fd ["_law_size", "_law_count"] spSubs := by
  refine F.ok sc_lsubsets (fun vs H Q E h => ?_) (fun cdv A outer s H vs Q E hr h => ?_)
  · obtain ⟨m, c, rfl, _⟩ := h
    rfl
  · obtain ⟨m, c, rfl, hm6, k⟩ := h
    have nd := sc_lsubsets.nd
    refine ⟨_,
      (pss_cons
        (ps_set (i := 2) nd rfl (by first | exact Or.inl rfl | exact Or.inr rfl) (pe_lst (pa_cons (pe_lst pa_nil) pa_nil)))
      (pss_cons
        (ps_for PassesOwn.never rfl (pi_range2 rfl T.range (pa_cons pe_int (pa_cons (pe_op op_add (pv 0) pe_int) pa_nil))) (pg_name (i := 3) nd rfl (by first | exact Or.inl rfl | exact Or.inr rfl))
          (pss_one
            (ps_set (i := 2) nd rfl (by first | exact Or.inl rfl | exact Or.inr rfl) (pe_op op_cat (pv 2) (pe_lc (own := [("_law_row", 4)]) (g := gName 4) (tt := tTest (tOp (rI0 fun i j => .bl (decide (i < j))) (tCB (rLenOf K) (tCons (tVar 4) tNil)) (tVar 1))) (te := tOp rCat (tVar 4) (tLst (tCons (tVar 3) tNil))) rfl nd (pi_list (pv 2)) (blkOk_by (N := ["_law_size", "_law_count", "_law_rows", "_law_k", "_law_row"]) (sc := defScope s_lsubsets) (by decide +kernel))
      (fun _ _ _ _ _ => pg_name (i := 4) nd rfl (by first | exact Or.inl rfl | exact Or.inr rfl)) (fun _ _ _ _ _ => pts_one (pt_cmpR op_lt (pe_callB cr_lenOf (by rfl) T.len PySem.boot_len (pa_cons (pv 4) pa_nil)) (pv 1) (nomark _)))
      (fun _ _ _ _ _ => (pe_op op_cat (pv 4) (pe_lst (pa_cons (pv 3) pa_nil)))))))))
      (pss_one
        (ps_ret (pe_lc (own := [("_law_row", 4)]) (g := gName 4) (tt := tTest (tOp rEq (tCB (rLenOf K) (tCons (tVar 4) tNil)) (tVar 1))) (te := tVar 4) rfl nd (pi_list (pv 2)) (blkOk_by (N := ["_law_size", "_law_count", "_law_rows", "_law_k", "_law_row"]) (sc := defScope s_lsubsets) (by decide +kernel))
      (fun _ _ _ _ _ => pg_name (i := 4) nd rfl (by first | exact Or.inl rfl | exact Or.inr rfl)) (fun _ _ _ _ _ => pts_one (pt_cmpR op_eq (pe_callB cr_lenOf (by rfl) T.len PySem.boot_len (pa_cons (pv 4) pa_nil)) (pv 1) (nomark _)))
      (fun _ _ _ _ _ => (pv 4))))))), ?_⟩
    refine ⟨(by show 0 ≤ sizeLine; decide), fun p0 hp0 => ⟨(by show 1 ≤ sizeLine; decide), fun D0 hD0 => ?_⟩⟩
    have s0 : Same H (upd H p0 (.lst [])) := same_new hp0
    have r0 : RV (upd (upd H p0 (.lst [])) D0 (.lst [.ref p0])) (Nw H D0) [.ref p0] (subR c 0) := by
      refine RV.upd (.cons ⟨hp0, fun e => ?_⟩ upd_same .nil) fun d h => h.2
      rw [← e, upd_same] at hD0
      cases hD0
    have s1 := s0.trans (same_new (o := .lst [.ref p0]) hD0)
    have e1 : (upd (upd H p0 (.lst [])) D0 (.lst [.ref p0])) D0 = some (.lst [.ref p0]) := upd_same
    generalize upd (upd H p0 (.lst [])) D0 (.lst [.ref p0]) = H1 at r0 s1 e1
    refine ⟨_, rfl, _, _, rfl, rfl, 1, _, rfl, by omega, for_range (lo := 1) (n := ((m : Int) + 1 - 1).toNat) (fun i σ H2 => ∃ (D : Addr) (vs : List V) (v3 : Option V), σ = [some (.int (m : Int)), some (.int (c : Int)), some (.ref D), v3, none] ∧ Same H H2 ∧ H D = none ∧ H2 D = some (.lst vs) ∧ RV H2 (Nw H D) vs (subR c i))
      ⟨D0, _, none, rfl, s1, s0.free hD0, e1, r0⟩ ?_ ?_⟩
    · rintro i σ H2 hi ⟨D, vs, v3, rfl, s2, hDn, hD, rv⟩
      have hi6 : i < 6 := by omega
      have h64 := len64 (c := c) (show i ≤ 6 by omega)
      have ei : (1 : Int) + (i : Int) = ((i + 1 : Nat) : Int) := by omega
      rw [ei]
      refine ⟨_, rfl, _, rfl, D, rfl, ⟨_, SqL.of hD⟩, fun U hU => ?_⟩
      have hl := rv.len
      refine lc_list (K := K) (a := D) (xs := vs) (fun j H3 => Same H2 H3 ∧ ∃ ac, H3 U = some (.lst ac) ∧ RV H3 (Nw H U) ac ((((subR c i).take j).filter fun t => decide (t.length < c)).map (· ++ [i + 1])))
        ⟨same_new hU, [], upd_same, .nil⟩ (fun j H3 _ ⟨s3, _⟩ => SqL.of (s3 _ _ hD)) ?_ ?_
      · rintro j x H3 hx ⟨s3, ac, hac, rc⟩
        obtain ⟨d, t, rfl, ⟨hdn, hdD⟩, hL, hd⟩ := rv.get hx
        have htl := subR_row i t (List.mem_of_getElem? hL)
        have hd3 := s3 _ _ hd
        have hcl := rc.len
        have hcl2 : ac.length ≤ 64 := by
          rw [hcl, List.length_map]
          refine Nat.le_trans (List.length_filter_le _ _) ?_
          rw [List.length_take]
          omega
        rw [filt_one hL, List.map_append]
        refine ⟨rfl, _, rfl, d, _, rfl, .inl (SqL.of hd3), _, rfl, _, _, rfl, rfl, _, rfl, ?_⟩
        by_cases q : t.length < c
        · have q' : ((nats t).length : Int) < (c : Int) := by rw [nats_len]; omega
          rw [decide_eq_true q', if_pos (decide_eq_true q)]
          refine iteT ?_
          refine ⟨_, rfl, _, rfl, (by show 1 ≤ sizeLine; decide), fun p1 hp1 => ?_⟩
          have s4 : Same H3 (upd H3 p1 (.lst [.int ((i + 1 : Nat) : Int)])) := same_new hp1
          have e4 : (upd H3 p1 (.lst [.int ((i + 1 : Nat) : Int)])) p1 = some (.lst (nats [i + 1])) := upd_same
          refine ⟨d, p1, _, _, rfl, rfl, s4 _ _ hd3, e4, Nat.le_of_lt (small1000 (by rw [nats_len, nats_len]; show t.length + 1 ≤ 1000; omega)), fun p2 hp2 => ?_⟩
          generalize upd H3 p1 (.lst [.int ((i + 1 : Nat) : Int)]) = H4 at s4 e4 hp2
          have s5 : Same H4 (upd H4 p2 (.lst (nats t ++ nats [i + 1]))) := same_new hp2
          have hac5 := s5 _ _ (s4 _ _ hac)
          have hpU : p2 ≠ U := fun e => by rw [e, s4 _ _ hac] at hp2; cases hp2
          refine ⟨ac, hac5, small1000 (by omega), same_upd ((s3.trans s4).trans s5) hU, ac ++ [.ref p2], upd_same, RV.upd (RV.app (rc.mono (s4.trans s5)) (.cons ⟨(((s2.trans s3).trans s4)).free hp2, hpU⟩ ?_ .nil)) fun d h => h.2⟩
          rw [upd_same, nats_app]
        · have q' : ¬ ((nats t).length : Int) < (c : Int) := by rw [nats_len]; omega
          rw [decide_eq_false q', if_neg (fun h => q (of_decide_eq_true h))]
          refine iteF ⟨s3, ac, hac, ?_⟩
          rw [List.map_nil, List.append_nil]
          exact rc
      · rintro H3 ⟨s3, ac, hac, rc⟩
        rw [hl, List.take_length] at rc
        have hcl := rc.len
        have hcl2 : ac.length ≤ 64 := by
          rw [hcl, List.length_map]
          exact Nat.le_trans (List.length_filter_le _ _) h64
        refine ⟨D, U, _, _, rfl, rfl, s3 _ _ hD, hac, Nat.le_of_lt (small1000 (by omega)), fun p hp => ?_⟩
        have s4 : Same H3 (upd H3 p (.lst (vs ++ ac))) := same_new hp
        exact ⟨p, _, _, rfl, (s2.trans s3).trans s4, (s2.trans s3).free hp, upd_same, RV.upd (RV.app ((rv.mono s3).to hp) (rc.to hp)) fun d h => h.2⟩
    · rintro σ H2 ⟨D, vs, v3, rfl, s2, hDn, hD, rv⟩
      have em : ((m : Int) + 1 - 1).toNat = m := by omega
      rw [em] at rv
      have hl := rv.len
      have h64 := len64 (c := c) hm6
      refine ⟨_, rfl, D, rfl, ⟨_, SqL.of hD⟩, fun U hU => ?_⟩
      refine lc_list (K := K) (a := D) (xs := vs) (fun j H3 => Same H2 H3 ∧ ∃ ac, H3 U = some (.lst ac) ∧ RV H3 (Nw H U) ac (((subR c m).take j).filter fun t => decide (t.length = c)))
        ⟨same_new hU, [], upd_same, .nil⟩ (fun j H3 _ ⟨s3, _⟩ => SqL.of (s3 _ _ hD)) ?_ ?_
      · rintro j x H3 hx ⟨s3, ac, hac, rc⟩
        obtain ⟨d, t, rfl, ⟨hdn, hdD⟩, hL, hd⟩ := rv.get hx
        have hd3 := s3 _ _ hd
        have hcl := rc.len
        have hcl2 : ac.length ≤ 64 := by
          rw [hcl]
          refine Nat.le_trans (List.length_filter_le _ _) ?_
          rw [List.length_take]
          omega
        rw [filt_one hL]
        refine ⟨rfl, _, rfl, d, _, rfl, .inl (SqL.of hd3), _, rfl, rfl, _, rfl, ?_⟩
        rw [int_eqd]
        by_cases q : t.length = c
        · have q' : ((nats t).length : Int) = (c : Int) := by rw [nats_len]; omega
          rw [decide_eq_true q', if_pos (decide_eq_true q)]
          refine iteT ⟨_, rfl, ac, hac, small1000 (by omega), same_upd s3 hU, ac ++ [.ref d], upd_same, RV.upd (RV.app rc (.cons ⟨hdn, fun e => ?_⟩ hd3 .nil)) fun d h => h.2⟩
          subst e
          rw [hU] at hd
          cases hd
        · have q' : ¬ ((nats t).length : Int) = (c : Int) := by rw [nats_len]; omega
          rw [decide_eq_false q', if_neg (fun h => q (of_decide_eq_true h))]
          refine iteF ⟨s3, ac, hac, ?_⟩
          rw [List.append_nil]
          exact rc
      · rintro H3 ⟨s3, ac, hac, rc⟩
        rw [hl, List.take_length] at rc
        exact k U ac H3 (s2.trans s3) (s2.free hU) hac rc
abbrev s_lpairs : Stmt := top 55
theorem sc_lpairs : FnScope ["_law_rim", "_law_found", "_law_half", "_law_chosen", "_law_shift", "_law_circle"] ["_law_rim"] (defScope s_lpairs) := ⟨rfl, rfl, rfl, by decide +kernel, rfl, by decide +kernel, by decide +kernel⟩
theorem ok_lpairs {f : Addr} {fd : FuncData} (F : Fun K "_law_pairs" "_law_pairs" s_lpairs f fd) (T : Txt K mg uS uG aZ aO) (DS : Df P w K mg base 1 "_law_subsets" ["_law_size", "_law_count"] spSubs) : FnOk P w K mg base CX0 2 f fd ["_law_rim"] (spPairs K) := by
  obtain ⟨_, _, G_lsubsets, C_lsubsets⟩ := DS
  refine F.ok sc_lpairs (fun vs H Q E h => ?_) (fun cdv A outer s H vs Q E hr h => ?_)
  · obtain ⟨m, rfl, _⟩ := h
    rfl
  · obtain ⟨m, rfl, hm6, k⟩ := h
    have nd := sc_lpairs.nd
    refine ⟨_,
      (pss_cons
        (ps_set (i := 1) nd rfl (by first | exact Or.inl rfl | exact Or.inr rfl) (pe_lst pa_nil))
      (pss_cons
        (ps_for PassesOwn.never rfl (pi_range2 rfl T.range (pa_cons pe_int (pa_cons (pe_op op_add (pe_op op_fdiv (pv 0) pe_int) pe_int) pa_nil))) (pg_name (i := 2) nd rfl (by first | exact Or.inl rfl | exact Or.inr rfl))
          (pss_one
            (ps_for PassesOwn.never rfl (pi_list (pe_call G_lsubsets (hr.mono (by decide)) rfl C_lsubsets.m C_lsubsets.kp C_lsubsets.b .nil pass0 (pa_cons (pv 0) (pa_cons (pe_op op_mul pe_int (pv 2)) pa_nil)))) (pg_name (i := 3) nd rfl (by first | exact Or.inl rfl | exact Or.inr rfl))
              (pss_one
                (ps_for PassesOwn.never rfl (pi_range1 rfl T.range (pa_cons (pv 2) pa_nil)) (pg_name (i := 4) nd rfl (by first | exact Or.inl rfl | exact Or.inr rfl))
                  (pss_cons
                    (ps_set (i := 5) nd rfl (by first | exact Or.inl rfl | exact Or.inr rfl) (pe_op op_cat (pe_slice sl_list (pv 3) (po_some (pe_op op_sub (pe_op op_mul pe_int (pv 2)) (pv 4))) po_none) (pe_slice sl_list (pv 3) po_none (po_some (pe_op op_sub (pe_op op_mul pe_int (pv 2)) (pv 4))))))
                  (pss_one
                    (ps_expr (pe_bm PySem.F.plainAttrs_list PySem.F.slot_list_append PySem.F.type_list_append mt_append (pv 1) (pa_cons (pe_tup (pa_cons (pe_callTy cr_tupleOf (by rfl) T.tuple (by decide +kernel) (pa_cons (pe_slice sl_list (pv 5) po_none (po_some (pv 2))) pa_nil)) (pa_cons (pe_callTy cr_tupleOf (by rfl) T.tuple (by decide +kernel) (pa_cons (pe_revL (pe_slice sl_list (pv 5) (po_some (pv 2)) po_none)) pa_nil)) pa_nil))) pa_nil))))))))))
      (pss_one
        (ps_ret (pv 1))))), ?_⟩
    refine ⟨(by show 0 ≤ sizeLine; decide), fun D hD => ?_⟩
    have few := (pairs_few ⟨m, by omega⟩).1
    have few2 := (pairs_few ⟨m, by omega⟩).2
    have e0 : (m : Int) / 2 + 1 - 1 = ((m / 2 : Nat) : Int) := by omega
    refine ⟨_, rfl, _, _, rfl, rfl, ⟨by decide, by decide⟩, _, _, rfl, rfl, 1, _, rfl, by omega, for_range (lo := 1) (n := ((m : Int) / 2 + 1 - 1).toNat) (fun i σ H2 => ∃ (vs : List V) (v2 v3 v4 v5 : Option V), σ = [some (.int (m : Int)), some (.ref D), v2, v3, v4, v5] ∧ Same H H2 ∧ H2 D = some (.lst vs) ∧ PV K H2 vs ((List.range' 1 i).flatMap (blk m)))
      ⟨[], none, none, none, none, rfl, same_new hD, upd_same, .nil⟩ ?_ ?_⟩
    · rintro i σ H2 hi ⟨vs, v2, v3, v4, v5, rfl, s2, hD2, pv2⟩
      have hi3 : i < m / 2 := by omega
      have ei : (1 : Int) + (i : Int) = ((1 + i : Nat) : Int) := by omega
      rw [ei]
      have eb : (List.range' 1 (i + 1)).flatMap (blk m) = (List.range' 1 i).flatMap (blk m) ++ blk m (1 + i) := by
        rw [List.range'_1_concat, List.flatMap_append]
        simp
      have lenle : ((List.range' 1 i).flatMap (blk m)).length + (blk m (1 + i)).length ≤ 500 := by
        rw [← List.length_append, ← eb]
        have e : List.range' 1 (m / 2) = List.range' 1 (i + 1) ++ List.range' (1 + (i + 1)) (m / 2 - (i + 1)) := by
          rw [List.range'_append_1]
          congr 1
          omega
        have h := few
        unfold pairsF at h
        rw [e, List.flatMap_append, List.length_append] at h
        exact Nat.le_trans (Nat.le_add_right _ _) h
      refine ⟨_, rfl, _, rfl, _, _, rfl, rfl, two_mul _, m, 2 * (1 + i), rfl, hm6, fun S ss H3 s3 hSn hS rs => ?_⟩
      have hvl := pv2.len
      refine ⟨S, rfl, ⟨_, SqL.of hS⟩, for_list (K := K) (a := S) (xs := ss) (fun j σ H4 => ∃ (ws : List V) (v3 v4 v5 : Option V), σ = [some (.int (m : Int)), some (.ref D), some (.int ((1 + i : Nat) : Int)), v3, v4, v5] ∧ Same H H4 ∧ TK K H3 H4 ∧ H4 D = some (.lst ws) ∧ H4 S = some (.lst ss) ∧ RV H4 (Nw H2 S) ss (subs m (2 * (1 + i))) ∧
          PV K H4 ws ((List.range' 1 i).flatMap (blk m) ++ ((subs m (2 * (1 + i))).take j).flatMap (turnsOf (1 + i))))
        ⟨vs, _, _, _, rfl, s2.trans s3, TK.refl, s3 _ _ hD2, hS, rs, by rw [List.take_zero, List.flatMap_nil, List.append_nil]; exact pv2.tk (TK.same s3)⟩ (fun j σ H4 _ ⟨_, _, _, _, _, _, _, _, h4, _⟩ => SqL.of h4) ?_ ?_⟩
      · rintro j x σ H4 hx ⟨ws, v3, v4, v5, rfl, s4, tk4, hD4, hS4, rs4, pv4⟩
        obtain ⟨d, ch, rfl, ⟨hdn, hdS⟩, hL, hd⟩ := rs4.get hx
        have hdD : d ≠ D := fun e => by rw [e, hD2] at hdn; cases hdn
        have hSD : S ≠ D := fun e => by rw [e, hD2] at hSn; cases hSn
        have lj : (((subs m (2 * (1 + i))).take j).flatMap (turnsOf (1 + i))).length + (1 + i) ≤ (blk m (1 + i)).length := by
          have e : subs m (2 * (1 + i)) = (subs m (2 * (1 + i))).take (j + 1) ++ (subs m (2 * (1 + i))).drop (j + 1) := (List.take_append_drop _ _).symm
          have e2 : (blk m (1 + i)).length = (((subs m (2 * (1 + i))).take (j + 1)).flatMap (turnsOf (1 + i))).length + (((subs m (2 * (1 + i))).drop (j + 1)).flatMap (turnsOf (1 + i))).length := by
            rw [← List.length_append, ← List.flatMap_append, ← e]
            rfl
          rw [e2, take_one hL, List.flatMap_append, List.length_append, List.flatMap_singleton]
          have e3 : (turnsOf (1 + i) ch).length = 1 + i := by simp [turnsOf]
          omega
        refine ⟨_, rfl, _, rfl, by omega, by omega, for_range (lo := 0) (n := (((1 + i : Nat) : Nat) : Int).toNat) (fun q σ H5 => ∃ (us : List V) (v4 v5 : Option V), σ = [some (.int (m : Int)), some (.ref D), some (.int ((1 + i : Nat) : Int)), some (.ref d), v4, v5] ∧ Same H H5 ∧ TK K H3 H5 ∧ H5 D = some (.lst us) ∧ H5 S = some (.lst ss) ∧ RV H5 (Nw H2 S) ss (subs m (2 * (1 + i))) ∧ H5 d = some (.lst (nats ch)) ∧
            PV K H5 us ((List.range' 1 i).flatMap (blk m) ++ ((subs m (2 * (1 + i))).take j).flatMap (turnsOf (1 + i)) ++ (List.range q).map (pr ch (1 + i))))
          ⟨ws, _, _, rfl, s4, tk4, hD4, hS4, rs4, hd, by rw [List.range_zero, List.map_nil, List.append_nil]; exact pv4⟩ ?_ ?_⟩
        · rintro q σ H5 hq ⟨us, v4, v5, rfl, s5, tk5, hD5, hS5, rs5, hd5, pv5⟩
          have hq : q < 1 + i := by omega
          rw [Int.zero_add]
          have e2h : 2 * ((1 + i : Nat) : Int) - (q : Int) = ((2 * (1 + i) - q : Nat) : Int) := by omega
          have hul := pv5.len
          rw [List.length_append, List.length_append, List.length_map, List.length_range] at hul
          refine ⟨_, rfl, _, rfl, _, _, rfl, rfl, two_mul _, _, rfl, _, _, rfl, rfl, _, rfl, d, _, rfl, SqL.of hd5, fun p1 hp1 => ?_⟩
          rw [e2h, cut_drop, nats_drop]
          have s6 : Same H5 (upd H5 p1 (.lst (nats (ch.drop (2 * (1 + i) - q))))) := same_new hp1
          have e6 : (upd H5 p1 (.lst (nats (ch.drop (2 * (1 + i) - q))))) p1 = some (.lst (nats (ch.drop (2 * (1 + i) - q)))) := upd_same
          generalize upd H5 p1 (.lst (nats (ch.drop (2 * (1 + i) - q)))) = H6 at s6 e6
          refine ⟨_, rfl, _, rfl, _, _, rfl, rfl, two_mul _, _, rfl, _, _, rfl, rfl, _, rfl, d, _, rfl, SqL.of (s6 _ _ hd5), fun p2 hp2 => ?_⟩
          rw [e2h, cut_take, nats_take]
          have s7 : Same H6 (upd H6 p2 (.lst (nats (ch.take (2 * (1 + i) - q))))) := same_new hp2
          have e7 : (upd H6 p2 (.lst (nats (ch.take (2 * (1 + i) - q))))) p2 = some (.lst (nats (ch.take (2 * (1 + i) - q)))) := upd_same
          generalize upd H6 p2 (.lst (nats (ch.take (2 * (1 + i) - q)))) = H7 at s7 e7
          have hchl : ch.length ≤ 64 := by
            have := subR_row m ch (List.mem_filter.mp (List.mem_of_getElem? hL)).1
            omega
          refine ⟨p1, p2, _, _, rfl, rfl, s7 _ _ e6, e7, Nat.le_of_lt (small1000 (by rw [nats_len, nats_len, List.length_drop, List.length_take]; omega)), fun p3 hp3 => ?_⟩
          have s8 : Same H7 (upd H7 p3 (.lst (nats (ch.drop (2 * (1 + i) - q)) ++ nats (ch.take (2 * (1 + i) - q))))) := same_new hp3
          have e8 : (upd H7 p3 (.lst (nats (ch.drop (2 * (1 + i) - q)) ++ nats (ch.take (2 * (1 + i) - q))))) p3 = some (.lst (nats (circ ch (1 + i) q))) := by
            rw [upd_same, nats_app]
            rfl
          generalize upd H7 p3 (.lst (nats (ch.drop (2 * (1 + i) - q)) ++ nats (ch.take (2 * (1 + i) - q)))) = H8 at s8 e8
          have s58 : Same H5 H8 := (s6.trans s7).trans s8
          have hD8 := s58 _ _ hD5
          refine ⟨_, rfl, .inl ⟨rfl, _, SqL.of hD8⟩, ?_⟩
          refine ⟨_, rfl, _, rfl, _, rfl, p3, _, rfl, SqL.of e8, fun p4 hp4 => ?_⟩
          rw [cut_take, nats_take]
          have s9 : Same H8 (upd H8 p4 (.lst (nats ((circ ch (1 + i) q).take (1 + i))))) := same_new hp4
          have e9 : (upd H8 p4 (.lst (nats ((circ ch (1 + i) q).take (1 + i))))) p4 = some (.lst (nats ((circ ch (1 + i) q).take (1 + i)))) := upd_same
          generalize upd H8 p4 (.lst (nats ((circ ch (1 + i) q).take (1 + i)))) = H9 at s9 e9
          refine ⟨p4, _, rfl, .inl ⟨SqL.of e9, fun p5 hp5 => ?_⟩⟩
          have s10 : Same H9 (upd H9 p5 (.tup (nats ((circ ch (1 + i) q).take (1 + i))))) := same_new hp5
          have e10 : SqT K (upd H9 p5 (.tup (nats ((circ ch (1 + i) q).take (1 + i))))) p5 (nats ((circ ch (1 + i) q).take (1 + i))) := SqT.of upd_same
          generalize upd H9 p5 (.tup (nats ((circ ch (1 + i) q).take (1 + i)))) = H10 at s10 e10
          refine ⟨_, rfl, _, rfl, _, rfl, p3, _, rfl, SqL.of (s10 _ _ (s9 _ _ e8)), fun p6 hp6 => ?_⟩
          rw [cut_drop, nats_drop]
          have s11 : Same H10 (upd H10 p6 (.lst (nats ((circ ch (1 + i) q).drop (1 + i))))) := same_new hp6
          have e11 : (upd H10 p6 (.lst (nats ((circ ch (1 + i) q).drop (1 + i))))) p6 = some (.lst (nats ((circ ch (1 + i) q).drop (1 + i)))) := upd_same
          generalize upd H10 p6 (.lst (nats ((circ ch (1 + i) q).drop (1 + i)))) = H11 at s11 e11
          refine ⟨p6, _, rfl, SqL.of e11, fun p7 hp7 => ?_⟩
          rw [nats_rev]
          have s12 : Same H11 (upd H11 p7 (.lst (nats ((circ ch (1 + i) q).drop (1 + i)).reverse))) := same_new hp7
          have e12 : (upd H11 p7 (.lst (nats ((circ ch (1 + i) q).drop (1 + i)).reverse))) p7 = some (.lst (nats ((circ ch (1 + i) q).drop (1 + i)).reverse)) := upd_same
          generalize upd H11 p7 (.lst (nats ((circ ch (1 + i) q).drop (1 + i)).reverse)) = H12 at s12 e12
          refine ⟨p7, _, rfl, .inl ⟨SqL.of e12, fun p8 hp8 => ?_⟩⟩
          have s13 : Same H12 (upd H12 p8 (.tup (nats ((circ ch (1 + i) q).drop (1 + i)).reverse))) := same_new hp8
          have e13 : SqT K (upd H12 p8 (.tup (nats ((circ ch (1 + i) q).drop (1 + i)).reverse))) p8 (nats ((circ ch (1 + i) q).drop (1 + i)).reverse) := SqT.of upd_same
          generalize upd H12 p8 (.tup (nats ((circ ch (1 + i) q).drop (1 + i)).reverse)) = H13 at s13 e13
          refine ⟨(by show 2 ≤ sizeLine; decide), fun p9 hp9 => ?_⟩
          have s14 : Same H13 (upd H13 p9 (.tup [.ref p5, .ref p8])) := same_new hp9
          have e14 : SqT K (upd H13 p9 (.tup [.ref p5, .ref p8])) p9 [.ref p5, .ref p8] := SqT.of upd_same
          generalize upd H13 p9 (.tup [.ref p5, .ref p8]) = H14 at s14 e14
          have s814 : Same H8 H14 := ((((s9.trans s10).trans s11).trans s12).trans s13).trans s14
          have s514 := s58.trans s814
          have hD14 := s514 _ _ hD5
          have k14 : TK K H14 (upd H14 D (.lst (us ++ [.ref p9]))) := TK.upd hD14
          refine ⟨D, us, _, rfl, rfl, hD14, small1000 (by omega), us ++ [.ref p9], _, _, rfl, same_upd (s5.trans s514) hD, (tk5.trans (TK.same s514)).trans k14, upd_same, ?_, RV.upd (rs5.mono s514) (fun d h e => by have := h.1; rw [e, hD2] at this; cases this), ?_, ?_⟩
          · rw [upd_ne hSD]
            exact s514 _ _ hS5
          · rw [upd_ne hdD]
            exact s514 _ _ hd5
          · rw [List.range_succ, List.map_append, ← List.append_assoc]
            exact PV.app (pv5.tk ((TK.same s514).trans k14)) (.cons (k14 _ _ e14) (k14 _ _ (Same.tup ((s11.trans s12).trans (s13.trans s14)) e10)) (k14 _ _ (Same.tup s14 e13)) .nil)
        · rintro σ H5 ⟨us, v4, v5, rfl, s5, tk5, hD5, hS5, rs5, hd5, pv5⟩
          refine ⟨us, _, _, _, rfl, s5, tk5, hD5, hS5, rs5, ?_⟩
          rw [take_one hL, List.flatMap_append, List.flatMap_singleton, ← List.append_assoc]
          exact pv5
      · rintro σ H4 ⟨ws, v3, v4, v5, rfl, s4, tk4, hD4, hS4, rs4, pv4⟩
        rw [rs4.len, List.take_length] at pv4
        refine ⟨ws, _, _, _, _, rfl, s4, hD4, ?_⟩
        rw [eb]
        exact pv4
    · rintro σ H2 ⟨vs, v2, v3, v4, v5, rfl, s2, hD2, pv2⟩
      have en : ((m : Int) / 2 + 1 - 1).toNat = m / 2 := by omega
      rw [en] at pv2
      exact ⟨_, rfl, k D vs H2 s2 hD2 pv2⟩
end
end W13
namespace W13
open PySem L2
/-! ## the law's search -/
theorem atI_last {α : Type} {xs : List α} {v : α} (h : xs.getLast? = some v) : atI xs (-1) = some v := by
  have hne : xs ≠ [] := fun e => by rw [e] at h; cases h
  have hl : 0 < xs.length := List.length_pos_iff.mpr hne
  unfold atI ixN
  rw [if_neg (by decide), if_pos (by omega)]
  have e : (-1 + (xs.length : Int)).toNat = xs.length - 1 := by omega
  rw [e]
  show xs[xs.length - 1]? = some v
  rw [← List.getLast?_eq_getElem?]
  exact h
theorem nats_last {l : List Nat} {u : Nat} (h : l.getLast? = some u) : (nats l).getLast? = some (.int (u : Int)) := by
  unfold nats
  rw [List.getLast?_map, h]
  rfl
theorem few_nodup {l : List Nat} {N : Nat} (nd : l.Nodup) (h : ∀ x, x ∈ l → x < N) : l.length ≤ N := by
  have hp : l.Perm ((List.range N).filter fun x => decide (x ∈ l)) := (List.perm_ext_iff_of_nodup nd (List.nodup_range.filter _)).mpr fun x => by
    rw [List.mem_filter, List.mem_range, decide_eq_true_iff]
    exact ⟨fun q => ⟨h x q, q⟩, fun q => q.2⟩
  rw [hp.length_eq]
  refine Nat.le_trans (List.length_filter_le _ _) ?_
  rw [List.length_range]
  exact Nat.le_refl _
theorem RV.snoc {H : Hp} {N : Addr → Prop} {vs : List V} {L : List (List Nat)} (h : RV H N vs L) (hne : L ≠ []) : ∃ vs' d L' t, vs = vs' ++ [.ref d] ∧ L = L' ++ [t] ∧ N d ∧ H d = some (.lst (nats t)) ∧ RV H N vs' L' := by
  induction h with
  | nil => exact absurd rfl hne
  | @cons d vs t L n a r ih =>
    by_cases q : L = []
    · subst q
      cases r
      exact ⟨[], d, [], t, rfl, rfl, n, a, .nil⟩
    · obtain ⟨vs', d', L', t', e1, e2, n', a', r'⟩ := ih q
      exact ⟨.ref d :: vs', d', t :: L', t', by rw [e1]; rfl, by rw [e2]; rfl, n', a', .cons n a r'⟩
def rowD (t : List Nat) : PyData := .list (t.map fun (n : Nat) => PyData.int (n : Int))
theorem dp_rows {K : PySem.W.Frag} {H : Hp} {N : Addr → Prop} {vs : List V} {L : List (List Nat)} (h : RV H N vs L) : DpAll K H vs (L.map rowD) := by
  induction h with
  | nil => exact .nil
  | cons n a _ ih => exact .cons (.lst (SqL.of a) (dp_nats _)) ih
theorem lay_rows : ∀ L : List (List Nat), PyData.canLayAll0 (L.map rowD) = true ∧ PyData.depthAll (L.map rowD) ≤ 3
  | [] => ⟨rfl, by decide⟩
  | t :: L => by
    obtain ⟨h1, h2⟩ := lay_rows L
    obtain ⟨g1, g2⟩ := lay_nats t
    refine ⟨?_, ?_⟩
    · simp only [List.map_cons, PyData.canLayAll0, rowD, PyData.canLay0, Bool.and_eq_true]
      exact ⟨g1, h1⟩
    · simp only [List.map_cons, PyData.depthAll, rowD, PyData.depth]
      omega
theorem shaped_rows (L : List (List Nat)) : SeqAt.shaped (.list (L.map rowD)) = true := by
  obtain ⟨h1, h2⟩ := lay_rows L
  unfold SeqAt.shaped
  rw [Bool.and_eq_true]
  refine ⟨?_, decide_eq_true ?_⟩
  · simpa [PyData.canLay0] using h1
  · simp only [PyData.depth]
    omega
theorem eqv_rows (L : List (List Nat)) : PyData.eqv (.list (L.map rowD)) (.list []) = decide (L = []) := by
  cases L <;> rfl
/-- how much is left to look at -/
def wt (r : List Nat) : Nat := 19 ^ (101 - r.length)
def wts (L : List (List Nat)) : Nat := (L.map wt).sum
theorem wts_app {L M : List (List Nat)} : wts (L ++ M) = wts L + wts M := by
  unfold wts
  rw [List.map_append, List.sum_append]
theorem wts_push {r : List Nat} (hr : r.length ≤ 100) : ∀ {l : List Nat}, l.length ≤ 18 → wts (l.map fun x => r ++ [x]) < wt r := by
  have key : ∀ l : List Nat, wts (l.map fun x => r ++ [x]) = l.length * 19 ^ (100 - r.length) := fun l => by
    induction l with
    | nil => simp [wts]
    | cons x l ih =>
      have e : wts ((x :: l).map fun x => r ++ [x]) = wt (r ++ [x]) + wts (l.map fun x => r ++ [x]) := rfl
      rw [e, ih, List.length_cons, Nat.succ_mul]
      unfold wt
      rw [List.length_append, List.length_singleton]
      have : 101 - (r.length + 1) = 100 - r.length := by omega
      rw [this]
      omega
  intro l hl
  rw [key]
  unfold wt
  have e : 101 - r.length = (100 - r.length) + 1 := by omega
  rw [e, Nat.pow_succ]
  have hp : 0 < 19 ^ (100 - r.length) := Nat.pow_pos (by decide)
  have := Nat.mul_le_mul_right (19 ^ (100 - r.length)) hl
  omega
structure RowsOk (N : Nat) (L : List (List Nat)) : Prop where
  nd : ∀ r, r ∈ L → r.Nodup
  lt : ∀ r, r ∈ L → ∀ x, x ∈ r → x < N
  ne : ∀ r, r ∈ L → ∃ u, r.getLast? = some u
  pos : ∀ (i : Nat) r, L[i]? = some r → i ≤ 18 * (r.length - 1)
abbrev WinT (T : List (List Nat)) (rim : Nat) (Q P U r : List Nat) : Prop := K13.Win (K13.adj1 T) (fun j => rim < j) Q P U r
abbrev LinkT (T : List (List Nat)) (rim : Nat) (Q P U : List Nat) : Prop := K13.LinkU (K13.adj1 T) (fun j => rim < j) Q P U
def spSearch (K : PySem.W.Frag) (lv : Nat) : Sp := fun vs H Q _ => ∃ (D h t u : Addr) (rim : Nat) (T J : List (List Nat)) (A B U : List Nat), vs = [.ref D, .int (rim : Int), .ref h, .ref t, .ref u] ∧ JnV K H D J ∧ JnOk T J ∧ T.length < 100 ∧ rim ≤ T.length ∧ SqL K H h (nats A) ∧ SqL K H t (nats B) ∧ H u = some (.lst (nats U)) ∧
  A.length < lv ∧ (∀ p, p ∈ A → p ≤ rim ∧ p ∉ B) ∧ U.length + 200 * A.length ≤ 800 ∧ ∀ (b : Bool) (H' : Hp), Same H H' → (b = true ↔ LinkT T rim B A U) → Q (.bl b) H'
section
variable {P : Program} {w : World} {K : PySem.W.Frag} {mg : Str → Option Value} {base : Heap} {uS uG : Value} {aZ aO : Addr}
abbrev s_lsearch : Stmt := top 58
theorem sc_lsearch : FnScope ["_law_joins_here", "_law_rim", "_law_heads", "_law_tails", "_law_used", "_law_stack", "_law_row", "_law_there"] ["_law_joins_here", "_law_rim", "_law_heads", "_law_tails", "_law_used"] (defScope s_lsearch) := ⟨rfl, rfl, rfl, by decide +kernel, rfl, by decide +kernel, by decide +kernel⟩
theorem ok_lsearch_of {f : Addr} {fd : FuncData} {lv : Nat} (F : Fun K "_law_search" "_law_search" s_lsearch f fd) (T : Txt K mg uS uG aZ aO) (C_lsearch : Nm K mg "_law_search" ["_law_joins_here", "_law_rim", "_law_heads", "_law_tails", "_law_used"] f fd)
    (G_lsearch : FnOk P w K mg base CX0 lv f fd ["_law_joins_here", "_law_rim", "_law_heads", "_law_tails", "_law_used"] (spSearch K lv)) : FnOk P w K mg base CX0 (lv + 1) f fd ["_law_joins_here", "_law_rim", "_law_heads", "_law_tails", "_law_used"] (spSearch K (lv + 1)) := by
  refine F.ok sc_lsearch (fun vs H Q E h => ?_) (fun cdv A outer s H vs Q E hr h => ?_)
  · obtain ⟨D, h, t, u, rim, T0, J, A, B, U, rfl, _⟩ := h
    rfl
  · obtain ⟨D, hA, tA, uA, rim, T0, J, HA, TB, U, rfl, hJ, jo, hN, hrim, hH, hT, hU, hlv, hp, hUl, k⟩ := h
    have nd := sc_lsearch.nd
    refine ⟨_,
      (pss_cons
        (ps_if (pt_cmpR (op_eqD hr.units) (pv 2) (pe_lst pa_nil) (nomark _))
          (pss_one
            (ps_ret pe_bl))
          pss_nil)
      (pss_cons
        (ps_set (i := 5) nd rfl (by first | exact Or.inl rfl | exact Or.inr rfl) (pe_lst (pa_cons (pe_lst (pa_cons (pe_ix ix_list (pv 2) pe_int (fun _ _ => rfl)) pa_nil)) pa_nil)))
      (pss_cons
        (ps_while PassesOwn.never (pt_cmpR (op_neD hr.units) (pv 5) (pe_lst pa_nil) (nomark _))
          (pss_cons
            (ps_set (i := 6) nd rfl (by first | exact Or.inl rfl | exact Or.inr rfl) (pe_bm0 PySem.F.plainAttrs_list PySem.F.slot_list_pop PySem.F.type_list_pop mt_pop (pv 5)))
          (pss_one
            (ps_for PassesOwn.never rfl (pi_list (pe_ix ix_list (pv 0) (pe_ix ix_list (pv 6) (pe_un un_neg pe_int) (fun _ _ => rfl)) (fun _ _ => rfl))) (pg_name (i := 7) nd rfl (by first | exact Or.inl rfl | exact Or.inr rfl))
              (pss_one
                (ps_if (PW.pt (pw_and (pt_cmpR op_notIn_seq (pv 7) (pv 6) (by rfl)) (pw_and1 (pt_cmpR op_notIn_seq (pv 7) (pv 4) (by rfl)))))
                  (pss_one
                    (ps_if (pt_cmpR op_in_seq (pv 7) (pv 3) (by rfl))
                      (pss_one
                        (ps_if (pt_val (pe_call G_lsearch hr rfl C_lsearch.m C_lsearch.kp C_lsearch.b .nil pass0 (pa_cons (pv 0) (pa_cons (pv 1) (pa_cons (pe_slice sl_list (pv 2) (po_some pe_int) po_none) (pa_cons (pv 3) (pa_cons (pe_op op_cat (pe_op op_cat (pv 4) (pv 6)) (pe_lst (pa_cons (pv 7) pa_nil))) pa_nil)))))))
                          (pss_one
                            (ps_ret pe_bl))
                          pss_nil))
                      (pss_one
                        (ps_if (pt_cmpR op_gt (pv 7) (pv 1) (nomark _))
                          (pss_one
                            (ps_expr (pe_bm PySem.F.plainAttrs_list PySem.F.slot_list_append PySem.F.type_list_append mt_append (pv 5) (pa_cons (pe_op op_cat (pv 6) (pe_lst (pa_cons (pv 7) pa_nil))) pa_nil))))
                          pss_nil))))
                  pss_nil))))))
      (pss_one
        (ps_ret pe_bl))))), ?_⟩
    refine ⟨_, rfl, (by show 0 ≤ sizeLine; decide), fun q0 hq0 => ?_⟩
    have s0 : Same H (upd H q0 (.lst [])) := same_new hq0
    refine ⟨_, _, .lst (s0.seq hH) (dp_nats _), .lst (SqL.of upd_same) .nil, shaped_nats _, rfl, _, rfl, ?_⟩
    rw [eqv_nil]
    generalize upd H q0 (.lst []) = H0 at s0
    cases HA with
    | nil =>
      rw [decide_eq_true rfl]
      exact iteT (k true H0 s0 ⟨fun _ => .nil, fun _ => rfl⟩)
    | cons p P' =>
    rw [decide_eq_false (by simp)]
    refine iteF ?_
    have hp1 := (hp p List.mem_cons_self).1
    have hp2 := (hp p List.mem_cons_self).2
    have hJl := jo.len
    refine ⟨_, rfl, hA, _, _, _, rfl, rfl, s0.seq hH, at_of (j := 0) rfl rfl, (by show 1 ≤ sizeLine; decide), fun q1 hq1 => ⟨(by show 1 ≤ sizeLine; decide), fun S hS0 => ?_⟩⟩
    have s1 : Same H0 (upd H0 q1 (.lst [.int (p : Int)])) := same_new hq1
    have hqS : q1 ≠ S := fun e => by rw [← e, upd_same] at hS0; cases hS0
    have hSn : H S = none := (s0.trans s1).free hS0
    have s2 : Same H (upd (upd H0 q1 (.lst [.int (p : Int)])) S (.lst [.ref q1])) := (s0.trans s1).trans (same_new hS0)
    have r2 : RV (upd (upd H0 q1 (.lst [.int (p : Int)])) S (.lst [.ref q1])) (Nw H S) [.ref q1] [[p]] := RV.upd (.cons ⟨s0.free hq1, hqS⟩ upd_same .nil) fun d h => h.2
    have e2 : (upd (upd H0 q1 (.lst [.int (p : Int)])) S (.lst [.ref q1])) S = some (.lst [.ref q1]) := upd_same
    generalize upd (upd H0 q1 (.lst [.int (p : Int)])) S (.lst [.ref q1]) = H2 at s2 r2 e2
    have win0 : (∃ r, r ∈ [[p]] ∧ WinT T0 rim TB P' U r) ↔ LinkT T0 rim TB (p :: P') U := by
      have h := K13.win_start (adj := K13.adj1 T0) (inn := fun j => rim < j) (tails := TB) (P := P') (U := U) (p := p) hp2 (by omega)
      constructor
      · rintro ⟨r, hr, hw⟩
        rw [List.mem_singleton.mp hr] at hw
        exact h.mp hw
      · intro hl
        exact ⟨[p], by simp, h.mpr hl⟩
    refine ⟨fun m σ H3 => ∃ (vs : List V) (L : List (List Nat)) (v6 v7 : Option V), m = wts L ∧ σ = [some (.ref D), some (.int (rim : Int)), some (.ref hA), some (.ref tA), some (.ref uA), some (.ref S), v6, v7] ∧ Same H H3 ∧ H3 S = some (.lst vs) ∧ RV H3 (Nw H S) vs L ∧ RowsOk J.length L ∧
        ((∃ r, r ∈ L ∧ WinT T0 rim TB P' U r) ↔ LinkT T0 rim TB (p :: P') U),
      ⟨_, _, _, none, none, rfl, rfl, s2, e2, r2, ⟨fun r h => by rw [List.mem_singleton.mp h]; simp, fun r h x hx => by rw [List.mem_singleton.mp h] at hx; rw [List.mem_singleton.mp hx]; omega, fun r h => by rw [List.mem_singleton.mp h]; exact ⟨p, rfl⟩, fun i r h => by have := (List.getElem?_eq_some_iff.mp h).1; rw [List.length_singleton] at this; omega⟩, win0⟩, ?_⟩
    clear win0 e2 r2 s2
    rintro m σ H3 ⟨vs, L, v6, v7, rfl, rfl, s3, hS, rv, ro, win⟩
    refine ⟨_, rfl, (by show 0 ≤ sizeLine; decide), fun q2 hq2 => ?_⟩
    have s4 : Same H3 (upd H3 q2 (.lst [])) := same_new hq2
    refine ⟨_, _, .lst (SqL.of (s4 _ _ hS)) (dp_rows (rv.mono s4)), .lst (SqL.of upd_same) .nil, shaped_rows _, rfl, _, rfl, ?_⟩
    rw [eqv_rows]
    have hS := s4 _ _ hS
    have rv := rv.mono s4
    have s3 := s3.trans s4
    generalize upd H3 q2 (.lst []) = H4 at s4 hS rv s3
    by_cases hL : L = []
    · subst hL
      rw [decide_eq_true rfl]
      refine iteF (k false H4 s3 ⟨fun h => (by cases h), fun h => ?_⟩)
      obtain ⟨r, hr, _⟩ := win.mpr h
      cases hr
    · rw [decide_eq_false hL]
      refine iteT ⟨fun σ' H' => ∃ m', m' < wts L ∧ ∃ (vs : List V) (L : List (List Nat)) (v6 v7 : Option V), m' = wts L ∧ σ' = [some (.ref D), some (.int (rim : Int)), some (.ref hA), some (.ref tA), some (.ref uA), some (.ref S), v6, v7] ∧ Same H H' ∧ H' S = some (.lst vs) ∧ RV H' (Nw H S) vs L ∧ RowsOk J.length L ∧
        ((∃ r, r ∈ L ∧ WinT T0 rim TB P' U r) ↔ LinkT T0 rim TB (p :: P') U), fun _ _ h => h, ?_⟩
      obtain ⟨vs', d, L', row, rfl, rfl, hdN, hd, rv'⟩ := rv.snoc hL
      refine ⟨_, rfl, .inl ⟨rfl, _, SqL.of hS⟩, S, _, .ref d, rfl, rfl, hS, by simp, ?_⟩
      have eDrop : (vs' ++ [V.ref d]).dropLast = vs' := List.dropLast_concat
      rw [eDrop]
      have s5 : Same H (upd H4 S (.lst vs')) := same_upd s3 hSn
      have e5 : (upd H4 S (.lst vs')) S = some (.lst vs') := upd_same
      have r5 : RV (upd H4 S (.lst vs')) (Nw H S) vs' L' := rv'.upd fun d h => h.2
      have hd5 : (upd H4 S (.lst vs')) d = some (.lst (nats row)) := by rw [upd_ne hdN.2]; exact hd
      generalize upd H4 S (.lst vs') = H5 at s5 e5 r5 hd5
      have hmr : row ∈ L' ++ [row] := by simp
      have hrnd := ro.nd row hmr
      have hrlt := ro.lt row hmr
      obtain ⟨u, hu⟩ := ro.ne row hmr
      have hrl : row.length ≤ 100 := by
        have := few_nodup hrnd hrlt
        omega
      have hul := hrlt u (List.mem_of_getLast? hu)
      obtain ⟨jvs, hj1, hj2, hj3⟩ := id hJ
      have hj1 := s5.seq hj1
      obtain ⟨xj, hxj⟩ : ∃ x, jvs[u]? = some x := ⟨_, List.getElem?_eq_getElem (by omega)⟩
      obtain ⟨tj, htj⟩ : ∃ t, J[u]? = some t := ⟨_, List.getElem?_eq_getElem hul⟩
      obtain ⟨dj, rfl, hdjH⟩ := hj3 u xj tj hxj htj
      have hdj := SqL.of (K := K) (s5 _ _ hdjH)
      have djS : dj ≠ S := fun e => by rw [e, hSn] at hdjH; cases hdjH
      have htl := jo.few u tj htj
      have hadj : ∀ v, v ∈ tj ↔ K13.adj1 T0 u v := fun v => jo.mem u tj v htj
      refine ⟨_, rfl, _, rfl, _, rfl, d, _, _, _, rfl, rfl, SqL.of hd5, atI_last (nats_last hu), D, _, _, _, rfl, rfl, hj1, at_of (j := u) rfl hxj, dj, rfl, ⟨_, hdj⟩, ?_⟩
      have kill : LinkT T0 rim TB (p :: P') U → True := fun _ => trivial
      refine for_list (K := K) (a := dj) (xs := nats tj) (fun i σ H6 => ∃ (ws : List V) (v7 : Option V), σ = [some (.ref D), some (.int (rim : Int)), some (.ref hA), some (.ref tA), some (.ref uA), some (.ref S), some (.ref d), v7] ∧ Same H H6 ∧ Same H5 H5 ∧ SqL K H6 dj (nats tj) ∧ H6 S = some (.lst ws) ∧
          RV H6 (Nw H S) ws (L' ++ ((tj.take i).filter fun y => decide (y ∉ row ∧ y ∉ U ∧ y ∉ TB ∧ rim < y)).map fun y => row ++ [y]) ∧ H6 d = some (.lst (nats row)) ∧
          ∀ y, y ∈ tj.take i → y ∉ row → y ∉ U → y ∈ TB → ¬ LinkT T0 rim TB P' (U ++ row ++ [y]))
        ⟨vs', _, rfl, s5, Same.refl _, hdj, e5, by rw [List.take_zero, List.filter_nil, List.map_nil, List.append_nil]; exact r5, hd5, fun y h => by rw [List.take_zero] at h; cases h⟩ (fun i σ H6 _ ⟨_, _, _, _, _, h, _⟩ => h) ?_ ?_
      · rintro i x σ H6 hx ⟨ws, v7, rfl, s6, _, hdj6, hS6, rv6, hd6, no6⟩
        obtain ⟨y, hy, rfl⟩ := nats_get hx
        have hwl := rv6.len
        have hJ6 := hJ.mono s6
        have hU6 := s6 _ _ hU
        have hT6 := s6.seq hT
        have hH6 := s6.seq hH
        have ya := (hadj y).mp (List.mem_of_getElem? hy)
        have eP : ((tj.take (i + 1)).filter fun y => decide (y ∉ row ∧ y ∉ U ∧ y ∉ TB ∧ rim < y)).map (fun y => row ++ [y]) = ((tj.take i).filter fun y => decide (y ∉ row ∧ y ∉ U ∧ y ∉ TB ∧ rim < y)).map (fun y => row ++ [y]) ++ (if (y ∉ row ∧ y ∉ U ∧ y ∉ TB ∧ rim < y) then [row ++ [y]] else []) := by
          rw [filt_one hy, List.map_append]
          congr 1
          by_cases q : (y ∉ row ∧ y ∉ U ∧ y ∉ TB ∧ rim < y)
          · rw [if_pos q, if_pos (decide_eq_true q)]
            rfl
          · rw [if_neg q, if_neg (fun h => q (of_decide_eq_true h))]
            rfl
        have e1 : (if true = true then !inV (V.int (y : Int)) (nats row) else inV (V.int (y : Int)) (nats row)) = decide (y ∉ row) := by
          rw [if_pos rfl, inV_nats]
          by_cases q : y ∈ row <;> simp [q]
        have e2 : (if true = true then !inV (V.int (y : Int)) (nats U) else inV (V.int (y : Int)) (nats U)) = decide (y ∉ U) := by
          rw [if_pos rfl, inV_nats]
          by_cases q : y ∈ U <;> simp [q]
        have e3 : (if false = true then !inV (V.int (y : Int)) (nats TB) else inV (V.int (y : Int)) (nats TB)) = decide (y ∈ TB) := by
          rw [if_neg (by decide), inV_nats]
        have stay : ∀ (H7 : Hp), Same H6 H7 → ¬ (y ∉ row ∧ y ∉ U ∧ y ∉ TB ∧ rim < y) → (y ∉ row → y ∉ U → y ∈ TB → ¬ LinkT T0 rim TB P' (U ++ row ++ [y])) →
            ∃ (ws : List V) (v7 : Option V), [some (V.ref D), some (V.int (rim : Int)), some (V.ref hA), some (V.ref tA), some (V.ref uA), some (V.ref S), some (V.ref d), some (V.int (y : Int))] = [some (V.ref D), some (V.int (rim : Int)), some (V.ref hA), some (V.ref tA), some (V.ref uA), some (V.ref S), some (V.ref d), v7] ∧ Same H H7 ∧ Same H5 H5 ∧ SqL K H7 dj (nats tj) ∧ H7 S = some (.lst ws) ∧
              RV H7 (Nw H S) ws (L' ++ ((tj.take (i + 1)).filter fun y => decide (y ∉ row ∧ y ∉ U ∧ y ∉ TB ∧ rim < y)).map fun y => row ++ [y]) ∧ H7 d = some (.lst (nats row)) ∧
              ∀ y, y ∈ tj.take (i + 1) → y ∉ row → y ∉ U → y ∈ TB → ¬ LinkT T0 rim TB P' (U ++ row ++ [y]) := fun H7 s7 hc hn => by
          refine ⟨ws, _, rfl, s6.trans s7, Same.refl _, s7.seq hdj6, s7 _ _ hS6, ?_, s7 _ _ hd6, fun z hz h1 h2 h3 => ?_⟩
          · rw [eP, if_neg hc, List.append_nil]
            exact rv6.mono s7
          · rw [take_one hy] at hz
            rcases List.mem_append.mp hz with hz | hz
            · exact no6 z hz h1 h2 h3
            · have := List.mem_singleton.mp hz
              subst this
              exact hn h1 h2 h3
        refine ⟨_, rfl, _, rfl, d, _, rfl, .inl (SqL.of hd6), rfl, nats_flat _, _, rfl, ?_⟩
        rw [e1]
        by_cases q1 : y ∈ row
        · rw [decide_eq_false (fun h => h q1)]
          exact iteF (stay H6 (Same.refl _) (fun h => h.1 q1) fun h => absurd q1 h)
        rw [decide_eq_true q1]
        refine iteT ?_
        refine ⟨_, rfl, _, rfl, uA, _, rfl, .inl (SqL.of hU6), rfl, nats_flat _, _, rfl, ?_⟩
        rw [e2]
        by_cases q2 : y ∈ U
        · rw [decide_eq_false (fun h => h q2)]
          exact iteF (stay H6 (Same.refl _) (fun h => h.2.1 q2) fun _ h => absurd q2 h)
        rw [decide_eq_true q2]
        refine iteT ?_
        refine ⟨_, rfl, _, rfl, tA, _, rfl, .inl hT6, rfl, nats_flat _, _, rfl, ?_⟩
        rw [e3]
        by_cases q3 : y ∈ TB
        · rw [decide_eq_true q3]
          refine iteT ?_
          have ec : cutV (nats (p :: P')) (some (1 : Int)) none = nats P' := by
            have := cut_drop (xs := nats (p :: P')) (k := 1)
            rw [nats_drop] at this
            exact this
          have hPl : P'.length < lv := by
            have := hlv
            rw [List.length_cons] at this
            omega
          rw [List.length_cons] at hUl
          refine ⟨_, rfl, _, rfl, _, rfl, _, rfl, hA, _, rfl, hH6, fun p1 hp1 => ?_⟩
          rw [ec]
          have s7 : Same H6 (upd H6 p1 (.lst (nats P'))) := same_new hp1
          have a7 : (upd H6 p1 (.lst (nats P'))) p1 = some (.lst (nats P')) := upd_same
          generalize upd H6 p1 (.lst (nats P')) = H7 at s7 a7
          refine ⟨_, rfl, _, rfl, _, rfl, uA, d, _, _, rfl, rfl, s7 _ _ hU6, s7 _ _ hd6, Nat.le_of_lt (small1000 (by rw [nats_len, nats_len]; omega)), fun p2 hp2 => ?_⟩
          have s8 : Same H7 (upd H7 p2 (.lst (nats U ++ nats row))) := same_new hp2
          have a8 : (upd H7 p2 (.lst (nats U ++ nats row))) p2 = some (.lst (nats (U ++ row))) := by rw [upd_same, nats_app]
          generalize upd H7 p2 (.lst (nats U ++ nats row)) = H8 at s8 a8
          refine ⟨_, rfl, (by show 1 ≤ sizeLine; decide), fun p3 hp3 => ?_⟩
          have s9 : Same H8 (upd H8 p3 (.lst [.int (y : Int)])) := same_new hp3
          have a9 : (upd H8 p3 (.lst [.int (y : Int)])) p3 = some (.lst (nats [y])) := upd_same
          generalize upd H8 p3 (.lst [.int (y : Int)]) = H9 at s9 a9
          refine ⟨p2, p3, _, _, rfl, rfl, s9 _ _ a8, a9, Nat.le_of_lt (small1000 (by rw [nats_len, nats_len, List.length_append, List.length_singleton]; omega)), fun p4 hp4 => ?_⟩
          have s10 : Same H9 (upd H9 p4 (.lst (nats (U ++ row) ++ nats [y]))) := same_new hp4
          have a10 : (upd H9 p4 (.lst (nats (U ++ row) ++ nats [y]))) p4 = some (.lst (nats (U ++ row ++ [y]))) := by rw [upd_same, nats_app]
          generalize upd H9 p4 (.lst (nats (U ++ row) ++ nats [y])) = H10 at s10 a10
          have s710 : Same H7 H10 := (s8.trans s9).trans s10
          have s610 : Same H6 H10 := s7.trans s710
          refine ⟨D, p1, tA, p4, rim, T0, J, P', TB, U ++ row ++ [y], rfl, hJ6.mono s610, jo, hN, hrim, SqL.of (s710 _ _ a7), s610.seq hT6, a10, hPl, fun z hz => hp z (List.mem_cons_of_mem _ hz), by rw [List.length_append, List.length_append, List.length_singleton]; omega, fun b H11 s11 hb => ?_⟩
          refine ⟨_, rfl, ?_⟩
          cases b with
          | true =>
            refine iteT (k true H11 (s6.trans (s610.trans s11)) ⟨fun _ => win.mp ⟨row, hmr, (K13.win_iff hu).mpr ⟨y, ya, q1, q2, .inl ⟨q3, hb.mp rfl⟩⟩⟩, fun _ => rfl⟩)
          | false =>
            exact iteF (stay H11 (s610.trans s11) (fun h => h.2.2.1 q3) fun _ _ _ h => by have := hb.mpr h; cases this)
        rw [decide_eq_false q3]
        refine iteF ?_
        refine ⟨_, rfl, _, rfl, _, _, rfl, rfl, _, rfl, ?_⟩
        by_cases q4 : rim < y
        · have q4' : (y : Int) > (rim : Int) := by omega
          rw [decide_eq_true q4']
          refine iteT ?_
          refine ⟨_, rfl, .inl ⟨rfl, _, SqL.of hS6⟩, _, rfl, _, rfl, (by show 1 ≤ sizeLine; decide), fun p1 hp1 => ?_⟩
          have s7 : Same H6 (upd H6 p1 (.lst [.int (y : Int)])) := same_new hp1
          have a7 : (upd H6 p1 (.lst [.int (y : Int)])) p1 = some (.lst (nats [y])) := upd_same
          generalize upd H6 p1 (.lst [.int (y : Int)]) = H7 at s7 a7
          refine ⟨d, p1, _, _, rfl, rfl, s7 _ _ hd6, a7, Nat.le_of_lt (small1000 (by rw [nats_len, nats_len]; show row.length + 1 ≤ 1000; omega)), fun p2 hp2 => ?_⟩
          have s8 : Same H7 (upd H7 p2 (.lst (nats row ++ nats [y]))) := same_new hp2
          have a8 : (upd H7 p2 (.lst (nats row ++ nats [y]))) p2 = some (.lst (nats (row ++ [y]))) := by rw [upd_same, nats_app]
          have hpS : p2 ≠ S := fun e => by rw [e, s7 _ _ hS6] at hp2; cases hp2
          have hp2n : H p2 = none := (s6.trans s7).free hp2
          generalize upd H7 p2 (.lst (nats row ++ nats [y])) = H8 at s8 a8
          have s68 := s7.trans s8
          have hpos := ro.pos L'.length row (by simp)
          have hfl := List.length_filter_le (fun y => decide (y ∉ row ∧ y ∉ U ∧ y ∉ TB ∧ rim < y)) (tj.take i)
          have hwb : ws.length < 4000 := by
            rw [hwl, List.length_append, List.length_map]
            have : (tj.take i).length ≤ 18 := by rw [List.length_take]; omega
            omega
          refine ⟨S, ws, _, rfl, rfl, s68 _ _ hS6, Nat.lt_of_lt_of_le hwb (by decide), ws ++ [.ref p2], _, rfl, same_upd (s6.trans s68) hSn, Same.refl _, ?_, upd_same, ?_, ?_, fun z hz h1 h2 h3 => ?_⟩
          · exact SqL.upd (s68.seq hdj6) djS
          · rw [eP, if_pos ⟨q1, q2, q3, q4⟩, ← List.append_assoc]
            exact RV.upd (RV.app (rv6.mono s68) (.cons ⟨hp2n, hpS⟩ a8 .nil)) fun d h => h.2
          · rw [upd_ne hdN.2]
            exact s68 _ _ hd6
          · rw [take_one hy] at hz
            rcases List.mem_append.mp hz with hz | hz
            · exact no6 z hz h1 h2 h3
            · rw [List.mem_singleton.mp hz] at h3
              exact absurd h3 q3
        · have q4' : ¬ (y : Int) > (rim : Int) := by omega
          rw [decide_eq_false q4']
          exact iteF (stay H6 (Same.refl _) (fun h => q4 h.2.2.2) fun _ _ h => absurd h q3)
      · rintro σ H6 ⟨ws, v7, rfl, s6, _, hdj6, hS6, rv6, hd6, no6⟩
        rw [nats_len, List.take_length] at rv6 no6
        refine ⟨_, ?_, ws, _, _, _, rfl, rfl, s6, hS6, rv6, ?_, ?_⟩
        · rw [wts_app, wts_app]
          have hw := wts_push hrl (l := tj.filter fun y => decide (y ∉ row ∧ y ∉ U ∧ y ∉ TB ∧ rim < y)) (Nat.le_trans (List.length_filter_le _ _) htl)
          have e1 : wts [row] = wt row := by simp [wts]
          omega
        · have lo : ∀ r, r ∈ L' → r ∈ L' ++ [row] := fun r h => List.mem_append_left _ h
          have hi : ∀ r, r ∈ L' ++ (tj.filter fun y => decide (y ∉ row ∧ y ∉ U ∧ y ∉ TB ∧ rim < y)).map (fun y => row ++ [y]) → r ∈ L' ∨ ∃ y, y ∈ tj ∧ y ∉ row ∧ r = row ++ [y] := fun r h => by
            rcases List.mem_append.mp h with h | h
            · exact .inl h
            · obtain ⟨y, hy, rfl⟩ := List.mem_map.mp h
              obtain ⟨h1, h2⟩ := List.mem_filter.mp hy
              exact .inr ⟨y, h1, (of_decide_eq_true h2).1, rfl⟩
          refine ⟨fun r h => ?_, fun r h x hx => ?_, fun r h => ?_, fun i r h => ?_⟩
          · rcases hi r h with h | ⟨y, h1, h2, rfl⟩
            · exact ro.nd r (lo r h)
            · rw [List.nodup_append]
              exact ⟨hrnd, by simp, fun a ha b hb e => h2 (by rw [← List.mem_singleton.mp hb, ← e]; exact ha)⟩
          · rcases hi r h with h | ⟨y, h1, h2, rfl⟩
            · exact ro.lt r (lo r h) x hx
            · rcases List.mem_append.mp hx with hx | hx
              · exact hrlt x hx
              · rw [List.mem_singleton.mp hx]
                obtain ⟨a, b, _, rfl, _, _, _, t, _, e2, _, _⟩ := (hadj y).mp h1
                have := (List.getElem?_eq_some_iff.mp e2).1
                omega
          · rcases hi r h with h | ⟨y, h1, h2, rfl⟩
            · exact ro.ne r (lo r h)
            · exact ⟨y, List.getLast?_concat⟩
          · by_cases q : i < L'.length
            · rw [List.getElem?_append_left q] at h
              exact ro.pos i r (by rw [List.getElem?_append_left q]; exact h)
            · rw [List.getElem?_append_right (by omega)] at h
              have hpos := ro.pos L'.length row (by simp)
              have hj := (List.getElem?_eq_some_iff.mp h).1
              obtain ⟨y, hy, rfl⟩ := List.mem_map.mp (List.mem_of_getElem? h)
              have hfl := List.length_filter_le (fun y => decide (y ∉ row ∧ y ∉ U ∧ y ∉ TB ∧ rim < y)) tj
              have hr1 : 1 ≤ row.length := by
                rcases Nat.eq_zero_or_pos row.length with z | z
                · rw [List.length_eq_zero_iff.mp z] at hu
                  cases hu
                · exact z
              rw [List.length_map] at hj
              rw [List.length_append, List.length_singleton]
              omega
        · rw [← win]
          have wi := K13.win_iff (adj := K13.adj1 T0) (inn := fun j => rim < j) (tails := TB) (P := P') (U := U) hu
          constructor
          · rintro ⟨r, hr, hw⟩
            rcases List.mem_append.mp hr with hr | hr
            · exact ⟨r, List.mem_append_left _ hr, hw⟩
            · obtain ⟨y, hy, rfl⟩ := List.mem_map.mp hr
              obtain ⟨h1, h2⟩ := List.mem_filter.mp hy
              obtain ⟨h3, h4, h5, h6⟩ := of_decide_eq_true h2
              exact ⟨row, by simp, wi.mpr ⟨y, (hadj y).mp h1, h3, h4, .inr ⟨h5, h6, hw⟩⟩⟩
          · rintro ⟨r, hr, hw⟩
            rcases List.mem_append.mp hr with hr | hr
            · exact ⟨r, List.mem_append_left _ hr, hw⟩
            · rw [List.mem_singleton.mp hr] at hw
              obtain ⟨y, h1, h3, h4, ⟨h5, h6⟩ | ⟨h5, h6, h7⟩⟩ := wi.mp hw
              · exact absurd h6 (no6 y ((hadj y).mpr h1) h3 h4 h5)
              · exact ⟨row ++ [y], List.mem_append_right _ (List.mem_map.mpr ⟨y, List.mem_filter.mpr ⟨(hadj y).mpr h1, decide_eq_true ⟨h3, h4, h5, h6⟩⟩, rfl⟩), h7⟩
theorem ok_lsearch {f : Addr} {fd : FuncData} (F : Fun K "_law_search" "_law_search" s_lsearch f fd) (T : Txt K mg uS uG aZ aO) (C_lsearch : Nm K mg "_law_search" ["_law_joins_here", "_law_rim", "_law_heads", "_law_tails", "_law_used"] f fd) :
    FnOk P w K mg base CX0 4 f fd ["_law_joins_here", "_law_rim", "_law_heads", "_law_tails", "_law_used"] (spSearch K 4) :=
  ok_lsearch_of F T C_lsearch (ok_lsearch_of F T C_lsearch (ok_lsearch_of F T C_lsearch (ok_lsearch_of F T C_lsearch (ok_none.imp fun vs H Q E h => by
    obtain ⟨_, _, _, _, _, _, _, _, _, _, _, _, _, _, _, _, _, _, h, _⟩ := h
    exact absurd h (Nat.not_lt_zero _)))))
end
end W13
namespace W13
open PySem PySem.Spec PyProof.Rows L2
/-! ## xs.extend(t) with a tuple t -/
theorem ext_tup (l b : Addr) (xs ys : Array Value) (n m : Nat) (dd : Option Addr) (sl : Array (Option Value)) (fit : ¬ (!xs.isEmpty && Builtin.List.listTooLong (xs.size + ys.size)) = true) (z1 : xs.size ≤ sizeLine) (z2 : xs.size + ys.size ≤ sizeLine + 1) :
    Meets (Builtin.«list.extend» ⟨[.ref l, .ref b], []⟩) (fun _ R s => s.heap.get? l = some ⟨.type "list", none, .seq xs n, #[]⟩ ∧ s.heap.get? b = some ⟨.type "tuple", dd, .seq ys m, sl⟩ ∧ R (.ok (.ret .none)) { s with heap := s.heap.update l (Obj.mapSeq fun q => q ++ ys), toks := s.toks }) :=
  .of_wp fun prog w A R s h => by
    obtain ⟨hp, g, d, tk, os⟩ := s
    obtain ⟨q1, q2, q3⟩ := h
    have z3 : (xs ++ ys).size ≤ sizeLine + 1 := by rw [Array.size_append]; exact z2
    have f1 := AutoSeq1.idx_int
    have f2 := AutoSeq1.sub_tuple_tuple
    have f3 := AutoSeq1.sub_list_list
    have f4 := AutoSeq1.sub_tuple_list
    have f5 := AutoSeq1.sub_list_tuple
    wp_walk using (wpAny_updateSeq q1 rfl (hz := z1) (_hz' := z3)), AutoSeq1.wpAny_loadPart' q1, AutoSeq1.wpAny_loadPart' q2
    exact ⟨_, rfl, q3⟩
def rExtT (K : PySem.W.Frag) : V → List V → Hp → VK → Prop := fun x vs H Q => ∃ (l b : Addr) (xs zs : List V), x = .ref l ∧ vs = [.ref b] ∧ H l = some (.lst xs) ∧ SqT K H b zs ∧ xs.length + zs.length ≤ sizeLine ∧ Q .non (upd H l (.lst (xs ++ zs)))
theorem mt_extT {X : Cx} : MtM X "list.extend" (rExtT X.K) := by
  intro pins s σ H x vs v us Q I rx rv h
  obtain ⟨l, b, xs, zs, rfl, rfl, hl, hb, hz, q⟩ := h
  cases rx
  obtain ⟨u, rfl, ru⟩ := rv.one
  cases ru
  obtain ⟨z, its, n, r, len, e⟩ := I.lstM hl
  obtain ⟨its2, r2, ⟨⟨c2, dd, dt, sl⟩, ho, hc, m, hd⟩, hz2⟩ := I.tuple hb
  simp only at hc hd
  subst hc hd
  have l2 := r2.length
  have tot : its.toArray.size + its2.toArray.size ≤ sizeLine := by
    rw [List.size_toArray, List.size_toArray]
    omega
  have fit : ¬ (!its.toArray.isEmpty && Builtin.List.listTooLong (its.toArray.size + its2.toArray.size)) = true := by
    rw [notLongL tot, Bool.and_false]
    decide
  have one : its.toArray.size ≤ sizeLine := by omega
  refine call_meets PySem.F.slot_list_extend ⟨_, e, rfl⟩ PySem.F.entry_list_extend (PySem.F.args_list_extend_2 _ _) (ext_tup l b its.toArray its2.toArray n m dd sl fit one (by omega)) ⟨e, ho, ?_⟩
  refine ⟨.non, _, I.lset (its' := its ++ its2) hl e (by simp) (r.append r2) ?_, rfl, q⟩
  rw [List.length_append]
  exact hz
end W13
namespace W13
open PySem L2
/-! ## the ways are right -/
theorem cut_mid {xs : List V} (h : 2 ≤ xs.length) : cutV xs (some 1) (some (-1)) = (xs.drop 1).take (xs.length - 2) := by
  have a : HT.sIx xs.length 0 (some 1) = 1 := by
    have := HT.sIx_nat xs.length 0 1
    rw [show ((1 : Nat) : Int) = 1 from rfl] at this
    rw [this]
    omega
  have b : HT.sIx xs.length xs.length (some (-1)) = xs.length - 1 := by
    show (if (-1 : Int) < 0 then ((-1 : Int) + (xs.length : Int)).toNat else min (-1 : Int).toNat xs.length) = _
    rw [if_pos (by decide)]
    omega
  unfold cutV
  rw [a, b]
  congr 1
theorem flat_take {W : List (List Nat)} {i : Nat} {t : List Nat} (h : W[i]? = some t) : (W.take (i + 1)).flatten = (W.take i).flatten ++ t := by
  rw [take_one h, List.flatten_append]
  simp
def spRight (K : PySem.W.Frag) : Sp := fun vs H Q _ => ∃ (D h t f : Addr) (rim : Nat) (T J : List (List Nat)) (A B : List Nat) (ws : List V) (W : List (List Nat)), vs = [.ref D, .int (rim : Int), .ref h, .ref t, .ref f] ∧ JnV K H D J ∧ JnOk T J ∧ SqT K H h (nats A) ∧ SqT K H t (nats B) ∧ SqT K H f ws ∧
  ws.length = A.length ∧ W.length = A.length ∧ A.length ≤ 3 ∧ (∀ (i : Nat) x l, ws[i]? = some x → W[i]? = some l → ∃ d, x = .ref d ∧ SqT K H d (nats l)) ∧ (∀ (i a : Nat) (l : List Nat), A[i]? = some a → W[i]? = some l → K13.Good (K13.adj1 T) (fun j => rim < j) B a l) ∧
  W.flatten.Nodup ∧ W.flatten.length ≤ 1000 ∧ (∀ l x, l ∈ W → x ∈ l → x < J.length) ∧ ∀ H', Same H H' → Q (.bl true) H'
section
variable {P : Program} {w : World} {K : PySem.W.Frag} {mg : Str → Option Value} {base : Heap} {uS uG : Value} {aZ aO : Addr}
abbrev s_lright : Stmt := top 59
theorem sc_lright : FnScope ["_law_joins_here", "_law_rim", "_law_heads", "_law_tails", "_law_found", "_law_seen", "_law_k", "_law_way", "_law_node", "_law_j"] ["_law_joins_here", "_law_rim", "_law_heads", "_law_tails", "_law_found"] (defScope s_lright) := ⟨rfl, rfl, rfl, by decide +kernel, rfl, by decide +kernel, by decide +kernel⟩
theorem ok_lright {f : Addr} {fd : FuncData} (F : Fun K "_law_right" "_law_right" s_lright f fd) (T : Txt K mg uS uG aZ aO) : FnOk P w K mg base CX0 1 f fd ["_law_joins_here", "_law_rim", "_law_heads", "_law_tails", "_law_found"] (spRight K) := by
  refine F.ok sc_lright (fun vs H Q E h => ?_) (fun cdv A outer s H vs Q E hr h => ?_)
  · obtain ⟨D, h, t, f, rim, T0, J, A, B, ws, W, rfl, _⟩ := h
    rfl
  · obtain ⟨D, hA, tA, fA, rim, T0, J, HA, TB, ws, W, rfl, hJ, jo, hH, hT, hF, hwl, hWl, h3, hwi, hgood, hnd, hfl, hlt, k⟩ := h
    have nd := sc_lright.nd
    refine ⟨_,
      (pss_cons
        (ps_if (PW.pt (pw_or (pt_not (pt_val (pe_callB call_isi (by rfl) T.isinstance (by decide +kernel) (pa_cons (pv 4) (pa_cons (pe_bltn (by rfl) T.tuple (by decide +kernel) (v := .ty "tuple") (u := .type "tuple") rfl) pa_nil))))) (pw_or1 (pt_cmpR op_ne (pe_callB call_len_seq (by rfl) T.len PySem.boot_len (pa_cons (pv 4) pa_nil)) (pe_callB call_len_seq (by rfl) T.len PySem.boot_len (pa_cons (pv 2) pa_nil)) (nomark _)))))
          (pss_one
            (ps_ret pe_bl))
          pss_nil)
      (pss_cons
        (ps_set (i := 5) nd rfl (by first | exact Or.inl rfl | exact Or.inr rfl) (pe_lst pa_nil))
      (pss_cons
        (ps_for PassesOwn.never rfl (pi_range1 rfl T.range (pa_cons (pe_callB call_len_seq (by rfl) T.len PySem.boot_len (pa_cons (pv 4) pa_nil)) pa_nil)) (pg_name (i := 6) nd rfl (by first | exact Or.inl rfl | exact Or.inr rfl))
          (pss_cons
            (ps_set (i := 7) nd rfl (by first | exact Or.inl rfl | exact Or.inr rfl) (pe_ix ix_tup (pv 4) (pv 6) (fun _ _ => rfl)))
          (pss_cons
            (ps_if (PW.pt (pw_or (pt_not (pt_val (pe_callB call_isi (by rfl) T.isinstance (by decide +kernel) (pa_cons (pv 7) (pa_cons (pe_bltn (by rfl) T.tuple (by decide +kernel) (v := .ty "tuple") (u := .type "tuple") rfl) pa_nil))))) (pw_or (pt_cmpR op_lt (pe_callB call_len_seq (by rfl) T.len PySem.boot_len (pa_cons (pv 7) pa_nil)) pe_int (nomark _)) (pw_or (pt_cmpR op_ne (pe_ix ix_tup (pv 7) pe_int (fun _ _ => rfl)) (pe_ix ix_tup (pv 2) (pv 6) (fun _ _ => rfl)) (nomark _)) (pw_or1 (pt_cmpR op_notIn_seq (pe_ix ix_tup (pv 7) (pe_un un_neg pe_int) (fun _ _ => rfl)) (pv 3) (by rfl)))))))
              (pss_one
                (ps_ret pe_bl))
              pss_nil)
          (pss_cons
            (ps_if (pt_val (pe_callB (cr_any rfl) (by rfl) T.any (by decide +kernel) (pa_cons (pe_lc (own := [("_law_node", 8)]) (g := gName 8) (te := tOp (rI0 fun i j => .bl (decide (i ≤ j))) (tVar 8) (tVar 1)) rfl nd (pi_tup (pe_slice sl_tup (pv 7) (po_some pe_int) (po_some (pe_un un_neg pe_int)))) (blkOk_by (N := ["_law_joins_here", "_law_rim", "_law_heads", "_law_tails", "_law_found", "_law_seen", "_law_k", "_law_way", "_law_node", "_law_j"]) (sc := defScope s_lright) (by decide +kernel))
      (fun _ _ _ _ _ => pg_name (i := 8) nd rfl (by first | exact Or.inl rfl | exact Or.inr rfl)) (fun _ _ _ _ _ => pts_nil)
      (fun _ _ _ _ _ => (pe_cmpR op_le (pv 8) (pv 1) (nomark _)))) pa_nil)))
              (pss_one
                (ps_ret pe_bl))
              pss_nil)
          (pss_cons
            (ps_for PassesOwn.never rfl (pi_range1 rfl T.range (pa_cons (pe_op op_sub (pe_callB call_len_seq (by rfl) T.len PySem.boot_len (pa_cons (pv 7) pa_nil)) pe_int) pa_nil)) (pg_name (i := 9) nd rfl (by first | exact Or.inl rfl | exact Or.inr rfl))
              (pss_one
                (ps_if (pt_cmpR op_notIn_seq (pe_ix ix_tup (pv 7) (pe_op op_add (pv 9) pe_int) (fun _ _ => rfl)) (pe_ix ix_list (pv 0) (pe_ix ix_tup (pv 7) (pv 9) (fun _ _ => rfl)) (fun _ _ => rfl)) (by rfl))
                  (pss_one
                    (ps_ret pe_bl))
                  pss_nil)))
          (pss_one
            (ps_expr (pe_bm PySem.F.plainAttrs_list PySem.F.slot_list_extend PySem.F.type_list_extend mt_extT (pv 5) (pa_cons (pv 7) pa_nil)))))))))
      (pss_one
        (ps_ret (pe_cmpR op_eq (RZ.pe_lenSetI (by rfl) T.len (by rfl) T.set (pv 5)) (pe_callB call_len_seq (by rfl) T.len PySem.boot_len (pa_cons (pv 5) pa_nil)) (nomark _))))))), ?_⟩
    refine ⟨_, rfl, _, _, _, _, true, rfl, .ty _, tyx_tup hF, kit_ty (by decide +kernel), ?_⟩
    refine ⟨_, rfl, iteF ?_⟩
    refine ⟨_, rfl, fA, _, rfl, .inr hF, _, rfl, hA, _, rfl, .inr hH, rfl, _, rfl, ?_⟩
    refine iteNS (by rw [nats_len, hwl]) ?_
    refine ⟨(by show 0 ≤ sizeLine; decide), fun S hS => ?_⟩
    refine ⟨_, rfl, fA, ws, rfl, .inr (Same.tup (same_new hS) hF), _, rfl, by omega, by omega, for_range (lo := 0) (n := ((ws.length : Nat) : Int).toNat) (fun i σ H2 => ∃ v6 v7 v9 : Option V, σ = [some (.ref D), some (.int (rim : Int)), some (.ref hA), some (.ref tA), some (.ref fA), some (.ref S), v6, v7, none, v9] ∧ Same H H2 ∧ H2 S = some (.lst (nats (W.take i).flatten)))
      ⟨none, none, none, rfl, same_new hS, upd_same⟩ ?_ ?_⟩
    · rintro i σ H2 hi ⟨v6, v7, v9, rfl, s2, hS2⟩
      have hi : i < HA.length := by omega
      rw [Int.zero_add]
      obtain ⟨x, hx⟩ : ∃ x, ws[i]? = some x := ⟨_, List.getElem?_eq_getElem (by omega)⟩
      obtain ⟨l, hl⟩ : ∃ x, W[i]? = some x := ⟨_, List.getElem?_eq_getElem (by omega)⟩
      obtain ⟨p, hp⟩ : ∃ x, HA[i]? = some x := ⟨_, List.getElem?_eq_getElem hi⟩
      obtain ⟨d, rfl, hd⟩ := hwi i x l hx hl
      have good := hgood i p l hp hl
      have hd2 := Same.tup s2 hd
      have hllen : l.length ≤ 1000 := Nat.le_trans (List.sublist_flatten_of_mem (List.mem_of_getElem? hl)).length_le hfl
      obtain ⟨u, hu, huB⟩ := good.last
      refine ⟨_, rfl, _, rfl, fA, _, _, _, rfl, rfl, Same.tup s2 hF, at_of (j := i) rfl hx, ?_⟩
      refine ⟨_, rfl, _, _, _, _, true, rfl, .ty _, tyx_tup hd2, kit_ty (by decide +kernel), ?_⟩
      refine ⟨_, rfl, iteF ?_⟩
      refine ⟨_, rfl, d, _, rfl, .inr hd2, _, _, rfl, rfl, _, rfl, ?_⟩
      have hl2 : ¬ ((nats l).length : Int) < 2 := by rw [nats_len]; have := good.len; omega
      rw [decide_eq_false hl2]
      refine iteF ?_
      refine ⟨_, rfl, d, _, _, _, rfl, rfl, hd2, at_of (j := 0) rfl (nats_at good.hd), _, rfl, _, rfl, hA, _, _, _, rfl, rfl, Same.tup s2 hH, at_of (j := i) rfl (nats_at hp), rfl, _, rfl, ?_⟩
      refine iteNS rfl ?_
      refine ⟨_, rfl, _, rfl, d, _, _, _, rfl, rfl, hd2, atI_last (nats_last hu), _, rfl, tA, _, rfl, .inr (Same.tup s2 hT), rfl, nats_flat _, _, rfl, ?_⟩
      have et : (if true = true then !inV (V.int (u : Int)) (nats TB) else inV (V.int (u : Int)) (nats TB)) = false := by
        rw [if_pos rfl, inV_nats, decide_eq_true huB]
        rfl
      rw [et]
      refine iteF ?_
      -- the nodes between
      refine ⟨_, rfl, _, rfl, _, rfl, _, rfl, d, _, rfl, hd2, ?_, fun q1 hq1 => ?_⟩
      · rintro ⟨z, _⟩
        have a : HT.sIx (nats l).length 0 (some 1) = min 1 (nats l).length := HT.sIx_nat (nats l).length 0 1
        rw [a] at z
        omega
      have em : cutV (nats l) (some 1) (some (-1)) = nats ((l.drop 1).take (l.length - 2)) := by
        rw [cut_mid (by omega), nats_drop, nats_take, nats_len]
      rw [em]
      have s3 : Same H2 (upd H2 q1 (.tup (nats ((l.drop 1).take (l.length - 2))))) := same_new hq1
      have e3 : SqT K (upd H2 q1 (.tup (nats ((l.drop 1).take (l.length - 2))))) q1 (nats ((l.drop 1).take (l.length - 2))) := SqT.of upd_same
      generalize upd H2 q1 (.tup (nats ((l.drop 1).take (l.length - 2)))) = H3 at s3 e3
      refine ⟨q1, rfl, ⟨_, e3⟩, fun U hU => ?_⟩
      refine lc_tup (K := K) (a := q1) (xs := nats ((l.drop 1).take (l.length - 2))) (fun j H4 => Same H3 H4 ∧ H4 U = some (.lst ((List.replicate j false).map V.bl)) ∧ j ≤ 1000) ⟨same_new hU, upd_same, Nat.zero_le _⟩ (fun j H4 _ ⟨s4, _⟩ => Same.tup s4 e3) ?_ ?_
      · rintro j x H4 hx ⟨s4, hU4, _⟩
        obtain ⟨m, hm, rfl⟩ := nats_get hx
        have hj := (List.getElem?_eq_some_iff.mp hm).1
        rw [List.length_take, List.length_drop] at hj
        rw [List.getElem?_take, if_pos (by omega), List.getElem?_drop] at hm
        have hin : rim < m := good.mid (1 + j) m (by omega) (by omega) hm
        refine ⟨rfl, ?_⟩
        refine ⟨_, rfl, _, rfl, _, _, rfl, rfl, ?_⟩
        refine ⟨_, hU4, small1000 (by rw [List.length_map, List.length_replicate]; omega), same_upd s4 hU, ?_, by omega⟩
        have hn : ¬ (m : Int) ≤ (rim : Int) := by omega
        rw [upd_same]
        show some (HO.lst ((List.replicate j false).map V.bl ++ [V.bl (decide ((m : Int) ≤ (rim : Int)))])) = _
        rw [decide_eq_false hn, List.replicate_succ', List.map_append]
        rfl
      · rintro H4 ⟨s4, hU4, _⟩
        refine ⟨U, List.replicate _ false, rfl, SqL.of hU4, _, rfl, ?_⟩
        have ea : ∀ n : Nat, (List.replicate n false).any id = false := fun n => by
          induction n with
          | zero => rfl
          | succ n ih => rw [List.replicate_succ, List.any_cons, ih]; rfl
        rw [ea]
        refine iteF ?_
        have s24 := s3.trans s4
        have s04 := s2.trans s24
        have hd4 := Same.tup s24 hd2
        have hS4 := s24 _ _ hS2
        refine ⟨_, rfl, d, _, rfl, .inr hd4, _, _, rfl, rfl, _, rfl, by rw [nats_len]; omega, by rw [nats_len]; omega, for_range (lo := 0) (n := (((nats l).length : Int) - 1).toNat) (fun j σ H5 => H5 = H4 ∧ ∃ v9 : Option V, σ = [some (.ref D), some (.int (rim : Int)), some (.ref hA), some (.ref tA), some (.ref fA), some (.ref S), some (.int (i : Int)), some (.ref d), none, v9])
          ⟨rfl, _, rfl⟩ ?_ ?_⟩
        · rintro j σ H5 hj ⟨rfl, v9, rfl⟩
          rw [nats_len] at hj
          rw [Int.zero_add]
          obtain ⟨y, hy⟩ : ∃ y, l[j]? = some y := ⟨_, List.getElem?_eq_getElem (by omega)⟩
          obtain ⟨z, hz⟩ : ∃ y, l[j + 1]? = some y := ⟨_, List.getElem?_eq_getElem (by omega)⟩
          have hyz := good.ch j y z hy hz
          have hyl := hlt l y (List.mem_of_getElem? hl) (List.mem_of_getElem? hy)
          obtain ⟨jvs, hj1, hj2, hj3⟩ := hJ.mono s04
          obtain ⟨xj, hxj⟩ : ∃ x, jvs[y]? = some x := ⟨_, List.getElem?_eq_getElem (by omega)⟩
          obtain ⟨tj, htj⟩ : ∃ t, J[y]? = some t := ⟨_, List.getElem?_eq_getElem hyl⟩
          obtain ⟨dj, rfl, hdj⟩ := hj3 y xj tj hxj htj
          refine ⟨_, rfl, _, rfl, _, _, rfl, rfl, d, _, _, _, rfl, rfl, hd4, at_of (j := j + 1) rfl (nats_at hz), _, rfl, _, rfl, _, rfl, d, _, _, _, rfl, rfl, hd4, at_of (j := j) rfl (nats_at hy), D, _, _, _, rfl, rfl, hj1, at_of (j := y) rfl hxj, dj, _, rfl, .inl (SqL.of hdj), rfl, nats_flat _, _, rfl, ?_⟩
          have et : (if true = true then !inV (V.int (z : Int)) (nats tj) else inV (V.int (z : Int)) (nats tj)) = false := by
            rw [if_pos rfl, inV_nats, decide_eq_true ((jo.mem y tj z htj).mpr hyz)]
            rfl
          rw [et]
          exact iteF ⟨rfl, _, rfl⟩
        · rintro σ H5 ⟨rfl, v9, rfl⟩
          refine ⟨_, rfl, .inl ⟨rfl, _, SqL.of hS4⟩, _, rfl, S, d, _, _, rfl, rfl, hS4, hd4, ?_, _, _, _, rfl, same_upd s04 hS, ?_⟩
          · rw [nats_len, nats_len]
            have h1 : (W.take i).flatten.length ≤ 1000 := by
              have e : W.flatten.length = (W.take i).flatten.length + (W.drop i).flatten.length := by
                rw [← List.length_append, ← List.flatten_append, List.take_append_drop]
              omega
            exact Nat.le_trans (show _ ≤ 2000 by omega) (by decide)
          · rw [upd_same, nats_app, flat_take hl]
    · rintro σ H2 ⟨v6, v7, v9, rfl, s2, hS2⟩
      have e : (W.take ((ws.length : Nat) : Int).toNat).flatten = W.flatten := by rw [List.take_of_length_le (by omega)]
      rw [e] at hS2
      refine ⟨_, rfl, S, W.flatten.map fun (m : Nat) => (m : Int), rfl, ?_, ?_, by rw [List.length_map]; omega, _, rfl, S, _, rfl, .inl (SqL.of hS2), rfl, ?_⟩
      · have : nats W.flatten = (W.flatten.map fun (m : Nat) => (m : Int)).map V.int := by
          unfold nats
          rw [List.map_map]
          rfl
        rw [← this]
        exact SqL.of hS2
      · exact List.Pairwise.map _ (fun a b (h : a ≠ b) e => h (by omega)) hnd
      · rw [List.length_map, nats_len, decide_eq_true rfl]
        exact k H2 s2
end
end W13
namespace W13
open PySem L2
/-! ## dicts with whole numbers for keys -/
def kg {β : Type} (f : β → V) (L : List (Int × β)) : List (Key × V) := L.map fun p => (Sum.inl p.1, f p.2)
def kb (ks : List Int) : List (Key × V) := ks.map fun k => (Sum.inl k, V.bl true)
theorem kg_len {β : Type} {f : β → V} {L : List (Int × β)} : (kg f L).length = L.length := by simp [kg]
theorem kb_len {ks : List Int} : (kb ks).length = ks.length := by simp [kb]
theorem valV_kg {β : Type} {f : β → V} {x : Int} {b : β} : ∀ {L : List (Int × β)}, (L.map (·.1)).Nodup → (x, b) ∈ L → valV (kg f L) (Sum.inl x : Key) = some (f b)
  | [], _, h => by cases h
  | p :: L, nd, h => by
    obtain ⟨n1, n2⟩ := List.nodup_cons.mp nd
    rcases List.mem_cons.mp h with h | h
    · subst h
      exact valV_pos (p := ((Sum.inl x : Key), f b)) rfl
    · have hx : x ∈ L.map (·.1) := List.mem_map.mpr ⟨_, h, rfl⟩
      have hne : ¬ ((Sum.inl p.1 : Key) = Sum.inl x) := fun e => n1 (by have h9 : p.1 = x := Sum.inl.inj e; show p.1 ∈ _; rw [h9]; exact hx)
      show valV (((Sum.inl p.1 : Key), f p.2) :: kg f L) _ = _
      rw [valV_neg hne]
      exact valV_kg n2 h
theorem valV_kg_none {β : Type} {f : β → V} {x : Int} : ∀ {L : List (Int × β)}, x ∉ L.map (·.1) → valV (kg f L) (Sum.inl x : Key) = none
  | [], _ => rfl
  | p :: L, h => by
    have hne : ¬ ((Sum.inl p.1 : Key) = Sum.inl x) := fun e => h (by have := Sum.inl.inj e; rw [List.map_cons, this]; exact List.mem_cons_self)
    show valV (((Sum.inl p.1 : Key), f p.2) :: kg f L) _ = _
    rw [valV_neg hne]
    exact valV_kg_none fun q => h (by rw [List.map_cons]; exact List.mem_cons_of_mem _ q)
theorem putK_kg {β : Type} {f : β → V} {x : Int} {b : β} {L : List (Int × β)} (h : x ∉ L.map (·.1)) : putK (kg f L) (Sum.inl x : Key) (f b) = kg f (L ++ [(x, b)]) := by
  unfold putK
  rw [valV_any, valV_kg_none h]
  rw [if_neg (by decide)]
  unfold kg
  rw [List.map_append]
  rfl
theorem kb_kg {ks : List Int} : kb ks = kg (fun _ : Unit => V.bl true) (ks.map fun k => (k, ())) := by
  unfold kb kg
  rw [List.map_map]
  rfl
theorem valV_kb {ks : List Int} {y : Int} : valV (kb ks) (Sum.inl y : Key) = if y ∈ ks then some (V.bl true) else none := by
  induction ks with
  | nil => rfl
  | cons k ks ih =>
    show valV (((Sum.inl k : Key), V.bl true) :: kb ks) _ = _
    by_cases h : k = y
    · subst h
      rw [valV_pos rfl, if_pos List.mem_cons_self]
    · rw [valV_neg (fun e => h (Sum.inl.inj e)), ih]
      have : y ∈ k :: ks ↔ y ∈ ks := by
        rw [List.mem_cons]
        exact ⟨fun q => q.resolve_left fun e => h e.symm, .inr⟩
      by_cases q : y ∈ ks
      · rw [if_pos q, if_pos (this.mpr q)]
      · rw [if_neg q, if_neg (fun z => q (this.mp z))]
theorem putK_kb {ks : List Int} {y : Int} : putK (kb ks) (Sum.inl y : Key) (V.bl true) = kb (if y ∈ ks then ks else ks ++ [y]) := by
  unfold putK
  rw [valV_any, valV_kb]
  by_cases q : y ∈ ks
  · rw [if_pos q, if_pos q, if_pos (show (some (V.bl true)).isSome = true from rfl)]
    conv => rhs; rw [← List.map_id (kb ks)]
    refine List.map_congr_left fun p hp => ?_
    obtain ⟨k, _, rfl⟩ := List.mem_map.mp hp
    show (if (Sum.inl k : Key) = Sum.inl y then ((Sum.inl k : Key), V.bl true) else (Sum.inl k, V.bl true)) = _
    split <;> rfl
  · rw [if_neg q, if_neg q, if_neg (by decide)]
    unfold kb
    rw [List.map_append]
    rfl
theorem dropK_kb {ks : List Int} {y : Int} : dropK (kb ks) (Sum.inl y : Key) = kb (ks.filter fun k => decide (k ≠ y)) := by
  unfold dropK kb
  rw [List.filter_map]
  congr 1
  refine List.filter_congr fun k _ => ?_
  show decide ((Sum.inl k : Key) ≠ Sum.inl y) = decide (k ≠ y)
  refine decide_eq_decide.mpr ⟨fun h e => h (by rw [e]), fun h e => h (Sum.inl.inj e)⟩
theorem kb_inj : ∀ {a b : List Int}, kb a = kb b → a = b
  | [], [], _ => rfl
  | [], _ :: _, h => by cases h
  | _ :: _, [], h => by cases h
  | x :: a, y :: b, h => by
    obtain ⟨h1, h2⟩ := List.cons.inj (show ((Sum.inl x : Key), V.bl true) :: kb a = ((Sum.inl y : Key), V.bl true) :: kb b from h)
    rw [Sum.inl.inj (congrArg Prod.fst h1), kb_inj h2]
theorem fewZ {l m : List Int} (nd : l.Nodup) (h : ∀ x, x ∈ l → x ∈ m) (nm : m.Nodup) : l.length ≤ m.length := by
  have hp : l.Perm (m.filter fun x => decide (x ∈ l)) := (List.perm_ext_iff_of_nodup nd (nm.filter _)).mpr fun x => by
    rw [List.mem_filter, decide_eq_true_iff]
    exact ⟨fun q => ⟨h x q, q⟩, fun q => q.2⟩
  rw [hp.length_eq]
  exact List.length_filter_le _ _
theorem TK.dk {K : PySem.W.Frag} {H : Hp} {D : Addr} {l : List (Key × V)} {o : HO} (hD : H D = some (.dK l)) : TK K H (L2.upd H D o) := fun b xs h => by
  rcases h with (h | ⟨u, h⟩) | h
  · exact .inl (.inl (by rw [upd_ne (ne_of h hD (by intro q; cases q))]; exact h))
  · exact .inl (.inr ⟨u, by rw [upd_ne (ne_of h hD (by intro q; cases q))]; exact h⟩)
  · exact .inr h
/-- the steps that are left, state by state -/
structure Fol (H : Hp) (D : Addr) (L : List (Int × Addr)) (A : Int → Int → Prop) : Prop where
  out : H D = some (.dK (kg V.ref L))
  nd : (L.map (·.1)).Nodup
  ads : (L.map (·.2)).Nodup
  nin : D ∉ L.map (·.2)
  row : ∀ x d, (x, d) ∈ L → ∃ ks : List Int, H d = some (.dK (kb ks)) ∧ ks.Nodup ∧ ∀ y, y ∈ ks ↔ A x y
def Cl (L : List (Int × Addr)) (A : Int → Int → Prop) : Prop := ∀ x y, A x y → x ∈ L.map (·.1) ∧ y ∈ L.map (·.1)
theorem Fol.mono {H H' : Hp} {D : Addr} {L : List (Int × Addr)} {A : Int → Int → Prop} (h : Fol H D L A) (e : Same H H') : Fol H' D L A :=
  ⟨e _ _ h.out, h.nd, h.ads, h.nin, fun x d hx => by
    obtain ⟨ks, h1, h2, h3⟩ := h.row x d hx
    exact ⟨ks, e _ _ h1, h2, h3⟩⟩
theorem Fol.imp {H : Hp} {D : Addr} {L : List (Int × Addr)} {A A' : Int → Int → Prop} (h : Fol H D L A) (e : ∀ x y, x ∈ L.map (·.1) → (A x y ↔ A' x y)) : Fol H D L A' :=
  ⟨h.out, h.nd, h.ads, h.nin, fun x d hx => by
    obtain ⟨ks, h1, h2, h3⟩ := h.row x d hx
    exact ⟨ks, h1, h2, fun y => (h3 y).trans (e x y (List.mem_map.mpr ⟨_, hx, rfl⟩))⟩⟩
theorem Fol.get {H : Hp} {D : Addr} {L : List (Int × Addr)} {A : Int → Int → Prop} (h : Fol H D L A) {x : Int} (hx : x ∈ L.map (·.1)) : ∃ d ks, (x, d) ∈ L ∧ d ≠ D ∧ DGet H D (.int x) (some (.ref d)) ∧ H d = some (.dK (kb ks)) ∧ ks.Nodup ∧ ∀ y, y ∈ ks ↔ A x y := by
  obtain ⟨⟨x', d⟩, hm, rfl⟩ := List.mem_map.mp hx
  obtain ⟨ks, h1, h2, h3⟩ := h.row x' d hm
  refine ⟨d, ks, hm, fun e => h.nin (by rw [← e]; exact List.mem_map.mpr ⟨_, hm, rfl⟩), ?_, h1, h2, h3⟩
  have := DGet.k (k := (Sum.inl x' : Key)) h.out
  rw [valV_kg h.nd hm] at this
  exact this
theorem same_ad {L : List (Int × Addr)} (ads : (L.map (·.2)).Nodup) {x y : Int} {d : Addr} (h1 : (x, d) ∈ L) (h2 : (y, d) ∈ L) : x = y := by
  induction L with
  | nil => cases h1
  | cons p L ih =>
    obtain ⟨n1, n2⟩ := List.nodup_cons.mp ads
    rcases List.mem_cons.mp h1 with e1 | h1 <;> rcases List.mem_cons.mp h2 with e2 | h2
    · rw [← e1] at e2
      exact (congrArg Prod.fst e2).symm
    · exact absurd (List.mem_map.mpr ⟨_, h2, by rw [← e1]⟩) n1
    · exact absurd (List.mem_map.mpr ⟨_, h1, by rw [← e2]⟩) n1
    · exact ih n2 h1 h2
/-- one inner dict is changed -/
theorem Fol.change {H : Hp} {D d : Addr} {L : List (Int × Addr)} {A A' : Int → Int → Prop} {x : Int} {ks : List Int} (h : Fol H D L A) (hm : (x, d) ∈ L) (nk : ks.Nodup) (hk : ∀ y, y ∈ ks ↔ A' x y) (ho : ∀ u y, u ≠ x → (A u y ↔ A' u y)) : Fol (upd H d (.dK (kb ks))) D L A' := by
  have hdD : D ≠ d := fun e => h.nin (by rw [e]; exact List.mem_map.mpr ⟨_, hm, rfl⟩)
  refine ⟨by rw [upd_ne hdD]; exact h.out, h.nd, h.ads, h.nin, fun u e hu => ?_⟩
  by_cases q : e = d
  · subst q
    have := same_ad h.ads hu hm
    subst this
    exact ⟨ks, upd_same, nk, hk⟩
  · obtain ⟨ks', h1, h2, h3⟩ := h.row u e hu
    refine ⟨ks', by rw [upd_ne q]; exact h1, h2, fun y => (h3 y).trans (ho u y fun z => q ?_)⟩
    subst z
    have e1 := h.nd
    have : ∀ {L : List (Int × Addr)}, (L.map (·.1)).Nodup → (u, e) ∈ L → (u, d) ∈ L → e = d := fun {L} nd a b => by
      induction L with
      | nil => cases a
      | cons p L ih =>
        obtain ⟨n1, n2⟩ := List.nodup_cons.mp nd
        rcases List.mem_cons.mp a with e1 | a <;> rcases List.mem_cons.mp b with e2 | b
        · rw [← e1] at e2
          exact (congrArg Prod.snd e2).symm
        · exact absurd (List.mem_map.mpr ⟨_, b, by rw [← e1]⟩) n1
        · exact absurd (List.mem_map.mpr ⟨_, a, by rw [← e2]⟩) n1
        · exact ih n2 a b
    exact this e1 hu hm
theorem nd_ins {ks : List Int} {y : Int} (h : ks.Nodup) : (if y ∈ ks then ks else ks ++ [y]).Nodup := by
  split
  · exact h
  · next q =>
    rw [List.nodup_append]
    exact ⟨h, by simp, fun a ha b hb e => q (by rw [← List.mem_singleton.mp hb, ← e]; exact ha)⟩
theorem mem_ins2 {ks : List Int} {y z : Int} : z ∈ (if y ∈ ks then ks else ks ++ [y]) ↔ z ∈ ks ∨ z = y := by
  split
  · next q => exact ⟨.inl, fun h => h.elim id fun e => e ▸ q⟩
  · rw [List.mem_append, List.mem_singleton]
theorem Fol.put {H : Hp} {D d : Addr} {L : List (Int × Addr)} {A A' : Int → Int → Prop} {x y : Int} {ks : List Int} (h : Fol H D L A) (hm : (x, d) ∈ L) (hd : H d = some (.dK (kb ks))) (hA : ∀ u v, A' u v ↔ A u v ∨ (u = x ∧ v = y)) : Fol (upd H d (.dK (putK (kb ks) (Sum.inl y) (V.bl true)))) D L A' := by
  obtain ⟨ks', h1, h2, h3⟩ := h.row x d hm
  have e : kb ks' = kb ks := by rw [hd] at h1; exact (HO.dK.inj (Option.some.inj h1)).symm
  rw [putK_kb]
  have ek : ks' = ks := kb_inj e
  subst ek
  refine h.change hm (nd_ins h2) (fun z => ?_) fun u z hu => ?_
  · rw [mem_ins2, h3, hA]
    exact or_congr Iff.rfl ⟨fun e => ⟨rfl, e⟩, fun e => e.2⟩
  · rw [hA]
    exact ⟨.inl, fun q => q.elim id fun e => absurd e.1 hu⟩
theorem Fol.del {H : Hp} {D d : Addr} {L : List (Int × Addr)} {A A' : Int → Int → Prop} {x y : Int} {ks : List Int} (h : Fol H D L A) (hm : (x, d) ∈ L) (hd : H d = some (.dK (kb ks))) (h3 : ∀ z, z ∈ ks ↔ A x z) (h2 : ks.Nodup) (hA : ∀ u v, A' u v ↔ A u v ∧ ¬ (u = x ∧ v = y)) : Fol (upd H d (.dK (dropK (kb ks) (Sum.inl y)))) D L A' := by
  rw [dropK_kb]
  refine h.change hm (h2.filter _) (fun z => ?_) fun u z hu => ?_
  · rw [List.mem_filter, h3, hA, decide_eq_true_iff]
    exact and_congr Iff.rfl ⟨fun e q => e q.2, fun e q => e ⟨rfl, q⟩⟩
  · rw [hA]
    exact ⟨fun q => ⟨q, fun e => hu e.1⟩, fun q => q.1⟩
/-- a state more -/
theorem Fol.new {H : Hp} {D d : Addr} {L : List (Int × Addr)} {A A' : Int → Int → Prop} {x : Int} {ks : List Int} (h : Fol H D L A) (hx : x ∉ L.map (·.1)) (hd : H d = some (.dK (kb ks))) (nk : ks.Nodup) (hdL : d ∉ L.map (·.2)) (hdD : d ≠ D) (hA : ∀ u v, A' u v ↔ (u ≠ x ∧ A u v) ∨ (u = x ∧ v ∈ ks)) :
    Fol (upd H D (.dK (putK (kg V.ref L) (Sum.inl x) (V.ref d)))) D (L ++ [(x, d)]) A' := by
  rw [putK_kg hx]
  refine ⟨upd_same, ?_, ?_, ?_, fun u e hu => ?_⟩
  · rw [List.map_append, List.nodup_append]
    exact ⟨h.nd, by simp, fun a ha b hb e => hx (by have : b = x := by simpa using hb
                                                    rw [← this, ← e]; exact ha)⟩
  · rw [List.map_append, List.nodup_append]
    exact ⟨h.ads, by simp, fun a ha b hb e => hdL (by have : b = d := by simpa using hb
                                                      rw [← this, ← e]; exact ha)⟩
  · rw [List.map_append]
    intro q
    rcases List.mem_append.mp q with q | q
    · exact h.nin q
    · exact hdD (by have : D = d := by simpa using q
                    exact this.symm)
  · rcases List.mem_append.mp hu with hu | hu
    · have hux : u ≠ x := fun z => hx (by rw [← z]; exact List.mem_map.mpr ⟨_, hu, rfl⟩)
      have heD : e ≠ D := fun z => h.nin (by rw [← z]; exact List.mem_map.mpr ⟨_, hu, rfl⟩)
      obtain ⟨ks', h1, h2, h3⟩ := h.row u e hu
      refine ⟨ks', by rw [upd_ne heD]; exact h1, h2, fun y => ?_⟩
      rw [h3, hA]
      exact ⟨fun q => .inl ⟨hux, q⟩, fun q => q.elim (fun z => z.2) fun z => absurd z.1 hux⟩
    · have := List.mem_singleton.mp hu
      cases this
      refine ⟨ks, by rw [upd_ne hdD]; exact hd, nk, fun y => ?_⟩
      rw [hA]
      exact ⟨fun q => .inr ⟨rfl, q⟩, fun q => q.elim (fun z => absurd rfl z.1) fun z => z.2⟩
/-- a comprehension over the keys of a dict that is locked -/
theorem lc_keys {d : Addr} {o : Obj} {kvs : List (Key × V)} {g : TG} {tt : TT} {te : TE} {vs : List Nat} {σ : L2.St} {H1 : Hp} {D : Addr} {Qd : Hp → Prop} (Pv : Nat → Hp → Prop) (h0 : Pv 0 (upd H1 D (.lst []))) (hl : ∀ i H, Pv i H → H d = some (.frz o (.dK kvs)))
    (hs : ∀ i k v H, kvs[i]? = some (k, v) → Pv i H → g (kV k) (wipe σ vs) H fun σ2 H2 => wipe σ2 vs = wipe σ vs ∧ tt σ2 H2 fun b H3 =>
      if b = true then te σ2 H3 fun y H4 => ∃ acc, H4 D = some (.lst acc) ∧ acc.length < sizeLine ∧ Pv (i + 1) (upd H4 D (.lst (acc ++ [y]))) else Pv (i + 1) H3) (hd : ∀ H, Pv kvs.length H → Qd H) :
    ∃ W : Nat → Nat → Hp → Prop, (∃ m, W 0 m (upd H1 D (.lst []))) ∧ ∀ i m H, W i m H →
      ((Itk d o kvs).stop i H ∧ Qd H) ∨ ((Itk d o kvs).go i H ∧ ∃ Nx : Hp → Prop, (∀ H', Nx H' → ∃ m', m' < m ∧ W (i + 1) m' H') ∧ ∀ x H', (Itk d o kvs).yld i H x H' → g x (wipe σ vs) H' fun σ2 H2 => wipe σ2 vs = wipe σ vs ∧ tt σ2 H2 fun b H3 =>
        if b = true then te σ2 H3 fun y H4 => ∃ acc, H4 D = some (.lst acc) ∧ acc.length < sizeLine ∧ Nx (upd H4 D (.lst (acc ++ [y]))) else Nx H3) := by
  refine ⟨fun i m H => m = kvs.length - i ∧ i ≤ kvs.length ∧ Pv i H, ⟨kvs.length, rfl, Nat.zero_le _, h0⟩, ?_⟩
  rintro i m H ⟨rfl, hi, p⟩
  have q := hl i H p
  by_cases hlt : i < kvs.length
  · refine .inr ⟨⟨q, hlt⟩, Pv (i + 1), fun H' p' => ⟨kvs.length - (i + 1), by omega, rfl, hlt, p'⟩, fun x H' y => ?_⟩
    obtain ⟨rfl, k, v, hk, rfl⟩ := y
    exact hs i k v H' hk p
  · have e : i = kvs.length := by omega
    subst e
    exact .inl ⟨⟨q, Nat.le_refl _⟩, hd H p⟩
end W13
namespace W13
open PySem L2
/-! ## the ways out of a whole flow -/
theorem inV_ints {l : List Int} {z : Int} : inV (.int z) (l.map V.int) = decide (z ∈ l) := by
  unfold inV
  rw [List.any_map]
  induction l with
  | nil => rfl
  | cons a l ih =>
    rw [List.any_cons, ih]
    have e : ((fun y => eqV y (V.int z)) ∘ V.int) a = decide (a = z) := by
      show (a == z) = decide (a = z)
      by_cases q : a = z <;> simp [q]
    rw [e]
    by_cases q : a = z
    · subst q; simp
    · have q' : ¬ z = a := fun y => q y.symm
      simp [q, q']
theorem ints_flat (l : List Int) : (l.map V.int).all flatV = true := by
  rw [List.all_map]
  exact List.all_eq_true.mpr fun x _ => rfl
def spUsed : Sp := fun vs H Q _ => ∃ (D : Addr) (n : Int) (L : List (Int × Addr)) (A : Int → Int → Prop), vs = [.ref D, .int n] ∧ Fol H D L A ∧ L.length ≤ 64 ∧
  ∀ (p : Addr) (us : List Int) (H' : Hp), Same H H' → H' p = some (.lst (us.map V.int)) → (∀ s, s ∈ us ↔ s ∈ L.map (·.1) ∧ s % 2 = 0 ∧ s ≠ 2 * n ∧ A s (2 * n + 1)) → Q (.ref p) H'
def spWayF (K : PySem.W.Frag) : Sp := fun vs H Q _ => ∃ (D : Addr) (h : Nat) (L : List (Int × Addr)) (use : Nat → Prop) (adj : Nat → Nat → Prop) (heads tails : List Nat) (f : Int → Int → Bool), vs = [.ref D, .int (h : Int)] ∧ Fol H D L (K13.arc (K13.EE use adj heads tails) f) ∧ L.length ≤ 64 ∧
  K13.Wy use adj heads tails (L.map (·.1)) ∧ K13.Full use adj heads tails f ∧ h ∈ heads ∧ ∀ (d : Addr) (l : List Nat) (u : Nat) (H' : Hp), Same H H' → SqT K H' d (nats l) → K13.Way f h l u → l.length ≤ 64 → Q (.ref d) H'
section
variable {P : Program} {w : World} {K : PySem.W.Frag} {mg : Str → Option Value} {base : Heap} {uS uG : Value} {aZ aO : Addr}
abbrev s_used_steps : Stmt := top 10
theorem sc_used_steps : FnScope ["following", "node", "out", "state"] ["following", "node"] (defScope s_used_steps) := ⟨rfl, rfl, rfl, by decide +kernel, rfl, by decide +kernel, by decide +kernel⟩
theorem ok_used_steps {f : Addr} {fd : FuncData} (F : Fun K "used_steps" "used_steps" s_used_steps f fd) (T : Txt K mg uS uG aZ aO) : FnOk P w K mg base CX0 1 f fd ["following", "node"] spUsed := by
  refine F.ok sc_used_steps (fun vs H Q E h => ?_) (fun cdv A outer s H vs Q E hr h => ?_)
  · obtain ⟨D, n, L, A, rfl, _⟩ := h
    rfl
  · obtain ⟨D, n, L, R, rfl, g, h64, k⟩ := h
    have nd := sc_used_steps.nd
    refine ⟨_,
      (pss_cons
        (ps_set (i := 2) nd rfl (by first | exact Or.inl rfl | exact Or.inr rfl) (pe_op op_add (pe_op op_mul pe_int (pv 1)) pe_int))
      (pss_one
        (ps_ret (pe_lock (pe_lc (own := [("state", 3)]) (g := gName 3) rfl nd (pi_keys (pv 0)) (blkOk_by (N := ["following", "node", "out", "state"]) (sc := defScope s_used_steps) (by decide +kernel))
      (fun _ _ _ _ _ => pg_name (i := 3) nd rfl (by first | exact Or.inl rfl | exact Or.inr rfl)) (fun _ _ _ _ _ => pts_one (PW.pt (pw_and (pt_cmpR op_eq (pe_op op_mod (pv 3) pe_int) pe_int (nomark _)) (pw_and (pt_cmpR op_ne (pv 3) (pe_op op_sub (pv 2) pe_int) (nomark _)) (pw_and1 (pt_cmp (pc_din (hu_of hr) (pv 2) (pe_dget (hu_of hr) (pv 0) (pv 3) (fun _ _ => rfl)))))))))
      (fun _ _ _ _ _ => (pv 3))))))), ?_⟩
    refine ⟨_, rfl, _, _, rfl, rfl, two_mul _, _, _, rfl, rfl, ?_⟩
    refine ⟨D, _, g.out, trivial, fun od => ?_⟩
    have lk : (upd H D (.frz od (.dK (kg V.ref L)))) D = some (.frz od (.dK (kg V.ref L))) := upd_same
    refine ⟨_, rfl, D, od, rfl, .inl ⟨_, lk, fun U hU => ?_⟩⟩
    have hUD : U ≠ D := fun e => by rw [e, lk] at hU; cases hU
    have hU0 : H U = none := by rw [upd_ne hUD] at hU; exact hU
    have off : ∀ b u, b ≠ D → H b = some u → (upd H D (.frz od (.dK (kg V.ref L)))) b = some u := fun b u n q => by rw [upd_ne n]; exact q
    refine lc_keys (fun i H2 => Same (upd H D (.frz od (.dK (kg V.ref L)))) H2 ∧ ∃ us : List Int, H2 U = some (.lst (us.map V.int)) ∧ us.length ≤ i ∧ ∀ s, s ∈ us ↔ s ∈ (L.map (·.1)).take i ∧ s % 2 = 0 ∧ s ≠ 2 * n ∧ R s (2 * n + 1))
      ⟨same_new hU, [], upd_same, Nat.le_refl _, fun s => by simp⟩ (fun i H2 ⟨s2, _⟩ => s2 _ _ lk) ?_ ?_
    · rintro i kx v H2 hk ⟨s2, us, hus, hul, hmem⟩
      obtain ⟨⟨x, d⟩, hx, ek⟩ : ∃ p, L[i]? = some p ∧ (kx, v) = ((Sum.inl p.1 : Key), V.ref p.2) := by
        unfold kg at hk
        rw [List.getElem?_map] at hk
        cases e : L[i]? with
        | none => rw [e] at hk; cases hk
        | some p => rw [e] at hk; exact ⟨p, rfl, (Option.some.inj hk).symm⟩
      obtain rfl : kx = Sum.inl x := congrArg Prod.fst ek
      have hi := (List.getElem?_eq_some_iff.mp hx).1
      have hxm : x ∈ L.map (·.1) := List.mem_map.mpr ⟨_, List.mem_of_getElem? hx, rfl⟩
      have hx1 : (L.map (·.1))[i]? = some x := by rw [List.getElem?_map, hx]; rfl
      have hL2 := s2 _ _ lk
      have dg : DGet H2 D (.int x) (some (.ref d)) := .inl ⟨_, Sum.inl x, .inr ⟨_, hL2⟩, rfl, (valV_kg g.nd (List.mem_of_getElem? hx)).symm⟩
      obtain ⟨ks, hd, hkn, hkm⟩ := g.row x d (List.mem_of_getElem? hx)
      have hdD : d ≠ D := fun e => g.nin (by rw [← e]; exact List.mem_map.mpr ⟨_, List.mem_of_getElem? hx, rfl⟩)
      have hd2 := s2 _ _ (off d _ hdD hd)
      have stay : ¬ (x % 2 = 0 ∧ x ≠ 2 * n ∧ R x (2 * n + 1)) → Same (upd H D (.frz od (.dK (kg V.ref L)))) H2 ∧ ∃ us : List Int, H2 U = some (.lst (us.map V.int)) ∧ us.length ≤ i + 1 ∧ ∀ s, s ∈ us ↔ s ∈ (L.map (·.1)).take (i + 1) ∧ s % 2 = 0 ∧ s ≠ 2 * n ∧ R s (2 * n + 1) := fun hc =>
        ⟨s2, us, hus, by omega, fun s => by
          rw [hmem, take_one hx1, List.mem_append]
          constructor
          · rintro ⟨h1, h2⟩
            exact ⟨.inl h1, h2⟩
          · rintro ⟨h1 | h1, h2⟩
            · exact ⟨h1, h2⟩
            · rw [List.mem_singleton.mp h1] at h2
              exact absurd h2 hc⟩
      refine ⟨rfl, _, rfl, _, _, rfl, rfl, (by show (0 : Int) < 2; decide), rfl, _, rfl, ?_⟩
      rw [int_eqd]
      by_cases q1 : x % 2 = 0
      · rw [decide_eq_true q1]
        refine iteT ?_
        refine ⟨_, rfl, _, rfl, _, _, rfl, rfl, rfl, _, rfl, ?_⟩
        have e1 : decide (V.int x = V.int (2 * n + 1 - 1)) = decide (x = 2 * n) := by
          rw [int_eqd]
          exact decide_eq_decide.mpr (by omega)
        show (if (!decide (V.int x = V.int (2 * n + 1 - 1))) = true then _ else _)
        rw [e1]
        by_cases q2 : x = 2 * n
        · exact iteNS q2 (stay fun h => h.2.1 q2)
        · rw [decide_eq_false q2]
          refine iteT ?_
          refine ⟨_, rfl, _, rfl, _, rfl, D, _, rfl, dg, d, _, rfl, DGet.k (k := (Sum.inl (2 * n + 1) : Key)) hd2, _, rfl, ?_⟩
          rw [valV_kb]
          by_cases q3 : (2 * n + 1) ∈ ks
          · rw [if_pos q3]
            refine iteT ⟨_, rfl, _, hus, small1000 (by rw [List.length_map]; omega), same_upd s2 hU, us ++ [x], by rw [upd_same, List.map_append]; rfl, by rw [List.length_append, List.length_singleton]; omega, fun s => ?_⟩
            rw [List.mem_append, hmem, take_one hx1, List.mem_append]
            constructor
            · rintro (⟨h1, h2⟩ | h1)
              · exact ⟨.inl h1, h2⟩
              · rw [List.mem_singleton.mp h1]
                exact ⟨.inr List.mem_cons_self, q1, q2, (hkm _).mp q3⟩
            · rintro ⟨h1 | h1, h2⟩
              · exact .inl ⟨h1, h2⟩
              · exact .inr h1
          · rw [if_neg q3]
            exact iteF (stay fun h => q3 ((hkm _).mpr h.2.2))
      · rw [decide_eq_false q1]
        exact iteF (stay fun h => q1 h.1)
    · rintro H2 ⟨s2, us, hus, hul, hmem⟩
      rw [kg_len, List.take_of_length_le (by rw [List.length_map]; exact Nat.le_refl _)] at hmem
      refine ⟨s2 _ _ lk, k U us _ (fun b u q => ?_) (by rw [upd_ne hUD]; exact hus) hmem⟩
      by_cases e : b = D
      · subst e
        rw [upd_same, ← q, g.out]
      · rw [upd_ne e]
        exact s2 _ _ (off b u e q)
abbrev s_way_from : Stmt := top 9
theorem sc_way_from : FnScope ["following", "node", "row"] ["following", "node"] (defScope s_way_from) := ⟨rfl, rfl, rfl, by decide +kernel, rfl, by decide +kernel, by decide +kernel⟩
theorem ok_way_from {f : Addr} {fd : FuncData} (F : Fun K "way_from" "way_from" s_way_from f fd) (T : Txt K mg uS uG aZ aO) (DU : Df P w K mg base 1 "used_steps" ["following", "node"] spUsed) : FnOk P w K mg base CX0 2 f fd ["following", "node"] (spWayF K) := by
  obtain ⟨_, _, G_used_steps, C_used_steps⟩ := DU
  refine F.ok sc_way_from (fun vs H Q E h => ?_) (fun cdv A outer s H vs Q E hr h => ?_)
  · obtain ⟨D, h, L, use, adj, heads, tails, fl, rfl, _⟩ := h
    rfl
  · obtain ⟨D, h, L, use, adj, heads, tails, fl, rfl, g, h64, W, Fl, hh, k⟩ := h
    have nd := sc_way_from.nd
    refine ⟨_,
      (pss_cons
        (ps_set (i := 2) nd rfl (by first | exact Or.inl rfl | exact Or.inr rfl) (pe_lst (pa_cons (pv 1) pa_nil)))
      (pss_cons
        (ps_while PassesOwn.never (pt_cmpR op_notIn_seq (pe_glob rfl T.mGOAL T.rGOAL) (pe_call G_used_steps (hr.mono (by decide)) rfl C_used_steps.m C_used_steps.kp C_used_steps.b .nil pass0 (pa_cons (pv 0) (pa_cons (pe_ix ix_list (pv 2) (pe_un un_neg pe_int) (fun _ _ => rfl)) pa_nil))) (by rfl))
          (pss_one
            (ps_expr (pe_bm PySem.F.plainAttrs_list PySem.F.slot_list_append PySem.F.type_list_append mt_append (pv 2) (pa_cons (pe_op op_fdiv (pe_ix ix_list (pe_call G_used_steps (hr.mono (by decide)) rfl C_used_steps.m C_used_steps.kp C_used_steps.b .nil pass0 (pa_cons (pv 0) (pa_cons (pe_ix ix_list (pv 2) (pe_un un_neg pe_int) (fun _ _ => rfl)) pa_nil))) pe_int (fun _ _ => rfl)) pe_int) pa_nil)))))
      (pss_one
        (ps_ret (pe_callTy cr_tupleOf (by rfl) T.tuple (by decide +kernel) (pa_cons (pv 2) pa_nil)))))), ?_⟩
    have used : ∀ (u : Nat) (s : Int), (s ∈ L.map (·.1) ∧ s % 2 = 0 ∧ s ≠ 2 * (u : Int) ∧ K13.arc (K13.EE use adj heads tails) fl s (2 * (u : Int) + 1)) ↔ fl (2 * (u : Int) + 1) s = true := fun u s => by
      constructor
      · rintro ⟨_, _, h3, h4 | h4⟩
        · exact absurd (K13.EE_iff.mp h4.1).to_out h3
        · exact h4.2
      · intro hf
        have e := Fl.le _ _ hf
        refine ⟨(e.mem W).2, ?_, ?_, .inr ⟨K13.EE_iff.mpr e, hf⟩⟩
        · generalize ez : 2 * (u : Int) + 1 = z at e
          cases e with
          | thru n _ => omega
          | edge u' w _ _ _ => omega
          | src h _ => omega
          | goal t _ => decide
        · intro es
          subst es
          generalize ez : 2 * (u : Int) + 1 = z at e
          generalize ey : 2 * (u : Int) = y at e
          cases e with
          | thru n _ => omega
          | edge u' w _ _ ha =>
            have e1 : u' = w := by omega
            subst e1
            exact W.irr _ ha
          | src h _ => omega
          | goal t _ => omega
    have wlen : ∀ l : List Nat, K13.Wo fl h l → l.length ≤ 64 := fun l wo => by
      have h1 : (l.map fun u : Nat => 2 * (u : Int)).Nodup := List.Pairwise.map _ (fun a b (q : a ≠ b) e => q (by omega)) wo.nd
      have h2 := fewZ h1 (fun x hx => by
        obtain ⟨u, hu, rfl⟩ := List.mem_map.mp hx
        exact ((Fl.le _ _ (wo.act u hu)).mem W).1) g.nd
      rw [List.length_map, List.length_map] at h2
      omega
    refine ⟨_, rfl, (by show 1 ≤ sizeLine; decide), fun R hR => ?_⟩
    refine ⟨fun m σ H2 => ∃ (l : List Nat) (u : Nat), m = 101 - l.length ∧ σ = [some (.ref D), some (.int (h : Int)), some (.ref R)] ∧ Same H H2 ∧ H2 R = some (.lst (nats l)) ∧ K13.Wo fl h l ∧ l.getLast? = some u,
      ⟨_, [h], h, rfl, rfl, same_new hR, upd_same, K13.Wo.start Fl hh, rfl⟩, ?_⟩
    rintro m σ H2 ⟨l, u, rfl, rfl, s2, hl, wo, hu⟩
    have hll := wlen l wo
    refine ⟨_, rfl, _, rfl, _, rfl, R, _, _, _, rfl, rfl, SqL.of hl, atI_last (nats_last hu), ?_⟩
    refine ⟨D, (u : Int), L, _, rfl, g.mono s2, h64, fun p us H3 s3 hp hmem => ?_⟩
    refine ⟨p, _, rfl, .inl (SqL.of hp), rfl, ints_flat _, _, rfl, ?_⟩
    have hmem : ∀ s, s ∈ us ↔ fl (2 * (u : Int) + 1) s = true := fun s => (hmem s).trans (used u s)
    have et : (if true = true then !inV (V.int (-2)) (us.map V.int) else inV (V.int (-2)) (us.map V.int)) = !decide ((-2 : Int) ∈ us) := by
      rw [if_pos rfl, inV_ints]
    rw [et]
    have s23 := s2.trans s3
    have hl3 := s3 _ _ hl
    by_cases hg : (-2 : Int) ∈ us
    · refine iteNS hg ?_
      refine ⟨_, rfl, R, _, rfl, .inl ⟨SqL.of hl3, fun d hd => ?_⟩⟩
      exact k d l u _ (s23.trans (same_new hd)) (SqT.of upd_same) ⟨wo, hu, (hmem _).mp hg⟩ hll
    · rw [decide_eq_false hg]
      refine iteT ⟨fun σ' H' => ∃ m', m' < 101 - l.length ∧ ∃ (l : List Nat) (u : Nat), m' = 101 - l.length ∧ σ' = [some (.ref D), some (.int (h : Int)), some (.ref R)] ∧ Same H H' ∧ H' R = some (.lst (nats l)) ∧ K13.Wo fl h l ∧ l.getLast? = some u, fun _ _ h => h, ?_⟩
      refine ⟨_, rfl, .inl ⟨rfl, _, SqL.of hl3⟩, ?_⟩
      refine ⟨_, rfl, _, rfl, _, rfl, R, _, _, _, rfl, rfl, SqL.of hl3, atI_last (nats_last hu), ?_⟩
      refine ⟨D, (u : Int), L, _, rfl, g.mono s23, h64, fun p2 us2 H4 s4 hp2 hmem2 => ?_⟩
      have hmem2 : ∀ s, s ∈ us2 ↔ fl (2 * (u : Int) + 1) s = true := fun s => (hmem2 s).trans (used u s)
      obtain ⟨y0, hy0⟩ := Fl.out u (wo.act u (List.mem_of_getLast? hu))
      cases us2 with
      | nil => exact absurd ((hmem2 y0).mpr hy0) (by simp)
      | cons y rest =>
        have hy := (hmem2 y).mp List.mem_cons_self
        have hy2 : y ≠ -2 := fun e => hg ((hmem _).mpr (e ▸ hy))
        obtain ⟨w2, rfl, _, wo2⟩ := K13.Wo.step Fl hh wo hu hy hy2
        have hl4 := s4 _ _ hl3
        have e2 : (2 * (w2 : Int)) / 2 = (w2 : Int) := by omega
        refine ⟨p2, _, _, _, rfl, rfl, SqL.of hp2, at_of (j := 0) rfl rfl, _, _, rfl, rfl, ⟨by decide, by decide⟩, R, _, _, rfl, rfl, hl4, small1000 (by rw [nats_len]; omega), ?_⟩
        have hll2 := wlen _ wo2
        rw [List.length_append, List.length_singleton] at hll2
        refine ⟨101 - (l ++ [w2]).length, by rw [List.length_append, List.length_singleton]; omega, l ++ [w2], w2, rfl, rfl, same_upd (s23.trans s4) hR, ?_, wo2, List.getLast?_concat⟩
        · rw [upd_same, ← nats_app]
          show some (HO.lst (nats l ++ [V.int (2 * (w2 : Int) / 2)])) = _
          rw [e2]
          rfl
end
end W13
namespace W13
open PySem L2
/-! ## the next row of steps -/
theorem ints_get {l : List Int} {i : Nat} {x : V} (h : (l.map V.int)[i]? = some x) : ∃ z, l[i]? = some z ∧ x = .int z := by
  rw [List.getElem?_map] at h
  cases e : l[i]? with
  | none => rw [e] at h; cases h
  | some z => rw [e] at h; exact ⟨z, rfl, (Option.some.inj h).symm⟩
theorem ints_at {l : List Int} {i : Nat} {z : Int} (h : l[i]? = some z) : (l.map V.int)[i]? = some (.int z) := by
  rw [List.getElem?_map, h]
  rfl
theorem ints_last {l : List Int} {z : Int} (h : l.getLast? = some z) : (l.map V.int).getLast? = some (.int z) := by
  rw [List.getLast?_map, h]
  rfl
theorem take_last {α : Type} {l : List α} {j : Nat} {z : α} (h : l[j]? = some z) : (l.take (j + 1)).getLast? = some z := by
  rw [take_one h]
  exact List.getLast?_concat
theorem getC {cs : List (Int × Int)} {H : Hp} {C : Addr} {a b : Int} (h : H C = some (.dK (kg V.int cs))) (nd : (cs.map (·.1)).Nodup) (hm : (a, b) ∈ cs) : DGet H C (.int a) (some (.int b)) := by
  have := DGet.k (k := (Sum.inl a : Key)) h
  rw [valV_kg nd hm] at this
  exact this
theorem seq0 {n : Nat} (h : 0 < n) : seqIndex? 0 n = some 0 := by
  simp [seqIndex?, h]
def spShort : Sp := fun vs H Q _ => ∃ (D : Addr) (L : List (Int × Addr)) (A : Int → Int → Prop), vs = [.ref D] ∧ Fol H D L A ∧ Cl L A ∧ L.length ≤ 60 ∧ -1 ∈ L.map (·.1) ∧
  ∀ (p : Addr) (l : List Int) (H' : Hp), Same H H' → H p = none → H' p = some (.lst (l.map V.int)) → ((l = [] ∧ ∃ X : Int → Bool, X (-1) = true ∧ X (-2) = false ∧ ∀ x y, X x = true → A x y → X y = true) ∨
    (l.Nodup ∧ K13.Row A l ∧ l[0]? = some (-1) ∧ l.getLast? = some (-2) ∧ l.length ≤ 60)) → Q (.ref p) H'
/-- the search so far -/
structure Bfs (L : List (Int × Addr)) (A : Int → Int → Prop) (cs : List (Int × Int)) (ws : List Int) : Prop where
  par : K13.Par A cs
  sub : ∀ x, x ∈ ws → x ∈ cs.map (·.1)
  st : ∀ x, x ∈ cs.map (·.1) → x ∈ L.map (·.1)
def mea (L : List (Int × Addr)) (cs : List (Int × Int)) (ws : List Int) : Nat := 2 * (L.length - cs.length) + ws.length
theorem Bfs.len {L : List (Int × Addr)} {A : Int → Int → Prop} {cs : List (Int × Int)} {ws : List Int} (B : Bfs L A cs ws) (nd : (L.map (·.1)).Nodup) : cs.length ≤ L.length := by
  have := fewZ B.par.nd B.st nd
  rw [List.length_map, List.length_map] at this
  exact this
section
variable {P : Program} {w : World} {K : PySem.W.Frag} {mg : Str → Option Value} {base : Heap} {uS uG : Value} {aZ aO : Addr}
abbrev s_shortest_row : Stmt := top 8
theorem sc_shortest_row : FnScope ["following", "came", "waiting", "state", "there", "row"] ["following"] (defScope s_shortest_row) := ⟨rfl, rfl, rfl, by decide +kernel, rfl, by decide +kernel, by decide +kernel⟩
theorem ok_shortest_row {f : Addr} {fd : FuncData} (F : Fun K "shortest_row" "shortest_row" s_shortest_row f fd) (T : Txt K mg uS uG aZ aO) : FnOk P w K mg base CX0 1 f fd ["following"] spShort := by
  refine F.ok sc_shortest_row (fun vs H Q E h => ?_) (fun cdv A outer s H vs Q E hr h => ?_)
  · obtain ⟨D, L, A, rfl, _⟩ := h
    rfl
  · obtain ⟨D, L, R, rfl, g, cl, h60, h1, k⟩ := h
    have nd := sc_shortest_row.nd
    refine ⟨_,
      (pss_cons
        (ps_set (i := 1) nd rfl (by first | exact Or.inl rfl | exact Or.inr rfl) (pe_disp (pps_cons (pe_glob rfl T.mSOURCE T.rSOURCE) (pe_glob rfl T.mSOURCE T.rSOURCE) pps_nil) (by rfl) (by rfl) (fun z => by cases z) (by decide)))
      (pss_cons
        (ps_set (i := 2) nd rfl (by first | exact Or.inl rfl | exact Or.inr rfl) (pe_lst (pa_cons (pe_glob rfl T.mSOURCE T.rSOURCE) pa_nil)))
      (pss_cons
        (ps_while PassesOwn.never (pt_cmpR op_gt (pe_callB call_len_seq (by rfl) T.len PySem.boot_len (pa_cons (pv 2) pa_nil)) pe_int (nomark _))
          (pss_cons
            (ps_set (i := 3) nd rfl (by first | exact Or.inl rfl | exact Or.inr rfl) (pe_bm PySem.F.plainAttrs_list PySem.F.slot_list_pop PySem.F.type_list_pop mt_popAt (pv 2) (pa_cons pe_int pa_nil)))
          (pss_one
            (ps_for PassesOwn.never rfl (pi_list (pe_callB (call_sortedDI rfl) (by rfl) T.sorted (by decide +kernel) (pa_cons (pe_dget (hu_of hr) (pv 0) (pv 3) (fun _ _ => rfl)) pa_nil))) (pg_name (i := 4) nd rfl (by first | exact Or.inl rfl | exact Or.inr rfl))
              (pss_one
                (ps_if (pt_cmp (pc_dnotin (hu_of hr) (pv 4) (pv 1)))
                  (pss_cons
                    (ps_dput (hu_of hr) (pv 1) (pv 4) (pv 3) rfl)
                  (pss_one
                    (ps_expr (pe_bm PySem.F.plainAttrs_list PySem.F.slot_list_append PySem.F.type_list_append mt_append (pv 2) (pa_cons (pv 4) pa_nil)))))
                  pss_nil))))))
      (pss_cons
        (ps_if (pt_cmp (pc_dnotin (hu_of hr) (pe_glob rfl T.mGOAL T.rGOAL) (pv 1)))
          (pss_one
            (ps_ret (pe_lst pa_nil)))
          pss_nil)
      (pss_cons
        (ps_set (i := 5) nd rfl (by first | exact Or.inl rfl | exact Or.inr rfl) (pe_lst (pa_cons (pe_glob rfl T.mGOAL T.rGOAL) pa_nil)))
      (pss_cons
        (ps_while PassesOwn.never (pt_cmpR op_ne (pe_ix ix_list (pv 5) (pe_un un_neg pe_int) (fun _ _ => rfl)) (pe_glob rfl T.mSOURCE T.rSOURCE) (nomark _))
          (pss_one
            (ps_expr (pe_bm PySem.F.plainAttrs_list PySem.F.slot_list_append PySem.F.type_list_append mt_append (pv 5) (pa_cons (pe_dget (hu_of hr) (pv 1) (pe_ix ix_list (pv 5) (pe_un un_neg pe_int) (fun _ _ => rfl)) (fun _ _ => rfl)) pa_nil)))))
      (pss_one
        (ps_ret (pe_revL (pv 5)))))))))), ?_⟩
    refine fun C hC => ⟨upd_same, [((Sum.inl (-1) : Key), V.int (-1))], rfl, by decide, ?_⟩
    have e0 : upd (upd H C (.dK [])) C (.dK (mergeK [] [((Sum.inl (-1) : Key), V.int (-1))])) C = some (.dK (kg V.int [(-1, -1)])) := upd_same
    have s0 : Same H (upd (upd H C (.dK [])) C (.dK (mergeK [] [((Sum.inl (-1) : Key), V.int (-1))]))) := same_upd (same_new hC) hC
    generalize upd (upd H C (.dK [])) C (.dK (mergeK [] [((Sum.inl (-1) : Key), V.int (-1))])) = H0 at e0 s0
    refine ⟨(by show 1 ≤ sizeLine; decide), fun Wt hW => ?_⟩
    have hWn : H Wt = none := s0.free hW
    have hCW : C ≠ Wt := fun e => by rw [← e, e0] at hW; cases hW
    have b0 : Bfs L R [(-1, -1)] [-1] := by
      refine ⟨.base, fun x hx => by simpa using hx, fun x hx => ?_⟩
      have e : x = -1 := by simpa using hx
      rw [e]
      exact h1
    refine ⟨fun m σ H2 => ∃ (cs : List (Int × Int)) (ws : List Int) (v3 v4 : Option V), m = mea L cs ws ∧ σ = [some (.ref D), some (.ref C), some (.ref Wt), v3, v4, none] ∧ Same H H2 ∧ H2 C = some (.dK (kg V.int cs)) ∧ H2 Wt = some (.lst (ws.map V.int)) ∧ Bfs L R cs ws ∧ mea L cs ws ≤ 200 ∧
        ∀ x y, x ∈ cs.map (·.1) → x ∉ ws → R x y → y ∈ cs.map (·.1),
      ⟨_, [(-1, -1)], [-1], none, none, rfl, rfl, s0.trans (same_new hW), by rw [upd_ne hCW]; exact e0, upd_same, b0, by unfold mea; rw [List.length_singleton, List.length_singleton]; omega, fun x y hx hn => absurd hx (by simpa using hn)⟩, ?_⟩
    rintro m σ H2 ⟨cs, ws, v3, v4, rfl, rfl, s2, hc, hw, B, m200, clo⟩
    refine ⟨_, rfl, Wt, _, rfl, .inl (SqL.of hw), _, _, rfl, rfl, _, rfl, ?_⟩
    cases ws with
    | cons x rest =>
      have hpos : (((x :: rest).map V.int).length : Int) > 0 := by rw [List.length_map, List.length_cons]; omega
      rw [decide_eq_true hpos]
      refine iteT ⟨fun σ' H' => ∃ m', m' < mea L cs (x :: rest) ∧ ∃ (cs : List (Int × Int)) (ws : List Int) (v3 v4 : Option V), m' = mea L cs ws ∧ σ' = [some (.ref D), some (.ref C), some (.ref Wt), v3, v4, none] ∧ Same H H' ∧ H' C = some (.dK (kg V.int cs)) ∧ H' Wt = some (.lst (ws.map V.int)) ∧ Bfs L R cs ws ∧ mea L cs ws ≤ 200 ∧
        ∀ x y, x ∈ cs.map (·.1) → x ∉ ws → R x y → y ∈ cs.map (·.1), fun _ _ h => h, ?_⟩
      refine ⟨_, rfl, .inl ⟨rfl, _, SqL.of hw⟩, Wt, _, _, 0, _, rfl, rfl, hw, by decide, by decide, ?_, rfl, ?_⟩
      · exact seq0 (by rw [List.length_map, List.length_cons]; omega)
      have eE : ((x :: rest).map V.int).eraseIdx 0 = rest.map V.int := rfl
      rw [eE]
      have s3 : Same H (upd H2 Wt (.lst (rest.map V.int))) := same_upd s2 hWn
      have hw3 : (upd H2 Wt (.lst (rest.map V.int))) Wt = some (.lst (rest.map V.int)) := upd_same
      have hc3 : (upd H2 Wt (.lst (rest.map V.int))) C = some (.dK (kg V.int cs)) := by rw [upd_ne hCW]; exact hc
      generalize upd H2 Wt (.lst (rest.map V.int)) = H3 at s3 hw3 hc3
      have hxk := B.sub x List.mem_cons_self
      have g3 := g.mono s3
      obtain ⟨d, ks, hm, hdD, dg, hd, hkn, hkm⟩ := g3.get (B.st x hxk)
      have hks : ks.length ≤ L.length := by
        have := fewZ hkn (fun y hy => (cl x y ((hkm y).mp hy)).2) g.nd
        rw [List.length_map] at this
        exact this
      refine ⟨_, rfl, _, rfl, D, _, rfl, dg, d, kb ks, ks, rfl, .inl hd, ?_, by omega, fun ys p hperm _ hp => ?_⟩
      · unfold kb
        rw [List.map_map]
        rfl
      have s4 : Same H3 (upd H3 p (.lst (ys.map V.int))) := same_new hp
      have hp4 : (upd H3 p (.lst (ys.map V.int))) p = some (.lst (ys.map V.int)) := upd_same
      have hpn : H p = none := s3.free hp
      have hpC : p ≠ C := fun e => by rw [e, hc3] at hp; cases hp
      have hpW : p ≠ Wt := fun e => by rw [e, hw3] at hp; cases hp
      have hc4 := s4 _ _ hc3
      have hw4 := s4 _ _ hw3
      have s04 := s3.trans s4
      generalize upd H3 p (.lst (ys.map V.int)) = H4 at s4 hp4 hc4 hw4 s04
      refine ⟨p, rfl, ⟨_, SqL.of hp4⟩, for_list (K := K) (a := p) (xs := ys.map V.int) (fun i σ H5 => ∃ (cs' : List (Int × Int)) (ws' : List Int) (v4 : Option V), σ = [some (.ref D), some (.ref C), some (.ref Wt), some (.int x), v4, none] ∧ Same H H5 ∧ H5 p = some (.lst (ys.map V.int)) ∧ H5 C = some (.dK (kg V.int cs')) ∧ H5 Wt = some (.lst (ws'.map V.int)) ∧ Bfs L R cs' ws' ∧
          mea L cs' ws' < mea L cs (x :: rest) ∧ x ∈ cs'.map (·.1) ∧ (∀ u y, u ∈ cs'.map (·.1) → u ∉ ws' → u ≠ x → R u y → y ∈ cs'.map (·.1)) ∧ ∀ y, y ∈ ys.take i → y ∈ cs'.map (·.1))
        ⟨cs, rest, _, rfl, s04, hp4, hc4, hw4, ⟨B.par, fun z hz => B.sub z (List.mem_cons_of_mem _ hz), B.st⟩, ?_, hxk, fun u y hu hn hx hA => clo u y hu (fun q => (List.mem_cons.mp q).elim hx hn) hA, fun y hy => by rw [List.take_zero] at hy; cases hy⟩ (fun i σ H5 _ ⟨_, _, _, _, _, h, _⟩ => SqL.of h) ?_ ?_⟩
      · unfold mea
        rw [List.length_cons]
        omega
      · rintro i yv σ5 H5 hy ⟨cs', ws', v4', rfl, s5, hp5, hc5, hw5, B5, hme, hx5, clo5, all5⟩
        obtain ⟨y, hyy, rfl⟩ := ints_get hy
        have hA : R x y := (hkm y).mp (hperm.mem_iff.mp (List.mem_of_getElem? hyy))
        have hwl : ws'.length ≤ 200 := by
          unfold mea at hme m200
          omega
        refine ⟨_, rfl, _, rfl, C, _, rfl, DGet.k (k := (Sum.inl y : Key)) hc5, _, rfl, ?_⟩
        by_cases hin : y ∈ cs'.map (·.1)
        · obtain ⟨⟨y', pv⟩, hgm, hge⟩ := List.mem_map.mp hin
          have hge : y' = y := hge
          subst hge
          rw [valV_kg B5.par.nd hgm]
          refine iteF ⟨cs', ws', _, rfl, s5, hp5, hc5, hw5, B5, hme, hx5, clo5, fun u hu => ?_⟩
          rw [take_one hyy] at hu
          rcases List.mem_append.mp hu with hu | hu
          · exact all5 u hu
          · rw [List.mem_singleton.mp hu]
            exact hin
        · rw [valV_kg_none hin]
          have hcl := B5.len g.nd
          refine iteT ?_
          refine ⟨_, rfl, _, rfl, _, rfl, C, _, rfl, DPut.k (k := (Sum.inl y : Key)) hc5 (small1000 (by rw [kg_len]; omega)), ?_⟩
          rw [putK_kg hin]
          have s6 : Same H (upd H5 C (.dK (kg V.int (cs' ++ [(y, x)])))) := same_upd s5 hC
          have hc6 : (upd H5 C (.dK (kg V.int (cs' ++ [(y, x)])))) C = some (.dK (kg V.int (cs' ++ [(y, x)]))) := upd_same
          have hw6 : (upd H5 C (.dK (kg V.int (cs' ++ [(y, x)])))) Wt = some (.lst (ws'.map V.int)) := by rw [upd_ne hCW.symm]; exact hw5
          have hp6 : (upd H5 C (.dK (kg V.int (cs' ++ [(y, x)])))) p = some (.lst (ys.map V.int)) := by rw [upd_ne hpC]; exact hp5
          generalize upd H5 C (.dK (kg V.int (cs' ++ [(y, x)]))) = H6 at s6 hc6 hw6 hp6
          refine ⟨_, rfl, .inl ⟨rfl, _, SqL.of hw6⟩, _, rfl, Wt, _, _, rfl, rfl, hw6, small1000 (by rw [List.length_map]; omega), ?_⟩
          have par' := K13.Par.step B5.par hx5 hin hA
          have up : ∀ u, u ∈ cs'.map (·.1) → u ∈ (cs' ++ [(y, x)]).map (·.1) := fun u hu => by rw [List.map_append]; exact List.mem_append_left _ hu
          have yin : y ∈ (cs' ++ [(y, x)]).map (·.1) := by rw [List.map_append]; simp
          have old : ∀ u, u ∈ (cs' ++ [(y, x)]).map (·.1) → u ∈ cs'.map (·.1) ∨ u = y := fun u hu => by
            rw [List.map_append] at hu
            rcases List.mem_append.mp hu with hu | hu
            · exact .inl hu
            · exact .inr (by simpa using hu)
          have B6 : Bfs L R (cs' ++ [(y, x)]) (ws' ++ [y]) := ⟨par', fun u hu => (List.mem_append.mp hu).elim (fun q => up u (B5.sub u q)) fun q => by rw [List.mem_singleton.mp q]; exact yin, fun u hu => (old u hu).elim (B5.st u) fun q => by rw [q]; exact (cl x y hA).2⟩
          have hcl6 := B6.len g.nd
          refine ⟨cs' ++ [(y, x)], ws' ++ [y], _, rfl, same_upd s6 hWn, by rw [upd_ne hpW]; exact hp6, by rw [upd_ne hCW]; exact hc6, by rw [upd_same, List.map_append]; rfl, B6, ?_, up x hx5, fun u v hu hn hux hA2 => ?_, fun u hu => ?_⟩
          · unfold mea at hme ⊢
            rw [List.length_append, List.length_singleton] at hcl6
            rw [List.length_append, List.length_append, List.length_singleton, List.length_singleton]
            omega
          · rcases old u hu with hu | hu
            · exact up v (clo5 u v hu (fun q => hn (List.mem_append_left _ q)) hux hA2)
            · exact absurd (List.mem_append_right _ (List.mem_singleton.mpr hu)) hn
          · rw [take_one hyy] at hu
            rcases List.mem_append.mp hu with hu | hu
            · exact up u (all5 u hu)
            · rw [List.mem_singleton.mp hu]
              exact yin
      · rintro σ H5 ⟨cs', ws', v4', rfl, s5, hp5, hc5, hw5, B5, hme, hx5, clo5, all5⟩
        rw [List.length_map, List.take_length] at all5
        refine ⟨_, hme, cs', ws', _, _, rfl, rfl, s5, hc5, hw5, B5, by omega, fun u y hu hn hA => ?_⟩
        by_cases q : u = x
        · subst q
          exact all5 y (hperm.mem_iff.mpr ((hkm y).mpr hA))
        · exact clo5 u y hu hn q hA
    | nil =>
      have hpos : ¬ ((([] : List Int).map V.int).length : Int) > 0 := by simp
      rw [decide_eq_false hpos]
      refine iteF ?_
      have clo : ∀ x y, x ∈ cs.map (·.1) → R x y → y ∈ cs.map (·.1) := fun x y hx => clo x y hx (by simp)
      refine ⟨_, rfl, C, _, rfl, DGet.k (k := (Sum.inl (-2) : Key)) hc, _, rfl, ?_⟩
      by_cases hg : (-2 : Int) ∈ cs.map (·.1)
      · obtain ⟨⟨g1, pv⟩, hgm, hge⟩ := List.mem_map.mp hg
        have hge : g1 = -2 := hge
        subst hge
        rw [valV_kg B.par.nd hgm]
        refine iteF ?_
        obtain ⟨l, bk⟩ := B.par.back (-2) hg
        have hll : l.length ≤ 60 := by
          have := fewZ bk.nd (fun z hz => B.st z (bk.mem z hz)) g.nd
          rw [List.length_map] at this
          omega
        refine ⟨(by show 1 ≤ sizeLine; decide), fun W hWW => ?_⟩
        have hl0 : 0 < l.length := (List.getElem?_eq_some_iff.mp bk.hd).1
        have hWC : W ≠ C := fun e => by rw [e, hc] at hWW; cases hWW
        have et : l.take 1 = [-2] := by
          have := take_one (E := l) (i := 0) bk.hd
          rw [this]
          simp
        refine ⟨fun m σ H3 => ∃ j : Nat, m = l.length - j ∧ j < l.length ∧ σ = [some (.ref D), some (.ref C), some (.ref Wt), v3, v4, some (.ref W)] ∧ Same H H3 ∧ H3 C = some (.dK (kg V.int cs)) ∧ H3 W = some (.lst ((l.take (j + 1)).map V.int)),
          ⟨_, 0, rfl, hl0, rfl, s2.trans (same_new hWW), by rw [upd_ne hWC.symm]; exact hc, by rw [upd_same, et]; rfl⟩, ?_⟩
        rintro m σ H3 ⟨j, rfl, hj, rfl, s3, hc3, hW3⟩
        obtain ⟨z, hz⟩ : ∃ z, l[j]? = some z := ⟨_, List.getElem?_eq_getElem hj⟩
        refine ⟨_, rfl, _, rfl, W, _, _, _, rfl, rfl, SqL.of hW3, atI_last (ints_last (take_last hz)), rfl, _, rfl, ?_⟩
        rw [int_eqd]
        by_cases hz1 : z = -1
        · refine iteNS hz1 ?_
          have hjl : j + 1 = l.length := by
            refine Classical.byContradiction fun hn => ?_
            obtain ⟨z2, hz2⟩ : ∃ z, l[j + 1]? = some z := ⟨_, List.getElem?_eq_getElem (by omega)⟩
            exact (bk.ch j z z2 hz hz2).2.2 hz1
          rw [hjl, List.take_length] at hW3
          refine ⟨_, rfl, W, _, rfl, SqL.of hW3, fun p hp => ?_⟩
          rw [← List.map_reverse]
          refine k p l.reverse _ (s3.trans (same_new hp)) (s3.free hp) upd_same (.inr ⟨(List.reverse_perm l).nodup_iff.mpr bk.nd, K13.row_rev fun i a b h1 h2 => (bk.ch i a b h1 h2).2.1, ?_, ?_, by rw [List.length_reverse]; exact hll⟩)
          · rw [← List.head?_eq_getElem?, List.head?_reverse]
            exact bk.last
          · rw [List.getLast?_reverse, List.head?_eq_getElem?]
            exact bk.hd
        · rw [decide_eq_false hz1]
          have hjl : j + 1 < l.length := by
            refine Classical.byContradiction fun hn => hz1 ?_
            have e : j = l.length - 1 := by omega
            rw [e, ← List.getLast?_eq_getElem?, bk.last] at hz
            exact (Option.some.inj hz).symm
          obtain ⟨z2, hz2⟩ : ∃ z, l[j + 1]? = some z := ⟨_, List.getElem?_eq_getElem hjl⟩
          refine iteT ⟨fun σ' H' => ∃ m', m' < l.length - j ∧ ∃ j : Nat, m' = l.length - j ∧ j < l.length ∧ σ' = [some (.ref D), some (.ref C), some (.ref Wt), v3, v4, some (.ref W)] ∧ Same H H' ∧ H' C = some (.dK (kg V.int cs)) ∧ H' W = some (.lst ((l.take (j + 1)).map V.int)), fun _ _ h => h, ?_⟩
          refine ⟨_, rfl, .inl ⟨rfl, _, SqL.of hW3⟩, _, rfl, _, rfl, _, rfl, W, _, _, _, rfl, rfl, SqL.of hW3, atI_last (ints_last (take_last hz)), C, _, rfl, getC hc3 B.par.nd (bk.ch j z z2 hz hz2).1, W, _, _, rfl, rfl, hW3, small1000 (by rw [List.length_map, List.length_take]; omega), ?_⟩
          refine ⟨l.length - (j + 1), by omega, j + 1, rfl, hjl, rfl, same_upd s3 (s2.free hWW), by rw [upd_ne hWC.symm]; exact hc3, ?_⟩
          rw [upd_same, take_one hz2, List.map_append]
          rfl
      · rw [valV_kg_none hg]
        refine iteT ⟨(by show 0 ≤ sizeLine; decide), fun p hp => ?_⟩
        refine k p [] _ (s2.trans (same_new hp)) (s2.free hp) upd_same (.inl ⟨rfl, fun z => decide (z ∈ cs.map (·.1)), decide_eq_true B.par.one, decide_eq_false hg, fun x y hx hA => decide_eq_true (clo x y (of_decide_eq_true hx) hA)⟩)
end
end W13
namespace W13
open PySem L2
/-! ## the steps at first -/
def stOf (l : List Nat) : List Int := [-1, -2] ++ l.flatMap fun (n : Nat) => [2 * (n : Int), 2 * (n : Int) + 1]
theorem mem_stOf {l : List Nat} {z : Int} : z ∈ stOf l ↔ z = -1 ∨ z = -2 ∨ ∃ n : Nat, n ∈ l ∧ (z = 2 * (n : Int) ∨ z = 2 * (n : Int) + 1) := by
  unfold stOf
  rw [List.mem_append, List.mem_flatMap]
  simp [or_assoc]
theorem in_stOf {l : List Nat} {n : Nat} : 2 * (n : Int) ∈ stOf l ↔ n ∈ l := by
  rw [mem_stOf]
  constructor
  · rintro (h | h | ⟨m, hm, h | h⟩)
    · omega
    · omega
    · have : n = m := by omega
      rw [this]; exact hm
    · omega
  · intro h
    exact .inr (.inr ⟨n, h, .inl rfl⟩)
theorem out_stOf {l : List Nat} {n : Nat} : 2 * (n : Int) + 1 ∈ stOf l ↔ n ∈ l := by
  rw [mem_stOf]
  constructor
  · rintro (h | h | ⟨m, hm, h | h⟩)
    · omega
    · omega
    · omega
    · have : n = m := by omega
      rw [this]; exact hm
  · intro h
    exact .inr (.inr ⟨n, h, .inr rfl⟩)
theorem stOf_snoc {l : List Nat} {n : Nat} : stOf (l ++ [n]) = stOf l ++ [2 * (n : Int)] ++ [2 * (n : Int) + 1] := by
  unfold stOf
  rw [List.flatMap_append]
  simp
theorem stOf_len : ∀ {l : List Nat}, (stOf l).length = 2 + 2 * l.length
  | [] => rfl
  | n :: l => by
    have h := stOf_len (l := l)
    unfold stOf at h ⊢
    rw [List.flatMap_cons]
    simp only [List.length_append, List.length_cons, List.length_nil] at h ⊢
    omega
/-- the steps that are laid so far -/
def RR (Us : List Nat) (E : List (Nat × Nat)) (hs ts : List Nat) (i j a b : Nat) (x y : Int) : Prop :=
  (∃ n : Nat, n ∈ Us.take i ∧ x = 2 * (n : Int) ∧ y = 2 * (n : Int) + 1) ∨
  (∃ e : Nat × Nat, e ∈ E.take j ∧ e.1 ≠ e.2 ∧ e.1 + 1 ∈ Us ∧ e.2 + 1 ∈ Us ∧ ((x = 2 * ((e.1 + 1 : Nat) : Int) + 1 ∧ y = 2 * ((e.2 + 1 : Nat) : Int)) ∨ (x = 2 * ((e.2 + 1 : Nat) : Int) + 1 ∧ y = 2 * ((e.1 + 1 : Nat) : Int)))) ∨
  (∃ h : Nat, h ∈ hs.take a ∧ x = -1 ∧ y = 2 * (h : Int)) ∨ (∃ t : Nat, t ∈ ts.take b ∧ x = 2 * (t : Int) + 1 ∧ y = -2)
theorem ex_take {α : Type} {l : List α} {i : Nat} {e : α} {p : α → Prop} (h : l[i]? = some e) : (∃ x, x ∈ l.take (i + 1) ∧ p x) ↔ (∃ x, x ∈ l.take i ∧ p x) ∨ p e := by
  rw [take_one h]
  constructor
  · rintro ⟨x, h1, h2⟩
    rcases List.mem_append.mp h1 with h1 | h1
    · exact .inl ⟨x, h1, h2⟩
    · rw [List.mem_singleton.mp h1] at h2
      exact .inr h2
  · rintro (⟨x, h1, h2⟩ | h2)
    · exact ⟨x, List.mem_append_left _ h1, h2⟩
    · exact ⟨e, by simp, h2⟩
theorem RR.y {Us : List Nat} {E : List (Nat × Nat)} {hs ts : List Nat} {i j a b : Nat} {x y : Int} (h : RR Us E hs ts i j a b x y) (h1 : ∀ z, z ∈ hs → z ∈ Us) : y ∈ stOf Us := by
  rcases h with ⟨n, h, _, rfl⟩ | ⟨e, _, _, h2, h3, ⟨_, rfl⟩ | ⟨_, rfl⟩⟩ | ⟨z, h, _, rfl⟩ | ⟨z, h, _, rfl⟩
  · exact out_stOf.mpr (List.mem_of_mem_take h)
  · exact in_stOf.mpr h3
  · exact in_stOf.mpr h2
  · exact in_stOf.mpr (h1 z (List.mem_of_mem_take h))
  · exact mem_stOf.mpr (.inr (.inl rfl))
def usOf (rim N : Nat) (hs ts : List Nat) : List Nat := hs ++ ts ++ K13.innr (rim + 1) (N + 1)
theorem RR.all {rim n : Nat} {T : List (List Nat)} (W : K13.WF rim T n) {Us hs ts : List Nat} (h1 : ∀ z, z ∈ hs → z ∈ Us) (h2 : ∀ z, z ∈ ts → z ∈ Us) {x y : Int} : RR Us (K13.endsT T n) hs ts Us.length n hs.length ts.length x y ↔ K13.E0 (fun m => m ∈ Us) (K13.adj1 T) hs ts x y := by
  have el : (K13.endsT T n).take n = K13.endsT T n := List.take_of_length_le (by rw [K13.Net.elen (rim := rim)]; exact Nat.le_refl _)
  unfold RR
  rw [List.take_length, List.take_length, List.take_length, el]
  constructor
  · rintro (⟨m, h, rfl, rfl⟩ | ⟨⟨a, b⟩, h, hne, ha, hb, ⟨rfl, rfl⟩ | ⟨rfl, rfl⟩⟩ | ⟨z, h, rfl, rfl⟩ | ⟨z, h, rfl, rfl⟩)
    · exact .thru m h
    · exact .edge (a + 1) (b + 1) ha hb ⟨a, b, rfl, rfl, hne, (K13.adjE_iff W).mp (.inl h)⟩
    · exact .edge (b + 1) (a + 1) hb ha ⟨b, a, rfl, rfl, fun e => hne e.symm, (K13.adjE_iff W).mp (.inr h)⟩
    · exact .src z h
    · exact .goal z h
  · intro h
    cases h with
    | thru m h => exact .inl ⟨m, h, rfl, rfl⟩
    | edge u w hu hw ha =>
      obtain ⟨a, b, rfl, rfl, hne, had⟩ := ha
      rcases (K13.adjE_iff W).mpr had with q | q
      · exact .inr (.inl ⟨(a, b), q, hne, hu, hw, .inl ⟨rfl, rfl⟩⟩)
      · exact .inr (.inl ⟨(b, a), q, fun e => hne e.symm, hw, hu, .inr ⟨rfl, rfl⟩⟩)
    | src z h => exact .inr (.inr (.inl ⟨z, h, rfl, rfl⟩))
    | goal z h => exact .inr (.inr (.inr ⟨z, h, rfl, rfl⟩))
def spFirst (K : PySem.W.Frag) : Sp := fun vs H Q _ => ∃ (v : V) (h t : Addr) (rim n : Nat) (T : List (List Nat)) (am : List Rat) (A B : List Nat), vs = [v, .ref h, .ref t] ∧ NetV K H v rim T am ∧ K13.WF rim T n ∧ am.length = n ∧ n ≤ 9 ∧ T.length ≤ 15 ∧ SqT K H h (ups A) ∧ SqT K H t (ups B) ∧
  (A ++ B).Nodup ∧ (∀ x, x ∈ A ++ B → x < rim) ∧ A.length ≤ 3 ∧ B.length ≤ 3 ∧
  ∀ (D : Addr) (L : List (Int × Addr)) (H' : Hp), Same H H' → H D = none → (∀ d, d ∈ L.map (·.2) → H d = none) → L.map (·.1) = stOf (usOf rim T.length (A.map (· + 1)) (B.map (· + 1))) →
    Fol H' D L (K13.E0 (fun m => m ∈ usOf rim T.length (A.map (· + 1)) (B.map (· + 1))) (K13.adj1 T) (A.map (· + 1)) (B.map (· + 1))) → Q (.ref D) H'
theorem us_nodup {rim N : Nat} {A B : List Nat} (nd : (A ++ B).Nodup) (h : ∀ x, x ∈ A ++ B → x < rim) : (usOf rim N (A.map (· + 1)) (B.map (· + 1))).Nodup := by
  unfold usOf
  rw [← List.map_append, List.nodup_append]
  refine ⟨List.Pairwise.map _ (fun a b (q : a ≠ b) e => q (by omega)) nd, by unfold K13.innr; exact List.nodup_range', fun a ha b hb e => ?_⟩
  obtain ⟨x, hx, rfl⟩ := List.mem_map.mp ha
  have := h x hx
  have := K13.mem_innr.mp hb
  omega
section
variable {P : Program} {w : World} {K : PySem.W.Frag} {mg : Str → Option Value} {base : Heap} {uS uG : Value} {aZ aO : Addr}
abbrev s_first_steps : Stmt := top 7
theorem sc_first_steps : FnScope ["net", "heads", "tails", "usable", "following", "node", "first", "second"] ["net", "heads", "tails"] (defScope s_first_steps) := ⟨rfl, rfl, rfl, by decide +kernel, rfl, by decide +kernel, by decide +kernel⟩
theorem ok_first_steps {f : Addr} {fd : FuncData} (F : Fun K "first_steps" "first_steps" s_first_steps f fd) (T : Txt K mg uS uG aZ aO) (DE : Df P w K mg base 2 "ends_of" ["net"] (spEnds K)) : FnOk P w K mg base CX0 3 f fd ["net", "heads", "tails"] (spFirst K) := by
  obtain ⟨_, _, G_ends_of, C_ends_of⟩ := DE
  refine F.ok sc_first_steps (fun vs H Q E h => ?_) (fun cdv A outer s H vs Q E hr h => ?_)
  · obtain ⟨v, h, t, rim, n, T0, am, A, B, rfl, _⟩ := h
    rfl
  · obtain ⟨v, hA, tA, rim, n, T0, am, HA, TB, rfl, hv, W, hal, hn9, hN, hH, hT, nd2, hlt, ha3, hb3, k⟩ := h
    have nd := sc_first_steps.nd
    refine ⟨_,
      (pss_cons
        (ps_set (i := 3) nd rfl (by first | exact Or.inl rfl | exact Or.inr rfl) (pe_op op_cat (pe_op op_cat (pe_callTy cr_listOf (by rfl) T.list (by decide +kernel) (pa_cons (pv 1) pa_nil)) (pe_callTy cr_listOf (by rfl) T.list (by decide +kernel) (pa_cons (pv 2) pa_nil))) (pe_listRg rfl (by rfl) T.list (prg_2 (by rfl) T.range (pe_op op_add (pe_ix ix_tup (pv 0) pe_int (fun _ _ => rfl)) pe_int) (pe_op op_add (pe_callB call_len_seq (by rfl) T.len PySem.boot_len (pa_cons (pe_ix ix_tup (pv 0) pe_int (fun _ _ => rfl)) pa_nil)) pe_int)))))
      (pss_cons
        (ps_set (i := 4) nd rfl (by first | exact Or.inl rfl | exact Or.inr rfl) (pe_disp (pps_cons (pe_glob rfl T.mSOURCE T.rSOURCE) pe_dnewK (pps_cons (pe_glob rfl T.mGOAL T.rGOAL) pe_dnewK pps_nil)) (by rfl) (by rfl) (fun z => by cases z) (by decide)))
      (pss_cons
        (ps_for PassesOwn.never rfl (pi_list (pv 3)) (pg_name (i := 5) nd rfl (by first | exact Or.inl rfl | exact Or.inr rfl))
          (pss_cons
            (ps_dput (hu_of hr) (pv 4) (pe_op op_mul pe_int (pv 5)) (pe_disp (pps_cons (pe_op op_add (pe_op op_mul pe_int (pv 5)) pe_int) pe_bl pps_nil) (by rfl) (by rfl) (fun z => by cases z) (by decide)) rfl)
          (pss_one
            (ps_dput (hu_of hr) (pv 4) (pe_op op_add (pe_op op_mul pe_int (pv 5)) pe_int) pe_dnewK rfl))))
      (pss_cons
        (ps_for PassesOwn.never rfl (pi_list (pe_call G_ends_of (hr.mono (by decide)) rfl C_ends_of.m C_ends_of.kp C_ends_of.b .nil pass0 (pa_cons (pv 0) pa_nil))) (pg_tup rfl (pgs_cons (pg_name (i := 6) nd rfl (by first | exact Or.inl rfl | exact Or.inr rfl)) (pgs_cons (pg_name (i := 7) nd rfl (by first | exact Or.inl rfl | exact Or.inr rfl)) pgs_nil)))
          (pss_one
            (ps_if (PW.pt (pw_and (pt_cmpR op_ne (pv 6) (pv 7) (nomark _)) (pw_and (pt_cmpR op_in_seq (pv 6) (pv 3) (by rfl)) (pw_and1 (pt_cmpR op_in_seq (pv 7) (pv 3) (by rfl))))))
              (pss_cons
                (ps_dput (hu_of hr) (pe_dget (hu_of hr) (pv 4) (pe_op op_add (pe_op op_mul pe_int (pv 6)) pe_int) (fun _ _ => rfl)) (pe_op op_mul pe_int (pv 7)) pe_bl rfl)
              (pss_one
                (ps_dput (hu_of hr) (pe_dget (hu_of hr) (pv 4) (pe_op op_add (pe_op op_mul pe_int (pv 7)) pe_int) (fun _ _ => rfl)) (pe_op op_mul pe_int (pv 6)) pe_bl rfl)))
              pss_nil)))
      (pss_cons
        (ps_for PassesOwn.never rfl (pi_tup (pv 1)) (pg_name (i := 5) nd rfl (by first | exact Or.inl rfl | exact Or.inr rfl))
          (pss_one
            (ps_dput (hu_of hr) (pe_dget (hu_of hr) (pv 4) (pe_glob rfl T.mSOURCE T.rSOURCE) (fun _ _ => rfl)) (pe_op op_mul pe_int (pv 5)) pe_bl rfl)))
      (pss_cons
        (ps_for PassesOwn.never rfl (pi_tup (pv 2)) (pg_name (i := 5) nd rfl (by first | exact Or.inl rfl | exact Or.inr rfl))
          (pss_one
            (ps_dput (hu_of hr) (pe_dget (hu_of hr) (pv 4) (pe_op op_add (pe_op op_mul pe_int (pv 5)) pe_int) (fun _ _ => rfl)) (pe_glob rfl T.mGOAL T.rGOAL) pe_bl rfl)))
      (pss_one
        (ps_ret (pv 4))))))))), ?_⟩
    obtain ⟨a, b, c, ts, qs, rfl, ha, hb, ht, hc, hq⟩ := id hv
    have htl := ht.1
    have hle := W.le
    have usn := us_nodup (N := T0.length) nd2 hlt
    generalize hUs : usOf rim T0.length (HA.map (· + 1)) (TB.map (· + 1)) = Us at usn k
    have hul : Us.length ≤ 21 := by
      rw [← hUs]
      unfold usOf K13.innr
      rw [List.length_append, List.length_append, List.length_map, List.length_map, List.length_range']
      omega
    have hhs : ∀ z, z ∈ HA.map (· + 1) → z ∈ Us := fun z hz => by rw [← hUs]; exact List.mem_append_left _ (List.mem_append_left _ hz)
    have hts : ∀ z, z ∈ TB.map (· + 1) → z ∈ Us := fun z hz => by rw [← hUs]; exact List.mem_append_left _ (List.mem_append_right _ hz)
    have hsl : (ups HA).length ≤ 3 := by rw [ups_len]; exact ha3
    have tsl : (ups TB).length ≤ 3 := by rw [ups_len]; exact hb3
    refine ⟨_, rfl, hA, _, rfl, .inr hH, fun l1 hl1 => ?_⟩
    have s1 : Same H (upd H l1 (.lst (ups HA))) := same_new hl1
    have e1 : (upd H l1 (.lst (ups HA))) l1 = some (.lst (ups HA)) := upd_same
    generalize upd H l1 (.lst (ups HA)) = H1 at s1 e1
    refine ⟨_, rfl, tA, _, rfl, .inr (Same.tup s1 hT), fun l2 hl2 => ?_⟩
    have s2 : Same H1 (upd H1 l2 (.lst (ups TB))) := same_new hl2
    have e2 : (upd H1 l2 (.lst (ups TB))) l2 = some (.lst (ups TB)) := upd_same
    generalize upd H1 l2 (.lst (ups TB)) = H2 at s2 e2
    refine ⟨l1, l2, _, _, rfl, rfl, s2 _ _ e1, e2, Nat.le_of_lt (small1000 (by omega)), fun l3 hl3 => ?_⟩
    have s3 : Same H2 (upd H2 l3 (.lst (ups HA ++ ups TB))) := same_new hl3
    have e3 : (upd H2 l3 (.lst (ups HA ++ ups TB))) l3 = some (.lst (ups HA ++ ups TB)) := upd_same
    generalize upd H2 l3 (.lst (ups HA ++ ups TB)) = H3 at s3 e3
    have s03 : Same H H3 := (s1.trans s2).trans s3
    have ha3' := Same.tup s03 ha
    refine ⟨_, rfl, a, _, _, _, rfl, rfl, ha3', rfl, _, _, rfl, rfl, _, rfl, a, _, _, _, rfl, rfl, ha3', rfl, b, ts, rfl, .inr (Same.tup s03 hb), _, _, rfl, rfl, _, _, rfl, rfl, RgOk.of_le (by omega) (by omega) (by omega) (by omega), fun l4 hl4 => ?_⟩
    have eR : rgV ((rim : Int) + 1) ((ts.length : Int) + 1) = nats (K13.innr (rim + 1) (T0.length + 1)) := by
      rw [htl]
      exact rgV_innr (rim := rim + 1) (N := T0.length + 1) (by omega)
    rw [eR]
    have s4 : Same H3 (upd H3 l4 (.lst (nats (K13.innr (rim + 1) (T0.length + 1))))) := same_new hl4
    have e4 : (upd H3 l4 (.lst (nats (K13.innr (rim + 1) (T0.length + 1))))) l4 = some (.lst (nats (K13.innr (rim + 1) (T0.length + 1)))) := upd_same
    generalize upd H3 l4 (.lst (nats (K13.innr (rim + 1) (T0.length + 1)))) = H4 at s4 e4
    have eU : ups HA ++ ups TB ++ nats (K13.innr (rim + 1) (T0.length + 1)) = nats Us := by
      rw [← hUs]
      unfold ups usOf
      rw [nats_app, nats_app]
    refine ⟨l3, l4, _, _, rfl, rfl, s4 _ _ e3, e4, ?_, fun l5 hl5 => ?_⟩
    · have : (ups HA ++ ups TB).length + (nats (K13.innr (rim + 1) (T0.length + 1))).length = Us.length := by
        rw [← List.length_append, eU, nats_len]
      exact Nat.le_of_lt (small1000 (by omega))
    rw [eU]
    have s5 : Same H4 (upd H4 l5 (.lst (nats Us))) := same_new hl5
    have e5 : (upd H4 l5 (.lst (nats Us))) l5 = some (.lst (nats Us)) := upd_same
    generalize upd H4 l5 (.lst (nats Us)) = H5 at s5 e5
    have s05 : Same H H5 := (s03.trans s4).trans s5
    -- the two ends
    refine fun D hD p1 hp1 p2 hp2 => ?_
    have hp1D : p1 ≠ D := fun e => by rw [e, upd_same] at hp1; cases hp1
    have s6 : Same H5 (upd H5 D (.dK [])) := same_new hD
    have s7 : Same (upd H5 D (.dK [])) (upd (upd H5 D (.dK [])) p1 (.dK [])) := same_new hp1
    have s8 : Same (upd (upd H5 D (.dK [])) p1 (.dK [])) (upd (upd (upd H5 D (.dK [])) p1 (.dK [])) p2 (.dK [])) := same_new hp2
    have hp2p : p2 ≠ p1 := fun e => by rw [e, upd_same] at hp2; cases hp2
    have hp2D : p2 ≠ D := fun e => by rw [e, upd_ne hp1D.symm, upd_same] at hp2; cases hp2
    refine ⟨by rw [upd_ne hp2D.symm, upd_ne hp1D.symm, upd_same], [((Sum.inl (-1) : Key), V.ref p1), (Sum.inl (-2), V.ref p2)], rfl, by show 2 ≤ 15; decide, ?_⟩
    have hDn : H D = none := s05.free hD
    have hp1n : H p1 = none := (s05.trans s6).free hp1
    have hp2n : H p2 = none := ((s05.trans s6).trans s7).free hp2
    have s9 : Same H (upd (upd (upd (upd H5 D (.dK [])) p1 (.dK [])) p2 (.dK [])) D (.dK (mergeK [] [((Sum.inl (-1) : Key), V.ref p1), (Sum.inl (-2), V.ref p2)]))) := same_upd (((s05.trans s6).trans s7).trans s8) hDn
    have f0 : Fol (upd (upd (upd (upd H5 D (.dK [])) p1 (.dK [])) p2 (.dK [])) D (.dK (mergeK [] [((Sum.inl (-1) : Key), V.ref p1), (Sum.inl (-2), V.ref p2)]))) D [(-1, p1), (-2, p2)] (RR Us (K13.endsT T0 n) (HA.map (· + 1)) (TB.map (· + 1)) 0 0 0 0) := by
      have no : ∀ x y, ¬ RR Us (K13.endsT T0 n) (HA.map (· + 1)) (TB.map (· + 1)) 0 0 0 0 x y := fun x y h => by
        rcases h with ⟨_, h, _⟩ | ⟨_, h, _⟩ | ⟨_, h, _⟩ | ⟨_, h, _⟩ <;> exact absurd h (by simp)
      refine ⟨upd_same, by show ([-1, -2] : List Int).Nodup; decide, ?_, ?_, fun x d hx => ⟨[], ?_, List.nodup_nil, fun y => ⟨fun h => (by cases h), fun h => absurd h (no x y)⟩⟩⟩
      · show [p1, p2].Nodup
        simp [hp2p.symm]
      · show D ∉ [p1, p2]
        simp [hp1D.symm, hp2D.symm]
      · rcases List.mem_cons.mp hx with hx | hx
        · cases hx
          rw [upd_ne hp1D, upd_ne hp2p.symm, upd_same]
          rfl
        · cases List.mem_singleton.mp hx
          rw [upd_ne hp2D, upd_same]
          rfl
    have e9 : (upd (upd (upd (upd H5 D (.dK [])) p1 (.dK [])) p2 (.dK [])) D (.dK (mergeK [] [((Sum.inl (-1) : Key), V.ref p1), (Sum.inl (-2), V.ref p2)]))) l5 = some (.lst (nats Us)) := by
      have h1 := s8 _ _ (s7 _ _ (s6 _ _ e5))
      rw [upd_ne (fun e : l5 = D => by rw [← e, e5] at hD; cases hD)]
      exact h1
    have hl5n : H l5 = none := (s03.trans s4).free hl5
    generalize upd (upd (upd (upd H5 D (.dK [])) p1 (.dK [])) p2 (.dK [])) D (.dK (mergeK [] [((Sum.inl (-1) : Key), V.ref p1), (Sum.inl (-2), V.ref p2)])) = H9 at s9 f0 e9
    clear s6 s7 s8
    refine ⟨_, rfl, l5, rfl, ⟨_, SqL.of e9⟩, for_list (K := K) (a := l5) (xs := nats Us) (fun i σ H2 => ∃ (L : List (Int × Addr)) (v5 : Option V), σ = [some (.ref a), some (.ref hA), some (.ref tA), some (.ref l5), some (.ref D), v5, none, none] ∧ Same H H2 ∧ H2 l5 = some (.lst (nats Us)) ∧ (∀ d, d ∈ L.map (·.2) → H d = none) ∧ L.map (·.1) = stOf (Us.take i) ∧
        Fol H2 D L (RR Us (K13.endsT T0 n) (HA.map (· + 1)) (TB.map (· + 1)) i 0 0 0))
      ⟨_, none, rfl, s9, e9, ?_, rfl, f0⟩ (fun i σ H2 _ ⟨_, _, _, _, h, _⟩ => SqL.of h) ?_ ?_⟩
    · intro d hd
      have : d = p1 ∨ d = p2 := by simpa using hd
      rcases this with rfl | rfl
      · exact hp1n
      · exact hp2n
    · rintro i x σ H2 hx ⟨L, v5, rfl, s2', hl2', hfr, hkeys, fo⟩
      obtain ⟨m, hm, rfl⟩ := nats_get hx
      have hi := (List.getElem?_eq_some_iff.mp hm).1
      have hLl : L.length ≤ 44 := by
        have e := congrArg List.length hkeys
        rw [List.length_map, stOf_len, List.length_take] at e
        omega
      have hnm : m ∉ Us.take i := fun h => by
        have h2 := usn
        rw [← List.take_append_drop i Us, List.nodup_append] at h2
        refine h2.2.2 m h m ?_ rfl
        rw [List.mem_iff_getElem?]
        exact ⟨0, by rw [List.getElem?_drop]; exact hm⟩
      have hin : (2 * (m : Int)) ∉ L.map (·.1) := by rw [hkeys, in_stOf]; exact hnm
      have hout : (2 * (m : Int) + 1) ∉ L.map (·.1) := by rw [hkeys, out_stOf]; exact hnm
      have fresh2 : ∀ {G : Hp} {L : List (Int × Addr)} {R : Int → Int → Prop} {q : Addr}, Fol G D L R → G q = none → q ∉ L.map (·.2) ∧ q ≠ D := by
        intro G L R q fo hq
        refine ⟨fun h => ?_, fun e => ?_⟩
        · obtain ⟨⟨y, d⟩, hm, rfl⟩ := List.mem_map.mp h
          obtain ⟨ks, h1, _⟩ := fo.row y d hm
          rw [h1] at hq
          cases hq
        · rw [e, fo.out] at hq
          cases hq
      refine fun q1 hq1 => ⟨_, rfl, _, _, rfl, rfl, two_mul _, _, _, rfl, rfl, upd_same, [((Sum.inl (2 * (m : Int) + 1) : Key), V.bl true)], rfl, by show 1 ≤ 15; decide, ?_⟩
      obtain ⟨hq1L, hq1D⟩ := fresh2 fo hq1
      have hq1n := s2'.free hq1
      have s3' : Same H2 (upd (upd H2 q1 (.dK [])) q1 (.dK (mergeK [] [((Sum.inl (2 * (m : Int) + 1) : Key), V.bl true)]))) := same_upd (same_new hq1) hq1
      have e3' : (upd (upd H2 q1 (.dK [])) q1 (.dK (mergeK [] [((Sum.inl (2 * (m : Int) + 1) : Key), V.bl true)]))) q1 = some (.dK (kb [2 * (m : Int) + 1])) := upd_same
      generalize upd (upd H2 q1 (.dK [])) q1 (.dK (mergeK [] [((Sum.inl (2 * (m : Int) + 1) : Key), V.bl true)])) = H3' at s3' e3'
      have fo3 := fo.mono s3'
      refine ⟨_, rfl, _, rfl, _, _, rfl, rfl, two_mul _, D, _, rfl, DPut.k (k := (Sum.inl (2 * (m : Int)) : Key)) fo3.out (small1000 (by rw [kg_len]; omega)), ?_⟩
      have fo4 : Fol (upd H3' D (.dK (putK (kg V.ref L) (Sum.inl (2 * (m : Int))) (V.ref q1)))) D (L ++ [(2 * (m : Int), q1)]) (RR Us (K13.endsT T0 n) (HA.map (· + 1)) (TB.map (· + 1)) (i + 1) 0 0 0) := by
        refine fo3.new hin e3' (by simp) hq1L hq1D fun u y => ?_
        unfold RR
        rw [ex_take hm]
        constructor
        · rintro ((⟨z, h1, rfl, rfl⟩ | ⟨rfl, rfl⟩) | h)
          · exact .inl ⟨fun e => hnm (by have : z = m := by omega
                                         rw [← this]; exact h1), .inl ⟨z, h1, rfl, rfl⟩⟩
          · exact .inr ⟨rfl, by simp⟩
          · rcases h with ⟨_, h, _⟩ | ⟨_, h, _⟩ | ⟨_, h, _⟩ <;> exact absurd h (by simp)
        · rintro (⟨_, h | h⟩ | ⟨rfl, h⟩)
          · exact .inl (.inl h)
          · exact .inr h
          · exact .inl (.inr ⟨rfl, by simpa using h⟩)
      have s4' : Same H (upd H3' D (.dK (putK (kg V.ref L) (Sum.inl (2 * (m : Int))) (V.ref q1)))) := same_upd (s2'.trans s3') hDn
      have hl4' : (upd H3' D (.dK (putK (kg V.ref L) (Sum.inl (2 * (m : Int))) (V.ref q1)))) l5 = some (.lst (nats Us)) := by
        rw [upd_ne (fun e : l5 = D => by have := fo.out; rw [← e, hl2'] at this; cases this)]
        exact s3' _ _ hl2'
      generalize upd H3' D (.dK (putK (kg V.ref L) (Sum.inl (2 * (m : Int))) (V.ref q1))) = H4' at fo4 s4' hl4'
      refine fun q2 hq2 => ?_
      obtain ⟨hq2L, hq2D⟩ := fresh2 fo4 hq2
      have hq2n := s4'.free hq2
      have s5' : Same H4' (upd H4' q2 (.dK [])) := same_new hq2
      have e5' : (upd H4' q2 (.dK [])) q2 = some (.dK (kb [])) := upd_same
      generalize upd H4' q2 (.dK []) = H5' at s5' e5'
      have fo5 := fo4.mono s5'
      refine ⟨_, rfl, _, rfl, _, _, rfl, rfl, two_mul _, _, _, rfl, rfl, D, _, rfl, DPut.k (k := (Sum.inl (2 * (m : Int) + 1) : Key)) fo5.out (small1000 (by rw [kg_len, List.length_append, List.length_singleton]; omega)), ?_⟩
      refine ⟨L ++ [(2 * (m : Int), q1)] ++ [(2 * (m : Int) + 1, q2)], _, rfl, same_upd (s4'.trans s5') hDn, ?_, ?_, ?_, ?_⟩
      · rw [upd_ne (fun e : l5 = D => by have := fo.out; rw [← e, hl2'] at this; cases this)]
        exact s5' _ _ hl4'
      · intro d hd
        rw [List.map_append, List.map_append, List.mem_append, List.mem_append] at hd
        rcases hd with (hd | hd) | hd
        · exact hfr d hd
        · have : d = q1 := by simpa using hd
          rw [this]; exact hq1n
        · have : d = q2 := by simpa using hd
          rw [this]; exact hq2n
      · rw [List.map_append, List.map_append, hkeys, take_one hm, stOf_snoc]
        rfl
      · refine fo5.new ?_ e5' List.nodup_nil hq2L hq2D fun u y => ?_
        · rw [List.map_append, List.mem_append]
          rintro (h | h)
          · exact hout h
          · have : (2 * (m : Int) + 1) = 2 * (m : Int) := by simpa using h
            omega
        · constructor
          · intro h
            refine .inl ⟨fun e => ?_, h⟩
            subst e
            rcases h with ⟨z, _, h, _⟩ | ⟨_, h, _⟩ | ⟨_, h, _⟩ | ⟨_, h, _⟩
            · omega
            · exact absurd h (by simp)
            · exact absurd h (by simp)
            · exact absurd h (by simp)
          · rintro (⟨_, h⟩ | ⟨_, h⟩)
            · exact h
            · cases h
    · rintro σ H2 ⟨L, v5, rfl, s2', hl2', hfr, hkeys, fo⟩
      rw [nats_len, List.take_length] at hkeys
      rw [nats_len] at fo
      have hLl : L.length ≤ 44 := by
        have e := congrArg List.length hkeys
        rw [List.length_map, stOf_len] at e
        omega
      have kfew : ∀ {G : Hp} {R : Int → Int → Prop} {x : Int} {ks : List Int}, Fol G D L R → (∀ y, R x y → y ∈ stOf Us) → ks.Nodup → (∀ y, y ∈ ks ↔ R x y) → (kb ks).length < sizeLine := fun {G R x ks} fo hR h1 h2 => by
        have h3 := fewZ h1 (fun y hy => hR y ((h2 y).mp hy)) (hkeys ▸ fo.nd)
        rw [stOf_len] at h3
        exact small1000 (by rw [kb_len]; omega)
      have offL : ∀ {G : Hp} {R : Int → Int → Prop} {x : Int} {d q : Addr} {l : List V}, Fol G D L R → (x, d) ∈ L → G q = some (.lst l) → q ≠ d := fun {G R x d q l} fo hm hq e => by
        obtain ⟨ks, h1, _⟩ := fo.row x d hm
        rw [e, h1] at hq
        cases hq
      have hdn : ∀ {x : Int} {d : Addr}, (x, d) ∈ L → H d = none := fun hm => hfr _ (List.mem_map.mpr ⟨_, hm, rfl⟩)
      refine ⟨_, rfl, .ref a, rim, n, T0, am, rfl, hv.mono s2', W, hal, hn9, fun p es H3' s3' hpn hp hE => ?_⟩
      have hpH : H p = none := s2'.free hpn
      have hes : es.length = n := by rw [hE.1]; exact K13.Net.elen (rim := rim)
      refine ⟨p, rfl, ⟨_, SqL.of hp⟩, for_list (K := K) (a := p) (xs := es) (fun j σ H4' => ∃ v5 v6 v7 : Option V, σ = [some (.ref a), some (.ref hA), some (.ref tA), some (.ref l5), some (.ref D), v5, v6, v7] ∧ Same H H4' ∧ TK K H3' H4' ∧ H4' l5 = some (.lst (nats Us)) ∧ H4' p = some (.lst es) ∧
          Fol H4' D L (RR Us (K13.endsT T0 n) (HA.map (· + 1)) (TB.map (· + 1)) Us.length j 0 0))
        ⟨_, _, _, rfl, s2'.trans s3', TK.refl, s3' _ _ hl2', hp, fo.mono s3'⟩ (fun j σ H4' _ ⟨_, _, _, _, _, _, _, h, _⟩ => SqL.of h) ?_ ?_⟩
      · rintro j x σ H4' hx ⟨v5, v6, v7, rfl, s4', tk4, hl4', hp4, fo4⟩
        have hj : j < n := by have := (List.getElem?_eq_some_iff.mp hx).1; omega
        obtain ⟨⟨f1, f2⟩, hE1⟩ : ∃ e, (K13.endsT T0 n)[j]? = some e := ⟨_, List.getElem?_eq_getElem (by rw [K13.Net.elen (rim := rim)]; exact hj)⟩
        obtain ⟨t2, rfl, ht2⟩ := hE.2 j x _ hx hE1
        have ht2 := tk4 _ _ ht2
        refine ⟨t2, _, rfl, ht2, rfl, _, _, rfl, _, _, rfl, rfl, ?_⟩
        have stay : ¬ (f1 ≠ f2 ∧ f1 + 1 ∈ Us ∧ f2 + 1 ∈ Us) → Fol H4' D L (RR Us (K13.endsT T0 n) (HA.map (· + 1)) (TB.map (· + 1)) Us.length (j + 1) 0 0) := fun hc => fo4.imp fun u y _ => by
          unfold RR
          rw [ex_take hE1]
          refine or_congr Iff.rfl (or_congr ⟨.inl, fun h => h.elim id fun h => absurd ⟨h.1, h.2.1, h.2.2.1⟩ hc⟩ Iff.rfl)
        have e1 : (if false = true then !inV (V.int ((f1 : Int) + 1)) (nats Us) else inV (V.int ((f1 : Int) + 1)) (nats Us)) = decide (f1 + 1 ∈ Us) := by
          rw [if_neg (by decide)]
          exact inV_nats (n := f1 + 1)
        have e2 : (if false = true then !inV (V.int ((f2 : Int) + 1)) (nats Us) else inV (V.int ((f2 : Int) + 1)) (nats Us)) = decide (f2 + 1 ∈ Us) := by
          rw [if_neg (by decide)]
          exact inV_nats (n := f2 + 1)
        refine ⟨_, rfl, _, rfl, rfl, _, rfl, ?_⟩
        rw [int_eqd]
        by_cases q1 : f1 = f2
        · have q1' : (f1 : Int) + 1 = (f2 : Int) + 1 := by omega
          exact iteNS q1' ⟨_, _, _, rfl, s4', tk4, hl4', hp4, stay fun h => h.1 q1⟩
        have q1' : ¬ (f1 : Int) + 1 = (f2 : Int) + 1 := by omega
        rw [decide_eq_false q1']
        refine iteT ?_
        refine ⟨_, rfl, _, rfl, l5, _, rfl, .inl (SqL.of hl4'), rfl, nats_flat _, _, rfl, ?_⟩
        rw [e1]
        by_cases q2 : ¬ (f1 + 1 ∈ Us)
        · rw [decide_eq_false q2]
          exact iteF ⟨_, _, _, rfl, s4', tk4, hl4', hp4, stay fun h => q2 h.2.1⟩
        have q2 := Classical.not_not.mp q2
        rw [decide_eq_true q2]
        refine iteT ?_
        refine ⟨_, rfl, _, rfl, l5, _, rfl, .inl (SqL.of hl4'), rfl, nats_flat _, _, rfl, ?_⟩
        rw [e2]
        by_cases q3 : ¬ (f2 + 1 ∈ Us)
        · rw [decide_eq_false q3]
          exact iteF ⟨_, _, _, rfl, s4', tk4, hl4', hp4, stay fun h => q3 h.2.2⟩
        have q3 := Classical.not_not.mp q3
        rw [decide_eq_true q3]
        refine iteT ?_
        have x1 : 2 * ((f1 : Int) + 1) + 1 ∈ L.map (·.1) := by rw [hkeys]; exact (out_stOf (n := f1 + 1)).mpr q2
        have x2 : 2 * ((f2 : Int) + 1) + 1 ∈ L.map (·.1) := by rw [hkeys]; exact (out_stOf (n := f2 + 1)).mpr q3
        obtain ⟨d1, k1, hm1, hdD1, dg1, hd1, kn1, km1⟩ := fo4.get x1
        refine ⟨_, rfl, _, rfl, _, _, rfl, rfl, two_mul _, _, _, rfl, rfl, D, _, rfl, dg1, _, rfl, _, _, rfl, rfl, two_mul _, d1, _, rfl, DPut.k (k := (Sum.inl (2 * ((f2 : Int) + 1)) : Key)) hd1 (kfew fo4 (fun y hy => RR.y hy hhs) kn1 km1), ?_⟩
        have fo5 := fo4.put (y := 2 * ((f2 : Int) + 1)) (A' := fun u y => RR Us (K13.endsT T0 n) (HA.map (· + 1)) (TB.map (· + 1)) Us.length j 0 0 u y ∨ (u = 2 * ((f1 : Int) + 1) + 1 ∧ y = 2 * ((f2 : Int) + 1))) hm1 hd1 fun u y => Iff.rfl
        have s5' := same_upd (o := .dK (putK (kb k1) (Sum.inl (2 * ((f2 : Int) + 1))) (V.bl true))) s4' (hdn hm1)
        have tk5 := tk4.trans (TK.dk (o := .dK (putK (kb k1) (Sum.inl (2 * ((f2 : Int) + 1))) (V.bl true))) hd1)
        have hl5' : (upd H4' d1 (.dK (putK (kb k1) (Sum.inl (2 * ((f2 : Int) + 1))) (V.bl true)))) l5 = some (.lst (nats Us)) := by rw [upd_ne (offL fo4 hm1 hl4')]; exact hl4'
        have hp5' : (upd H4' d1 (.dK (putK (kb k1) (Sum.inl (2 * ((f2 : Int) + 1))) (V.bl true)))) p = some (.lst es) := by rw [upd_ne (offL fo4 hm1 hp4)]; exact hp4
        generalize upd H4' d1 (.dK (putK (kb k1) (Sum.inl (2 * ((f2 : Int) + 1))) (V.bl true))) = H5' at fo5 s5' tk5 hl5' hp5'
        obtain ⟨d2, k2, hm2, hdD2, dg2, hd2, kn2, km2⟩ := fo5.get x2
        refine ⟨_, rfl, _, rfl, _, _, rfl, rfl, two_mul _, _, _, rfl, rfl, D, _, rfl, dg2, _, rfl, _, _, rfl, rfl, two_mul _, d2, _, rfl, DPut.k (k := (Sum.inl (2 * ((f1 : Int) + 1)) : Key)) hd2 (kfew fo5 (fun y hy => hy.elim (fun h => RR.y h hhs) fun h => by rw [h.2]; exact (in_stOf (n := f2 + 1)).mpr q3) kn2 km2), ?_⟩
        refine ⟨_, _, _, rfl, same_upd s5' (hdn hm2), tk5.trans (TK.dk hd2), by rw [upd_ne (offL fo5 hm2 hl5')]; exact hl5', by rw [upd_ne (offL fo5 hm2 hp5')]; exact hp5', fo5.put hm2 hd2 fun u y => ?_⟩
        have c1 : ((f1 + 1 : Nat) : Int) = (f1 : Int) + 1 := rfl
        have c2 : ((f2 + 1 : Nat) : Int) = (f2 : Int) + 1 := rfl
        unfold RR
        rw [ex_take hE1, c1, c2]
        constructor
        · rintro (h | (h | ⟨_, _, _, h | h⟩) | h)
          · exact .inl (.inl (.inl h))
          · exact .inl (.inl (.inr (.inl h)))
          · exact .inl (.inr h)
          · exact .inr h
          · exact .inl (.inl (.inr (.inr h)))
        · rintro (((h | h | h) | h) | h)
          · exact .inl h
          · exact .inr (.inl (.inl h))
          · exact .inr (.inr h)
          · exact .inr (.inl (.inr ⟨q1, q2, q3, .inl h⟩))
          · exact .inr (.inl (.inr ⟨q1, q2, q3, .inr h⟩))
      · rintro σ H4' ⟨v5, v6, v7, rfl, s4', _, hl4', hp4, fo4⟩
        rw [hes] at fo4
        refine ⟨_, rfl, hA, rfl, ⟨_, Same.tup s4' hH⟩, for_tup (K := K) (a := hA) (xs := ups HA) (fun j σ H5' => ∃ v5 : Option V, σ = [some (.ref a), some (.ref hA), some (.ref tA), some (.ref l5), some (.ref D), v5, v6, v7] ∧ Same H H5' ∧ Fol H5' D L (RR Us (K13.endsT T0 n) (HA.map (· + 1)) (TB.map (· + 1)) Us.length n j 0))
          ⟨_, rfl, s4', fo4⟩ (fun j σ H5' _ ⟨_, _, s5', _⟩ => Same.tup s5' hH) ?_ ?_⟩
        · rintro j x σ H5' hx ⟨v5, rfl, s5', fo5⟩
          obtain ⟨m, hm, rfl⟩ := nats_get hx
          have hmU := hhs m (List.mem_of_getElem? hm)
          have x1 : (-1 : Int) ∈ L.map (·.1) := by rw [hkeys]; exact mem_stOf.mpr (.inl rfl)
          obtain ⟨d1, k1, hm1, hdD1, dg1, hd1, kn1, km1⟩ := fo5.get x1
          refine ⟨_, rfl, D, _, rfl, dg1, _, rfl, _, _, rfl, rfl, two_mul _, d1, _, rfl, DPut.k (k := (Sum.inl (2 * (m : Int)) : Key)) hd1 (kfew fo5 (fun y hy => RR.y hy hhs) kn1 km1), ?_⟩
          refine ⟨_, rfl, same_upd s5' (hdn hm1), fo5.put hm1 hd1 fun u y => ?_⟩
          unfold RR
          rw [ex_take hm]
          constructor
          · rintro (h | h | (h | h) | h)
            · exact .inl (.inl h)
            · exact .inl (.inr (.inl h))
            · exact .inl (.inr (.inr (.inl h)))
            · exact .inr h
            · exact .inl (.inr (.inr (.inr h)))
          · rintro ((h | h | h | h) | h)
            · exact .inl h
            · exact .inr (.inl h)
            · exact .inr (.inr (.inl (.inl h)))
            · exact .inr (.inr (.inr h))
            · exact .inr (.inr (.inl (.inr h)))
        · rintro σ H5' ⟨v5, rfl, s5', fo5⟩
          have ehl : (ups HA).length = (HA.map (· + 1)).length := by rw [ups_len, List.length_map]
          have etl : (ups TB).length = (TB.map (· + 1)).length := by rw [ups_len, List.length_map]
          rw [ehl] at fo5
          refine ⟨_, rfl, tA, rfl, ⟨_, Same.tup s5' hT⟩, for_tup (K := K) (a := tA) (xs := ups TB) (fun j σ H6' => ∃ v5 : Option V, σ = [some (.ref a), some (.ref hA), some (.ref tA), some (.ref l5), some (.ref D), v5, v6, v7] ∧ Same H H6' ∧ Fol H6' D L (RR Us (K13.endsT T0 n) (HA.map (· + 1)) (TB.map (· + 1)) Us.length n (HA.map (· + 1)).length j))
            ⟨_, rfl, s5', fo5⟩ (fun j σ H6' _ ⟨_, _, s6', _⟩ => Same.tup s6' hT) ?_ ?_⟩
          · rintro j x σ H6' hx ⟨v5, rfl, s6', fo6⟩
            obtain ⟨m, hm, rfl⟩ := nats_get hx
            have hmU := hts m (List.mem_of_getElem? hm)
            have x1 : 2 * (m : Int) + 1 ∈ L.map (·.1) := by rw [hkeys]; exact out_stOf.mpr hmU
            obtain ⟨d1, k1, hm1, hdD1, dg1, hd1, kn1, km1⟩ := fo6.get x1
            refine ⟨_, rfl, _, rfl, _, _, rfl, rfl, two_mul _, _, _, rfl, rfl, D, _, rfl, dg1, d1, _, rfl, DPut.k (k := (Sum.inl (-2) : Key)) hd1 (kfew fo6 (fun y hy => RR.y hy hhs) kn1 km1), ?_⟩
            refine ⟨_, rfl, same_upd s6' (hdn hm1), fo6.put hm1 hd1 fun u y => ?_⟩
            unfold RR
            rw [ex_take hm]
            constructor
            · rintro (h | h | h | h | h)
              · exact .inl (.inl h)
              · exact .inl (.inr (.inl h))
              · exact .inl (.inr (.inr (.inl h)))
              · exact .inl (.inr (.inr (.inr h)))
              · exact .inr h
            · rintro ((h | h | h | h) | h)
              · exact .inl h
              · exact .inr (.inl h)
              · exact .inr (.inr (.inl h))
              · exact .inr (.inr (.inr (.inl h)))
              · exact .inr (.inr (.inr (.inr h)))
          · rintro σ H6' ⟨v5, rfl, s6', fo6⟩
            rw [etl] at fo6
            refine ⟨_, rfl, k D L H6' s6' hDn hfr hkeys (fo6.imp fun u y _ => ?_)⟩
            exact RR.all W hhs hts
end
end W13
namespace W13
open PySem L2
/-! ## the ways -/
theorem for_zipU {K : PySem.W.Frag} {a b : Addr} {xs ys : List V} {g : TG} {tb : TS} {D : Ends} {σ : L2.St} {H : Hp} (hl : ys.length ≤ xs.length) (Pv : Nat → L2.St → Hp → Prop) (h0 : Pv 0 σ H) (hq : ∀ i σ H, Pv i σ H → SqL K H a xs ∧ SqL K H b ys)
    (hs : ∀ (i : Nat) (x y : V) (t : Addr) (σ : L2.St) (H : Hp), xs[i]? = some x → ys[i]? = some y → Pv i σ H → H t = none → g (.ref t) σ (upd H t (.tup [x, y])) fun σ2 H2 => tb { D with nx := Pv (i + 1), ct := Pv (i + 1), bk := D.nx } σ2 H2) (hd : ∀ σ H, Pv ys.length σ H → D.nx σ H) :
    ∃ W : Nat → Nat → L2.St → Hp → Prop, (∃ m, W 0 m σ H) ∧ ∀ i m σ H, W i m σ H →
      ((Itz K a b).stop i H ∧ D.nx σ H) ∨ ((Itz K a b).go i H ∧ ∃ N : L2.St → Hp → Prop, (∀ σ' H', N σ' H' → ∃ m', m' < m ∧ W (i + 1) m' σ' H') ∧ ∀ v H', (Itz K a b).yld i H v H' → g v σ H' fun σ2 H2 => tb { D with nx := N, ct := N, bk := D.nx } σ2 H2) := by
  refine ⟨fun i m σ H => m = ys.length - i ∧ i ≤ ys.length ∧ Pv i σ H, ⟨ys.length, rfl, Nat.zero_le _, h0⟩, ?_⟩
  rintro i m σ H ⟨rfl, hi, p⟩
  obtain ⟨qx, qy⟩ := hq i σ H p
  by_cases hlt : i < ys.length
  · have h1 : i < xs.length := by omega
    refine .inr ⟨⟨xs, ys, _, _, qx, qy, List.getElem?_eq_getElem h1, List.getElem?_eq_getElem hlt⟩, Pv (i + 1), fun σ' H' p' => ⟨ys.length - (i + 1), by omega, rfl, hlt, p'⟩, fun v H' y => ?_⟩
    obtain ⟨t, x', y', rfl, hT, rfl, f1, f2⟩ := y
    exact hs i x' y' t σ H (f1 xs qx) (f2 ys qy) p hT
  · have e : i = ys.length := by omega
    subst e
    exact .inl ⟨⟨xs, ys, qx, qy, .inr (Nat.le_refl _)⟩, hd σ H p⟩
theorem nd_flat : ∀ {W : List (List Nat)}, (∀ (i : Nat) l, W[i]? = some l → l.Nodup) → (∀ (i j : Nat) l l' x, W[i]? = some l → W[j]? = some l' → x ∈ l → x ∈ l' → i = j) → W.flatten.Nodup
  | [], _, _ => List.nodup_nil
  | l :: W, h1, h2 => by
    rw [List.flatten_cons, List.nodup_append]
    refine ⟨h1 0 l rfl, nd_flat (fun i l h => h1 (i + 1) l h) (fun i j l l' x a b c d => by have := h2 (i + 1) (j + 1) l l' x a b c d; omega), fun x hx y hy e => ?_⟩
    subst e
    obtain ⟨l', hl', hxl⟩ := List.mem_flatten.mp hy
    obtain ⟨j, hj⟩ := List.getElem?_of_mem hl'
    have := h2 0 (j + 1) l l' x rfl hj hx hxl
    omega
theorem flat_le {W : List (List Nat)} {c : Nat} (h : ∀ l, l ∈ W → l.length ≤ c) : W.flatten.length ≤ W.length * c := by
  induction W with
  | nil => simp
  | cons l W ih =>
    have h1 := h l List.mem_cons_self
    have h2 := ih fun l hl => h l (List.mem_cons_of_mem _ hl)
    rw [List.flatten_cons, List.length_append, List.length_cons, Nat.succ_mul]
    omega
abbrev usP (rim N : Nat) (A B : List Nat) : Nat → Prop := fun m => m ∈ usOf rim N (A.map (· + 1)) (B.map (· + 1))
def spWays (K : PySem.W.Frag) : Sp := fun vs H Q _ => ∃ (v : V) (h t : Addr) (rim n : Nat) (T : List (List Nat)) (am : List Rat) (A B : List Nat), vs = [v, .ref h, .ref t] ∧ NetV K H v rim T am ∧ K13.WF rim T n ∧ am.length = n ∧ n ≤ 9 ∧ T.length ≤ 15 ∧ SqT K H h (ups A) ∧ SqT K H t (ups B) ∧
  (A ++ B).Nodup ∧ (∀ x, x ∈ A ++ B → x < rim) ∧ A.length ≤ 3 ∧ A.length = B.length ∧
  ∀ (x : V) (H' : Hp), Same H H' → ((x = .non ∧ ¬ LinkT T rim (B.map (· + 1)) (A.map (· + 1)) []) ∨
    (∃ (f : Addr) (ws : List V) (W : List (List Nat)), x = .ref f ∧ SqT K H' f ws ∧ ws.length = A.length ∧ W.length = A.length ∧ (∀ (i : Nat) x l, ws[i]? = some x → W[i]? = some l → ∃ d, x = .ref d ∧ SqT K H' d (nats l)) ∧
      (∀ (i a : Nat) (l : List Nat), (A.map (· + 1))[i]? = some a → W[i]? = some l → K13.Good (K13.adj1 T) (fun j => rim < j) (B.map (· + 1)) a l) ∧ W.flatten.Nodup ∧ W.flatten.length ≤ 1000 ∧ (∀ l x, l ∈ W → x ∈ l → x < T.length + 1) ∧ LinkT T rim (B.map (· + 1)) (A.map (· + 1)) [])) → Q x H'
section
variable {P : Program} {w : World} {K : PySem.W.Frag} {mg : Str → Option Value} {base : Heap} {uS uG : Value} {aZ aO : Addr}
abbrev s_ways : Stmt := top 11
theorem sc_ways : FnScope ["net", "heads", "tails", "following", "_", "row", "here", "there", "node"] ["net", "heads", "tails"] (defScope s_ways) := ⟨rfl, rfl, rfl, by decide +kernel, rfl, by decide +kernel, by decide +kernel⟩
theorem ok_ways {f : Addr} {fd : FuncData} (F : Fun K "ways" "ways" s_ways f fd) (T : Txt K mg uS uG aZ aO) (DF : Df P w K mg base 3 "first_steps" ["net", "heads", "tails"] (spFirst K)) (DS : Df P w K mg base 1 "shortest_row" ["following"] spShort)
    (DW : Df P w K mg base 2 "way_from" ["following", "node"] (spWayF K)) : FnOk P w K mg base CX0 4 f fd ["net", "heads", "tails"] (spWays K) := by
  obtain ⟨_, _, G_first_steps, C_first_steps⟩ := DF
  obtain ⟨_, _, G_shortest_row, C_shortest_row⟩ := DS
  obtain ⟨_, _, G_way_from, C_way_from⟩ := DW
  refine F.ok sc_ways (fun vs H Q E h => ?_) (fun cdv A outer s H vs Q E hr h => ?_)
  · obtain ⟨v, h, t, rim, n, T0, am, A, B, rfl, _⟩ := h
    rfl
  · obtain ⟨v, hA, tA, rim, n, T0, am, HA, TB, rfl, hv, W, hal, hn9, hN, hH, hT, nd2, hlt, ha3, hab, k⟩ := h
    have nd := sc_ways.nd
    refine ⟨_,
      (pss_cons
        (ps_set (i := 3) nd rfl (by first | exact Or.inl rfl | exact Or.inr rfl) (pe_call G_first_steps (hr.mono (by decide)) rfl C_first_steps.m C_first_steps.kp C_first_steps.b .nil pass0 (pa_cons (pv 0) (pa_cons (pv 1) (pa_cons (pv 2) pa_nil)))))
      (pss_cons
        (ps_for PassesOwn.never rfl (pi_tup (pv 1)) (pg_name (i := 4) nd rfl (by first | exact Or.inl rfl | exact Or.inr rfl))
          (pss_cons
            (ps_set (i := 5) nd rfl (by first | exact Or.inl rfl | exact Or.inr rfl) (pe_call G_shortest_row (hr.mono (by decide)) rfl C_shortest_row.m C_shortest_row.kp C_shortest_row.b .nil pass0 (pa_cons (pv 3) pa_nil)))
          (pss_cons
            (ps_if (pt_cmpR op_eq (pe_callB call_len_seq (by rfl) T.len PySem.boot_len (pa_cons (pv 5) pa_nil)) pe_int (nomark _))
              (pss_one
                (ps_ret pe_non))
              pss_nil)
          (pss_one
            (ps_for PassesOwn.never rfl (pi_zip (by rfl) T.zip (pa_cons (pv 5) (pa_cons (pe_slice sl_list (pv 5) (po_some pe_int) po_none) pa_nil))) (pg_tup rfl (pgs_cons (pg_name (i := 6) nd rfl (by first | exact Or.inl rfl | exact Or.inr rfl)) (pgs_cons (pg_name (i := 7) nd rfl (by first | exact Or.inl rfl | exact Or.inr rfl)) pgs_nil)))
              (pss_cons
                (ps_ddel (pe_dget (hu_of hr) (pv 3) (pv 6) (fun _ _ => rfl)) (pv 7))
              (pss_one
                (ps_dput (hu_of hr) (pe_dget (hu_of hr) (pv 3) (pv 7) (fun _ _ => rfl)) (pv 6) pe_bl rfl))))))))
      (pss_one
        (ps_ret (pe_callTy cr_tupleOf (by rfl) T.tuple (by decide +kernel) (pa_cons (pe_lc (own := [("node", 8)]) (g := gName 8) rfl nd (pi_tup (pv 1)) (blkOk_by (N := ["net", "heads", "tails", "following", "_", "row", "here", "there", "node"]) (sc := defScope s_ways) (by decide +kernel))
      (fun _ _ _ _ _ => pg_name (i := 8) nd rfl (by first | exact Or.inl rfl | exact Or.inr rfl)) (fun _ _ _ _ _ => pts_nil)
      (fun _ _ _ _ _ => (pe_call G_way_from (hr.mono (by decide)) rfl C_way_from.m C_way_from.kp C_way_from.b .nil pass0 (pa_cons (pv 3) (pa_cons (pv 8) pa_nil))))) pa_nil)))))), ?_⟩
    refine ⟨_, rfl, _, rfl, _, rfl, v, hA, tA, rim, n, T0, am, HA, TB, rfl, hv, W, hal, hn9, hN, hH, hT, nd2, hlt, ha3, by omega, fun D L H1 s1 hDn hfr hkeys fo1 => ?_⟩
    have hle := W.le
    have hL45 : L.length ≤ 45 := by
      have e := congrArg List.length hkeys
      rw [List.length_map, stOf_len] at e
      unfold usOf K13.innr at e
      rw [List.length_append, List.length_append, List.length_map, List.length_map, List.length_range'] at e
      omega
    have dA : ∀ x, x ∈ HA.map (· + 1) → ∃ y, y ∈ HA ∧ x = y + 1 := fun x hx => by
      obtain ⟨y, hy, rfl⟩ := List.mem_map.mp hx
      exact ⟨y, hy, rfl⟩
    have dB : ∀ x, x ∈ TB.map (· + 1) → ∃ y, y ∈ TB ∧ x = y + 1 := fun x hx => by
      obtain ⟨y, hy, rfl⟩ := List.mem_map.mp hx
      exact ⟨y, hy, rfl⟩
    have ndp := List.nodup_append.mp nd2
    have WY : K13.Wy (usP rim T0.length HA TB) (K13.adj1 T0) (HA.map (· + 1)) (TB.map (· + 1)) (L.map (·.1)) := by
      refine ⟨?_, ?_, ?_, List.Pairwise.map _ (fun a b (q : a ≠ b) e => q (by omega)) ndp.1, List.Pairwise.map _ (fun a b (q : a ≠ b) e => q (by omega)) ndp.2.1, ?_, by rw [List.length_map, List.length_map]; exact hab, fo1.nd, ?_, ?_, ?_, ?_⟩
      · rintro u ⟨a, b, e1, e2, hne, _⟩
        exact hne (by omega)
      · exact fun h hh => List.mem_append_left _ (List.mem_append_left _ hh)
      · exact fun t ht => List.mem_append_left _ (List.mem_append_right _ ht)
      · intro h hh ht
        obtain ⟨y, hy, rfl⟩ := dA h hh
        obtain ⟨z, hz, e⟩ := dB _ ht
        exact ndp.2.2 y hy z hz (by omega)
      · rw [hkeys]; exact mem_stOf.mpr (.inl rfl)
      · rw [hkeys]; exact mem_stOf.mpr (.inr (.inl rfl))
      · intro m hm; rw [hkeys]; exact in_stOf.mpr hm
      · intro m hm; rw [hkeys]; exact out_stOf.mpr hm
    have hin : ∀ p j, K13.adj1 T0 p j → rim < j → usP rim T0.length HA TB j := fun p j ⟨a, b, _, e2, _, hk⟩ hj => by
      obtain ⟨d, s, t, _, e, _, _⟩ := hk
      have := (List.getElem?_eq_some_iff.mp e).1
      exact List.mem_append_right _ (K13.mem_innr.mpr ⟨by omega, by omega⟩)
    have hni : ∀ h, h ∈ HA.map (· + 1) → ¬ rim < h := fun h hh => by
      obtain ⟨y, hy, rfl⟩ := dA h hh
      have := hlt y (List.mem_append_left _ hy)
      omega
    have hnt : ∀ h, h ∈ TB.map (· + 1) → ¬ rim < h := fun h hh => by
      obtain ⟨y, hy, rfl⟩ := dB h hh
      have := hlt y (List.mem_append_right _ hy)
      omega
    have hui : ∀ m, usP rim T0.length HA TB m → m ∈ HA.map (· + 1) ∨ m ∈ TB.map (· + 1) ∨ rim < m := fun m hm => by
      rcases List.mem_append.mp hm with hm | hm
      · exact (List.mem_append.mp hm).imp id .inl
      · have := K13.mem_innr.mp hm
        exact .inr (.inr (by omega))
    have huN : ∀ m, usP rim T0.length HA TB m → m < T0.length + 1 := fun m hm => by
      rcases hui m hm with h | h | h
      · obtain ⟨y, hy, rfl⟩ := dA m h
        have := hlt y (List.mem_append_left _ hy)
        omega
      · obtain ⟨y, hy, rfl⟩ := dB m h
        have := hlt y (List.mem_append_right _ hy)
        omega
      · rcases List.mem_append.mp hm with hm | hm
        · rcases List.mem_append.mp hm with hm | hm
          · exact absurd h (hni m hm)
          · exact absurd h (hnt m hm)
        · exact (K13.mem_innr.mp hm).2
    have fo1 : Fol H1 D L (K13.arc (K13.EE (usP rim T0.length HA TB) (K13.adj1 T0) (HA.map (· + 1)) (TB.map (· + 1))) fun _ _ => false) := fo1.imp fun x y _ =>
      ⟨fun h => .inl ⟨K13.EE_iff.mpr h, rfl⟩, fun h => h.elim (fun h => K13.EE_iff.mp h.1) fun h => by cases h.2⟩
    have clOf : ∀ f, Cl L (K13.arc (K13.EE (usP rim T0.length HA TB) (K13.adj1 T0) (HA.map (· + 1)) (TB.map (· + 1))) f) := fun f x y h => by
      rcases h with ⟨h, _⟩ | ⟨h, _⟩
      · exact (K13.EE_iff.mp h).mem WY
      · exact ((K13.EE_iff.mp h).mem WY).symm
    have hm1 : (-1 : Int) ∈ L.map (·.1) := WY.vS
    have hdn : ∀ {x : Int} {d : Addr}, (x, d) ∈ L → H d = none := fun hm => hfr _ (List.mem_map.mpr ⟨_, hm, rfl⟩)
    have hul : (ups HA).length = (HA.map (· + 1)).length := by rw [ups_len, List.length_map]
    refine ⟨_, rfl, hA, rfl, ⟨_, Same.tup s1 hH⟩, for_tup (K := K) (a := hA) (xs := ups HA) (fun i σ H2 => ∃ (v4 v5 v6 v7 : Option V) (f : Int → Int → Bool), σ = [some v, some (.ref hA), some (.ref tA), some (.ref D), v4, v5, v6, v7, none] ∧ Same H H2 ∧ Fol H2 D L (K13.arc (K13.EE (usP rim T0.length HA TB) (K13.adj1 T0) (HA.map (· + 1)) (TB.map (· + 1))) f) ∧
        K13.Val (usP rim T0.length HA TB) (K13.adj1 T0) (HA.map (· + 1)) (TB.map (· + 1)) (L.map (·.1)) f i)
      ⟨none, none, none, none, _, rfl, s1, fo1, K13.Val.zero⟩ (fun i σ H2 _ ⟨_, _, _, _, _, _, s2, _⟩ => Same.tup s2 hH) ?_ ?_⟩
    · rintro i x σ H2 hx ⟨v4, v5, v6, v7, f, rfl, s2, fo2, val⟩
      have hi : i < (HA.map (· + 1)).length := by have := (List.getElem?_eq_some_iff.mp hx).1; omega
      refine ⟨_, rfl, D, L, _, rfl, fo2, clOf f, by omega, hm1, fun p l H3 s3 hpn hp hl => ?_⟩
      have s23 := s2.trans s3
      have fo3 := fo2.mono s3
      refine ⟨_, rfl, p, _, rfl, .inl (SqL.of hp), rfl, _, rfl, ?_⟩
      rw [int_eqd, List.length_map]
      rcases hl with ⟨rfl, X, hX1, hX2, hX3⟩ | ⟨lnd, lrow, lhd, llast, l60⟩
      · rw [decide_eq_true (show ((([] : List Int).length : Nat) : Int) = 0 from rfl)]
        refine iteT (k .non H3 s23 (.inl ⟨rfl, ?_⟩))
        exact val.stop WY hin hni hi hX1 hX2 fun x y _ _ hx hA => hX3 x y hx hA
      · have hl0 : 0 < l.length := (List.getElem?_eq_some_iff.mp lhd).1
        have hne : ¬ ((l.length : Int) = 0) := by omega
        rw [decide_eq_false hne]
        refine iteF ?_
        have ec : cutV (l.map V.int) (some (1 : Int)) none = (l.drop 1).map V.int := by
          have := cut_drop (xs := l.map V.int) (k := 1)
          rw [List.map_drop]
          exact this
        refine ⟨_, rfl, _, rfl, _, rfl, p, _, rfl, SqL.of hp, fun q hq => ?_⟩
        rw [ec]
        have s4 : Same H3 (upd H3 q (.lst ((l.drop 1).map V.int))) := same_new hq
        have e4 : (upd H3 q (.lst ((l.drop 1).map V.int))) q = some (.lst ((l.drop 1).map V.int)) := upd_same
        have hp4 := s4 _ _ hp
        generalize upd H3 q (.lst ((l.drop 1).map V.int)) = H4 at s4 e4 hp4
        have offL : ∀ {G : Hp} {R : Int → Int → Prop} {x : Int} {d q : Addr} {l : List V}, Fol G D L R → (x, d) ∈ L → G q = some (.lst l) → q ≠ d := fun {G R x d q l} fo hm hq e => by
          obtain ⟨ks, h1, _⟩ := fo.row x d hm
          rw [e, h1] at hq
          cases hq
        refine ⟨p, q, _, _, rfl, SqL.of hp4, SqL.of e4, for_zipU (K := K) (a := p) (b := q) (xs := l.map V.int) (ys := (l.drop 1).map V.int) (by rw [List.length_map, List.length_map, List.length_drop]; omega) (fun j σ H5 => ∃ (v6 v7 : Option V) (g : Int → Int → Bool), σ = [some v, some (.ref hA), some (.ref tA), some (.ref D), some x, some (.ref p), v6, v7, none] ∧ Same H H5 ∧ H5 p = some (.lst (l.map V.int)) ∧ H5 q = some (.lst ((l.drop 1).map V.int)) ∧
            Fol H5 D L (K13.arc (K13.EE (usP rim T0.length HA TB) (K13.adj1 T0) (HA.map (· + 1)) (TB.map (· + 1))) g) ∧ K13.Row (K13.arc (K13.EE (usP rim T0.length HA TB) (K13.adj1 T0) (HA.map (· + 1)) (TB.map (· + 1))) g) (l.drop j) ∧
            K13.pushR (K13.EE (usP rim T0.length HA TB) (K13.adj1 T0) (HA.map (· + 1)) (TB.map (· + 1))) g (l.drop j) = K13.pushR (K13.EE (usP rim T0.length HA TB) (K13.adj1 T0) (HA.map (· + 1)) (TB.map (· + 1))) f l)
          ⟨_, _, f, rfl, s23.trans s4, hp4, e4, fo3.mono s4, lrow, rfl⟩ (fun j σ H5 ⟨_, _, _, _, _, h1, h2, _⟩ => ⟨SqL.of h1, SqL.of h2⟩) ?_ ?_⟩
        · rintro j xv yv t σ H5 hxj hyj ⟨v6, v7, g, rfl, s5, hp5, hq5, fo5, row5, push5⟩ ht
          obtain ⟨a, haj, rfl⟩ := ints_get hxj
          obtain ⟨b, hbj, rfl⟩ := ints_get hyj
          rw [List.getElem?_drop] at hbj
          have hbj : l[j + 1]? = some b := by rw [Nat.add_comm]; exact hbj
          have ed : l.drop j = a :: l.drop (j + 1) := by
            obtain ⟨b1, e1⟩ := List.getElem?_eq_some_iff.mp haj
            rw [List.drop_eq_getElem_cons b1, e1]
          have ed2 : l.drop (j + 1) = b :: l.drop (j + 1 + 1) := by
            obtain ⟨b1, e1⟩ := List.getElem?_eq_some_iff.mp hbj
            rw [List.drop_eq_getElem_cons b1, e1]
          rw [ed, ed2] at row5 push5
          have harc := row5.1
          have nda : (a :: b :: l.drop (j + 1 + 1)).Nodup := by
            rw [← ed2, ← ed]
            exact lnd.sublist (List.drop_sublist j l)
          have hca := clOf g a b harc
          have s6 : Same H5 (upd H5 t (.tup [.int a, .int b])) := same_new ht
          have t6 : SqT K (upd H5 t (.tup [.int a, .int b])) t [.int a, .int b] := SqT.of upd_same
          have hp6 := s6 _ _ hp5
          have hq6 := s6 _ _ hq5
          have fo6 := fo5.mono s6
          refine ⟨t, _, rfl, t6, rfl, _, _, rfl, _, _, rfl, rfl, ?_⟩
          generalize upd H5 t (.tup [.int a, .int b]) = H6 at s6 hp6 hq6 fo6
          obtain ⟨d1, k1, hm1, hdD1, dg1, hd1, kn1, km1⟩ := fo6.get hca.1
          have hbk : b ∈ k1 := (km1 b).mpr harc
          refine ⟨_, rfl, _, rfl, D, _, rfl, dg1, _, rfl, d1, kb k1, Sum.inl b, rfl, hd1, rfl, by rw [valV_kb, if_pos hbk]; rfl, ?_⟩
          have fo7 := fo6.del (y := b) (A' := fun u z => K13.arc (K13.EE (usP rim T0.length HA TB) (K13.adj1 T0) (HA.map (· + 1)) (TB.map (· + 1))) g u z ∧ ¬ (u = a ∧ z = b)) hm1 hd1 km1 kn1 fun u z => Iff.rfl
          have s7 := same_upd (o := .dK (dropK (kb k1) (Sum.inl b))) (s5.trans s6) (hdn hm1)
          have hp7 : (upd H6 d1 (.dK (dropK (kb k1) (Sum.inl b)))) p = some (.lst (l.map V.int)) := by rw [upd_ne (offL fo6 hm1 hp6)]; exact hp6
          have hq7 : (upd H6 d1 (.dK (dropK (kb k1) (Sum.inl b)))) q = some (.lst ((l.drop 1).map V.int)) := by rw [upd_ne (offL fo6 hm1 hq6)]; exact hq6
          generalize upd H6 d1 (.dK (dropK (kb k1) (Sum.inl b))) = H7 at fo7 s7 hp7 hq7
          obtain ⟨d2, k2, hm2, hdD2, dg2, hd2, kn2, km2⟩ := fo7.get hca.2
          have k2l : k2.length ≤ L.length := by
            have := fewZ kn2 (fun y hy => (clOf g _ _ ((km2 y).mp hy).1).2) fo7.nd
            rw [List.length_map] at this
            exact this
          refine ⟨_, rfl, _, rfl, D, _, rfl, dg2, _, rfl, d2, _, rfl, DPut.k (k := (Sum.inl a : Key)) hd2 (small1000 (by rw [kb_len]; omega)), ?_⟩
          refine ⟨_, _, K13.push1 (K13.EE (usP rim T0.length HA TB) (K13.adj1 T0) (HA.map (· + 1)) (TB.map (· + 1))) g a b, rfl, same_upd s7 (hdn hm2), by rw [upd_ne (offL fo7 hm2 hp7)]; exact hp7, by rw [upd_ne (offL fo7 hm2 hq7)]; exact hq7, fo7.put hm2 hd2 fun u z => ?_, ?_, ?_⟩
          · rw [K13.push1_arc WY harc]
            constructor
            · rintro (h | ⟨h1, h2⟩)
              · exact .inr h
              · exact .inl ⟨h2, h1⟩
            · rintro (⟨h1, h2⟩ | h)
              · exact .inr ⟨h2, h1⟩
              · exact .inl h
          · rw [ed2]
            exact K13.push_left WY nda row5
          · rw [ed2]
            exact push5
        · rintro σ H5 ⟨v6, v7, g, rfl, s5, hp5, hq5, fo5, row5, push5⟩
          rw [List.length_map, List.length_drop] at push5
          have ed : l.drop (l.length - 1) = [-2] := by
            obtain ⟨b1, e1⟩ := List.getElem?_eq_some_iff.mp (show l[l.length - 1]? = some (-2) by rw [← List.getLast?_eq_getElem?]; exact llast)
            rw [List.drop_eq_getElem_cons b1, e1, List.drop_of_length_le (by omega)]
          rw [ed] at push5
          have eg : g = K13.pushR (K13.EE (usP rim T0.length HA TB) (K13.adj1 T0) (HA.map (· + 1)) (TB.map (· + 1))) f l := push5
          refine ⟨_, _, _, _, g, rfl, s5, fo5, ?_⟩
          rw [eg]
          cases l with
          | nil => cases lhd
          | cons z l' =>
            have : z = -1 := by simpa using lhd
            subst this
            exact val.push WY lnd lrow llast
    · rintro σ H2 ⟨v4, v5, v6, v7, f, rfl, s2, fo2, val⟩
      rw [hul] at val
      have full := val.full WY
      refine ⟨_, rfl, hA, rfl, ⟨_, Same.tup s2 hH⟩, fun U hU => ?_⟩
      refine lc_tup (K := K) (a := hA) (xs := ups HA) (fun i H3 => Same H2 H3 ∧ ∃ (ac : List V) (Wl : List (List Nat)), H3 U = some (.lst ac) ∧ ac.length = i ∧ Wl.length = i ∧ (∀ (j : Nat) x l, ac[j]? = some x → Wl[j]? = some l → ∃ d, x = .ref d ∧ SqT K H3 d (nats l)) ∧
          ∀ (j : Nat) l, Wl[j]? = some l → ∃ h u, (HA.map (· + 1))[j]? = some h ∧ K13.Way f h l u ∧ l.length ≤ 64)
        ⟨same_new hU, [], [], upd_same, rfl, rfl, fun j x l h => (by cases h), fun j l h => (by cases h)⟩ (fun i H3 _ ⟨s3, _⟩ => Same.tup (s2.trans s3) hH) ?_ ?_
      · rintro i x H3 hx ⟨s3, ac, Wl, hac, hal1, hal2, hj1, hj2⟩
        obtain ⟨m, hm, rfl⟩ := nats_get hx
        have hi := (List.getElem?_eq_some_iff.mp hm).1
        rw [List.length_map] at hi
        refine ⟨rfl, ?_⟩
        refine ⟨_, rfl, _, rfl, D, m, L, _, _, _, _, f, rfl, fo2.mono s3, by omega, WY, full, List.mem_of_getElem? hm, fun d l u H4 s4 hd way hl64 => ?_⟩
        have hac4 := s4 _ _ hac
        refine ⟨ac, hac4, small1000 (by omega), same_upd (s3.trans s4) hU, ac ++ [.ref d], Wl ++ [l], upd_same, by simp [hal1], by simp [hal2], fun j x l' h1 h2 => ?_, fun j l' h2 => ?_⟩
        · rcases snoc_get h1 with ⟨q1, q2⟩ | ⟨q1, rfl⟩
          · rw [List.getElem?_append_left (by omega)] at h2
            obtain ⟨d', e1, e2⟩ := hj1 j x l' q2 h2
            exact ⟨d', e1, SqT.upd (Same.tup s4 e2) hac4⟩
          · rw [q1, hal1, ← hal2] at h2
            have : l' = l := by simpa using h2.symm
            rw [this]
            exact ⟨d, rfl, SqT.upd hd hac4⟩
        · rcases snoc_get h2 with ⟨q1, q2⟩ | ⟨q1, rfl⟩
          · exact hj2 j l' q2
          · rw [q1, hal2]
            exact ⟨m, u, hm, way, hl64⟩
      · rintro H3 ⟨s3, ac, Wl, hac, hal1, hal2, hj1, hj2⟩
        rw [ups_len] at hal1 hal2
        refine ⟨U, ac, rfl, .inl ⟨SqL.of hac, fun l1 hl1 => ?_⟩⟩
        have s4 : Same H3 (upd H3 l1 (.tup ac)) := same_new hl1
        have good : ∀ (i a : Nat) (l : List Nat), (HA.map (· + 1))[i]? = some a → Wl[i]? = some l → K13.Good (K13.adj1 T0) (fun j => rim < j) (TB.map (· + 1)) a l := fun i a l h1 h2 => by
          obtain ⟨h, u, q1, q2, _⟩ := hj2 i l h2
          rw [h1] at q1
          cases q1
          exact q2.good WY hui full (List.mem_of_getElem? h1)
        have flat : Wl.flatten.Nodup := by
          refine nd_flat (fun i l h => ?_) fun i j l l' x h1 h2 h3 h4 => ?_
          · obtain ⟨h, u, q1, q2, _⟩ := hj2 i l h
            exact q2.wo.nd
          · obtain ⟨a1, u1, q1, q2, _⟩ := hj2 i l h1
            obtain ⟨a2, u2, q3, q4, _⟩ := hj2 j l' h2
            obtain ⟨i1, e1⟩ := List.getElem?_of_mem h3
            obtain ⟨i2, e2⟩ := List.getElem?_of_mem h4
            have e := K13.Wo.disj full (List.mem_of_getElem? q1) (List.mem_of_getElem? q3) q2.wo q4.wo i1 i2 x e1 e2
            subst e
            exact (List.getElem?_inj (List.getElem?_eq_some_iff.mp q1).1 WY.hn).mp (q1.trans q3.symm)
        refine k (.ref l1) _ ((s2.trans s3).trans s4) (.inr ⟨l1, ac, Wl, rfl, SqT.of upd_same, hal1, hal2, fun i x l h1 h2 => ?_, good, flat, ?_, fun l x hl hx => ?_, ?_⟩)
        · obtain ⟨d, e1, e2⟩ := hj1 i x l h1 h2
          exact ⟨d, e1, Same.tup s4 e2⟩
        · have := flat_le (W := Wl) (c := 64) fun l hl => by
            obtain ⟨i, hi⟩ := List.getElem?_of_mem hl
            obtain ⟨_, _, _, _, q⟩ := hj2 i l hi
            exact q
          omega
        · obtain ⟨i, hi⟩ := List.getElem?_of_mem hl
          obtain ⟨h, u, q1, q2, _⟩ := hj2 i l hi
          have e := full.le _ _ (q2.wo.act x hx)
          refine huN x ?_
          generalize ey : 2 * (x : Int) + 1 = y at e
          generalize ez : 2 * (x : Int) = z at e
          cases e with
          | thru m hm =>
            have : x = m := by omega
            rw [this]
            exact hm
          | edge u' w' _ _ _ => omega
          | src _ _ => omega
          | goal _ _ => omega
        · exact K13.good_link (fun t ht => hnt t ht) (by rw [hal2, List.length_map]) good flat (fun x _ h => by cases h)
end
end W13
namespace W13
open PySem L2
/-! ## the law -/
def spLaw (K : PySem.W.Frag) : Sp := fun vs H Q _ => ∃ (a : Addr) (ns : List Int), vs = [.ref a] ∧ SqL K H a (ns.map V.int) ∧ ns.length ≤ 63 ∧ ∀ H', Q (.bl true) H'
theorem bl_eqd (a b : Bool) : decide (V.bl a = V.bl b) = decide (a = b) := by
  by_cases h : a = b
  · subst h; simp
  · have : ¬ V.bl a = V.bl b := fun e => h (V.bl.inj e)
    rw [decide_eq_false h, decide_eq_false this]
theorem up_down {l : List Nat} (h : l = (l.map (· - 1)).map (· + 1)) : nats l = ups (l.map (· - 1)) := by
  unfold ups
  rw [← h]
section
variable {P : Program} {w : World} {K : PySem.W.Frag} {mg : Str → Option Value} {base : Heap} {uS uG : Value} {aZ aO : Addr}
abbrev s_law : Stmt := top 60
theorem sc_law : FnScope ["_law_script", "_law_state", "_law_net_here", "_law_table_here", "_law_joins_here", "_law_heads", "_law_tails", "_law_value", "_law_there", "_law_found"] ["_law_script"] (defScope s_law) := ⟨rfl, rfl, rfl, by decide +kernel, rfl, by decide +kernel, by decide +kernel⟩
theorem ok_law {f : Addr} {fd : FuncData} (F : Fun K "law" "law" s_law f fd) (T : Txt K mg uS uG aZ aO) (DP : Df P w K mg base 1 "_law_pick" ["_law_state", "_law_limit"] spPick) (DN : Df P w K mg base 4 "_law_net" ["_law_state", "_law_most_rim", "_law_most_edges"] (spNet K))
    (DT : Df P w K mg base 5 "table_of" ["net"] (spTable K)) (DJ : Df P w K mg base 2 "_law_joins" ["_law_net_here"] (spJoins K)) (DPr : Df P w K mg base 2 "_law_pairs" ["_law_rim"] (spPairs K)) (DM : Df P w K mg base 5 "minor" ["table", "heads", "tails"] (spMinor K))
    (DS : Df P w K mg base 4 "_law_search" ["_law_joins_here", "_law_rim", "_law_heads", "_law_tails", "_law_used"] (spSearch K 4)) (DSa : Df P w K mg base 2 "_law_same" ["_law_actual", "_law_due"] (spSameR K)) (DLm : Df P w K mg base 5 "_law_minor" ["_law_table_here", "_law_heads", "_law_tails"] (spMinor K))
    (DW : Df P w K mg base 4 "ways" ["net", "heads", "tails"] (spWays K)) (DR : Df P w K mg base 1 "_law_right" ["_law_joins_here", "_law_rim", "_law_heads", "_law_tails", "_law_found"] (spRight K)) : FnOk P w K mg base CX0 6 f fd ["_law_script"] (spLaw K) := by
  obtain ⟨_, _, G_lpick, C_lpick⟩ := DP
  obtain ⟨_, _, G_lnet, C_lnet⟩ := DN
  obtain ⟨_, _, G_table_of, C_table_of⟩ := DT
  obtain ⟨_, _, G_ljoins, C_ljoins⟩ := DJ
  obtain ⟨_, _, G_lpairs, C_lpairs⟩ := DPr
  obtain ⟨_, _, G_minor, C_minor⟩ := DM
  obtain ⟨_, _, G_lsearch, C_lsearch⟩ := DS
  obtain ⟨_, _, G_lsame, C_lsame⟩ := DSa
  obtain ⟨_, _, G_lminor, C_lminor⟩ := DLm
  obtain ⟨_, _, G_ways, C_ways⟩ := DW
  obtain ⟨_, _, G_lright, C_lright⟩ := DR
  refine F.ok sc_law (fun vs H Q E h => ?_) (fun cdv A outer s H vs Q E hr h => ?_)
  · obtain ⟨a, ns, rfl, _⟩ := h
    rfl
  · obtain ⟨a, ns, rfl, hS, hlen, k⟩ := h
    have nd := sc_law.nd
    refine ⟨_,
      (pss_cons
        (ps_set (i := 1) nd rfl (by first | exact Or.inl rfl | exact Or.inr rfl) (pe_lst (pa_cons (pe_callTy cr_listOf (by rfl) T.list (by decide +kernel) (pa_cons (pv 0) pa_nil)) (pa_cons pe_int (pa_cons pe_int (pa_cons pe_int pa_nil))))))
      (pss_cons
        (ps_set (i := 2) nd rfl (by first | exact Or.inl rfl | exact Or.inr rfl) (pe_call G_lnet (hr.mono (by decide)) rfl C_lnet.m C_lnet.kp C_lnet.b .nil pass0 (pa_cons (pv 1) (pa_cons (pe_ix ix_list (pe_lst (pa_cons pe_int (pa_cons pe_int (pa_cons pe_int (pa_cons pe_int pa_nil))))) (pe_call G_lpick (hr.mono (by decide)) rfl C_lpick.m C_lpick.kp C_lpick.b .nil pass0 (pa_cons (pv 1) (pa_cons pe_int pa_nil))) (fun _ _ => rfl)) (pa_cons pe_int pa_nil)))))
      (pss_cons
        (ps_set (i := 3) nd rfl (by first | exact Or.inl rfl | exact Or.inr rfl) (pe_call G_table_of (hr.mono (by decide)) rfl C_table_of.m C_table_of.kp C_table_of.b .nil pass0 (pa_cons (pv 2) pa_nil)))
      (pss_cons
        (ps_set (i := 4) nd rfl (by first | exact Or.inl rfl | exact Or.inr rfl) (pe_call G_ljoins (hr.mono (by decide)) rfl C_ljoins.m C_ljoins.kp C_ljoins.b .nil pass0 (pa_cons (pv 2) pa_nil)))
      (pss_cons
        (ps_for PassesOwn.never rfl (pi_list (pe_call G_lpairs (hr.mono (by decide)) rfl C_lpairs.m C_lpairs.kp C_lpairs.b .nil pass0 (pa_cons (pe_ix ix_tup (pv 2) pe_int (fun _ _ => rfl)) pa_nil))) (pg_tup rfl (pgs_cons (pg_name (i := 5) nd rfl (by first | exact Or.inl rfl | exact Or.inr rfl)) (pgs_cons (pg_name (i := 6) nd rfl (by first | exact Or.inl rfl | exact Or.inr rfl)) pgs_nil)))
          (pss_cons
            (ps_set (i := 7) nd rfl (by first | exact Or.inl rfl | exact Or.inr rfl) (pe_call G_minor (hr.mono (by decide)) rfl C_minor.m C_minor.kp C_minor.b .nil pass0 (pa_cons (pv 3) (pa_cons (pv 5) (pa_cons (pv 6) pa_nil)))))
          (pss_cons
            (ps_set (i := 8) nd rfl (by first | exact Or.inl rfl | exact Or.inr rfl) (pe_call G_lsearch (hr.mono (by decide)) rfl C_lsearch.m C_lsearch.kp C_lsearch.b .nil pass0 (pa_cons (pv 4) (pa_cons (pe_ix ix_tup (pv 2) pe_int (fun _ _ => rfl)) (pa_cons (pe_callTy cr_listOf (by rfl) T.list (by decide +kernel) (pa_cons (pv 5) pa_nil)) (pa_cons (pe_callTy cr_listOf (by rfl) T.list (by decide +kernel) (pa_cons (pv 6) pa_nil)) (pa_cons (pe_lst pa_nil) pa_nil)))))))
          (pss_cons
            (ps_if (PW.pt (pw_or (pt_not (pt_val (pe_call G_lsame (hr.mono (by decide)) rfl C_lsame.m C_lsame.kp C_lsame.b .nil pass0 (pa_cons (pv 7) (pa_cons (pe_call G_lminor (hr.mono (by decide)) rfl C_lminor.m C_lminor.kp C_lminor.b .nil pass0 (pa_cons (pv 3) (pa_cons (pv 5) (pa_cons (pv 6) pa_nil)))) pa_nil))))) (pw_or (pt_cmpR op_lt (pe_ix ix_tup (pv 7) pe_int (fun _ _ => rfl)) pe_int (nomark _)) (pw_or1 (pt_cmpR op_ne (pe_cmpR op_gt (pe_ix ix_tup (pv 7) pe_int (fun _ _ => rfl)) pe_int (nomark _)) (pv 8) (nomark _))))))
              (pss_one
                (ps_ret pe_bl))
              pss_nil)
          (pss_cons
            (ps_set (i := 9) nd rfl (by first | exact Or.inl rfl | exact Or.inr rfl) (pe_call G_ways (hr.mono (by decide)) rfl C_ways.m C_ways.kp C_ways.b .nil pass0 (pa_cons (pv 2) (pa_cons (pv 5) (pa_cons (pv 6) pa_nil)))))
          (pss_cons
            (ps_if (PW.pt (pw_and (pt_not (pt_val (pv 8))) (pw_and1 (pt_cmpR op_notN (pv 9) pe_non (nomark _)))))
              (pss_one
                (ps_ret pe_bl))
              pss_nil)
          (pss_one
            (ps_if (PW.pt (pw_and (pt_val (pv 8)) (pw_and1 (pt_not (pt_val (pe_call G_lright (hr.mono (by decide)) rfl C_lright.m C_lright.kp C_lright.b .nil pass0 (pa_cons (pv 4) (pa_cons (pe_ix ix_tup (pv 2) pe_int (fun _ _ => rfl)) (pa_cons (pv 5) (pa_cons (pv 6) (pa_cons (pv 9) pa_nil)))))))))))
              (pss_one
                (ps_ret pe_bl))
              pss_nil))))))))
      (pss_one
        (ps_ret pe_bl))))))), ?_⟩
    refine ⟨_, rfl, a, _, rfl, .inl hS, fun ls hls => ⟨(by show 4 ≤ sizeLine; decide), fun sa hsa => ?_⟩⟩
    have els : (upd H ls (.lst (ns.map V.int))) ls = some (.lst (ns.map V.int)) := upd_same
    generalize upd H ls (.lst (ns.map V.int)) = H1 at els hsa
    have hne : ls ≠ sa := fun e => by rw [← e, els] at hsa; cases hsa
    have st : StA (upd H1 sa (.lst [.ref ls, .int 0, .int 0, .int 0])) sa ls := ⟨ns, 0, 0, 0, upd_same, hne, by rw [upd_ne hne]; exact els⟩
    generalize upd H1 sa (.lst [.ref ls, .int 0, .int 0, .int 0]) = H2 at st
    refine ⟨_, rfl, (by show 4 ≤ sizeLine; decide), fun l4 hl4 => ?_⟩
    obtain ⟨⟨lsa, hlsa⟩, _⟩ := st.lst
    have hl4s : l4 ≠ sa := fun e => by rw [e, hlsa] at hl4; cases hl4
    have st3 := st.mono (same_new (o := .lst [.int 5, .int 5, .int 5, .int 6]) hl4)
    have e3 : (upd H2 l4 (.lst [.int 5, .int 5, .int 5, .int 6])) l4 = some (.lst [.int 5, .int 5, .int 5, .int 6]) := upd_same
    generalize upd H2 l4 (.lst [.int 5, .int 5, .int 5, .int 6]) = H3 at st3 e3
    refine ⟨_, rfl, sa, ls, 4, rfl, st3, by decide, by decide, fun r H4 hr4 b4 st4 => ?_⟩
    obtain ⟨m, hm, hm0, hm6⟩ : ∃ m : Nat, ([V.int 5, .int 5, .int 5, .int 6] : List V)[r]? = some (.int (m : Int)) ∧ 0 < m ∧ m ≤ 6 := by
      match r, hr4 with
      | 0, _ => exact ⟨5, rfl, by decide, by decide⟩
      | 1, _ => exact ⟨5, rfl, by decide, by decide⟩
      | 2, _ => exact ⟨5, rfl, by decide, by decide⟩
      | 3, _ => exact ⟨6, rfl, by decide, by decide⟩
    refine ⟨l4, _, _, _, rfl, rfl, SqL.of (b4 _ _ hl4s e3), at_of (j := r) rfl hm, ?_⟩
    refine ⟨sa, ls, m, rfl, st4, hm0, hm6, fun v rim n T0 am H5 hv G hr6 => ?_⟩
    have h9 := G.nine
    have W := G.inv.wf
    have hN : T0.length ≤ 15 := by have := G.inv.len; omega
    refine ⟨_, rfl, v, rim, n, T0, am, rfl, hv, G, by omega, fun u H6 s6 hu => ?_⟩
    refine ⟨_, rfl, v, rim, n, T0, am, rfl, hv.mono s6, W, G.len, h9, by omega, fun D J H7 s7 hJ jo => ?_⟩
    have hv7 := (hv.mono s6).mono s7
    have hu7 := hu.mono s7
    obtain ⟨na, nb, nc, ts, qs, rfl, hna, _⟩ := id hv7
    refine ⟨_, rfl, na, _, _, _, rfl, rfl, hna, rfl, rim, rfl, hr6, fun DP wp H8 s8 hDP pvs => ?_⟩
    have hv8 := hv7.mono s8
    have hu8 := hu7.mono s8
    have hJ8 := hJ.mono s8
    have hna8 := Same.tup s8 hna
    refine ⟨DP, rfl, ⟨_, SqL.of hDP⟩, for_list (K := K) (a := DP) (xs := wp) (fun i σ H9 => Same H8 H9 ∧ ∃ v5 v6 v7 v8 v9 : Option V, σ = [some (.ref a), some (.ref sa), some (.ref na), some u, some (.ref D), v5, v6, v7, v8, v9])
      ⟨Same.refl _, none, none, none, none, none, rfl⟩ (fun i σ H9 _ ⟨s9, _⟩ => SqL.of (s9 _ _ hDP)) ?_ ?_⟩
    · rintro i x σ H9 hx ⟨s9, v5, v6, v7, v8, v9, rfl⟩
      obtain ⟨d, x1, y1, pa, pb, rfl, hmem, hd, hx1, hy1⟩ := pvs.get hx
      obtain ⟨o1, o2, o3, o4, o5, o6, o7, o8⟩ := pairs_ok ⟨rim, by omega⟩ _ (List.mem_of_getElem? hmem)
      have o1 : pa = (pa.map (· - 1)).map (· + 1) := o1
      have o2 : pb = (pb.map (· - 1)).map (· + 1) := o2
      rw [up_down o1] at hx1
      rw [up_down o2] at hy1
      generalize pa.map (· - 1) = PA at o1 o3 o4 o5 o6 o7 o8 hx1
      generalize pb.map (· - 1) = PB at o2 o3 o6 o7 o8 hy1
      have bA : ∀ p, p ∈ PA → p < rim := fun p hp => o7 p (List.mem_append_left _ hp)
      have bB : ∀ p, p ∈ PB → p < rim := fun p hp => o7 p (List.mem_append_right _ hp)
      have hle := W.le
      have sX : ∀ i j, i < rim → j < rim → K13.Sm 160 (K13.elims (K13.netK T0 n am) (K13.innr rim T0.length) i j) := fun i j hi _ => (G.stg.out i (fun h => by have := K13.mem_innr.mp h; omega)).sm j
      have key := K13.net_search G o3 o6 o7 o8
      have hd9 := Same.tup s9 hd
      have hx9 := Same.tup s9 hx1
      have hy9 := Same.tup s9 hy1
      refine ⟨d, _, rfl, hd9, rfl, _, _, rfl, _, _, rfl, rfl, ?_⟩
      refine ⟨_, rfl, _, rfl, _, rfl, u, x1, y1, rim, _, PA, PB, rfl, hu8.mono s9, hx9, hy9, o3, o4, bA, bB, sX, fun mv H10 s10 hm => ?_⟩
      have hm : RatV K H10 mv (K13.mnr (K13.netK T0 n am) (K13.innr rim T0.length) PA PB) := hm
      have s810 := s9.trans s10
      have hna10 := Same.tup s810 hna8
      have hx10 := Same.tup s10 hx9
      have hy10 := Same.tup s10 hy9
      refine ⟨_, rfl, _, rfl, na, _, _, _, rfl, rfl, hna10, rfl, _, rfl, x1, _, rfl, .inr hx10, fun q1 hq1 => ?_⟩
      have s11 : Same H10 (upd H10 q1 (.lst (ups PA))) := same_new hq1
      have e11 : (upd H10 q1 (.lst (ups PA))) q1 = some (.lst (ups PA)) := upd_same
      generalize upd H10 q1 (.lst (ups PA)) = H11 at s11 e11
      refine ⟨_, rfl, y1, _, rfl, .inr (Same.tup s11 hy10), fun q2 hq2 => ?_⟩
      have s12 : Same H11 (upd H11 q2 (.lst (ups PB))) := same_new hq2
      have e12 : (upd H11 q2 (.lst (ups PB))) q2 = some (.lst (ups PB)) := upd_same
      generalize upd H11 q2 (.lst (ups PB)) = H12 at s12 e12
      refine ⟨(by show 0 ≤ sizeLine; decide), fun q3 hq3 => ?_⟩
      have s13 : Same H12 (upd H12 q3 (.lst [])) := same_new hq3
      have e13 : (upd H12 q3 (.lst [])) q3 = some (.lst (nats [])) := upd_same
      generalize upd H12 q3 (.lst []) = H13 at s13 e13
      have s1013 := (s11.trans s12).trans s13
      have s813 := s810.trans s1013
      have o6p := List.nodup_append.mp o6
      refine ⟨D, q1, q2, q3, rim, T0, J, PA.map (· + 1), PB.map (· + 1), [], rfl, hJ8.mono s813, jo, by omega, hle, SqL.of (s13 _ _ (s12 _ _ e11)), SqL.of (s13 _ _ e12), e13, by rw [List.length_map]; omega, fun p hp => ?_, by rw [List.length_map, List.length_nil]; omega, fun b H14 s14 hb => ?_⟩
      · obtain ⟨z, hz, rfl⟩ := List.mem_map.mp hp
        refine ⟨by have := bA z hz; omega, fun hq => ?_⟩
        obtain ⟨z2, hz2, e⟩ := List.mem_map.mp hq
        exact o6p.2.2 z hz z2 hz2 (by omega)
      have s1014 := s1013.trans s14
      have s814 := s813.trans s14
      have hm14 := hm.mono s1014
      have hx14 := Same.tup s1014 hx10
      have hy14 := Same.tup s1014 hy10
      -- the two minors are the same
      refine ⟨_, rfl, _, rfl, _, rfl, _, rfl, u, x1, y1, rim, _, PA, PB, rfl, hu8.mono s814, hx14, hy14, o3, o4, bA, bB, sX, fun lv H15 s15 hl => ?_⟩
      have hl : RatV K H15 lv (K13.mnr (K13.netK T0 n am) (K13.innr rim T0.length) PA PB) := hl
      generalize K13.mnr (K13.netK T0 n am) (K13.innr rim T0.length) PA PB = q at hm hl key hm14
      refine ⟨mv, lv, q, q, rfl, hm14.mono s15, hl, fun H16 s16 => ?_⟩
      refine ⟨_, rfl, ?_⟩
      rw [decide_eq_true rfl]
      refine iteF ?_
      have s1416 := s15.trans s16
      have s816 := s814.trans s1416
      obtain ⟨ma, rfl, hma⟩ := hm14.mono s1416
      refine ⟨_, rfl, ma, _, _, _, rfl, rfl, hma, rfl, _, _, rfl, rfl, _, rfl, ?_⟩
      have hq0 : ¬ q.num < 0 := by
        have := Rat.num_nonneg.mpr key.1
        omega
      rw [decide_eq_false hq0]
      refine iteF ?_
      have hqb : decide (q.num > 0) = b := by
        have hk := key.1
        have e0 : q.num > 0 ↔ 0 < q := by
          constructor
          · intro h
            have hne : q ≠ 0 := fun z => by rw [z] at h; exact absurd h (by decide)
            grind
          · intro h
            have hne : q.num ≠ 0 := fun z => by
              have := Rat.num_eq_zero.mp z
              grind
            omega
        have e : q.num > 0 ↔ b = true := e0.trans (key.2.trans hb.symm)
        cases b with
        | true => exact decide_eq_true (e.mpr rfl)
        | false => exact decide_eq_false fun h => by have := e.mp h; cases this
      refine ⟨_, rfl, ma, _, _, _, rfl, rfl, hma, rfl, _, _, rfl, rfl, _, rfl, rfl, _, rfl, ?_⟩
      refine iteNS (show V.bl (decide (q.num > 0)) = V.bl b by rw [hqb]) ?_
      have hv16 := hv8.mono s816
      have hx16 := Same.tup s1416 hx14
      have hy16 := Same.tup s1416 hy14
      refine ⟨_, rfl, _, rfl, _, rfl, _, x1, y1, rim, n, T0, am, PA, PB, rfl, hv16, W, G.len, h9, hN, hx16, hy16, o6, o7, o4, o3, fun fv H17 s17 hw => ?_⟩
      have s817 := s816.trans s17
      have hna17 := Same.tup s817 hna8
      rcases hw with ⟨rfl, hno⟩ | ⟨fa, ws, Wl, rfl, hF, w1, w2, w3, w4, w5, w6, w7, w8⟩
      · have hbf : b = false := by
          cases b with
          | true => exact absurd (hb.mp rfl) hno
          | false => rfl
        subst hbf
        refine ⟨_, rfl, _, rfl, iteT ?_⟩
        refine ⟨_, rfl, rfl, _, rfl, iteNS rfl ?_⟩
        exact ⟨_, rfl, _, rfl, iteF ⟨s817, _, _, _, _, _, rfl⟩⟩
      · have hbt : b = true := hb.mpr w8
        subst hbt
        refine ⟨_, rfl, _, rfl, iteF ?_⟩
        refine ⟨_, rfl, _, rfl, iteT ?_⟩
        refine ⟨_, rfl, _, rfl, na, _, _, _, rfl, rfl, hna17, rfl, _, rfl, _, rfl, _, rfl, ?_⟩
        refine ⟨D, x1, y1, fa, rim, T0, J, PA.map (· + 1), PB.map (· + 1), ws, Wl, rfl, hJ8.mono s817, jo, Same.tup s17 hx16, Same.tup s17 hy16, hF, by rw [List.length_map]; exact w1, by rw [List.length_map]; exact w2, by rw [List.length_map]; exact o4, w3, w4, w5, w6, fun l x h1 h2 => by rw [jo.len]; exact w7 l x h1 h2, fun H18 s18 => ?_⟩
        exact ⟨_, rfl, iteF ⟨s817.trans s18, _, _, _, _, _, rfl⟩⟩
    · rintro σ H9 ⟨s9, v5, v6, v7, v8, v9, rfl⟩
      exact k H9
end
end W13
namespace W13
open PySem L2
/-! ## the end: what the top has written, gathered -/
/-- a def that stands at the top -/
def Fd (K : PySem.W.Frag) (mg : Str → Option Value) (x : Str) (i : Nat) (ps : List Str) : Prop := ∃ (f : Addr) (fd : FuncData), Fun K x x (top i) f fd ∧ Nm K mg x ps f fd
theorem fd_mk {K : PySem.W.Frag} {h : Heap} {mg : Str → Option Value} {x : Str} {i : Nat} {ps : List Str} {f : Addr} {od an : Option Addr} {sl : Array (Option Value)} {oc kV dc pm cd ct : Value} (X : K.In h) (G : h.Ns mainGlobals mg)
    (a : PySem.W.nsIn K mainGlobals x = some (some (.ref f))) (l : K.lookup f = some ⟨oc, od, .func (PySem.W.fnOf x x (defArgs (top i)) (defBody (top i)) (defScope (top i)) .none kV dc pm an cd ct), sl⟩) (c : PySem.W.codeIn K cd x = true) (k : PySem.W.keepIn K (.ref f) = true)
    (hb : ∀ (kV doc pm : Value) (an : Option Addr) (cdv ct : Value) (us : List Value), us.length = ps.length → bindArgs (PySem.W.fnOf x x (defArgs (top i)) (defBody (top i)) (defScope (top i)) .none kV doc pm an cdv ct) ⟨us, []⟩ = pure (ps.zip us)) : Fd K mg x i ps :=
  have F := fun_mk (st := top i) l c k
  ⟨f, _, F, PySem.W.mg_of X G a, k, F.binds hb⟩
structure Fds (K : PySem.W.Frag) (mg : Str → Option Value) : Prop where
  Fnodesofz : Fd K mg "nodes_of" 2 ["net"]
  Fendsofz : Fd K mg "ends_of" 3 ["net"]
  Ffirststepsz : Fd K mg "first_steps" 7 ["net", "heads", "tails"]
  Fshortestrowz : Fd K mg "shortest_row" 8 ["following"]
  Fwayfromz : Fd K mg "way_from" 9 ["following", "node"]
  Fusedstepsz : Fd K mg "used_steps" 10 ["following", "node"]
  Fwaysz : Fd K mg "ways" 11 ["net", "heads", "tails"]
  Fratioz : Fd K mg "ratio" 18 ["top", "bottom"]
  Fplusz : Fd K mg "plus" 19 ["left", "right"]
  Fminusz : Fd K mg "minus" 20 ["left", "right"]
  Ftimesz : Fd K mg "times" 21 ["left", "right"]
  Foverz : Fd K mg "over" 22 ["left", "right"]
  Foppositez : Fd K mg "opposite" 23 ["value"]
  Fpivotrowz : Fd K mg "pivot_row" 25 ["rows", "column", "start"]
  Freducerowz : Fd K mg "reduce_row" 26 ["row", "pivot", "column"]
  Fdeterminantz : Fd K mg "determinant" 27 ["rows"]
  Feliminatez : Fd K mg "eliminate" 28 ["rows", "inner"]
  Fbalanceofz : Fd K mg "balance_of" 30 ["net"]
  Ftableofz : Fd K mg "table_of" 31 ["net"]
  Fminorz : Fd K mg "minor" 33 ["table", "heads", "tails"]
  Flpickz : Fd K mg "_law_pick" 35 ["_law_state", "_law_limit"]
  Flgcdz : Fd K mg "_law_gcd" 36 ["_law_left_here", "_law_right_here"]
  Flratioz : Fd K mg "_law_ratio" 37 ["_law_top", "_law_bottom"]
  Flsubz : Fd K mg "_law_sub" 39 ["_law_left_here", "_law_right_here"]
  Flmulz : Fd K mg "_law_mul" 40 ["_law_left_here", "_law_right_here"]
  Fldivz : Fd K mg "_law_div" 41 ["_law_left_here", "_law_right_here"]
  Flsamez : Fd K mg "_law_same" 42 ["_law_actual", "_law_due"]
  Flamountz : Fd K mg "_law_amount" 43 ["_law_state"]
  Flatz : Fd K mg "_law_at" 44 ["_law_turns", "_law_dart"]
  Flfacez : Fd K mg "_law_face" 45 ["_law_turns", "_law_rim", "_law_dart"]
  Flgrowz : Fd K mg "_law_grow" 46 ["_law_state", "_law_rim", "_law_turns", "_law_edges", "_law_choice"]
  Flnetz : Fd K mg "_law_net" 47 ["_law_state", "_law_most_rim", "_law_most_edges"]
  Flendsz : Fd K mg "_law_ends" 48 ["_law_net_here"]
  Fldetz : Fd K mg "_law_det" 52 ["_law_rows"]
  Flminorz : Fd K mg "_law_minor" 53 ["_law_table_here", "_law_heads", "_law_tails"]
  Flsubsetsz : Fd K mg "_law_subsets" 54 ["_law_size", "_law_count"]
  Flpairsz : Fd K mg "_law_pairs" 55 ["_law_rim"]
  Fljoinsz : Fd K mg "_law_joins" 57 ["_law_net_here"]
  Flsearchz : Fd K mg "_law_search" 58 ["_law_joins_here", "_law_rim", "_law_heads", "_law_tails", "_law_used"]
  Flrightz : Fd K mg "_law_right" 59 ["_law_joins_here", "_law_rim", "_law_heads", "_law_tails", "_law_found"]
  Flawz : Fd K mg "law" 60 ["_law_script"]
theorem df_of {P : Program} {w : World} {K : PySem.W.Frag} {mg : Str → Option Value} {base : Heap} {k i : Nat} {x : Str} {ps : List Str} {sp : Sp} (D : Fd K mg x i ps) (h : ∀ (f : Addr) (fd : FuncData), Fun K x x (top i) f fd → Nm K mg x ps f fd → FnOk P w K mg base CX0 k f fd ps sp) : Df P w K mg base k x ps sp := by
  obtain ⟨f, fd, F, N⟩ := D
  exact ⟨f, fd, h f fd F N, N⟩
theorem ok_all {P : Program} {w : World} {K : PySem.W.Frag} {mg : Str → Option Value} {base : Heap} {uS uG : Value} {aZ aO : Addr} (T : Txt K mg uS uG aZ aO) (D : Fds K mg) {f : Addr} {fd : FuncData} (F : Fun K "law" "law" (top 60) f fd) : FnOk P w K mg base CX0 6 f fd ["_law_script"] (spLaw K) := by
  have D_ratio := df_of (P := P) (w := w) (base := base) D.Fratioz fun f fd F N => ok_ratio F T
  have D_plus := df_of (P := P) (w := w) (base := base) D.Fplusz fun f fd F N => ok_plus F T D_ratio
  have D_minus := df_of (P := P) (w := w) (base := base) D.Fminusz fun f fd F N => ok_minus F T D_ratio
  have D_times := df_of (P := P) (w := w) (base := base) D.Ftimesz fun f fd F N => ok_times F T D_ratio
  have D_over := df_of (P := P) (w := w) (base := base) D.Foverz fun f fd F N => ok_over F T D_ratio
  have D_opposite := df_of (P := P) (w := w) (base := base) D.Foppositez fun f fd F N => ok_opposite F
  have D_lgcd := df_of (P := P) (w := w) (base := base) D.Flgcdz fun f fd F N => ok_lgcd F T
  have D_lratio := df_of (P := P) (w := w) (base := base) D.Flratioz fun f fd F N => ok_lratio F T D_lgcd
  have D_lsub := df_of (P := P) (w := w) (base := base) D.Flsubz fun f fd F N => ok_lsub F T D_lratio
  have D_lmul := df_of (P := P) (w := w) (base := base) D.Flmulz fun f fd F N => ok_lmul F T D_lratio
  have D_ldiv := df_of (P := P) (w := w) (base := base) D.Fldivz fun f fd F N => ok_ldiv F T D_lratio
  have D_pivot_row := df_of (P := P) (w := w) (base := base) D.Fpivotrowz fun f fd F N => ok_pivot_row F T
  have D_reduce_row := df_of (P := P) (w := w) (base := base) D.Freducerowz fun f fd F N => ok_reduce_row F T D_minus D_times D_over
  have D_determinant := df_of (P := P) (w := w) (base := base) D.Fdeterminantz fun f fd F N => ok_determinant F T D_pivot_row D_reduce_row D_times D_opposite
  have D_eliminate := df_of (P := P) (w := w) (base := base) D.Feliminatez fun f fd F N => ok_eliminate F T D_reduce_row
  have D_nodes_of := df_of (P := P) (w := w) (base := base) D.Fnodesofz fun f fd F N => ok_nodes_of F T
  have D_ends_of := df_of (P := P) (w := w) (base := base) D.Fendsofz fun f fd F N => ok_ends_of F T D_nodes_of
  have D_balance_of := df_of (P := P) (w := w) (base := base) D.Fbalanceofz fun f fd F N => ok_balance_of F T D_ends_of D_plus D_minus
  have D_table_of := df_of (P := P) (w := w) (base := base) D.Ftableofz fun f fd F N => ok_table_of F T D_balance_of D_eliminate
  have D_minor := df_of (P := P) (w := w) (base := base) D.Fminorz fun f fd F N => ok_minor F T D_determinant D_opposite
  have D_ldet := df_of (P := P) (w := w) (base := base) D.Fldetz fun f fd F N => ok_ldet F T D_lsub D_lmul D_ldiv
  have D_lminor := df_of (P := P) (w := w) (base := base) D.Flminorz fun f fd F N => ok_lminor F T D_ldet
  have D_lsame := df_of (P := P) (w := w) (base := base) D.Flsamez fun f fd F N => ok_lsame F T N
  have D_lpick := df_of (P := P) (w := w) (base := base) D.Flpickz fun f fd F N => ok_lpick F T
  have D_lamount := df_of (P := P) (w := w) (base := base) D.Flamountz fun f fd F N => ok_lamount F T D_lpick D_lratio
  have D_lat := df_of (P := P) (w := w) (base := base) D.Flatz fun f fd F N => ok_lat F T
  have D_lface := df_of (P := P) (w := w) (base := base) D.Flfacez fun f fd F N => ok_lface F T D_lat
  have D_lgrow := df_of (P := P) (w := w) (base := base) D.Flgrowz fun f fd F N => ok_lgrow F T D_lpick D_lat D_lface
  have D_lnet := df_of (P := P) (w := w) (base := base) D.Flnetz fun f fd F N => ok_lnet F T D_lpick D_lgrow D_lamount
  have D_lends := df_of (P := P) (w := w) (base := base) D.Flendsz fun f fd F N => ok_lends F T
  have D_ljoins := df_of (P := P) (w := w) (base := base) D.Fljoinsz fun f fd F N => ok_ljoins F T D_lends
  have D_lsubsets := df_of (P := P) (w := w) (base := base) D.Flsubsetsz fun f fd F N => ok_lsubsets F T
  have D_lpairs := df_of (P := P) (w := w) (base := base) D.Flpairsz fun f fd F N => ok_lpairs F T D_lsubsets
  have D_lsearch := df_of (P := P) (w := w) (base := base) D.Flsearchz fun f fd F N => ok_lsearch F T N
  have D_lright := df_of (P := P) (w := w) (base := base) D.Flrightz fun f fd F N => ok_lright F T
  have D_used_steps := df_of (P := P) (w := w) (base := base) D.Fusedstepsz fun f fd F N => ok_used_steps F T
  have D_way_from := df_of (P := P) (w := w) (base := base) D.Fwayfromz fun f fd F N => ok_way_from F T D_used_steps
  have D_shortest_row := df_of (P := P) (w := w) (base := base) D.Fshortestrowz fun f fd F N => ok_shortest_row F T
  have D_first_steps := df_of (P := P) (w := w) (base := base) D.Ffirststepsz fun f fd F N => ok_first_steps F T D_ends_of
  have D_ways := df_of (P := P) (w := w) (base := base) D.Fwaysz fun f fd F N => ok_ways F T D_first_steps D_shortest_row D_way_from
  exact ok_law F T D_lpick D_lnet D_table_of D_ljoins D_lpairs D_minor D_lsearch D_lsame D_lminor D_ways D_lright
theorem all_mk {l : PySem.W.OpenLaw} {w : World} {K : PySem.W.Frag} {h : Heap} {mg : Str → Option Value} {fa aZ aO : Addr} {tS tG t1 t2 t3 t4 : Tok} {ddZ ddO : Option Addr} {nZ nO : Nat} {slZ slO : Array (Option Value)} (X : K.In h) (G : h.Ns mainGlobals mg) (hfa : mg "law" = some (.ref fa))
    {f0 : Addr} {od0 an0 : Option Addr} {sl0 : Array (Option Value)} {oc0 kV0 dc0 pm0 cd0 ct0 : Value}
    {f1 : Addr} {od1 an1 : Option Addr} {sl1 : Array (Option Value)} {oc1 kV1 dc1 pm1 cd1 ct1 : Value}
    {f2 : Addr} {od2 an2 : Option Addr} {sl2 : Array (Option Value)} {oc2 kV2 dc2 pm2 cd2 ct2 : Value}
    {f3 : Addr} {od3 an3 : Option Addr} {sl3 : Array (Option Value)} {oc3 kV3 dc3 pm3 cd3 ct3 : Value}
    {f4 : Addr} {od4 an4 : Option Addr} {sl4 : Array (Option Value)} {oc4 kV4 dc4 pm4 cd4 ct4 : Value}
    {f5 : Addr} {od5 an5 : Option Addr} {sl5 : Array (Option Value)} {oc5 kV5 dc5 pm5 cd5 ct5 : Value}
    {f6 : Addr} {od6 an6 : Option Addr} {sl6 : Array (Option Value)} {oc6 kV6 dc6 pm6 cd6 ct6 : Value}
    {f7 : Addr} {od7 an7 : Option Addr} {sl7 : Array (Option Value)} {oc7 kV7 dc7 pm7 cd7 ct7 : Value}
    {f8 : Addr} {od8 an8 : Option Addr} {sl8 : Array (Option Value)} {oc8 kV8 dc8 pm8 cd8 ct8 : Value}
    {f9 : Addr} {od9 an9 : Option Addr} {sl9 : Array (Option Value)} {oc9 kV9 dc9 pm9 cd9 ct9 : Value}
    {f10 : Addr} {od10 an10 : Option Addr} {sl10 : Array (Option Value)} {oc10 kV10 dc10 pm10 cd10 ct10 : Value}
    {f11 : Addr} {od11 an11 : Option Addr} {sl11 : Array (Option Value)} {oc11 kV11 dc11 pm11 cd11 ct11 : Value}
    {f12 : Addr} {od12 an12 : Option Addr} {sl12 : Array (Option Value)} {oc12 kV12 dc12 pm12 cd12 ct12 : Value}
    {f13 : Addr} {od13 an13 : Option Addr} {sl13 : Array (Option Value)} {oc13 kV13 dc13 pm13 cd13 ct13 : Value}
    {f14 : Addr} {od14 an14 : Option Addr} {sl14 : Array (Option Value)} {oc14 kV14 dc14 pm14 cd14 ct14 : Value}
    {f15 : Addr} {od15 an15 : Option Addr} {sl15 : Array (Option Value)} {oc15 kV15 dc15 pm15 cd15 ct15 : Value}
    {f16 : Addr} {od16 an16 : Option Addr} {sl16 : Array (Option Value)} {oc16 kV16 dc16 pm16 cd16 ct16 : Value}
    {f17 : Addr} {od17 an17 : Option Addr} {sl17 : Array (Option Value)} {oc17 kV17 dc17 pm17 cd17 ct17 : Value}
    {f18 : Addr} {od18 an18 : Option Addr} {sl18 : Array (Option Value)} {oc18 kV18 dc18 pm18 cd18 ct18 : Value}
    {f19 : Addr} {od19 an19 : Option Addr} {sl19 : Array (Option Value)} {oc19 kV19 dc19 pm19 cd19 ct19 : Value}
    {f20 : Addr} {od20 an20 : Option Addr} {sl20 : Array (Option Value)} {oc20 kV20 dc20 pm20 cd20 ct20 : Value}
    {f21 : Addr} {od21 an21 : Option Addr} {sl21 : Array (Option Value)} {oc21 kV21 dc21 pm21 cd21 ct21 : Value}
    {f22 : Addr} {od22 an22 : Option Addr} {sl22 : Array (Option Value)} {oc22 kV22 dc22 pm22 cd22 ct22 : Value}
    {f23 : Addr} {od23 an23 : Option Addr} {sl23 : Array (Option Value)} {oc23 kV23 dc23 pm23 cd23 ct23 : Value}
    {f24 : Addr} {od24 an24 : Option Addr} {sl24 : Array (Option Value)} {oc24 kV24 dc24 pm24 cd24 ct24 : Value}
    {f25 : Addr} {od25 an25 : Option Addr} {sl25 : Array (Option Value)} {oc25 kV25 dc25 pm25 cd25 ct25 : Value}
    {f26 : Addr} {od26 an26 : Option Addr} {sl26 : Array (Option Value)} {oc26 kV26 dc26 pm26 cd26 ct26 : Value}
    {f27 : Addr} {od27 an27 : Option Addr} {sl27 : Array (Option Value)} {oc27 kV27 dc27 pm27 cd27 ct27 : Value}
    {f28 : Addr} {od28 an28 : Option Addr} {sl28 : Array (Option Value)} {oc28 kV28 dc28 pm28 cd28 ct28 : Value}
    {f29 : Addr} {od29 an29 : Option Addr} {sl29 : Array (Option Value)} {oc29 kV29 dc29 pm29 cd29 ct29 : Value}
    {f30 : Addr} {od30 an30 : Option Addr} {sl30 : Array (Option Value)} {oc30 kV30 dc30 pm30 cd30 ct30 : Value}
    {f31 : Addr} {od31 an31 : Option Addr} {sl31 : Array (Option Value)} {oc31 kV31 dc31 pm31 cd31 ct31 : Value}
    {f32 : Addr} {od32 an32 : Option Addr} {sl32 : Array (Option Value)} {oc32 kV32 dc32 pm32 cd32 ct32 : Value}
    {f33 : Addr} {od33 an33 : Option Addr} {sl33 : Array (Option Value)} {oc33 kV33 dc33 pm33 cd33 ct33 : Value}
    {f34 : Addr} {od34 an34 : Option Addr} {sl34 : Array (Option Value)} {oc34 kV34 dc34 pm34 cd34 ct34 : Value}
    {f35 : Addr} {od35 an35 : Option Addr} {sl35 : Array (Option Value)} {oc35 kV35 dc35 pm35 cd35 ct35 : Value}
    {f36 : Addr} {od36 an36 : Option Addr} {sl36 : Array (Option Value)} {oc36 kV36 dc36 pm36 cd36 ct36 : Value}
    {f37 : Addr} {od37 an37 : Option Addr} {sl37 : Array (Option Value)} {oc37 kV37 dc37 pm37 cd37 ct37 : Value}
    {f38 : Addr} {od38 an38 : Option Addr} {sl38 : Array (Option Value)} {oc38 kV38 dc38 pm38 cd38 ct38 : Value}
    {f39 : Addr} {od39 an39 : Option Addr} {sl39 : Array (Option Value)} {oc39 kV39 dc39 pm39 cd39 ct39 : Value}
    {f40 : Addr} {od40 an40 : Option Addr} {sl40 : Array (Option Value)} {oc40 kV40 dc40 pm40 cd40 ct40 : Value}
    (a0 : PySem.W.nsIn K mainGlobals "nodes_of" = some (some (.ref f0))) (l0 : K.lookup f0 = some ⟨oc0, od0, .func (PySem.W.fnOf "nodes_of" "nodes_of" (defArgs (top 2)) (defBody (top 2)) (defScope (top 2)) .none kV0 dc0 pm0 an0 cd0 ct0), sl0⟩) (c0 : PySem.W.codeIn K cd0 "nodes_of" = true) (k0 : PySem.W.keepIn K (.ref f0) = true)
    (a1 : PySem.W.nsIn K mainGlobals "ends_of" = some (some (.ref f1))) (l1 : K.lookup f1 = some ⟨oc1, od1, .func (PySem.W.fnOf "ends_of" "ends_of" (defArgs (top 3)) (defBody (top 3)) (defScope (top 3)) .none kV1 dc1 pm1 an1 cd1 ct1), sl1⟩) (c1 : PySem.W.codeIn K cd1 "ends_of" = true) (k1 : PySem.W.keepIn K (.ref f1) = true)
    (a2 : PySem.W.nsIn K mainGlobals "first_steps" = some (some (.ref f2))) (l2 : K.lookup f2 = some ⟨oc2, od2, .func (PySem.W.fnOf "first_steps" "first_steps" (defArgs (top 7)) (defBody (top 7)) (defScope (top 7)) .none kV2 dc2 pm2 an2 cd2 ct2), sl2⟩) (c2 : PySem.W.codeIn K cd2 "first_steps" = true) (k2 : PySem.W.keepIn K (.ref f2) = true)
    (a3 : PySem.W.nsIn K mainGlobals "shortest_row" = some (some (.ref f3))) (l3 : K.lookup f3 = some ⟨oc3, od3, .func (PySem.W.fnOf "shortest_row" "shortest_row" (defArgs (top 8)) (defBody (top 8)) (defScope (top 8)) .none kV3 dc3 pm3 an3 cd3 ct3), sl3⟩) (c3 : PySem.W.codeIn K cd3 "shortest_row" = true) (k3 : PySem.W.keepIn K (.ref f3) = true)
    (a4 : PySem.W.nsIn K mainGlobals "way_from" = some (some (.ref f4))) (l4 : K.lookup f4 = some ⟨oc4, od4, .func (PySem.W.fnOf "way_from" "way_from" (defArgs (top 9)) (defBody (top 9)) (defScope (top 9)) .none kV4 dc4 pm4 an4 cd4 ct4), sl4⟩) (c4 : PySem.W.codeIn K cd4 "way_from" = true) (k4 : PySem.W.keepIn K (.ref f4) = true)
    (a5 : PySem.W.nsIn K mainGlobals "used_steps" = some (some (.ref f5))) (l5 : K.lookup f5 = some ⟨oc5, od5, .func (PySem.W.fnOf "used_steps" "used_steps" (defArgs (top 10)) (defBody (top 10)) (defScope (top 10)) .none kV5 dc5 pm5 an5 cd5 ct5), sl5⟩) (c5 : PySem.W.codeIn K cd5 "used_steps" = true) (k5 : PySem.W.keepIn K (.ref f5) = true)
    (a6 : PySem.W.nsIn K mainGlobals "ways" = some (some (.ref f6))) (l6 : K.lookup f6 = some ⟨oc6, od6, .func (PySem.W.fnOf "ways" "ways" (defArgs (top 11)) (defBody (top 11)) (defScope (top 11)) .none kV6 dc6 pm6 an6 cd6 ct6), sl6⟩) (c6 : PySem.W.codeIn K cd6 "ways" = true) (k6 : PySem.W.keepIn K (.ref f6) = true)
    (a7 : PySem.W.nsIn K mainGlobals "ratio" = some (some (.ref f7))) (l7 : K.lookup f7 = some ⟨oc7, od7, .func (PySem.W.fnOf "ratio" "ratio" (defArgs (top 18)) (defBody (top 18)) (defScope (top 18)) .none kV7 dc7 pm7 an7 cd7 ct7), sl7⟩) (c7 : PySem.W.codeIn K cd7 "ratio" = true) (k7 : PySem.W.keepIn K (.ref f7) = true)
    (a8 : PySem.W.nsIn K mainGlobals "plus" = some (some (.ref f8))) (l8 : K.lookup f8 = some ⟨oc8, od8, .func (PySem.W.fnOf "plus" "plus" (defArgs (top 19)) (defBody (top 19)) (defScope (top 19)) .none kV8 dc8 pm8 an8 cd8 ct8), sl8⟩) (c8 : PySem.W.codeIn K cd8 "plus" = true) (k8 : PySem.W.keepIn K (.ref f8) = true)
    (a9 : PySem.W.nsIn K mainGlobals "minus" = some (some (.ref f9))) (l9 : K.lookup f9 = some ⟨oc9, od9, .func (PySem.W.fnOf "minus" "minus" (defArgs (top 20)) (defBody (top 20)) (defScope (top 20)) .none kV9 dc9 pm9 an9 cd9 ct9), sl9⟩) (c9 : PySem.W.codeIn K cd9 "minus" = true) (k9 : PySem.W.keepIn K (.ref f9) = true)
    (a10 : PySem.W.nsIn K mainGlobals "times" = some (some (.ref f10))) (l10 : K.lookup f10 = some ⟨oc10, od10, .func (PySem.W.fnOf "times" "times" (defArgs (top 21)) (defBody (top 21)) (defScope (top 21)) .none kV10 dc10 pm10 an10 cd10 ct10), sl10⟩) (c10 : PySem.W.codeIn K cd10 "times" = true) (k10 : PySem.W.keepIn K (.ref f10) = true)
    (a11 : PySem.W.nsIn K mainGlobals "over" = some (some (.ref f11))) (l11 : K.lookup f11 = some ⟨oc11, od11, .func (PySem.W.fnOf "over" "over" (defArgs (top 22)) (defBody (top 22)) (defScope (top 22)) .none kV11 dc11 pm11 an11 cd11 ct11), sl11⟩) (c11 : PySem.W.codeIn K cd11 "over" = true) (k11 : PySem.W.keepIn K (.ref f11) = true)
    (a12 : PySem.W.nsIn K mainGlobals "opposite" = some (some (.ref f12))) (l12 : K.lookup f12 = some ⟨oc12, od12, .func (PySem.W.fnOf "opposite" "opposite" (defArgs (top 23)) (defBody (top 23)) (defScope (top 23)) .none kV12 dc12 pm12 an12 cd12 ct12), sl12⟩) (c12 : PySem.W.codeIn K cd12 "opposite" = true) (k12 : PySem.W.keepIn K (.ref f12) = true)
    (a13 : PySem.W.nsIn K mainGlobals "pivot_row" = some (some (.ref f13))) (l13 : K.lookup f13 = some ⟨oc13, od13, .func (PySem.W.fnOf "pivot_row" "pivot_row" (defArgs (top 25)) (defBody (top 25)) (defScope (top 25)) .none kV13 dc13 pm13 an13 cd13 ct13), sl13⟩) (c13 : PySem.W.codeIn K cd13 "pivot_row" = true) (k13 : PySem.W.keepIn K (.ref f13) = true)
    (a14 : PySem.W.nsIn K mainGlobals "reduce_row" = some (some (.ref f14))) (l14 : K.lookup f14 = some ⟨oc14, od14, .func (PySem.W.fnOf "reduce_row" "reduce_row" (defArgs (top 26)) (defBody (top 26)) (defScope (top 26)) .none kV14 dc14 pm14 an14 cd14 ct14), sl14⟩) (c14 : PySem.W.codeIn K cd14 "reduce_row" = true) (k14 : PySem.W.keepIn K (.ref f14) = true)
    (a15 : PySem.W.nsIn K mainGlobals "determinant" = some (some (.ref f15))) (l15 : K.lookup f15 = some ⟨oc15, od15, .func (PySem.W.fnOf "determinant" "determinant" (defArgs (top 27)) (defBody (top 27)) (defScope (top 27)) .none kV15 dc15 pm15 an15 cd15 ct15), sl15⟩) (c15 : PySem.W.codeIn K cd15 "determinant" = true) (k15 : PySem.W.keepIn K (.ref f15) = true)
    (a16 : PySem.W.nsIn K mainGlobals "eliminate" = some (some (.ref f16))) (l16 : K.lookup f16 = some ⟨oc16, od16, .func (PySem.W.fnOf "eliminate" "eliminate" (defArgs (top 28)) (defBody (top 28)) (defScope (top 28)) .none kV16 dc16 pm16 an16 cd16 ct16), sl16⟩) (c16 : PySem.W.codeIn K cd16 "eliminate" = true) (k16 : PySem.W.keepIn K (.ref f16) = true)
    (a17 : PySem.W.nsIn K mainGlobals "balance_of" = some (some (.ref f17))) (l17 : K.lookup f17 = some ⟨oc17, od17, .func (PySem.W.fnOf "balance_of" "balance_of" (defArgs (top 30)) (defBody (top 30)) (defScope (top 30)) .none kV17 dc17 pm17 an17 cd17 ct17), sl17⟩) (c17 : PySem.W.codeIn K cd17 "balance_of" = true) (k17 : PySem.W.keepIn K (.ref f17) = true)
    (a18 : PySem.W.nsIn K mainGlobals "table_of" = some (some (.ref f18))) (l18 : K.lookup f18 = some ⟨oc18, od18, .func (PySem.W.fnOf "table_of" "table_of" (defArgs (top 31)) (defBody (top 31)) (defScope (top 31)) .none kV18 dc18 pm18 an18 cd18 ct18), sl18⟩) (c18 : PySem.W.codeIn K cd18 "table_of" = true) (k18 : PySem.W.keepIn K (.ref f18) = true)
    (a19 : PySem.W.nsIn K mainGlobals "minor" = some (some (.ref f19))) (l19 : K.lookup f19 = some ⟨oc19, od19, .func (PySem.W.fnOf "minor" "minor" (defArgs (top 33)) (defBody (top 33)) (defScope (top 33)) .none kV19 dc19 pm19 an19 cd19 ct19), sl19⟩) (c19 : PySem.W.codeIn K cd19 "minor" = true) (k19 : PySem.W.keepIn K (.ref f19) = true)
    (a20 : PySem.W.nsIn K mainGlobals "_law_pick" = some (some (.ref f20))) (l20 : K.lookup f20 = some ⟨oc20, od20, .func (PySem.W.fnOf "_law_pick" "_law_pick" (defArgs (top 35)) (defBody (top 35)) (defScope (top 35)) .none kV20 dc20 pm20 an20 cd20 ct20), sl20⟩) (c20 : PySem.W.codeIn K cd20 "_law_pick" = true) (k20 : PySem.W.keepIn K (.ref f20) = true)
    (a21 : PySem.W.nsIn K mainGlobals "_law_gcd" = some (some (.ref f21))) (l21 : K.lookup f21 = some ⟨oc21, od21, .func (PySem.W.fnOf "_law_gcd" "_law_gcd" (defArgs (top 36)) (defBody (top 36)) (defScope (top 36)) .none kV21 dc21 pm21 an21 cd21 ct21), sl21⟩) (c21 : PySem.W.codeIn K cd21 "_law_gcd" = true) (k21 : PySem.W.keepIn K (.ref f21) = true)
    (a22 : PySem.W.nsIn K mainGlobals "_law_ratio" = some (some (.ref f22))) (l22 : K.lookup f22 = some ⟨oc22, od22, .func (PySem.W.fnOf "_law_ratio" "_law_ratio" (defArgs (top 37)) (defBody (top 37)) (defScope (top 37)) .none kV22 dc22 pm22 an22 cd22 ct22), sl22⟩) (c22 : PySem.W.codeIn K cd22 "_law_ratio" = true) (k22 : PySem.W.keepIn K (.ref f22) = true)
    (a23 : PySem.W.nsIn K mainGlobals "_law_sub" = some (some (.ref f23))) (l23 : K.lookup f23 = some ⟨oc23, od23, .func (PySem.W.fnOf "_law_sub" "_law_sub" (defArgs (top 39)) (defBody (top 39)) (defScope (top 39)) .none kV23 dc23 pm23 an23 cd23 ct23), sl23⟩) (c23 : PySem.W.codeIn K cd23 "_law_sub" = true) (k23 : PySem.W.keepIn K (.ref f23) = true)
    (a24 : PySem.W.nsIn K mainGlobals "_law_mul" = some (some (.ref f24))) (l24 : K.lookup f24 = some ⟨oc24, od24, .func (PySem.W.fnOf "_law_mul" "_law_mul" (defArgs (top 40)) (defBody (top 40)) (defScope (top 40)) .none kV24 dc24 pm24 an24 cd24 ct24), sl24⟩) (c24 : PySem.W.codeIn K cd24 "_law_mul" = true) (k24 : PySem.W.keepIn K (.ref f24) = true)
    (a25 : PySem.W.nsIn K mainGlobals "_law_div" = some (some (.ref f25))) (l25 : K.lookup f25 = some ⟨oc25, od25, .func (PySem.W.fnOf "_law_div" "_law_div" (defArgs (top 41)) (defBody (top 41)) (defScope (top 41)) .none kV25 dc25 pm25 an25 cd25 ct25), sl25⟩) (c25 : PySem.W.codeIn K cd25 "_law_div" = true) (k25 : PySem.W.keepIn K (.ref f25) = true)
    (a26 : PySem.W.nsIn K mainGlobals "_law_same" = some (some (.ref f26))) (l26 : K.lookup f26 = some ⟨oc26, od26, .func (PySem.W.fnOf "_law_same" "_law_same" (defArgs (top 42)) (defBody (top 42)) (defScope (top 42)) .none kV26 dc26 pm26 an26 cd26 ct26), sl26⟩) (c26 : PySem.W.codeIn K cd26 "_law_same" = true) (k26 : PySem.W.keepIn K (.ref f26) = true)
    (a27 : PySem.W.nsIn K mainGlobals "_law_amount" = some (some (.ref f27))) (l27 : K.lookup f27 = some ⟨oc27, od27, .func (PySem.W.fnOf "_law_amount" "_law_amount" (defArgs (top 43)) (defBody (top 43)) (defScope (top 43)) .none kV27 dc27 pm27 an27 cd27 ct27), sl27⟩) (c27 : PySem.W.codeIn K cd27 "_law_amount" = true) (k27 : PySem.W.keepIn K (.ref f27) = true)
    (a28 : PySem.W.nsIn K mainGlobals "_law_at" = some (some (.ref f28))) (l28 : K.lookup f28 = some ⟨oc28, od28, .func (PySem.W.fnOf "_law_at" "_law_at" (defArgs (top 44)) (defBody (top 44)) (defScope (top 44)) .none kV28 dc28 pm28 an28 cd28 ct28), sl28⟩) (c28 : PySem.W.codeIn K cd28 "_law_at" = true) (k28 : PySem.W.keepIn K (.ref f28) = true)
    (a29 : PySem.W.nsIn K mainGlobals "_law_face" = some (some (.ref f29))) (l29 : K.lookup f29 = some ⟨oc29, od29, .func (PySem.W.fnOf "_law_face" "_law_face" (defArgs (top 45)) (defBody (top 45)) (defScope (top 45)) .none kV29 dc29 pm29 an29 cd29 ct29), sl29⟩) (c29 : PySem.W.codeIn K cd29 "_law_face" = true) (k29 : PySem.W.keepIn K (.ref f29) = true)
    (a30 : PySem.W.nsIn K mainGlobals "_law_grow" = some (some (.ref f30))) (l30 : K.lookup f30 = some ⟨oc30, od30, .func (PySem.W.fnOf "_law_grow" "_law_grow" (defArgs (top 46)) (defBody (top 46)) (defScope (top 46)) .none kV30 dc30 pm30 an30 cd30 ct30), sl30⟩) (c30 : PySem.W.codeIn K cd30 "_law_grow" = true) (k30 : PySem.W.keepIn K (.ref f30) = true)
    (a31 : PySem.W.nsIn K mainGlobals "_law_net" = some (some (.ref f31))) (l31 : K.lookup f31 = some ⟨oc31, od31, .func (PySem.W.fnOf "_law_net" "_law_net" (defArgs (top 47)) (defBody (top 47)) (defScope (top 47)) .none kV31 dc31 pm31 an31 cd31 ct31), sl31⟩) (c31 : PySem.W.codeIn K cd31 "_law_net" = true) (k31 : PySem.W.keepIn K (.ref f31) = true)
    (a32 : PySem.W.nsIn K mainGlobals "_law_ends" = some (some (.ref f32))) (l32 : K.lookup f32 = some ⟨oc32, od32, .func (PySem.W.fnOf "_law_ends" "_law_ends" (defArgs (top 48)) (defBody (top 48)) (defScope (top 48)) .none kV32 dc32 pm32 an32 cd32 ct32), sl32⟩) (c32 : PySem.W.codeIn K cd32 "_law_ends" = true) (k32 : PySem.W.keepIn K (.ref f32) = true)
    (a33 : PySem.W.nsIn K mainGlobals "_law_det" = some (some (.ref f33))) (l33 : K.lookup f33 = some ⟨oc33, od33, .func (PySem.W.fnOf "_law_det" "_law_det" (defArgs (top 52)) (defBody (top 52)) (defScope (top 52)) .none kV33 dc33 pm33 an33 cd33 ct33), sl33⟩) (c33 : PySem.W.codeIn K cd33 "_law_det" = true) (k33 : PySem.W.keepIn K (.ref f33) = true)
    (a34 : PySem.W.nsIn K mainGlobals "_law_minor" = some (some (.ref f34))) (l34 : K.lookup f34 = some ⟨oc34, od34, .func (PySem.W.fnOf "_law_minor" "_law_minor" (defArgs (top 53)) (defBody (top 53)) (defScope (top 53)) .none kV34 dc34 pm34 an34 cd34 ct34), sl34⟩) (c34 : PySem.W.codeIn K cd34 "_law_minor" = true) (k34 : PySem.W.keepIn K (.ref f34) = true)
    (a35 : PySem.W.nsIn K mainGlobals "_law_subsets" = some (some (.ref f35))) (l35 : K.lookup f35 = some ⟨oc35, od35, .func (PySem.W.fnOf "_law_subsets" "_law_subsets" (defArgs (top 54)) (defBody (top 54)) (defScope (top 54)) .none kV35 dc35 pm35 an35 cd35 ct35), sl35⟩) (c35 : PySem.W.codeIn K cd35 "_law_subsets" = true) (k35 : PySem.W.keepIn K (.ref f35) = true)
    (a36 : PySem.W.nsIn K mainGlobals "_law_pairs" = some (some (.ref f36))) (l36 : K.lookup f36 = some ⟨oc36, od36, .func (PySem.W.fnOf "_law_pairs" "_law_pairs" (defArgs (top 55)) (defBody (top 55)) (defScope (top 55)) .none kV36 dc36 pm36 an36 cd36 ct36), sl36⟩) (c36 : PySem.W.codeIn K cd36 "_law_pairs" = true) (k36 : PySem.W.keepIn K (.ref f36) = true)
    (a37 : PySem.W.nsIn K mainGlobals "_law_joins" = some (some (.ref f37))) (l37 : K.lookup f37 = some ⟨oc37, od37, .func (PySem.W.fnOf "_law_joins" "_law_joins" (defArgs (top 57)) (defBody (top 57)) (defScope (top 57)) .none kV37 dc37 pm37 an37 cd37 ct37), sl37⟩) (c37 : PySem.W.codeIn K cd37 "_law_joins" = true) (k37 : PySem.W.keepIn K (.ref f37) = true)
    (a38 : PySem.W.nsIn K mainGlobals "_law_search" = some (some (.ref f38))) (l38 : K.lookup f38 = some ⟨oc38, od38, .func (PySem.W.fnOf "_law_search" "_law_search" (defArgs (top 58)) (defBody (top 58)) (defScope (top 58)) .none kV38 dc38 pm38 an38 cd38 ct38), sl38⟩) (c38 : PySem.W.codeIn K cd38 "_law_search" = true) (k38 : PySem.W.keepIn K (.ref f38) = true)
    (a39 : PySem.W.nsIn K mainGlobals "_law_right" = some (some (.ref f39))) (l39 : K.lookup f39 = some ⟨oc39, od39, .func (PySem.W.fnOf "_law_right" "_law_right" (defArgs (top 59)) (defBody (top 59)) (defScope (top 59)) .none kV39 dc39 pm39 an39 cd39 ct39), sl39⟩) (c39 : PySem.W.codeIn K cd39 "_law_right" = true) (k39 : PySem.W.keepIn K (.ref f39) = true)
    (a40 : PySem.W.nsIn K mainGlobals "law" = some (some (.ref f40))) (l40 : K.lookup f40 = some ⟨oc40, od40, .func (PySem.W.fnOf "law" "law" (defArgs (top 60)) (defBody (top 60)) (defScope (top 60)) .none kV40 dc40 pm40 an40 cd40 ct40), sl40⟩) (c40 : PySem.W.codeIn K cd40 "law" = true) (k40 : PySem.W.keepIn K (.ref f40) = true)
    (n_len : PySem.W.nsIn K mainGlobals "len" = some none)
    (n_range : PySem.W.nsIn K mainGlobals "range" = some none)
    (n_list : PySem.W.nsIn K mainGlobals "list" = some none)
    (n_tuple : PySem.W.nsIn K mainGlobals "tuple" = some none)
    (n_int : PySem.W.nsIn K mainGlobals "int" = some none)
    (n_abs : PySem.W.nsIn K mainGlobals "abs" = some none)
    (n_isinstance : PySem.W.nsIn K mainGlobals "isinstance" = some none)
    (n_sorted : PySem.W.nsIn K mainGlobals "sorted" = some none)
    (n_set : PySem.W.nsIn K mainGlobals "set" = some none)
    (n_all : PySem.W.nsIn K mainGlobals "all" = some none)
    (n_any : PySem.W.nsIn K mainGlobals "any" = some none)
    (n_bool : PySem.W.nsIn K mainGlobals "bool" = some none)
    (n_str : PySem.W.nsIn K mainGlobals "str" = some none)
    (n_enumerate : PySem.W.nsIn K mainGlobals "enumerate" = some none)
    (n_zip : PySem.W.nsIn K mainGlobals "zip" = some none)
    (g_gcd : PySem.W.nsIn K mainGlobals "gcd" = some (some (.builtin "math.gcd")))
    (g_S : PySem.W.nsIn K mainGlobals "SOURCE" = some (some (.int (-1) tS))) (g_G : PySem.W.nsIn K mainGlobals "GOAL" = some (some (.int (-2) tG)))
    (g_Z : PySem.W.nsIn K mainGlobals "ZERO" = some (some (.ref aZ))) (z_Z : K.lookup aZ = some ⟨.type "tuple", ddZ, .seq #[.int 0 t1, .int 1 t2] nZ, slZ⟩)
    (g_O : PySem.W.nsIn K mainGlobals "ONE" = some (some (.ref aO))) (z_O : K.lookup aO = some ⟨.type "tuple", ddO, .seq #[.int 1 t3, .int 1 t4] nO, slO⟩) :
    ∃ fd : FuncData, (∀ (s : Shared) (v : Value), BindsTo s fd ⟨[v], []⟩ [("_law_script", v)]) ∧ ∀ base : Heap, K.In base → base.Ns mainGlobals mg → FnOk l.prog w K mg base CX0 6 fa fd ["_law_script"] (spLaw K) := by
  have e := hfa.symm.trans (PySem.W.mg_of X G a40)
  cases e
  have T : Txt K mg (.int (-1) tS) (.int (-2) tG) aZ aO := {
    len := PySem.W.mg_none_of X G n_len
    range := PySem.W.mg_none_of X G n_range
    list := PySem.W.mg_none_of X G n_list
    tuple := PySem.W.mg_none_of X G n_tuple
    int := PySem.W.mg_none_of X G n_int
    abs := PySem.W.mg_none_of X G n_abs
    isinstance := PySem.W.mg_none_of X G n_isinstance
    sorted := PySem.W.mg_none_of X G n_sorted
    set := PySem.W.mg_none_of X G n_set
    all := PySem.W.mg_none_of X G n_all
    any := PySem.W.mg_none_of X G n_any
    bool := PySem.W.mg_none_of X G n_bool
    str := PySem.W.mg_none_of X G n_str
    enumerate := PySem.W.mg_none_of X G n_enumerate
    zip := PySem.W.mg_none_of X G n_zip
    gcd := PySem.W.mg_of X G g_gcd
    mSOURCE := PySem.W.mg_of X G g_S
    rSOURCE := ⟨_, rfl⟩
    mGOAL := PySem.W.mg_of X G g_G
    rGOAL := ⟨_, rfl⟩
    mZERO := PySem.W.mg_of X G g_Z
    mONE := PySem.W.mg_of X G g_O
    zero := fun _ => .inr ⟨_, _, _, z_Z, rfl, rfl, by show 2 ≤ sizeLine; decide, .cons ⟨_, rfl⟩ (.cons ⟨_, rfl⟩ .nil)⟩
    one := fun _ => .inr ⟨_, _, _, z_O, rfl, rfl, by show 2 ≤ sizeLine; decide, .cons ⟨_, rfl⟩ (.cons ⟨_, rfl⟩ .nil)⟩ }
  have D : Fds K mg := {
    Fnodesofz := fd_mk (i := 2) X G a0 l0 c0 k0 fun _ _ _ _ _ _ us hl => match us, hl with | [_], _ => rfl
    Fendsofz := fd_mk (i := 3) X G a1 l1 c1 k1 fun _ _ _ _ _ _ us hl => match us, hl with | [_], _ => rfl
    Ffirststepsz := fd_mk (i := 7) X G a2 l2 c2 k2 fun _ _ _ _ _ _ us hl => match us, hl with | [_, _, _], _ => rfl
    Fshortestrowz := fd_mk (i := 8) X G a3 l3 c3 k3 fun _ _ _ _ _ _ us hl => match us, hl with | [_], _ => rfl
    Fwayfromz := fd_mk (i := 9) X G a4 l4 c4 k4 fun _ _ _ _ _ _ us hl => match us, hl with | [_, _], _ => rfl
    Fusedstepsz := fd_mk (i := 10) X G a5 l5 c5 k5 fun _ _ _ _ _ _ us hl => match us, hl with | [_, _], _ => rfl
    Fwaysz := fd_mk (i := 11) X G a6 l6 c6 k6 fun _ _ _ _ _ _ us hl => match us, hl with | [_, _, _], _ => rfl
    Fratioz := fd_mk (i := 18) X G a7 l7 c7 k7 fun _ _ _ _ _ _ us hl => match us, hl with | [_, _], _ => rfl
    Fplusz := fd_mk (i := 19) X G a8 l8 c8 k8 fun _ _ _ _ _ _ us hl => match us, hl with | [_, _], _ => rfl
    Fminusz := fd_mk (i := 20) X G a9 l9 c9 k9 fun _ _ _ _ _ _ us hl => match us, hl with | [_, _], _ => rfl
    Ftimesz := fd_mk (i := 21) X G a10 l10 c10 k10 fun _ _ _ _ _ _ us hl => match us, hl with | [_, _], _ => rfl
    Foverz := fd_mk (i := 22) X G a11 l11 c11 k11 fun _ _ _ _ _ _ us hl => match us, hl with | [_, _], _ => rfl
    Foppositez := fd_mk (i := 23) X G a12 l12 c12 k12 fun _ _ _ _ _ _ us hl => match us, hl with | [_], _ => rfl
    Fpivotrowz := fd_mk (i := 25) X G a13 l13 c13 k13 fun _ _ _ _ _ _ us hl => match us, hl with | [_, _, _], _ => rfl
    Freducerowz := fd_mk (i := 26) X G a14 l14 c14 k14 fun _ _ _ _ _ _ us hl => match us, hl with | [_, _, _], _ => rfl
    Fdeterminantz := fd_mk (i := 27) X G a15 l15 c15 k15 fun _ _ _ _ _ _ us hl => match us, hl with | [_], _ => rfl
    Feliminatez := fd_mk (i := 28) X G a16 l16 c16 k16 fun _ _ _ _ _ _ us hl => match us, hl with | [_, _], _ => rfl
    Fbalanceofz := fd_mk (i := 30) X G a17 l17 c17 k17 fun _ _ _ _ _ _ us hl => match us, hl with | [_], _ => rfl
    Ftableofz := fd_mk (i := 31) X G a18 l18 c18 k18 fun _ _ _ _ _ _ us hl => match us, hl with | [_], _ => rfl
    Fminorz := fd_mk (i := 33) X G a19 l19 c19 k19 fun _ _ _ _ _ _ us hl => match us, hl with | [_, _, _], _ => rfl
    Flpickz := fd_mk (i := 35) X G a20 l20 c20 k20 fun _ _ _ _ _ _ us hl => match us, hl with | [_, _], _ => rfl
    Flgcdz := fd_mk (i := 36) X G a21 l21 c21 k21 fun _ _ _ _ _ _ us hl => match us, hl with | [_, _], _ => rfl
    Flratioz := fd_mk (i := 37) X G a22 l22 c22 k22 fun _ _ _ _ _ _ us hl => match us, hl with | [_, _], _ => rfl
    Flsubz := fd_mk (i := 39) X G a23 l23 c23 k23 fun _ _ _ _ _ _ us hl => match us, hl with | [_, _], _ => rfl
    Flmulz := fd_mk (i := 40) X G a24 l24 c24 k24 fun _ _ _ _ _ _ us hl => match us, hl with | [_, _], _ => rfl
    Fldivz := fd_mk (i := 41) X G a25 l25 c25 k25 fun _ _ _ _ _ _ us hl => match us, hl with | [_, _], _ => rfl
    Flsamez := fd_mk (i := 42) X G a26 l26 c26 k26 fun _ _ _ _ _ _ us hl => match us, hl with | [_, _], _ => rfl
    Flamountz := fd_mk (i := 43) X G a27 l27 c27 k27 fun _ _ _ _ _ _ us hl => match us, hl with | [_], _ => rfl
    Flatz := fd_mk (i := 44) X G a28 l28 c28 k28 fun _ _ _ _ _ _ us hl => match us, hl with | [_, _], _ => rfl
    Flfacez := fd_mk (i := 45) X G a29 l29 c29 k29 fun _ _ _ _ _ _ us hl => match us, hl with | [_, _, _], _ => rfl
    Flgrowz := fd_mk (i := 46) X G a30 l30 c30 k30 fun _ _ _ _ _ _ us hl => match us, hl with | [_, _, _, _, _], _ => rfl
    Flnetz := fd_mk (i := 47) X G a31 l31 c31 k31 fun _ _ _ _ _ _ us hl => match us, hl with | [_, _, _], _ => rfl
    Flendsz := fd_mk (i := 48) X G a32 l32 c32 k32 fun _ _ _ _ _ _ us hl => match us, hl with | [_], _ => rfl
    Fldetz := fd_mk (i := 52) X G a33 l33 c33 k33 fun _ _ _ _ _ _ us hl => match us, hl with | [_], _ => rfl
    Flminorz := fd_mk (i := 53) X G a34 l34 c34 k34 fun _ _ _ _ _ _ us hl => match us, hl with | [_, _, _], _ => rfl
    Flsubsetsz := fd_mk (i := 54) X G a35 l35 c35 k35 fun _ _ _ _ _ _ us hl => match us, hl with | [_, _], _ => rfl
    Flpairsz := fd_mk (i := 55) X G a36 l36 c36 k36 fun _ _ _ _ _ _ us hl => match us, hl with | [_], _ => rfl
    Fljoinsz := fd_mk (i := 57) X G a37 l37 c37 k37 fun _ _ _ _ _ _ us hl => match us, hl with | [_], _ => rfl
    Flsearchz := fd_mk (i := 58) X G a38 l38 c38 k38 fun _ _ _ _ _ _ us hl => match us, hl with | [_, _, _, _, _], _ => rfl
    Flrightz := fd_mk (i := 59) X G a39 l39 c39 k39 fun _ _ _ _ _ _ us hl => match us, hl with | [_, _, _, _, _], _ => rfl
    Flawz := fd_mk (i := 60) X G a40 l40 c40 k40 fun _ _ _ _ _ _ us hl => match us, hl with | [_], _ => rfl
  }
  exact ⟨PySem.W.fnOf "law" "law" (defArgs (top 60)) (defBody (top 60)) (defScope (top 60)) .none kV40 dc40 pm40 an40 cd40 ct40, fun s v => .of_eq rfl, fun base _ _ => ok_all T D (fun_mk (st := top 60) l40 c40 k40)⟩
theorem walk {l : PySem.W.OpenLaw} {q : Program} {loose : List Str} {XP : (Str → Option Value) → Heap → Prop} {YP : World → Heap → Prop} {d : DefRec} {K : Params → PySem.W.Frag} (hn : l.most = some 63) (hdf : d.params.defaults = [])
    (hY : ∀ (w : World) (h : Heap), YP w h → (K w.params).In h)
    (F : ∀ (w : World) (mg : Str → Option Value) (fa : Addr) (h : Heap), (K w.params).In h → h.Ns mainGlobals mg → mg d.name = some (.ref fa) →
      ∃ fd : FuncData, (∀ (s : Shared) (u : Value), BindsTo s fd ⟨[u], []⟩ [("_law_script", u)]) ∧ ∀ base : Heap, (K w.params).In base → base.Ns mainGlobals mg → FnOk l.prog w (K w.params) mg base CX0 6 fa fd ["_law_script"] (spLaw (K w.params))) :
    PySem.W.WalkO q loose XP YP l.row.toRowW d [] (fun f vs => PySem.call f vs) :=
  L2.walk_of (n := 63) (k := 6) (x := "_law_script") (CX := fun _ => CX0) (sp := fun w => spLaw (K w.params)) hn (by decide) hdf ⟨rfl, by decide, by decide⟩ hY F (fun _ _ a ns hl _ hS => ⟨a, ns, rfl, hS, hl, fun _ => rfl⟩) fun _ _ _ _ _ z => z
end W13
open PySem PySem.W PyProof.Rows
set_option maxRecDepth 100000 in
set_option maxHeartbeats 0 in
theorem PySem.Challenge.cw_rimohms_k13_whole_signs_and_ways_holds : PySem.Challenge.rw_rimohms_k13_whole_signs_and_ways.Holds := by
  w_on; o_law; k_head; (case hw => w_witness2)
  k_fill
  refine W13.walk (l := PySem.Challenge.rw_rimohms_k13_whole_signs_and_ways) rfl rfl (fun w h Y => PySem.W.kIn_of Y) ?F
  case F =>
    intro w mg fa h KX G hmg
    refine' W13.all_mk KX G hmg ?a0 ?l0 ?c0 ?k0 ?a1 ?l1 ?c1 ?k1 ?a2 ?l2 ?c2 ?k2 ?a3 ?l3 ?c3 ?k3 ?a4 ?l4 ?c4 ?k4 ?a5 ?l5 ?c5 ?k5 ?a6 ?l6 ?c6 ?k6 ?a7 ?l7 ?c7 ?k7 ?a8 ?l8 ?c8 ?k8 ?a9 ?l9 ?c9 ?k9 ?a10 ?l10 ?c10 ?k10 ?a11 ?l11 ?c11 ?k11 ?a12 ?l12 ?c12 ?k12 ?a13 ?l13 ?c13 ?k13 ?a14 ?l14 ?c14 ?k14 ?a15 ?l15 ?c15 ?k15 ?a16 ?l16 ?c16 ?k16 ?a17 ?l17 ?c17 ?k17 ?a18 ?l18 ?c18 ?k18 ?a19 ?l19 ?c19 ?k19 ?a20 ?l20 ?c20 ?k20 ?a21 ?l21 ?c21 ?k21 ?a22 ?l22 ?c22 ?k22 ?a23 ?l23 ?c23 ?k23 ?a24 ?l24 ?c24 ?k24 ?a25 ?l25 ?c25 ?k25 ?a26 ?l26 ?c26 ?k26 ?a27 ?l27 ?c27 ?k27 ?a28 ?l28 ?c28 ?k28 ?a29 ?l29 ?c29 ?k29 ?a30 ?l30 ?c30 ?k30 ?a31 ?l31 ?c31 ?k31 ?a32 ?l32 ?c32 ?k32 ?a33 ?l33 ?c33 ?k33 ?a34 ?l34 ?c34 ?k34 ?a35 ?l35 ?c35 ?k35 ?a36 ?l36 ?c36 ?k36 ?a37 ?l37 ?c37 ?k37 ?a38 ?l38 ?c38 ?k38 ?a39 ?l39 ?c39 ?k39 ?a40 ?l40 ?c40 ?k40 ?n_len ?n_range ?n_list ?n_tuple ?n_int ?n_abs ?n_isinstance ?n_sorted ?n_set ?n_all ?n_any ?n_bool ?n_str ?n_enumerate ?n_zip ?g_gcd ?g_S ?g_G ?g_Z ?z_Z ?g_O ?z_O
    (case a0 => k_is)
    (case l0 => k_is)
    (case c0 => k_is)
    (case k0 => k_is)
    (case a1 => k_is)
    (case l1 => k_is)
    (case c1 => k_is)
    (case k1 => k_is)
    (case a2 => k_is)
    (case l2 => k_is)
    (case c2 => k_is)
    (case k2 => k_is)
    (case a3 => k_is)
    (case l3 => k_is)
    (case c3 => k_is)
    (case k3 => k_is)
    (case a4 => k_is)
    (case l4 => k_is)
    (case c4 => k_is)
    (case k4 => k_is)
    (case a5 => k_is)
    (case l5 => k_is)
    (case c5 => k_is)
    (case k5 => k_is)
    (case a6 => k_is)
    (case l6 => k_is)
    (case c6 => k_is)
    (case k6 => k_is)
    (case a7 => k_is)
    (case l7 => k_is)
    (case c7 => k_is)
    (case k7 => k_is)
    (case a8 => k_is)
    (case l8 => k_is)
    (case c8 => k_is)
    (case k8 => k_is)
    (case a9 => k_is)
    (case l9 => k_is)
    (case c9 => k_is)
    (case k9 => k_is)
    (case a10 => k_is)
    (case l10 => k_is)
    (case c10 => k_is)
    (case k10 => k_is)
    (case a11 => k_is)
    (case l11 => k_is)
    (case c11 => k_is)
    (case k11 => k_is)
    (case a12 => k_is)
    (case l12 => k_is)
    (case c12 => k_is)
    (case k12 => k_is)
    (case a13 => k_is)
    (case l13 => k_is)
    (case c13 => k_is)
    (case k13 => k_is)
    (case a14 => k_is)
    (case l14 => k_is)
    (case c14 => k_is)
    (case k14 => k_is)
    (case a15 => k_is)
    (case l15 => k_is)
    (case c15 => k_is)
    (case k15 => k_is)
    (case a16 => k_is)
    (case l16 => k_is)
    (case c16 => k_is)
    (case k16 => k_is)
    (case a17 => k_is)
    (case l17 => k_is)
    (case c17 => k_is)
    (case k17 => k_is)
    (case a18 => k_is)
    (case l18 => k_is)
    (case c18 => k_is)
    (case k18 => k_is)
    (case a19 => k_is)
    (case l19 => k_is)
    (case c19 => k_is)
    (case k19 => k_is)
    (case a20 => k_is)
    (case l20 => k_is)
    (case c20 => k_is)
    (case k20 => k_is)
    (case a21 => k_is)
    (case l21 => k_is)
    (case c21 => k_is)
    (case k21 => k_is)
    (case a22 => k_is)
    (case l22 => k_is)
    (case c22 => k_is)
    (case k22 => k_is)
    (case a23 => k_is)
    (case l23 => k_is)
    (case c23 => k_is)
    (case k23 => k_is)
    (case a24 => k_is)
    (case l24 => k_is)
    (case c24 => k_is)
    (case k24 => k_is)
    (case a25 => k_is)
    (case l25 => k_is)
    (case c25 => k_is)
    (case k25 => k_is)
    (case a26 => k_is)
    (case l26 => k_is)
    (case c26 => k_is)
    (case k26 => k_is)
    (case a27 => k_is)
    (case l27 => k_is)
    (case c27 => k_is)
    (case k27 => k_is)
    (case a28 => k_is)
    (case l28 => k_is)
    (case c28 => k_is)
    (case k28 => k_is)
    (case a29 => k_is)
    (case l29 => k_is)
    (case c29 => k_is)
    (case k29 => k_is)
    (case a30 => k_is)
    (case l30 => k_is)
    (case c30 => k_is)
    (case k30 => k_is)
    (case a31 => k_is)
    (case l31 => k_is)
    (case c31 => k_is)
    (case k31 => k_is)
    (case a32 => k_is)
    (case l32 => k_is)
    (case c32 => k_is)
    (case k32 => k_is)
    (case a33 => k_is)
    (case l33 => k_is)
    (case c33 => k_is)
    (case k33 => k_is)
    (case a34 => k_is)
    (case l34 => k_is)
    (case c34 => k_is)
    (case k34 => k_is)
    (case a35 => k_is)
    (case l35 => k_is)
    (case c35 => k_is)
    (case k35 => k_is)
    (case a36 => k_is)
    (case l36 => k_is)
    (case c36 => k_is)
    (case k36 => k_is)
    (case a37 => k_is)
    (case l37 => k_is)
    (case c37 => k_is)
    (case k37 => k_is)
    (case a38 => k_is)
    (case l38 => k_is)
    (case c38 => k_is)
    (case k38 => k_is)
    (case a39 => k_is)
    (case l39 => k_is)
    (case c39 => k_is)
    (case k39 => k_is)
    (case a40 => k_is)
    (case l40 => k_is)
    (case c40 => k_is)
    (case k40 => k_is)
    (case n_len => k_is)
    (case n_range => k_is)
    (case n_list => k_is)
    (case n_tuple => k_is)
    (case n_int => k_is)
    (case n_abs => k_is)
    (case n_isinstance => k_is)
    (case n_sorted => k_is)
    (case n_set => k_is)
    (case n_all => k_is)
    (case n_any => k_is)
    (case n_bool => k_is)
    (case n_str => k_is)
    (case n_enumerate => k_is)
    (case n_zip => k_is)
    (case g_gcd => k_is)
    (case g_S => k_is)
    (case g_G => k_is)
    (case g_Z => k_is)
    (case z_Z => k_is)
    (case g_O => k_is)
    (case z_O => k_is)

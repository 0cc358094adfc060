import PyProof.Rows.All
import Wide.All
import OpenK.AllK
import Wide.FinOn
import HandS.ForMost
import HandS.ForExc
import HandS.Walk
import HandS.TupAny
import HandS.Wide
import HandS.WideBits
import KE.GoesNew
import HandS.Iter
import HandS.Codes
import HandS.Defaults
import HandS.Property
import HandS.IsInst
import HandS.HeadHook4
import PySem.Challenge.RW_bentthrough_k30_whole_nearest_curves
import HandS.Star
import HandS.Style
import HandS.SetFor
import HandS.Strs
import HandS.Set
import HandS.OwnEq
import PyProof.InstNe
import KE.KExcInit
import HandS.ExcInitHot
import HandS.ExcField
import HandS.ExcIs
import HandS.Lambda
import KE.KTryMore
import HandS.Comp
import HandS.TryOnly
import KE.KExcIs
import HandS.Head0
import HandS.Head1
import HandS.Head2
import HandS.HeadEnd
import HandS.HeadHook1
import HandS.HeadHook2
import HandS.EndTab
import KE.KStateDown
/-! ==== M1 ==== -/
set_option linter.all false
/-! Determinants by Laplace along the first row: columns are functions of the rows. -/
namespace SW
variable {ρ : Type}
def lap (r : ρ) (F : List (ρ → Rat) → Rat) : List (ρ → Rat) → List (ρ → Rat) → Rat
  | _, [] => 0
  | pre, c :: post => c r * F (pre ++ post) - lap r F (pre ++ [c]) post
def det : List ρ → List (ρ → Rat) → Rat
  | [], [] => 1
  | [], _ :: _ => 0
  | r :: rs, cs => lap r (det rs) [] cs
/-! ### linear in each column -/
def Lin (F : List (ρ → Rat) → Rat) : Prop := ∀ L R (u v : ρ → Rat) (a b : Rat), F (L ++ (fun x => a * u x + b * v x) :: R) = a * F (L ++ u :: R) + b * F (L ++ v :: R)
theorem lap_lin_pre {r : ρ} {F : List (ρ → Rat) → Rat} (hF : Lin F) (L : List (ρ → Rat)) (u v : ρ → Rat) (a b : Rat) : ∀ (post P : List (ρ → Rat)),
    lap r F (L ++ (fun x => a * u x + b * v x) :: P) post = a * lap r F (L ++ u :: P) post + b * lap r F (L ++ v :: P) post
  | [], P => by simp only [lap]; grind
  | c :: post, P => by
    simp only [lap, List.append_assoc, List.cons_append]
    rw [hF, lap_lin_pre hF L u v a b post (P ++ [c])]
    grind
theorem lap_lin_post {r : ρ} {F : List (ρ → Rat) → Rat} (hF : Lin F) (R : List (ρ → Rat)) (u v : ρ → Rat) (a b : Rat) : ∀ (L pre : List (ρ → Rat)),
    lap r F pre (L ++ (fun x => a * u x + b * v x) :: R) = a * lap r F pre (L ++ u :: R) + b * lap r F pre (L ++ v :: R)
  | [], pre => by
    simp only [lap, List.nil_append]
    rw [lap_lin_pre hF pre u v a b R []]
    grind
  | c :: L, pre => by
    simp only [lap, List.cons_append]
    have e := hF (pre ++ L) R u v a b
    simp only [List.append_assoc] at e
    rw [e, lap_lin_post hF R u v a b L (pre ++ [c])]
    grind
theorem det_lin : ∀ rs : List ρ, Lin (det rs)
  | [] => fun L R u v a b => by
    cases L <;> (simp only [det, List.nil_append, List.cons_append]; grind)
  | r :: rs => fun L R u v a b => by
    simp only [det]
    exact lap_lin_post (det_lin rs) R u v a b L []
/-! ### two like neighbours -/
def Adj (F : List (ρ → Rat) → Rat) : Prop := ∀ L R (u : ρ → Rat), F (L ++ u :: u :: R) = 0
theorem lap_adj_pre {r : ρ} {F : List (ρ → Rat) → Rat} (hF : Adj F) (L : List (ρ → Rat)) (u : ρ → Rat) : ∀ (post P : List (ρ → Rat)), lap r F (L ++ u :: u :: P) post = 0
  | [], P => by simp only [lap]
  | c :: post, P => by
    simp only [lap, List.append_assoc, List.cons_append]
    rw [hF, lap_adj_pre hF L u post (P ++ [c])]
    grind
theorem lap_adj_post {r : ρ} {F : List (ρ → Rat) → Rat} (hF : Adj F) (R : List (ρ → Rat)) (u : ρ → Rat) : ∀ (L pre : List (ρ → Rat)), lap r F pre (L ++ u :: u :: R) = 0
  | [], pre => by
    simp only [lap, List.nil_append]
    have e := lap_adj_pre (r := r) hF pre u R []
    have e2 : pre ++ [u] ++ [u] = pre ++ u :: u :: [] := by simp
    rw [e2, e]
    simp only [List.append_assoc, List.cons_append, List.nil_append]
    grind
  | c :: L, pre => by
    simp only [lap, List.cons_append]
    have e := hF (pre ++ L) R u
    simp only [List.append_assoc] at e
    rw [e, lap_adj_post hF R u L (pre ++ [c])]
    grind
theorem det_adj : ∀ rs : List ρ, Adj (det rs)
  | [] => fun L R u => by cases L <;> simp [det]
  | r :: rs => fun L R u => by
    simp only [det]
    exact lap_adj_post (det_adj rs) R u L []
theorem det_swap (rs : List ρ) (L R : List (ρ → Rat)) (u v : ρ → Rat) : det rs (L ++ u :: v :: R) = - det rs (L ++ v :: u :: R) := by
  have h := det_adj rs L R (fun x => 1 * u x + 1 * v x)
  rw [det_lin] at h
  have h1 := det_lin rs (L ++ [u]) R u v 1 1
  have h2 := det_lin rs (L ++ [v]) R u v 1 1
  simp only [List.append_assoc, List.cons_append, List.nil_append] at h1 h2
  rw [h1, h2, det_adj, det_adj] at h
  grind
theorem det_twice (rs : List ρ) (R : List (ρ → Rat)) (u : ρ → Rat) : ∀ (M L : List (ρ → Rat)), det rs (L ++ u :: (M ++ u :: R)) = 0
  | [], L => by
    simp only [List.nil_append]
    exact det_adj rs L R u
  | c :: M, L => by
    simp only [List.cons_append]
    rw [det_swap]
    have h := det_twice rs R u M (L ++ [c])
    simp only [List.append_assoc, List.cons_append, List.nil_append] at h
    rw [h]
    grind
theorem det_add (rs : List ρ) (L R : List (ρ → Rat)) (u v : ρ → Rat) (k : Rat) : det rs (u :: (L ++ (fun x => v x - k * u x) :: R)) = det rs (u :: (L ++ v :: R)) := by
  have h := det_lin rs (u :: L) R v u 1 (-k)
  have h2 := det_twice rs R u L []
  simp only [List.cons_append, List.nil_append] at h h2
  have e : (fun x => v x - k * u x) = fun x => 1 * v x + -k * u x := by
    funext x
    grind
  rw [e, h, h2]
  grind
/-! ### a column that is 0 on all rows; a first row that is 0 behind the first column -/
theorem lap_zero_pre {r : ρ} {F : List (ρ → Rat) → Rat} {c : ρ → Rat} (hF : ∀ L R, F (L ++ c :: R) = 0) (L : List (ρ → Rat)) : ∀ (post P : List (ρ → Rat)), lap r F (L ++ c :: P) post = 0
  | [], P => by simp only [lap]
  | d :: post, P => by
    simp only [lap, List.append_assoc, List.cons_append]
    rw [hF, lap_zero_pre hF L post (P ++ [d])]
    grind
theorem lap_zero_post {r : ρ} {F : List (ρ → Rat) → Rat} {c : ρ → Rat} (hF : ∀ L R, F (L ++ c :: R) = 0) (hr : c r = 0) (R : List (ρ → Rat)) : ∀ (L pre : List (ρ → Rat)), lap r F pre (L ++ c :: R) = 0
  | [], pre => by
    simp only [lap, List.nil_append]
    rw [lap_zero_pre hF pre R [], hr]
    grind
  | d :: L, pre => by
    simp only [lap, List.cons_append]
    have e := hF (pre ++ L) R
    simp only [List.append_assoc] at e
    rw [e, lap_zero_post hF hr R L (pre ++ [d])]
    grind
theorem det_zero {c : ρ → Rat} : ∀ (rs : List ρ), (∀ r ∈ rs, c r = 0) → ∀ L R, det rs (L ++ c :: R) = 0
  | [], _, L, R => by cases L <;> simp [det]
  | r :: rs, h, L, R => by
    simp only [det]
    exact lap_zero_post (det_zero rs fun q hq => h q (List.mem_cons_of_mem _ hq)) (h r List.mem_cons_self) R L []
theorem lap_none {r : ρ} {F : List (ρ → Rat) → Rat} : ∀ (post pre : List (ρ → Rat)), (∀ c ∈ post, c r = 0) → lap r F pre post = 0
  | [], pre, _ => by simp only [lap]
  | c :: post, pre, h => by
    simp only [lap]
    rw [lap_none post _ fun d hd => h d (List.mem_cons_of_mem _ hd), h c List.mem_cons_self]
    grind
theorem det_first (r : ρ) (rs : List ρ) (c : ρ → Rat) (cs : List (ρ → Rat)) (h : ∀ d ∈ cs, d r = 0) : det (r :: rs) (c :: cs) = c r * det rs cs := by
  simp only [det, lap, List.nil_append]
  rw [lap_none cs _ h]
  grind
theorem det_none (r : ρ) (rs : List ρ) (cs : List (ρ → Rat)) (h : ∀ d ∈ cs, d r = 0) : det (r :: rs) cs = 0 := by
  simp only [det]
  exact lap_none cs _ h
/-- Schur: what is left when the first row and the first column are taken off -/
def schur (r : ρ) (c d : ρ → Rat) : ρ → Rat := fun q => d q - (d r / c r) * c q
theorem det_schur_pre (rs : List ρ) (r : ρ) (c : ρ → Rat) : ∀ (ds L : List (ρ → Rat)), det rs (c :: (L ++ ds.map (schur r c))) = det rs (c :: (L ++ ds))
  | [], L => by simp only [List.map_nil]
  | d :: ds, L => by
    simp only [List.map_cons]
    have h1 := det_schur_pre rs r c ds (L ++ [schur r c d])
    simp only [List.append_assoc, List.cons_append, List.nil_append] at h1
    rw [h1]
    unfold schur
    exact det_add rs L ds c d (d r / c r)
theorem det_schur (r : ρ) (rs : List ρ) (c : ρ → Rat) (ds : List (ρ → Rat)) (hc : c r ≠ 0) : det (r :: rs) (c :: ds) = c r * det rs (ds.map (schur r c)) := by
  have h := det_schur_pre (r :: rs) r c ds []
  simp only [List.nil_append] at h
  rw [← h]
  refine det_first r rs c _ fun d hd => ?_
  obtain ⟨e, _, rfl⟩ := List.mem_map.mp hd
  unfold schur
  grind
theorem det_one (r : ρ) (c : ρ → Rat) : det [r] [c] = c r := by
  simp only [det, lap, List.nil_append]
  grind
/-! ### only the values on the rows matter -/
theorem lap_map {κ : Type} {r : ρ} {F G : List (ρ → Rat) → Rat} {f f' : κ → ρ → Rat} (hr : ∀ k, f k r = f' k r) (hF : ∀ ks : List κ, F (ks.map f) = G (ks.map f')) : ∀ (post pre : List κ), lap r F (pre.map f) (post.map f) = lap r G (pre.map f') (post.map f')
  | [], pre => by simp only [List.map_nil, lap]
  | k :: post, pre => by
    have e1 := hF (pre ++ post)
    have e2 := lap_map hr hF post (pre ++ [k])
    simp only [List.map_append, List.map_cons, List.map_nil] at e1 e2
    simp only [List.map_cons, lap]
    rw [e1, e2, hr]
theorem det_map {κ : Type} {f f' : κ → ρ → Rat} : ∀ (rs : List ρ), (∀ k, ∀ r ∈ rs, f k r = f' k r) → ∀ ks : List κ, det rs (ks.map f) = det rs (ks.map f')
  | [], _, [] => rfl
  | [], _, k :: ks => by simp only [List.map_cons, det]
  | r :: rs, h, ks => by
    simp only [det]
    exact lap_map (fun k => h k r List.mem_cons_self) (det_map rs fun k q hq => h k q (List.mem_cons_of_mem _ hq)) ks []
end SW
/-! ==== M2 ==== -/
set_option linter.all false
/-! Matrices whose matched minors are above 0; a matrix made of a finer one's neighbouring columns. -/
namespace SW
variable {ρ : Type}
/-- each row's entry in its own column is not 0 -/
def Mat (U : Nat → ρ → Prop) : List ρ → List Nat → Prop
  | [], [] => True
  | r :: rs, i :: is => U i r ∧ Mat U rs is
  | _, _ => False
theorem Mat.imp {U V : Nat → ρ → Prop} : ∀ {rs : List ρ} {is : List Nat}, (∀ r ∈ rs, ∀ i, U i r → V i r) → Mat U rs is → Mat V rs is
  | [], [], _, _ => trivial
  | [], _ :: _, _, h => h
  | _ :: _, [], _, h => h
  | r :: rs, i :: is, f, ⟨h1, h2⟩ => ⟨f r List.mem_cons_self i h1, Mat.imp (fun q hq => f q (List.mem_cons_of_mem _ hq)) h2⟩
abbrev Asc (l : List Nat) : Prop := l.Pairwise (· < ·)
/-- which neighbour is taken -/
def Ch (p q : Nat → Prop) : List Nat → List Nat → Prop
  | [], [] => True
  | i :: is, k :: ks => ((k = i ∧ p i) ∨ (k = i + 1 ∧ q i)) ∧ Ch p q is ks
  | _, _ => False
section
variable {rs : List ρ} {M N : Nat → ρ → Rat} {a b : Nat → Rat}
theorem col_split (hM : ∀ i r, M i r = a i * N i r + b i * N (i + 1) r) (L R : List (ρ → Rat)) (i : Nat) : det rs (L ++ M i :: R) = a i * det rs (L ++ N i :: R) + b i * det rs (L ++ N (i + 1) :: R) := by
  rw [← det_lin]
  congr 1
  congr 1
  congr 1
  funext r
  exact hM i r
theorem det_again {L R : List (ρ → Rat)} {js : List Nat} {i : Nat} (hj : Asc js) (hle : ∀ j ∈ js, j ≤ i) (hi : i ∈ js) : det rs (js.map N ++ N i :: R) = 0 := by
  obtain ⟨s, t, e⟩ := List.append_of_mem hi
  subst e
  have ht : t = [] := by
    cases t with
    | nil => rfl
    | cons k t =>
      exfalso
      have h1 := hle k (by simp)
      have h2 := List.pairwise_append.mp hj
      have h3 := List.pairwise_cons.mp h2.2.1
      have := h3.1 k (by simp)
      omega
  subst ht
  have h := det_adj rs (s.map N) R (N i)
  simpa using h
theorem asc_snoc {js : List Nat} {k : Nat} (hj : Asc js) (h : ∀ j ∈ js, j < k) : Asc (js ++ [k]) := by
  refine List.pairwise_append.mpr ⟨hj, List.pairwise_singleton _ _, fun x hx y hy => ?_⟩
  rw [List.mem_singleton.mp hy]
  exact h x hx
/-- no minor below 0, the columns so far taken finely, the others roughly -/
theorem step_nonneg (hM : ∀ i r, M i r = a i * N i r + b i * N (i + 1) r) (ha : ∀ i, 0 ≤ a i) (hb : ∀ i, 0 ≤ b i) (hN : ∀ js, Asc js → 0 ≤ det rs (js.map N)) :
    ∀ (is js : List Nat), Asc is → Asc js → (∀ j ∈ js, ∀ i ∈ is, j ≤ i) → 0 ≤ det rs (js.map N ++ is.map M)
  | [], js, _, hj, _ => by
    simp only [List.map_nil, List.append_nil]
    exact hN js hj
  | i :: is, js, hi, hj, hle => by
    obtain ⟨h1, h2⟩ := List.pairwise_cons.mp hi
    simp only [List.map_cons]
    rw [col_split hM]
    have b1 : 0 ≤ det rs (js.map N ++ N i :: is.map M) := by
      by_cases hm : i ∈ js
      · rw [det_again (L := []) hj (fun j h => hle j h i List.mem_cons_self) hm]
        exact Rat.le_refl
      · have h := step_nonneg hM ha hb hN is (js ++ [i]) h2 (asc_snoc hj fun j hj' => by
          have := hle j hj' i List.mem_cons_self
          have : j ≠ i := fun e => hm (e ▸ hj')
          omega) (fun j hj' k hk => by
          have := h1 k hk
          rcases List.mem_append.mp hj' with h | h
          · have := hle j h i List.mem_cons_self
            omega
          · have := List.mem_singleton.mp h
            omega)
        simpa using h
    have b2 : 0 ≤ det rs (js.map N ++ N (i + 1) :: is.map M) := by
      have h := step_nonneg hM ha hb hN is (js ++ [i + 1]) h2 (asc_snoc hj fun j hj' => by
          have := hle j hj' i List.mem_cons_self
          omega) (fun j hj' k hk => by
          have := h1 k hk
          rcases List.mem_append.mp hj' with h | h
          · have := hle j h i List.mem_cons_self
            omega
          · have := List.mem_singleton.mp h
            omega)
      simpa using h
    have := Rat.mul_nonneg (ha i) b1
    have := Rat.mul_nonneg (hb i) b2
    grind
/-- .. above 0, where the neighbours can be so taken that the finer one is -/
theorem step_pos (hM : ∀ i r, M i r = a i * N i r + b i * N (i + 1) r) (ha : ∀ i, 0 ≤ a i) (hb : ∀ i, 0 ≤ b i) (hN : ∀ js, Asc js → 0 ≤ det rs (js.map N)) :
    ∀ (is ks js : List Nat), Asc is → Ch (fun i => 0 < a i) (fun i => 0 < b i) is ks → Asc (js ++ ks) → (∀ j ∈ js, ∀ i ∈ is, j ≤ i) → 0 < det rs ((js ++ ks).map N) → 0 < det rs (js.map N ++ is.map M)
  | [], [], js, _, _, _, _, h => by
    simpa using h
  | [], k :: ks, js, _, hc, _, _, h => by cases hc
  | i :: is, [], js, _, hc, _, _, h => by cases hc
  | i :: is, k :: ks, js, hi, hc, hj, hle, h => by
    obtain ⟨h1, h2⟩ := List.pairwise_cons.mp hi
    obtain ⟨hk, hc⟩ := hc
    have hjs : Asc js := (List.pairwise_append.mp hj).1
    simp only [List.map_cons]
    rw [col_split hM]
    have e : js ++ k :: ks = (js ++ [k]) ++ ks := by simp
    have b1 : 0 ≤ det rs (js.map N ++ N i :: is.map M) := by
      by_cases hm : i ∈ js
      · rw [det_again (L := []) hjs (fun j h => hle j h i List.mem_cons_self) hm]
        exact Rat.le_refl
      · have h := step_nonneg hM ha hb hN is (js ++ [i]) h2 (asc_snoc hjs fun j hj' => by
          have := hle j hj' i List.mem_cons_self
          have : j ≠ i := fun e => hm (e ▸ hj')
          omega) (fun j hj' k hk => by
          have := h1 k hk
          rcases List.mem_append.mp hj' with h | h
          · have := hle j h i List.mem_cons_self
            omega
          · have := List.mem_singleton.mp h
            omega)
        simpa using h
    have b2 : 0 ≤ det rs (js.map N ++ N (i + 1) :: is.map M) := by
      have h := step_nonneg hM ha hb hN is (js ++ [i + 1]) h2 (asc_snoc hjs fun j hj' => by
          have := hle j hj' i List.mem_cons_self
          omega) (fun j hj' k hk => by
          have := h1 k hk
          rcases List.mem_append.mp hj' with h | h
          · have := hle j h i List.mem_cons_self
            omega
          · have := List.mem_singleton.mp h
            omega)
      simpa using h
    have hle' : ∀ j ∈ js ++ [k], ∀ i' ∈ is, j ≤ i' := fun j hj' i' hi' => by
      have := h1 i' hi'
      rcases List.mem_append.mp hj' with h | h
      · have := hle j h i List.mem_cons_self
        omega
      · have := List.mem_singleton.mp h
        rcases hk with hk | hk <;> omega
    have b3 := step_pos hM ha hb hN is ks (js ++ [k]) h2 hc (by rw [← e]; exact hj) hle' (by rw [← e]; exact h)
    have c1 := Rat.mul_nonneg (ha i) b1
    have c2 := Rat.mul_nonneg (hb i) b2
    rcases hk with ⟨rfl, hk⟩ | ⟨rfl, hk⟩
    · have b4 : 0 < det rs (js.map N ++ N k :: is.map M) := by simpa using b3
      have := Rat.mul_pos hk b4
      grind
    · have b4 : 0 < det rs (js.map N ++ N (i + 1) :: is.map M) := by simpa using b3
      have := Rat.mul_pos hk b4
      grind
end
/-! ### the choice -/
section
variable {lt : ρ → ρ → Prop} {p q : Nat → Prop} {U V : Nat → ρ → Prop}
theorem asc_succ {l : List Nat} (h : Asc l) : Asc (l.map (· + 1)) := by
  refine List.pairwise_map.mpr (h.imp ?_)
  intro x y hxy
  omega
/-- all right neighbours -/
theorem choose_right : ∀ (rs : List ρ) (is : List Nat), rs.length = is.length → (∀ (k : Nat) r i, rs[k]? = some r → is[k]? = some i → q i ∧ U (i + 1) r) → Ch p q is (is.map (· + 1)) ∧ Mat U rs (is.map (· + 1))
  | [], [], _, _ => ⟨trivial, trivial⟩
  | r :: rs, [], h, _ => by simp at h
  | [], i :: is, h, _ => by simp at h
  | r :: rs, i :: is, h, hq => by
    obtain ⟨h1, h2⟩ := choose_right rs is (by simpa using h) fun k r' i' e1 e2 => hq (k + 1) r' i' (by simpa using e1) (by simpa using e2)
    obtain ⟨h3, h4⟩ := hq 0 r i rfl rfl
    exact ⟨⟨.inr ⟨rfl, h3⟩, h1⟩, h4, h2⟩
theorem choose : ∀ (rs : List ρ) (is : List Nat), rs.Pairwise lt → Asc is → Mat V rs is → (∀ r i, V i r → (p i ∧ U i r) ∨ (q i ∧ U (i + 1) r)) →
    (∀ r ∈ rs, ∀ r' ∈ rs, ∀ i i', lt r r' → i < i' → V i r → V i' r' → (p i ∧ U i r) ∨ (q i' ∧ U (i' + 1) r')) → ∃ ks, Ch p q is ks ∧ Mat U rs ks ∧ Asc ks ∧ ∀ k ∈ ks, ∃ i ∈ is, i ≤ k
  | [], [], _, _, _, _, _ => ⟨[], trivial, trivial, List.Pairwise.nil, by simp⟩
  | r :: rs, [], _, _, h, _, _ => by cases h
  | [], i :: is, _, _, h, _, _ => by cases h
  | r :: rs, i :: is, hr, hi, ⟨hv, hm⟩, hV, hC => by
    obtain ⟨r1, r2⟩ := List.pairwise_cons.mp hr
    obtain ⟨i1, i2⟩ := List.pairwise_cons.mp hi
    have get : ∀ (rs : List ρ) (is : List Nat), Mat V rs is → rs.length = is.length ∧ ∀ (k : Nat) r i, rs[k]? = some r → is[k]? = some i → V i r := by
      intro rs
      induction rs with
      | nil =>
        intro is h
        cases is with
        | nil => exact ⟨rfl, by simp⟩
        | cons => cases h
      | cons r rs ih =>
        intro is h
        cases is with
        | nil => cases h
        | cons i is =>
          obtain ⟨h1, h2⟩ := h
          obtain ⟨e, g⟩ := ih is h2
          refine ⟨by simp [e], fun k r' i' e1 e2 => ?_⟩
          cases k with
          | zero =>
            simp at e1 e2
            subst e1 e2
            exact h1
          | succ k => exact g k r' i' (by simpa using e1) (by simpa using e2)
    obtain ⟨gl, gv⟩ := get rs is hm
    by_cases h0 : p i ∧ U i r
    · obtain ⟨ks, k1, k2, k3, k4⟩ := choose rs is r2 i2 hm hV fun r hr r' hr' => hC r (List.mem_cons_of_mem _ hr) r' (List.mem_cons_of_mem _ hr')
      refine ⟨i :: ks, ⟨.inl ⟨rfl, h0.1⟩, k1⟩, ⟨h0.2, k2⟩, List.pairwise_cons.mpr ⟨fun k hk => ?_, k3⟩, fun k hk => ?_⟩
      · obtain ⟨j, hj, hjk⟩ := k4 k hk
        have := i1 j hj
        omega
      · rcases List.mem_cons.mp hk with e | hk
        · exact ⟨i, List.mem_cons_self, by omega⟩
        · obtain ⟨j, hj, hjk⟩ := k4 k hk
          exact ⟨j, List.mem_cons_of_mem _ hj, hjk⟩
    · have hall : ∀ (k : Nat) r' i', (r :: rs)[k]? = some r' → (i :: is)[k]? = some i' → q i' ∧ U (i' + 1) r' := fun k r' i' e1 e2 => by
        cases k with
        | zero =>
          simp at e1 e2
          subst e1 e2
          exact (hV r i hv).resolve_left h0
        | succ k =>
          have e1' : rs[k]? = some r' := by simpa using e1
          have e2' : is[k]? = some i' := by simpa using e2
          have m1 := List.mem_of_getElem? e1'
          exact (hC r List.mem_cons_self r' (List.mem_cons_of_mem _ m1) i i' (r1 _ m1) (i1 _ (List.mem_of_getElem? e2')) hv (gv k r' i' e1' e2')).resolve_left h0
      obtain ⟨c1, c2⟩ := choose_right (p := p) (q := q) (U := U) (r :: rs) (i :: is) (by simp [gl]) hall
      refine ⟨_, c1, c2, asc_succ hi, fun k hk => ?_⟩
      obtain ⟨j, hj, e⟩ := List.mem_map.mp hk
      exact ⟨j, hj, by omega⟩
end
end SW
/-! ==== M3 ==== -/
set_option linter.all false
/-! Hills by the rule of the document, on one piece (from knot m to knot m + 1); one knot more. -/
namespace SW
def bet (t : Nat → Rat) (m : Nat) (x : Rat) : Nat → Nat → Rat
  | 0, i => if i = m then 1 else 0
  | g + 1, i => (x - t i) / (t (i + g + 1) - t i) * bet t m x g i + (t (i + g + 2) - x) / (t (i + g + 2) - t (i + 1)) * bet t m x g (i + 1)
def Mono (t : Nat → Rat) : Prop := ∀ i j, i ≤ j → t i ≤ t j
/-- x lies on the piece m -/
structure On (t : Nat → Rat) (m : Nat) (x : Rat) : Prop where
  lo : t m ≤ x
  hi : x ≤ t (m + 1)
  pos : t m < t (m + 1)
/-- hill i of degree g is above 0 at x, which lies on the piece m -/
def Up (t : Nat → Rat) (m : Nat) (x : Rat) (g i : Nat) : Prop := i ≤ m ∧ m ≤ i + g ∧ (t i < x ∨ m = i + g) ∧ (x < t (i + g + 1) ∨ m = i)
section
variable {t : Nat → Rat} {m : Nat} {x : Rat}
theorem div_pos' {a b : Rat} (ha : 0 < a) (hb : 0 < b) : 0 < a / b := by
  rw [Rat.div_def]
  exact Rat.mul_pos ha (Rat.inv_pos.mpr hb)
theorem div_nonneg' {a b : Rat} (ha : 0 ≤ a) (hb : 0 < b) : 0 ≤ a / b := by
  rw [Rat.div_def]
  exact Rat.mul_nonneg ha (Rat.le_of_lt (Rat.inv_pos.mpr hb))
theorem bet_up (ht : Mono t) (hx : On t m x) : ∀ g i, (Up t m x g i → 0 < bet t m x g i) ∧ (¬ Up t m x g i → bet t m x g i = 0)
  | 0, i => by
    unfold bet Up
    constructor
    · rintro ⟨h1, h2, _, _⟩
      have : i = m := by omega
      rw [if_pos this]
      decide
    · intro h
      by_cases e : i = m
      · exact absurd ⟨by omega, by omega, .inr (by omega), .inr (by omega)⟩ h
      · rw [if_neg e]
  | g + 1, i => by
    obtain ⟨a1, a2⟩ := bet_up ht hx g i
    obtain ⟨b1, b2⟩ := bet_up ht hx g (i + 1)
    obtain ⟨hlo, hhi, hpos⟩ := hx
    unfold bet
    -- the first part
    have f1 : (Up t m x g i ∧ t i < x → 0 < (x - t i) / (t (i + g + 1) - t i) * bet t m x g i) ∧ (¬ (Up t m x g i ∧ t i < x) → (x - t i) / (t (i + g + 1) - t i) * bet t m x g i = 0) := by
      constructor
      · rintro ⟨u, hx⟩
        have p := a1 u
        obtain ⟨u1, u2, _, _⟩ := u
        have q1 := ht i m u1
        have q2 := ht (m + 1) (i + g + 1) (by omega)
        exact Rat.mul_pos (div_pos' (by grind) (by grind)) p
      · intro h
        by_cases u : Up t m x g i
        · have hx : ¬ t i < x := fun z => h ⟨u, z⟩
          have q1 := ht i m u.1
          have e : x - t i = 0 := by grind
          rw [e]
          grind
        · rw [a2 u]
          grind
    have f2 : (Up t m x g (i + 1) ∧ x < t (i + g + 2) → 0 < (t (i + g + 2) - x) / (t (i + g + 2) - t (i + 1)) * bet t m x g (i + 1)) ∧ (¬ (Up t m x g (i + 1) ∧ x < t (i + g + 2)) → (t (i + g + 2) - x) / (t (i + g + 2) - t (i + 1)) * bet t m x g (i + 1) = 0) := by
      constructor
      · rintro ⟨u, hx⟩
        have p := b1 u
        obtain ⟨u1, u2, _, _⟩ := u
        have q1 := ht (i + 1) m u1
        have q2 := ht (m + 1) (i + g + 2) (by omega)
        exact Rat.mul_pos (div_pos' (by grind) (by grind)) p
      · intro h
        by_cases u : Up t m x g (i + 1)
        · have hx : ¬ x < t (i + g + 2) := fun z => h ⟨u, z⟩
          have q1 := ht (m + 1) (i + g + 2) (by have := u.2.1; omega)
          have e : t (i + g + 2) - x = 0 := by grind
          rw [e]
          grind
        · rw [b2 u]
          grind
    have eqv : Up t m x (g + 1) i ↔ (Up t m x g i ∧ t i < x) ∨ (Up t m x g (i + 1) ∧ x < t (i + g + 2)) := by
      have e1 : i + 1 + g + 1 = i + g + 2 := by omega
      have e2 : i + (g + 1) + 1 = i + g + 2 := by omega
      have e3 : i + (g + 1) = i + g + 1 := by omega
      have e4 : i + 1 + g = i + g + 1 := by omega
      unfold Up
      rw [e1, e2, e3, e4]
      have m1 := ht i (i + 1) (by omega)
      have m2 := ht (i + g + 1) (i + g + 2) (by omega)
      constructor
      · rintro ⟨h1, h2, h3, h4⟩
        by_cases c1 : m = i
        · exact .inl ⟨⟨h1, by omega, .inl (by grind), .inr c1⟩, by grind⟩
        · by_cases c2 : m = i + g + 1
          · exact .inr ⟨⟨by omega, h2, .inr c2, .inl (by grind)⟩, by grind⟩
          · have hx1 : t i < x := by grind
            have hx2 : x < t (i + g + 2) := by grind
            have q1 := ht (i + 1) m (by omega)
            have q2 := ht (m + 1) (i + g + 1) (by omega)
            by_cases c3 : x < t (i + g + 1)
            · exact .inl ⟨⟨h1, by omega, .inl hx1, .inl c3⟩, hx1⟩
            · exact .inr ⟨⟨by omega, h2, .inl (by grind), .inl hx2⟩, hx2⟩
      · rintro (⟨⟨h1, h2, h3, h4⟩, h5⟩ | ⟨⟨h1, h2, h3, h4⟩, h5⟩)
        · exact ⟨h1, by omega, .inl h5, h4.elim (fun z => .inl (by grind)) .inr⟩
        · exact ⟨by omega, h2, h3.elim (fun z => .inl (by grind)) .inr, .inl h5⟩
    rw [eqv]
    constructor
    · rintro (h | h)
      · have p1 := f1.1 h
        by_cases c : Up t m x g (i + 1) ∧ x < t (i + g + 2)
        · have p2 := f2.1 c
          grind
        · rw [f2.2 c]
          grind
      · have p2 := f2.1 h
        by_cases c : Up t m x g i ∧ t i < x
        · have p1 := f1.1 c
          grind
        · rw [f1.2 c]
          grind
    · intro h
      rw [f1.2 fun z => h (.inl z), f2.2 fun z => h (.inr z)]
      grind
theorem bet_nonneg (ht : Mono t) (hx : On t m x) (g i : Nat) : 0 ≤ bet t m x g i := by
  obtain ⟨a, b⟩ := bet_up ht hx g i
  by_cases u : Up t m x g i
  · exact Rat.le_of_lt (a u)
  · rw [b u]
    exact Rat.le_refl
/-- a hill of no width is 0 -/
theorem bet_wide (ht : Mono t) (hx : On t m x) {g i : Nat} (h : bet t m x g i ≠ 0) : t i < t (i + g + 1) := by
  have u : Up t m x g i := by
    by_cases u : Up t m x g i
    · exact u
    · exact absurd ((bet_up ht hx g i).2 u) h
  obtain ⟨u1, u2, _, _⟩ := u
  have q1 := ht i m u1
  have q2 := ht (m + 1) (i + g + 1) (by omega)
  have := hx.pos
  grind
end
/-! ### one knot less: u without its knot q -/
def del (u : Nat → Rat) (q : Nat) : Nat → Rat := fun j => if j < q then u j else u (j + 1)
def cA (u : Nat → Rat) (q g i : Nat) : Rat := if i + g + 1 < q then 1 else if q ≤ i then 0 else (u q - u i) / (u (i + g + 1) - u i)
def cB (u : Nat → Rat) (q g i : Nat) : Rat := if i + g + 1 < q then 0 else if q ≤ i then 1 else (u (i + g + 2) - u q) / (u (i + g + 2) - u (i + 1))
theorem term_eq {k l b : Rat} (h : b ≠ 0 → k = l) : k * b = l * b := by
  by_cases e : b = 0
  · rw [e]
    grind
  · rw [h e]
theorem boehm {u : Nat → Rat} {q m m' : Nat} {x : Rat} (hu : Mono u) (hx : On u m' x) (hm : (m' = m ∧ m < q) ∨ (m' = m + 1 ∧ q ≤ m + 1)) :
    ∀ g i, bet (del u q) m x g i = cA u q g i * bet u m' x g i + cB u q g i * bet u m' x g (i + 1)
  | 0, i => by
    have hp := hx.pos
    unfold bet cA cB
    by_cases c1 : i + 0 + 1 < q
    · rw [if_pos c1, if_pos c1]
      have : (i = m) ↔ (i = m') := by omega
      simp only [this]
      grind
    · rw [if_neg c1, if_neg c1]
      by_cases c2 : q ≤ i
      · rw [if_pos c2, if_pos c2]
        have : (i = m) ↔ (i + 1 = m') := by omega
        simp only [this]
        grind
      · rw [if_neg c2, if_neg c2]
        have eq : q = i + 1 := by omega
        subst eq
        by_cases c3 : m' = i
        · have : i = m := by omega
          rw [if_pos this, if_pos c3.symm, if_neg (by omega)]
          subst c3
          have e : m' + 0 + 1 = m' + 1 := by omega
          rw [e]
          grind
        · by_cases c4 : m' = i + 1
          · have : i = m := by omega
            rw [if_pos this, if_neg (by omega), if_pos c4.symm]
            subst c4
            grind
          · rw [if_neg (by omega), if_neg (by omega), if_neg (by omega)]
            grind
  | g + 1, i => by
    have ih1 := boehm hu hx hm g i
    have ih2 := boehm hu hx hm g (i + 1)
    have w0 := bet_wide hu hx (g := g) (i := i)
    have w1 := bet_wide hu hx (g := g) (i := i + 1)
    have w2 := bet_wide hu hx (g := g) (i := i + 2)
    have e1 : i + 1 + g + 1 = i + g + 2 := by omega
    have e2 : i + 2 + g + 1 = i + g + 3 := by omega
    have e3 : i + 1 + g + 2 = i + g + 3 := by omega
    have e4 : i + (g + 1) + 1 = i + g + 2 := by omega
    have e5 : i + (g + 1) + 2 = i + g + 3 := by omega
    have e6 : i + 1 + 1 = i + 2 := by omega
    have e7 : i + g + 1 + 1 = i + g + 2 := by omega
    have e8 : i + g + 2 + 1 = i + g + 3 := by omega
    rw [e1] at w1
    rw [e2] at w2
    have n1 := hu i (i + 1) (by omega)
    have n2 := hu (i + g + 1) (i + g + 2) (by omega)
    have n3 := hu (i + g + 2) (i + g + 3) (by omega)
    have n4 := hu (i + 1) (i + 2) (by omega)
    have n5 := hu (i + 1) (i + g + 1) (by omega)
    have n6 := hu (i + 2) (i + g + 2) (by omega)
    show (x - del u q i) / (del u q (i + g + 1) - del u q i) * bet (del u q) m x g i + (del u q (i + g + 2) - x) / (del u q (i + g + 2) - del u q (i + 1)) * bet (del u q) m x g (i + 1) = cA u q (g + 1) i * ((x - u i) / (u (i + g + 1) - u i) * bet u m' x g i + (u (i + g + 2) - x) / (u (i + g + 2) - u (i + 1)) * bet u m' x g (i + 1)) + cB u q (g + 1) i * ((x - u (i + 1)) / (u (i + 1 + g + 1) - u (i + 1)) * bet u m' x g (i + 1) + (u (i + 1 + g + 2) - x) / (u (i + 1 + g + 2) - u (i + 1 + 1)) * bet u m' x g (i + 1 + 1))
    rw [ih1, ih2, e1, e3, e6]
    generalize bet u m' x g i = b0 at *
    generalize bet u m' x g (i + 1) = b1 at *
    generalize bet u m' x g (i + 2) = b2 at *
    unfold cA cB del
    rw [e1, e3, e4, e5]
    by_cases c1 : i + g + 2 < q
    · simp only [show i < q by omega, show i + g + 1 < q by omega, c1, show i + 1 < q by omega, if_true]
      grind
    · by_cases c2 : q ≤ i
      · simp only [show ¬ i < q by omega, show ¬ i + g + 1 < q by omega, c1, show ¬ i + 1 < q by omega, c2, show q ≤ i + 1 by omega, if_true, if_false, e6, e7, e8]
        grind
      · by_cases c3 : q = i + g + 2
        · -- the new knot is the last but one
          subst c3
          simp only [show i < i + g + 2 by omega, show i + g + 1 < i + g + 2 by omega, show ¬ i + g + 2 < i + g + 2 by omega, show i + 1 < i + g + 2 by omega, show ¬ i + g + 2 ≤ i by omega, show ¬ i + g + 2 ≤ i + 1 by omega, if_true, if_false, e8]
          have k0 : (x - u i) / (u (i + g + 1) - u i) * b0 = (u (i + g + 2) - u i) / (u (i + g + 2) - u i) * ((x - u i) / (u (i + g + 1) - u i)) * b0 := term_eq fun z => by
            have := w0 z
            grind
          have k1 : (u (i + g + 3) - x) / (u (i + g + 3) - u (i + 1)) * ((u (i + g + 2) - u (i + 1)) / (u (i + g + 2) - u (i + 1))) * b1 = ((u (i + g + 2) - u i) / (u (i + g + 2) - u i) * ((u (i + g + 2) - x) / (u (i + g + 2) - u (i + 1))) + (u (i + g + 3) - u (i + g + 2)) / (u (i + g + 3) - u (i + 1)) * ((x - u (i + 1)) / (u (i + g + 2) - u (i + 1)))) * b1 := term_eq fun z => by
            have := w1 z
            have d1 : u (i + g + 2) - u i ≠ 0 := by grind
            have d2 : u (i + g + 2) - u (i + 1) ≠ 0 := by grind
            have d3 : u (i + g + 3) - u (i + 1) ≠ 0 := by grind
            grind
          grind
        · by_cases c4 : q = i + 1
          · subst c4
            simp only [show i < i + 1 by omega, show ¬ i + g + 1 < i + 1 by omega, show ¬ i + g + 2 < i + 1 by omega, show ¬ i + 1 < i + 1 by omega, show ¬ i + 1 ≤ i by omega, show i + 1 ≤ i + 1 by omega, if_true, if_false, e6, e7, e8]
            have k1 : ((x - u i) / (u (i + g + 2) - u i) * ((u (i + g + 2) - u (i + 1)) / (u (i + g + 2) - u (i + 1)))) * b1 = ((u (i + 1) - u i) / (u (i + g + 2) - u i) * ((u (i + g + 2) - x) / (u (i + g + 2) - u (i + 1))) + (u (i + g + 3) - u (i + 1)) / (u (i + g + 3) - u (i + 1)) * ((x - u (i + 1)) / (u (i + g + 2) - u (i + 1)))) * b1 := term_eq fun z => by
              have := w1 z
              have d1 : u (i + g + 2) - u i ≠ 0 := by grind
              have d2 : u (i + g + 2) - u (i + 1) ≠ 0 := by grind
              have d3 : u (i + g + 3) - u (i + 1) ≠ 0 := by grind
              grind
            have k2 : (u (i + g + 3) - x) / (u (i + g + 3) - u (i + 2)) * b2 = (u (i + g + 3) - u (i + 1)) / (u (i + g + 3) - u (i + 1)) * ((u (i + g + 3) - x) / (u (i + g + 3) - u (i + 2))) * b2 := term_eq fun z => by
              have := w2 z
              have d1 : u (i + g + 3) - u (i + 1) ≠ 0 := by grind
              grind
            grind
          · -- well within
            have f1 : i < q := by omega
            have f2 : ¬ i + g + 1 < q := by omega
            have f3 : i + 1 < q := by omega
            simp only [f1, f2, f3, c1, c2, show ¬ q ≤ i + 1 by omega, if_true, if_false, e6, e7, e8]
            have k1 : ((x - u i) / (u (i + g + 2) - u i) * ((u (i + g + 2) - u q) / (u (i + g + 2) - u (i + 1))) + (u (i + g + 3) - x) / (u (i + g + 3) - u (i + 1)) * ((u q - u (i + 1)) / (u (i + g + 2) - u (i + 1)))) * b1
                = ((u q - u i) / (u (i + g + 2) - u i) * ((u (i + g + 2) - x) / (u (i + g + 2) - u (i + 1))) + (u (i + g + 3) - u q) / (u (i + g + 3) - u (i + 1)) * ((x - u (i + 1)) / (u (i + g + 2) - u (i + 1)))) * b1 := term_eq fun z => by
              have := w1 z
              have d1 : u (i + g + 2) - u i ≠ 0 := by grind
              have d2 : u (i + g + 2) - u (i + 1) ≠ 0 := by grind
              have d3 : u (i + g + 3) - u (i + 1) ≠ 0 := by grind
              clear w0 w1 w2 n1 n2 n3 n4 n5 n6 ih1 ih2
              grind
            grind
end SW
/-! ==== M4 ==== -/
set_option linter.all false
/-! Every matched minor of the hills' values at ascending places is above 0, and none is below 0. -/
namespace SW
def ins (t : Nat → Rat) (q : Nat) (z : Rat) : Nat → Rat := fun j => if j < q then t j else if j = q then z else t (j - 1)
theorem del_ins (t : Nat → Rat) (q : Nat) (z : Rat) : del (ins t q z) q = t := by
  funext j
  unfold del ins
  by_cases h : j < q
  · rw [if_pos h, if_pos h]
  · rw [if_neg h, if_neg (by omega), if_neg (by omega)]
    rfl
theorem ins_mono {t : Nat → Rat} {q : Nat} {z : Rat} (ht : Mono t) (h1 : ∀ j, j < q → t j ≤ z) (h2 : ∀ j, q ≤ j → z ≤ t j) : Mono (ins t q z) := fun i j hij => by
  unfold ins
  by_cases a : i < q
  · rw [if_pos a]
    by_cases b : j < q
    · rw [if_pos b]
      exact ht i j hij
    · rw [if_neg b]
      by_cases c : j = q
      · rw [if_pos c]
        exact h1 i a
      · rw [if_neg c]
        exact ht i (j - 1) (by omega)
  · rw [if_neg a, if_neg (show ¬ j < q by omega)]
    by_cases c : i = q
    · rw [if_pos c]
      by_cases d : j = q
      · rw [if_pos d]
        exact Rat.le_refl
      · rw [if_neg d]
        exact h2 (j - 1) (by omega)
    · rw [if_neg c, if_neg (show ¬ j = q by omega)]
      exact ht (i - 1) (j - 1) (by omega)
section
variable {u : Nat → Rat} {q g : Nat}
theorem div_nn {a b : Rat} (ha : 0 ≤ a) (hb : 0 ≤ b) : 0 ≤ a / b := by
  by_cases h : b = 0
  · rw [h, Rat.div_def]
    grind
  · exact div_nonneg' ha (by grind)
theorem pos_of_div {a b : Rat} (ha : 0 ≤ a) (h : 0 < a / b) : 0 < a := by
  by_cases e : a = 0
  · rw [e, Rat.div_def] at h
    grind
  · grind
theorem cA_nonneg (hu : Mono u) (i : Nat) : 0 ≤ cA u q g i := by
  unfold cA
  by_cases c1 : i + g + 1 < q
  · rw [if_pos c1]
    decide
  · rw [if_neg c1]
    by_cases c2 : q ≤ i
    · rw [if_pos c2]
      exact Rat.le_refl
    · rw [if_neg c2]
      have := hu i q (by omega)
      have := hu i (i + g + 1) (by omega)
      exact div_nn (by grind) (by grind)
theorem cB_nonneg (hu : Mono u) (i : Nat) : 0 ≤ cB u q g i := by
  unfold cB
  by_cases c1 : i + g + 1 < q
  · rw [if_pos c1]
    exact Rat.le_refl
  · rw [if_neg c1]
    by_cases c2 : q ≤ i
    · rw [if_pos c2]
      decide
    · rw [if_neg c2]
      have := hu q (i + g + 2) (by omega)
      have := hu (i + 1) (i + g + 2) (by omega)
      exact div_nn (by grind) (by grind)
theorem cA_pos (hu : Mono u) {i : Nat} : 0 < cA u q g i ↔ i < q ∧ (i + g + 1 < q ∨ u i < u q) := by
  unfold cA
  by_cases c1 : i + g + 1 < q
  · rw [if_pos c1]
    exact ⟨fun _ => ⟨by omega, .inl c1⟩, fun _ => by decide⟩
  · rw [if_neg c1]
    by_cases c2 : q ≤ i
    · rw [if_pos c2]
      exact ⟨fun h => absurd h (by decide), fun h => by omega⟩
    · rw [if_neg c2]
      have h1 := hu i q (by omega)
      have h2 := hu q (i + g + 1) (by omega)
      constructor
      · intro h
        have := pos_of_div (show (0 : Rat) ≤ u q - u i by grind) h
        exact ⟨by omega, .inr (by grind)⟩
      · rintro ⟨_, h⟩
        have h := h.resolve_left c1
        exact div_pos' (by grind) (by grind)
theorem cB_pos (hu : Mono u) {i : Nat} : 0 < cB u q g i ↔ q ≤ i + g + 1 ∧ (q ≤ i ∨ u q < u (i + g + 2)) := by
  unfold cB
  by_cases c1 : i + g + 1 < q
  · rw [if_pos c1]
    exact ⟨fun h => absurd h (by decide), fun h => by omega⟩
  · rw [if_neg c1]
    by_cases c2 : q ≤ i
    · rw [if_pos c2]
      exact ⟨fun _ => ⟨by omega, .inl c2⟩, fun _ => by decide⟩
    · rw [if_neg c2]
      have h1 := hu (i + 1) q (by omega)
      have h2 := hu q (i + g + 2) (by omega)
      constructor
      · intro h
        have := pos_of_div (show (0 : Rat) ≤ u (i + g + 2) - u q by grind) h
        exact ⟨by omega, .inr (by grind)⟩
      · rintro ⟨_, h⟩
        have h := h.resolve_left c2
        exact div_pos' (by grind) (by grind)
/-- of two rows, each taking a hill of the rough ones: the left one can take its left neighbour, or the right one its right -/
theorem free_choice (hu : Mono u) {x x' : Rat} {m m' i i' : Nat} (hx : On u m x) (hx' : On u m' x') (hlt : x < x') (hi : i < i') (h1 : (0 < cA u q g i ∧ Up u m x g i) ∨ (0 < cB u q g i ∧ Up u m x g (i + 1)))
    (h2 : (0 < cA u q g i' ∧ Up u m' x' g i') ∨ (0 < cB u q g i' ∧ Up u m' x' g (i' + 1))) : (0 < cA u q g i ∧ Up u m x g i) ∨ (0 < cB u q g i' ∧ Up u m' x' g (i' + 1)) := by
  refine Classical.byContradiction fun hn => ?_
  have n1 : ¬ (0 < cA u q g i ∧ Up u m x g i) := fun z => hn (.inl z)
  have n2 : ¬ (0 < cB u q g i' ∧ Up u m' x' g (i' + 1)) := fun z => hn (.inr z)
  obtain ⟨b1, U1⟩ := h1.resolve_left n1
  obtain ⟨a2, U2⟩ := h2.resolve_right n2
  rw [cB_pos hu] at b1
  rw [cA_pos hu] at a2
  have a1 : 0 < cA u q g i := by
    rw [cA_pos hu]
    refine ⟨by omega, ?_⟩
    rcases a2.2 with z | z
    · exact .inl (by omega)
    · have := hu i i' (by omega)
      exact .inr (by grind)
  have b2 : 0 < cB u q g i' := by
    rw [cB_pos hu]
    refine ⟨by omega, ?_⟩
    rcases b1.2 with z | z
    · exact .inl (by omega)
    · have := hu (i + g + 2) (i' + g + 2) (by omega)
      exact .inr (by grind)
  have N1 : ¬ Up u m x g i := fun z => n1 ⟨a1, z⟩
  have N2 : ¬ Up u m' x' g (i' + 1) := fun z => n2 ⟨b2, z⟩
  obtain ⟨p1, p2, p3, p4⟩ := U1
  obtain ⟨q1, q2, q3, q4⟩ := U2
  have e1 : i + 1 + g = i + g + 1 := by omega
  have e2 : i' + 1 + g + 1 = i' + g + 2 := by omega
  rw [e1] at p2 p3
  -- x is not left of where the hill i of the fine ones ends
  have A : u (i + g + 1) ≤ x := by
    by_cases c : m = i + g + 1
    · have := hx.lo
      rw [c] at this
      exact this
    · have h3 : u (i + 1) < x := p3.resolve_right (by omega)
      have h4 := hu i (i + 1) (by omega)
      refine Rat.not_lt.mp fun z => N1 ⟨by omega, by omega, .inl (by grind), .inl z⟩
  have B : x' ≤ u (i' + 1) := by
    by_cases c : m' = i'
    · have := hx'.hi
      rw [c] at this
      exact this
    · have h3 : x' < u (i' + g + 1) := q4.resolve_right c
      have h4 := hu (i' + g + 1) (i' + g + 2) (by omega)
      refine Rat.not_lt.mp fun z => N2 ⟨by omega, by omega, .inl z, .inl (by rw [e2]; grind)⟩
  by_cases d : i' ≤ i + g
  · have := hu (i' + 1) (i + g + 1) (by omega)
    grind
  · have h5 : u q < u (i + g + 2) := b1.2.resolve_left (by omega)
    have h6 : u i' < u q := a2.2.resolve_left (by omega)
    by_cases d2 : i + g + 2 ≤ i'
    · have := hu (i + g + 2) i' d2
      grind
    · -- i' = i + g + 1
      have : i' = i + g + 1 := by omega
      have := hu q i'
      omega
end
/-! ### the theorem -/
section
variable {g : Nat}
abbrev hil (t : Nat → Rat) (p : Rat → Nat) (g : Nat) : Nat → Rat → Rat := fun i x => bet t (p x) x g i
abbrev ups (t : Nat → Rat) (p : Rat → Nat) (g : Nat) : Nat → Rat → Prop := fun i x => Up t (p x) x g i
def Tn (t : Nat → Rat) (p : Rat → Nat) (g : Nat) (rs : List Rat) : Prop := ∀ is, Asc is → 0 ≤ det rs (is.map (hil t p g)) ∧ (Mat (ups t p g) rs is → 0 < det rs (is.map (hil t p g)))
/-- from the fine knots to the rough ones -/
theorem tn_del {u : Nat → Rat} {q : Nat} {p p' : Rat → Nat} {rs : List Rat} (hu : Mono u) (hx : ∀ x ∈ rs, On u (p' x) x) (hm : ∀ x ∈ rs, (p' x = p x ∧ p x < q) ∨ (p' x = p x + 1 ∧ q ≤ p x + 1)) (hs : rs.Pairwise (· < ·))
    (ht : Mono (del u q)) (hxt : ∀ x ∈ rs, On (del u q) (p x) x) (h : Tn u p' g rs) : Tn (del u q) p g rs := by
  let M : Nat → Rat → Rat := fun i x => cA u q g i * hil u p' g i x + cB u q g i * hil u p' g (i + 1) x
  have hM : ∀ i x, M i x = cA u q g i * hil u p' g i x + cB u q g i * hil u p' g (i + 1) x := fun _ _ => rfl
  intro is hi
  have hN : ∀ js, Asc js → 0 ≤ det rs (js.map (hil u p' g)) := fun js hj => (h js hj).1
  have on_rows : ∀ i, ∀ x ∈ rs, hil (del u q) p g i x = M i x := fun i x hxm => boehm hu (hx x hxm) (hm x hxm) g i
  have e : det rs (is.map (hil (del u q) p g)) = det rs (is.map M) := det_map rs on_rows is
  rw [e]
  have hV : ∀ x ∈ rs, ∀ i, ups (del u q) p g i x → (0 < cA u q g i ∧ ups u p' g i x) ∨ (0 < cB u q g i ∧ ups u p' g (i + 1) x) := fun x hxm i hv => by
    have pos := (bet_up ht (hxt x hxm) g i).1 hv
    have e2 : bet (del u q) (p x) x g i = _ := on_rows i x hxm
    rw [e2, hM] at pos
    have n1 := bet_up hu (hx x hxm) g i
    have n2 := bet_up hu (hx x hxm) g (i + 1)
    have k1 := cA_nonneg (q := q) (g := g) hu i
    have k2 := cB_nonneg (q := q) (g := g) hu i
    by_cases c1 : 0 < cA u q g i ∧ ups u p' g i x
    · exact .inl c1
    · by_cases c2 : 0 < cB u q g i ∧ ups u p' g (i + 1) x
      · exact .inr c2
      · exfalso
        have z1 : cA u q g i * hil u p' g i x = 0 := by
          by_cases z : ups u p' g i x
          · have : cA u q g i = 0 := by
              have : ¬ 0 < cA u q g i := fun y => c1 ⟨y, z⟩
              grind
            rw [this]
            grind
          · have : hil u p' g i x = 0 := n1.2 z
            rw [this]
            grind
        have z2 : cB u q g i * hil u p' g (i + 1) x = 0 := by
          by_cases z : ups u p' g (i + 1) x
          · have : cB u q g i = 0 := by
              have : ¬ 0 < cB u q g i := fun y => c2 ⟨y, z⟩
              grind
            rw [this]
            grind
          · have : hil u p' g (i + 1) x = 0 := n2.2 z
            rw [this]
            grind
        rw [z1, z2] at pos
        grind
  refine ⟨?_, fun hmat => ?_⟩
  · have := step_nonneg (rs := rs) hM (cA_nonneg hu) (cB_nonneg hu) hN is [] hi List.Pairwise.nil (by simp)
    simpa using this
  · obtain ⟨ks, k1, k2, k3, _⟩ := choose (p := fun i => 0 < cA u q g i) (q := fun i => 0 < cB u q g i) (U := ups u p' g) (V := fun i x => x ∈ rs ∧ ups (del u q) p g i x) rs is hs hi (hmat.imp fun x hxm _ hv => ⟨hxm, hv⟩)
      (fun r i hv => hV r hv.1 i hv.2) fun r hr r' hr' i i' hlt hii hv hv' => free_choice hu (hx r hr) (hx r' hr') hlt hii (hV r hr i hv.2) (hV r' hr' i' hv'.2)
    have := step_pos (rs := rs) hM (cA_nonneg hu) (cB_nonneg hu) hN is ks [] hi k1 (by simpa using k3) (by simp) (by simpa using (h ks k3).2 k2)
    simpa using this
/-- the knots at x, which lies on the piece p x, are k alike on the side of x's own -/
def Full (t : Nat → Rat) (m : Nat) (x : Rat) (k : Nat) : Prop := (x < t (m + 1) ∧ k ≤ m + 1 ∧ ∀ j, m + 1 ≤ j + k → j ≤ m → t j = x) ∨ (x = t (m + 1) ∧ ∀ j, m + 1 ≤ j → j ≤ m + k → t j = x)
/-- the one hill at a full knot -/
theorem full_one {t : Nat → Rat} {m : Nat} {x : Rat} (ht : Mono t) (hx : On t m x) (hf : Full t m x (g + 1)) : ∃ σ, (∀ i, Up t m x g i ↔ i = σ) ∧ ∀ m' y, x < y → On t m' y → ∀ i, i < σ → ¬ Up t m' y g i := by
  obtain ⟨h1, h2, h3⟩ := hx
  rcases hf with ⟨f1, f2, f3⟩ | ⟨f1, f2⟩
  · refine ⟨m - g, fun i => ⟨fun ⟨u1, u2, u3, u4⟩ => ?_, fun e => ?_⟩, fun m' y hy ho i hi ⟨u1, u2, u3, u4⟩ => ?_⟩
    · have := f3 i (by omega) u1
      have : m = i + g := u3.resolve_left (by rw [this]; exact Rat.lt_irrefl)
      omega
    · subst e
      have e : m - g + g = m := by omega
      exact ⟨by omega, by omega, .inr (by omega), .inl (by rw [e]; exact f1)⟩
    · have a1 := ht (i + g + 1) m (by omega)
      have a2 := f3 m (by omega) (by omega)
      have : m' = i := u4.resolve_left (by grind)
      subst this
      have a3 := ho.hi
      have a4 := ht (m' + 1) m (by omega)
      grind
  · refine ⟨m, fun i => ⟨fun ⟨u1, u2, u3, u4⟩ => ?_, fun e => ?_⟩, fun m' y hy ho i hi ⟨u1, u2, u3, u4⟩ => ?_⟩
    · have := f2 (i + g + 1) (by omega) (by omega)
      have : m = i := u4.resolve_left (by rw [this]; exact Rat.lt_irrefl)
      omega
    · subst e
      exact ⟨by omega, by omega, .inl (by grind), .inr rfl⟩
    · have a1 := ht (i + g + 1) (m + g + 1) (by omega)
      have a2 := f2 (m + g + 1) (by omega) (by omega)
      have : m' = i := u4.resolve_left (by grind)
      subst this
      have a3 := ho.hi
      have a4 := ht (m' + 1) m (by omega)
      grind
theorem tn_full {t : Nat → Rat} {p : Rat → Nat} {x : Rat} {rs : List Rat} (ht : Mono t) (hx : ∀ y ∈ x :: rs, On t (p y) y) (hs : (x :: rs).Pairwise (· < ·)) (hf : Full t (p x) x (g + 1)) (h : Tn t p g rs) : Tn t p g (x :: rs) := by
  obtain ⟨s1, s2⟩ := List.pairwise_cons.mp hs
  have hx0 := hx x List.mem_cons_self
  obtain ⟨σ, hσ, hl⟩ := full_one ht hx0 hf
  have zero : ∀ i, i ≠ σ → hil t p g i x = 0 := fun i hi => (bet_up ht hx0 g i).2 fun u => hi ((hσ i).mp u)
  intro is hi
  cases is with
  | nil =>
    refine ⟨?_, fun hm => by cases hm⟩
    simp only [List.map_nil]
    rw [det_none x rs [] (by simp)]
    exact Rat.le_refl
  | cons i is =>
    obtain ⟨i1, i2⟩ := List.pairwise_cons.mp hi
    simp only [List.map_cons]
    by_cases c : i = σ
    · subst c
      have e : det (x :: rs) (hil t p g i :: is.map (hil t p g)) = hil t p g i x * det rs (is.map (hil t p g)) := det_first x rs _ _ fun d hd => by
        obtain ⟨j, hj, rfl⟩ := List.mem_map.mp hd
        have := i1 j hj
        exact zero j (by omega)
      have hp : 0 < hil t p g i x := (bet_up ht hx0 g i).1 ((hσ i).mpr rfl)
      rw [e]
      obtain ⟨g1, g2⟩ := h is i2
      exact ⟨Rat.mul_nonneg (Rat.le_of_lt hp) g1, fun hm => Rat.mul_pos hp (g2 hm.2)⟩
    · have nu : ¬ ups t p g i x := fun u => c ((hσ i).mp u)
      have z : det (x :: rs) (hil t p g i :: is.map (hil t p g)) = 0 := by
        by_cases c2 : i < σ
        · have := det_zero (c := hil t p g i) (x :: rs) (fun y hy => by
            rcases List.mem_cons.mp hy with e | hy'
            · rw [e]
              exact zero i c
            · have ho := hx y hy
              exact (bet_up ht ho g i).2 (hl (p y) y (s1 y hy') ho i c2)) [] (is.map (hil t p g))
          simpa using this
        · refine det_none x rs _ fun d hd => ?_
          rcases List.mem_cons.mp hd with e | hd
          · rw [e]
            exact zero i c
          · obtain ⟨j, hj, rfl⟩ := List.mem_map.mp hd
            have := i1 j hj
            exact zero j (by omega)
      rw [z]
      exact ⟨Rat.le_refl, fun hm => absurd hm.1 nu⟩
/-- one knot more at x -/
theorem tn_more {x : Rat} {rs : List Rat} (hs : (x :: rs).Pairwise (· < ·)) (hrs : ∀ t p, Mono t → (∀ y ∈ rs, On t (p y) y) → Tn t p g rs) : ∀ (d k : Nat) (t : Nat → Rat) (p : Rat → Nat), d + k = g + 1 → Mono t → (∀ y ∈ x :: rs, On t (p y) y) → Full t (p x) x k → Tn t p g (x :: rs)
  | 0, k, t, p, e, ht, hx, hf => by
    have e : k = g + 1 := by omega
    subst e
    exact tn_full ht hx hs hf (hrs t p ht fun y hy => hx y (List.mem_cons_of_mem _ hy))
  | d + 1, k, t, p, e, ht, hx, hf => by
    obtain ⟨s1, s2⟩ := List.pairwise_cons.mp hs
    have hx0 := hx x List.mem_cons_self
    have hlo := hx0.lo
    have hhi := hx0.hi
    have hpos := hx0.pos
    have hd := del_ins t (p x + 1) x
    have hu : Mono (ins t (p x + 1) x) := ins_mono ht (fun j hj => Rat.le_trans (ht j (p x) (by omega)) hlo) (fun j hj => Rat.le_trans hhi (ht (p x + 1) j hj))
    have below : ∀ y ∈ rs, p x ≤ p y := fun y hy => by
      refine Classical.byContradiction fun hn => ?_
      have h1 := (hx y (List.mem_cons_of_mem _ hy)).hi
      have h2 := ht (p y + 1) (p x) (by omega)
      have h3 := s1 y hy
      grind
    let p' : Rat → Nat := fun y => if y = x ∧ x = t (p x + 1) then p x else p y + 1
    have at_lo : ∀ j, j ≤ p x → ins t (p x + 1) x j = t j := fun j hj => by
      unfold ins
      rw [if_pos (by omega)]
    have at_x : ins t (p x + 1) x (p x + 1) = x := by
      unfold ins
      rw [if_neg (by omega), if_pos rfl]
    have at_hi : ∀ j, p x + 1 ≤ j → ins t (p x + 1) x (j + 1) = t j := fun j hj => by
      unfold ins
      rw [if_neg (by omega), if_neg (by omega)]
      rfl
    have on' : ∀ y ∈ x :: rs, On (ins t (p x + 1) x) (p' y) y := fun y hy => by
      rcases List.mem_cons.mp hy with e1 | hy'
      · subst e1
        by_cases c : y = t (p y + 1)
        · have e2 : p' y = p y := if_pos ⟨rfl, c⟩
          rw [e2]
          exact ⟨by rw [at_lo _ (Nat.le_refl _)]; exact hlo, by rw [at_x]; exact Rat.le_refl, by rw [at_lo _ (Nat.le_refl _), at_x]; grind⟩
        · have e2 : p' y = p y + 1 := if_neg fun z => c z.2
          rw [e2]
          exact ⟨by rw [at_x]; exact Rat.le_refl, by rw [at_hi _ (Nat.le_refl _)]; exact hhi, by rw [at_hi _ (Nat.le_refl _), at_x]; grind⟩
      · have h3 := s1 y hy'
        have e2 : p' y = p y + 1 := if_neg fun z => by
          rw [z.1] at h3
          exact Rat.lt_irrefl h3
        rw [e2]
        have h4 := below y hy'
        have h5 := hx y hy
        by_cases c : p y = p x
        · rw [c]
          have h6 := h5.hi
          rw [c] at h6
          exact ⟨by rw [at_x]; exact Rat.le_of_lt h3, by rw [at_hi _ (Nat.le_refl _)]; exact h6, by rw [at_hi _ (Nat.le_refl _), at_x]; grind⟩
        · obtain ⟨k, hk⟩ : ∃ k, p y = k + 1 := ⟨p y - 1, by omega⟩
          have a1 := at_hi (p y) (by omega)
          have a2 := at_hi (p y + 1) (by omega)
          exact ⟨by rw [a1]; exact h5.lo, by rw [a2]; exact h5.hi, by rw [a1, a2]; exact h5.pos⟩
    have hm : ∀ y ∈ x :: rs, (p' y = p y ∧ p y < p x + 1) ∨ (p' y = p y + 1 ∧ p x + 1 ≤ p y + 1) := fun y hy => by
      by_cases c : y = x ∧ x = t (p x + 1)
      · have e2 : p' y = p x := if_pos c
        rw [e2, c.1]
        exact .inl ⟨rfl, by omega⟩
      · have e2 : p' y = p y + 1 := if_neg c
        rw [e2]
        refine .inr ⟨rfl, ?_⟩
        rcases List.mem_cons.mp hy with e1 | hy'
        · rw [e1]
          omega
        · have := below y hy'
          omega
    have hf' : Full (ins t (p x + 1) x) (p' x) x (k + 1) := by
      rcases hf with ⟨f1, f2, f3⟩ | ⟨f1, f2⟩
      · have e2 : p' x = p x + 1 := if_neg fun z => by
          rw [← z.2] at f1
          exact Rat.lt_irrefl f1
        rw [e2]
        refine .inl ⟨by rw [at_hi _ (Nat.le_refl _)]; exact f1, by omega, fun j h1 h2 => ?_⟩
        by_cases c : j = p x + 1
        · rw [c, at_x]
        · rw [at_lo j (by omega)]
          exact f3 j (by omega) (by omega)
      · have e2 : p' x = p x := if_pos ⟨rfl, f1⟩
        rw [e2]
        refine .inr ⟨at_x.symm, fun j h1 h2 => ?_⟩
        by_cases c : j = p x + 1
        · rw [c, at_x]
        · obtain ⟨i, hi⟩ : ∃ i, j = i + 1 := ⟨j - 1, by omega⟩
          rw [hi, at_hi i (by omega)]
          exact f2 i (by omega) (by omega)
    have ih := tn_more hs hrs d (k + 1) (ins t (p x + 1) x) p' (by omega) hu on' hf'
    have := tn_del (q := p x + 1) (p := p) (p' := p') (rs := x :: rs) hu on' hm hs (by rw [hd]; exact ht) (by rw [hd]; exact hx) ih
    rw [hd] at this
    exact this
/-- THE THEOREM of Schoenberg and Whitney, and more: no minor is below 0, the matched ones are above -/
theorem tn_all : ∀ (rs : List Rat) (t : Nat → Rat) (p : Rat → Nat), Mono t → (∀ y ∈ rs, On t (p y) y) → rs.Pairwise (· < ·) → Tn t p g rs
  | [], t, p, _, _, _ => fun is _ => by
    cases is with
    | nil => exact ⟨by simp only [List.map_nil, det]; decide, fun _ => by simp only [List.map_nil, det]; decide⟩
    | cons i is => exact ⟨by simp only [List.map_cons, det]; exact Rat.le_refl, fun h => by cases h⟩
  | x :: rs, t, p, ht, hx, hs => by
    obtain ⟨s1, s2⟩ := List.pairwise_cons.mp hs
    have hx0 := hx x List.mem_cons_self
    refine tn_more hs (fun t' p' h1 h2 => tn_all rs t' p' h1 h2 s2) (g + 1) 0 t p (by omega) ht hx ?_
    by_cases c : x < t (p x + 1)
    · exact .inl ⟨c, by omega, fun j h1 h2 => by omega⟩
    · have := hx0.hi
      exact .inr ⟨by grind, fun j h1 h2 => by omega⟩
end
end SW
/-! ==== M5 ==== -/
set_option linter.all false
/-! The longest matching by the table; the elimination's count; they are alike. -/
namespace SW
section
variable {ρ : Type}
/-- the table's number: the last d of n columns, the rows rs -/
def lng (U : Nat → ρ → Bool) (n : Nat) : Nat → List ρ → Nat
  | 0, _ => 0
  | _ + 1, [] => 0
  | d + 1, r :: rs => max (max (lng U n d (r :: rs)) (lng U n (d + 1) rs)) (if U (n - (d + 1)) r then lng U n d rs + 1 else 0)
variable {U : Nat → ρ → Bool} {n : Nat}
theorem lng_row (d : Nat) (r : ρ) (rs : List ρ) : lng U n d rs ≤ lng U n d (r :: rs) := by
  cases d with
  | zero => simp [lng]
  | succ d =>
    rw [lng.eq_3]
    omega
theorem lng_col (d : Nat) : ∀ rs : List ρ, lng U n d rs ≤ lng U n (d + 1) rs
  | [] => by cases d <;> simp [lng]
  | r :: rs => by
    rw [lng.eq_3]
    omega
theorem lng_col1 (d : Nat) : ∀ rs : List ρ, lng U n (d + 1) rs ≤ lng U n d rs + 1
  | [] => by simp [lng]
  | r :: rs => by
    have h1 := lng_col1 d rs
    have h2 := lng_row (U := U) (n := n) d r rs
    rw [lng.eq_3]
    split <;> omega
theorem lng_row1 : ∀ (d : Nat) (r : ρ) (rs : List ρ), lng U n d (r :: rs) ≤ lng U n d rs + 1
  | 0, r, rs => by simp [lng]
  | d + 1, r, rs => by
    have h1 := lng_row1 d r rs
    have h2 := lng_col (U := U) (n := n) d rs
    rw [lng.eq_3]
    split <;> omega
theorem lng_le : ∀ (d : Nat) (rs : List ρ), lng U n d rs ≤ d
  | 0, rs => by simp [lng]
  | d + 1, rs => by
    have h1 := lng_le d rs
    have h2 := lng_col1 (U := U) (n := n) d rs
    omega
theorem lng_none {r : ρ} {rs : List ρ} : ∀ d, (∀ k, k < d → U (n - (k + 1)) r = false) → lng U n d (r :: rs) = lng U n d rs
  | 0, _ => by simp [lng]
  | d + 1, h => by
    have h1 := lng_none (rs := rs) d fun k hk => h k (by omega)
    have h2 := lng_col (U := U) (n := n) d rs
    rw [lng.eq_3, h1, h d (by omega)]
    simp
    omega
theorem lng_skip {d : Nat} : ∀ rs : List ρ, (∀ r ∈ rs, U (n - (d + 1)) r = false) → lng U n (d + 1) rs = lng U n d rs
  | [], _ => by cases d <;> simp [lng]
  | r :: rs, h => by
    have h1 := lng_skip rs fun q hq => h q (List.mem_cons_of_mem _ hq)
    have h2 := lng_row (U := U) (n := n) d r rs
    rw [lng.eq_3, h1, h r List.mem_cons_self]
    simp
    omega
theorem lng_take {d : Nat} {r : ρ} {rs : List ρ} (h : U (n - (d + 1)) r = true) : lng U n (d + 1) (r :: rs) = lng U n d rs + 1 := by
  have h1 := lng_row1 (U := U) (n := n) d r rs
  have h2 := lng_col1 (U := U) (n := n) d rs
  rw [lng.eq_3, h]
  simp
  omega
/-- all columns are met: each has a row -/
theorem lng_full {rs : List ρ} : ∀ d, lng U n d rs = d → ∀ k, k < d → ∃ r ∈ rs, U (n - (k + 1)) r = true
  | 0, _, k, hk => by omega
  | d + 1, h, k, hk => by
    have h1 := lng_col1 (U := U) (n := n) d rs
    have h2 := lng_le (U := U) (n := n) d rs
    by_cases c : k = d
    · subst c
      refine Classical.byContradiction fun hn => ?_
      have := lng_skip (U := U) (n := n) (d := k) rs fun r hr => by
        cases e : U (n - (k + 1)) r with
        | false => rfl
        | true => exact absurd ⟨r, hr, e⟩ hn
      omega
    · exact lng_full d (by omega) k (by omega)
/-- up to the first column that the row has, which no later row has either ahead of it -/
theorem lng_first {r : ρ} {rs : List ρ} {c : Nat} (hc : U c r = true) : ∀ d, n - d ≤ c → c < n → d ≤ n → (∀ i, n - d ≤ i → i < c → ∀ q ∈ r :: rs, U i q = false) → lng U n d (r :: rs) = lng U n (n - (c + 1)) rs + 1
  | 0, h1, h2, _, _ => by omega
  | d + 1, h1, h2, hd, h3 => by
    by_cases e : n - (d + 1) = c
    · have e2 : n - (c + 1) = d := by omega
      rw [lng_take (by rw [e]; exact hc), e2]
    · rw [lng_skip _ fun q hq => h3 _ (Nat.le_refl _) (by omega) q hq]
      exact lng_first hc d (by omega) h2 (by omega) fun i hi hic q hq => h3 i (by omega) hic q hq
end
/-! ### elimination upon ints, as the law does it -/
def spotOf : List Int → Option Nat
  | [] => none
  | a :: l => if a ≠ 0 then some 0 else (spotOf l).map (· + 1)
def lineOf (k : Nat) (lead row : List Int) : List Int := List.zipWith (fun a b => a * lead.getD k 0 - b * row.getD k 0) row lead
def contOf (l : List Int) : Nat := l.foldl (fun s a => Nat.gcd s a.natAbs) 0
def thinOf (l : List Int) : List Int := l.map fun a => a / ((max 1 (contOf l) : Nat) : Int)
def rankL : List (List Int) → Nat
  | [] => 0
  | lead :: rest => match spotOf lead with
    | none => rankL rest
    | some k => 1 + rankL (rest.map fun row => thinOf (lineOf k lead row))
termination_by l => l.length
decreasing_by all_goals simp
theorem spot_none : ∀ {l : List Int}, spotOf l = none → ∀ k, l.getD k 0 = 0
  | [], _, k => by simp
  | a :: l, h, k => by
    unfold spotOf at h
    by_cases c : a ≠ 0
    · rw [if_pos c] at h
      cases h
    · rw [if_neg c] at h
      have h2 : spotOf l = none := by
        cases e : spotOf l with
        | none => rfl
        | some i => rw [e] at h; cases h
      have a0 : a = 0 := by omega
      cases k with
      | zero => simpa using a0
      | succ k => simpa using spot_none h2 k
theorem spot_some : ∀ {l : List Int} {k : Nat}, spotOf l = some k → k < l.length ∧ l.getD k 0 ≠ 0 ∧ ∀ j, j < k → l.getD j 0 = 0
  | [], k, h => by cases h
  | a :: l, k, h => by
    unfold spotOf at h
    by_cases c : a ≠ 0
    · rw [if_pos c] at h
      cases h
      exact ⟨by simp, by simpa using c, fun j hj => by omega⟩
    · rw [if_neg c] at h
      cases e : spotOf l with
      | none => rw [e] at h; cases h
      | some i =>
        rw [e] at h
        cases h
        obtain ⟨h1, h2, h3⟩ := spot_some e
        refine ⟨by simpa using h1, by simpa using h2, fun j hj => ?_⟩
        dsimp only at hj
        cases j with
        | zero => simp; omega
        | succ j => simpa using h3 j (by omega)
theorem getD_zip {f : Int → Int → Int} (h0 : f 0 0 = 0) : ∀ {a b : List Int} (k : Nat), a.length = b.length → (List.zipWith f a b).getD k 0 = f (a.getD k 0) (b.getD k 0)
  | [], [], k, _ => by simp [h0]
  | [], _ :: _, k, h => by simp at h
  | _ :: _, [], k, h => by simp at h
  | x :: a, y :: b, 0, _ => by simp
  | x :: a, y :: b, k + 1, h => by
    have := getD_zip h0 (a := a) (b := b) k (by simpa using h)
    simpa using this
theorem cont_dvd_acc : ∀ (l : List Int) (s : Nat), l.foldl (fun s a => Nat.gcd s a.natAbs) s ∣ s ∧ ∀ a ∈ l, l.foldl (fun s a => Nat.gcd s a.natAbs) s ∣ a.natAbs
  | [], s => ⟨Nat.dvd_refl _, by simp⟩
  | b :: l, s => by
    obtain ⟨h1, h2⟩ := cont_dvd_acc l (Nat.gcd s b.natAbs)
    refine ⟨Nat.dvd_trans h1 (Nat.gcd_dvd_left _ _), fun a ha => ?_⟩
    rcases List.mem_cons.mp ha with e | ha
    · rw [e]
      exact Nat.dvd_trans h1 (Nat.gcd_dvd_right _ _)
    · exact h2 a ha
theorem cont_dvd (l : List Int) (k : Nat) : ((max 1 (contOf l) : Nat) : Int) ∣ l.getD k 0 := by
  by_cases h : k < l.length
  · have hm : l.getD k 0 ∈ l := by
      rw [List.getD_eq_getElem?_getD, List.getElem?_eq_getElem h]
      exact List.getElem_mem h
    have h1 := (cont_dvd_acc l 0).2 _ hm
    by_cases c : contOf l = 0
    · rw [c]
      exact Int.one_dvd _
    · have e : max 1 (contOf l) = contOf l := by omega
      rw [e]
      exact Int.ofNat_dvd_left.mpr h1
  · rw [List.getD_eq_getElem?_getD, List.getElem?_eq_none (by omega)]
    exact Int.dvd_zero _
theorem getD_thin (l : List Int) (k : Nat) : (thinOf l).getD k 0 = l.getD k 0 / ((max 1 (contOf l) : Nat) : Int) := by
  unfold thinOf
  rw [List.getD_eq_getElem?_getD, List.getD_eq_getElem?_getD, List.getElem?_map]
  cases e : l[k]? <;> simp
/-! ### the ints stand for the rows of S from column h on, each by a factor above 0 -/
structure Row (S : Nat → Rat → Rat) (h n : Nat) (x : Rat) (l : List Int) : Prop where
  len : l.length = n
  val : ∃ s : Rat, 0 < s ∧ ∀ i, i < n → ((l.getD i 0 : Int) : Rat) = if i < h then 0 else s * S i x
def Rows (S : Nat → Rat → Rat) (h n : Nat) : List Rat → List (List Int) → Prop
  | [], [] => True
  | x :: rs, l :: ls => Row S h n x l ∧ Rows S h n rs ls
  | _, _ => False
/-- which hills stand where -/
structure Pat (U : Nat → Rat → Bool) (n : Nat) (rs : List Rat) : Prop where
  asc : rs.Pairwise (· < ·)
  side : ∀ i, i < n → ∀ x ∈ rs, U i x = false → (∀ i', i ≤ i' → i' < n → ∀ y ∈ rs, y ≤ x → U i' y = false) ∨ (∀ i', i' ≤ i → ∀ y ∈ rs, x ≤ y → U i' y = false)
structure Good (S : Nat → Rat → Rat) (U : Nat → Rat → Bool) (n : Nat) (rs : List Rat) (h : Nat) : Prop where
  pos : ∀ rs', rs'.Sublist rs → ∀ is, Asc is → (∀ i ∈ is, h ≤ i ∧ i < n) → Mat (fun i x => U i x = true) rs' is → 0 < det rs' (is.map S)
  zero : ∀ x ∈ rs, ∀ i, h ≤ i → i < n → U i x = false → S i x = 0
section
variable {S : Nat → Rat → Rat} {U : Nat → Rat → Bool} {n h : Nat} {x : Rat} {rs : List Rat}
theorem Pat.tail (p : Pat U n (x :: rs)) : Pat U n rs :=
  ⟨(List.pairwise_cons.mp p.asc).2, fun i hi y hy e => (p.side i hi y (List.mem_cons_of_mem _ hy) e).imp (fun f i' h1 h2 z hz hl => f i' h1 h2 z (List.mem_cons_of_mem _ hz) hl) fun f i' h1 z hz hl => f i' h1 z (List.mem_cons_of_mem _ hz) hl⟩
theorem Good.tail (g : Good S U n (x :: rs) h) : Good S U n rs h :=
  ⟨fun rs' hs => g.pos rs' (hs.trans (List.sublist_cons_self x rs)), fun y hy => g.zero y (List.mem_cons_of_mem _ hy)⟩
theorem Good.entry (g : Good S U n (x :: rs) h) {i : Nat} (h1 : h ≤ i) (h2 : i < n) (hu : U i x = true) : 0 < S i x := by
  have := g.pos [x] (by simp) [i] (by simp) (fun j hj => by rw [List.mem_singleton.mp hj]; exact ⟨h1, h2⟩) ⟨hu, trivial⟩
  simpa only [List.map_cons, List.map_nil, det_one] using this
theorem Good.schur (p : Pat U n (x :: rs)) (g : Good S U n (x :: rs) h) {c : Nat} (h1 : h ≤ c) (h2 : c < n) (hu : U c x = true) : Good (fun i => schur x (S c) (S i)) U n rs (c + 1) := by
  have hp := g.entry h1 h2 hu
  refine ⟨fun rs' hs is hi hin hm => ?_, fun q hq i hi hin hz => ?_⟩
  · have d := g.pos (x :: rs') (List.Sublist.cons_cons x hs) (c :: is) (List.pairwise_cons.mpr ⟨fun i hi' => (hin i hi').1, hi⟩) (fun i hi' => by
      rcases List.mem_cons.mp hi' with e | hi'
      · rw [e]
        exact ⟨h1, h2⟩
      · have := hin i hi'
        omega) ⟨hu, hm⟩
    simp only [List.map_cons] at d
    rw [det_schur x rs' (S c) _ (by grind)] at d
    rw [List.map_map] at d
    refine Classical.byContradiction fun hn => ?_
    have hn' : det rs' (is.map (SW.schur x (S c) ∘ S)) ≤ 0 := Rat.not_lt.mp hn
    have := Rat.mul_nonneg (Rat.le_of_lt hp) (show 0 ≤ - det rs' (is.map (SW.schur x (S c) ∘ S)) by grind)
    grind
  · unfold SW.schur
    have hlt := (List.pairwise_cons.mp p.asc).1 q hq
    rw [g.zero q (List.mem_cons_of_mem _ hq) i (by omega) hin hz]
    rcases p.side i hin q (List.mem_cons_of_mem _ hq) hz with f | f
    · have := f i (Nat.le_refl _) hin x List.mem_cons_self (Rat.le_of_lt hlt)
      rw [g.zero x List.mem_cons_self i (by omega) hin this, Rat.div_def]
      grind
    · have := f c (by omega) q (List.mem_cons_of_mem _ hq) Rat.le_refl
      rw [g.zero q (List.mem_cons_of_mem _ hq) c h1 h2 this]
      grind
theorem Row.nz (r : Row S h n x l) {i : Nat} (hi : i < n) : l.getD i 0 ≠ 0 ↔ h ≤ i ∧ S i x ≠ 0 := by
  obtain ⟨s, hs, hv⟩ := r.val
  have e := hv i hi
  by_cases c : i < h
  · rw [if_pos c] at e
    have : l.getD i 0 = 0 := by exact_mod_cast e
    constructor
    · intro z
      exact absurd this z
    · intro z
      omega
  · rw [if_neg c] at e
    constructor
    · intro z
      refine ⟨by omega, fun y => z ?_⟩
      rw [y] at e
      have : ((l.getD i 0 : Int) : Rat) = 0 := by grind
      exact_mod_cast this
    · rintro ⟨_, z⟩ y
      rw [y] at e
      have : s * S i x = 0 := by
        have : ((0 : Int) : Rat) = 0 := rfl
        grind
      grind
end
theorem rank_is {U : Nat → Rat → Bool} {n : Nat} : ∀ (rs : List Rat) (ls : List (List Int)) (S : Nat → Rat → Rat) (h : Nat), h ≤ n → Pat U n rs → Good S U n rs h → Rows S h n rs ls → rankL ls = lng U n (n - h) rs
  | [], [], S, h, _, _, _, _ => by
    rw [rankL]
    cases n - h <;> simp [lng]
  | [], _ :: _, _, _, _, _, _, hr => by cases hr
  | _ :: _, [], _, _, _, _, _, hr => by cases hr
  | x :: rs, l :: ls, S, h, hh, hp, hg, ⟨hl, hr⟩ => by
    have up : ∀ i, i < n → (l.getD i 0 ≠ 0 ↔ h ≤ i ∧ U i x = true) := fun i hi => by
      rw [hl.nz hi]
      constructor
      · rintro ⟨h1, h2⟩
        refine ⟨h1, ?_⟩
        cases e : U i x with
        | true => rfl
        | false => exact absurd (hg.zero x List.mem_cons_self i h1 hi e) h2
      · rintro ⟨h1, h2⟩
        have := hg.entry h1 hi h2
        exact ⟨h1, by grind⟩
    rw [rankL]
    cases e : spotOf l with
    | none =>
      dsimp only
      rw [rank_is rs ls S h hh hp.tail hg.tail hr]
      refine (lng_none _ fun k hk => ?_).symm
      cases e2 : U (n - (k + 1)) x with
      | false => rfl
      | true => exact absurd (spot_none e (n - (k + 1))) ((up _ (by omega)).mpr ⟨by omega, e2⟩)
    | some c =>
      obtain ⟨c1, c2, c3⟩ := spot_some e
      have hcn : c < n := by rw [← hl.len]; exact c1
      obtain ⟨hhc, hu⟩ := (up c hcn).mp c2
      dsimp only
      have before : ∀ i, h ≤ i → i < c → ∀ q ∈ x :: rs, U i q = false := fun i hi hic q hq => by
        have z : U i x = false := by
          cases e2 : U i x with
          | false => rfl
          | true => exact absurd (c3 i hic) ((up i (by omega)).mpr ⟨hi, e2⟩)
        rcases hp.side i (by omega) x List.mem_cons_self z with f | f
        · have := f c (by omega) hcn x List.mem_cons_self Rat.le_refl
          rw [this] at hu
          cases hu
        · refine f i (Nat.le_refl _) q hq ?_
          rcases List.mem_cons.mp hq with e3 | hq
          · rw [e3]
            exact Rat.le_refl
          · exact Rat.le_of_lt ((List.pairwise_cons.mp hp.asc).1 q hq)
      have rows' : ∀ (rs' : List Rat) (ls' : List (List Int)), (∀ q ∈ rs', q ∈ rs) → Rows S h n rs' ls' → Rows (fun i => schur x (S c) (S i)) (c + 1) n rs' (ls'.map fun row => thinOf (lineOf c l row)) := by
        intro rs'
        induction rs' with
        | nil =>
          intro ls' _ hr
          cases ls' with
          | nil => trivial
          | cons _ _ => cases hr
        | cons q rs' ih =>
          intro ls' hin hr
          cases ls' with
          | nil => cases hr
          | cons row ls' =>
            obtain ⟨hrow, hr⟩ := hr
            refine ⟨?_, ih ls' (fun q hq => hin q (List.mem_cons_of_mem _ hq)) hr⟩
            have hqr := hin q List.mem_cons_self
            obtain ⟨s0, p0, v0⟩ := hl.val
            obtain ⟨s1, p1, v1⟩ := hrow.val
            have len1 : (lineOf c l row).length = n := by
              unfold lineOf
              rw [List.length_zipWith, hrow.len, hl.len]
              omega
            have line : ∀ i, (lineOf c l row).getD i 0 = row.getD i 0 * l.getD c 0 - l.getD i 0 * row.getD c 0 := fun i => by
              unfold lineOf
              rw [getD_zip (by omega) i (by rw [hrow.len, hl.len])]
            refine ⟨by unfold thinOf; rw [List.length_map, len1], s1 * s0 * S c x / ((max 1 (contOf (lineOf c l row)) : Nat) : Rat), ?_, fun i hi => ?_⟩
            · have hp0 := hg.entry hhc hcn hu
              refine div_pos' (Rat.mul_pos (Rat.mul_pos p1 p0) hp0) ?_
              have : 0 < max 1 (contOf (lineOf c l row)) := by omega
              exact_mod_cast this
            · rw [getD_thin]
              generalize hm : max 1 (contOf (lineOf c l row)) = m
              have hmp : 0 < m := by omega
              have hd : ((m : Nat) : Int) ∣ (lineOf c l row).getD i 0 := by
                rw [← hm]
                exact cont_dvd _ i
              obtain ⟨z, hz⟩ := hd
              have e1 : (lineOf c l row).getD i 0 / (m : Int) = z := by
                rw [hz]
                exact Int.mul_ediv_cancel_left z (by omega)
              rw [e1]
              have hmq : ((m : Nat) : Rat) ≠ 0 := by
                have : (0 : Rat) < (m : Rat) := by exact_mod_cast hmp
                grind
              have e2 : ((m : Nat) : Rat) * (z : Rat) = ((row.getD i 0 : Int) : Rat) * ((l.getD c 0 : Int) : Rat) - ((l.getD i 0 : Int) : Rat) * ((row.getD c 0 : Int) : Rat) := by
                have := hz.symm.trans (line i)
                exact_mod_cast this
              have a1 := v1 i hi
              have a2 := v0 c hcn
              have a3 := v0 i hi
              have a4 := v1 c hcn
              rw [if_neg (by omega)] at a2 a4
              rw [a1, a2, a3, a4] at e2
              have hp0 := hg.entry hhc hcn hu
              by_cases k1 : i < c + 1
              · rw [if_pos k1]
                by_cases k2 : i < h
                · rw [if_pos k2, if_pos k2] at e2
                  grind
                · rw [if_neg k2, if_neg k2] at e2
                  by_cases k3 : i = c
                  · rw [k3] at e2
                    grind
                  · have z1 := hg.zero x List.mem_cons_self i (by omega) hi (before i (by omega) (by omega) x List.mem_cons_self)
                    have z2 := hg.zero q (List.mem_cons_of_mem _ hqr) i (by omega) hi (before i (by omega) (by omega) q (List.mem_cons_of_mem _ hqr))
                    rw [z1, z2] at e2
                    grind
              · rw [if_neg k1]
                rw [if_neg (by omega), if_neg (by omega)] at e2
                unfold schur
                have hne : S c x ≠ 0 := by grind
                grind
      rw [rank_is rs _ (fun i => schur x (S c) (S i)) (c + 1) (by omega) hp.tail (hg.schur hp hhc hcn hu) (rows' rs ls (fun _ h => h) hr)]
      rw [lng_first hu (n - h) (by omega) hcn (by omega) fun i hi hic q hq => before i (by omega) hic q hq]
      omega
end SW
/-! ==== M6 ==== -/
set_option linter.all false
/-! The program's hills, where they stand, the law's rank: by the theorem. -/
namespace SW
def kn (K : List Int) (i : Nat) : Int := K.getD i 0
def lastK (K : List Int) : Int := K.getD (K.length - 1) 0
def inside (K : List Int) (i : Nat) (x : Int) : Bool := if x = lastK K then decide (kn K i < x) && decide (x ≤ kn K (i + 1)) else decide (kn K i ≤ x) && decide (x < kn K (i + 1))
/-- the value of a hill -/
def bmp (K : List Int) (x : Int) : Nat → Nat → Rat
  | 0, i => if inside K i x then 1 else 0
  | g + 1, i => (if 0 < kn K (i + g + 1) - kn K i then ((x - kn K i : Int) : Rat) / ((kn K (i + g + 1) - kn K i : Int) : Rat) * bmp K x g i else 0)
      + (if 0 < kn K (i + g + 2) - kn K (i + 1) then ((kn K (i + g + 2) - x : Int) : Rat) / ((kn K (i + g + 2) - kn K (i + 1) : Int) : Rat) * bmp K x g (i + 1) else 0)
def isUp (K : List Int) (g i : Nat) (x : Int) : Bool := (decide (kn K i < x) && decide (x < kn K (i + g + 1))) || (decide (x = kn K i) && decide (x = kn K (i + g))) || (decide (x = lastK K) && decide (x = kn K (i + 1)))
/-- a frame's knots -/
structure Kn (K : List Int) (g n : Nat) : Prop where
  len : K.length = n + g + 1
  one : 1 ≤ n
  le : ∀ i j, i ≤ j → j < K.length → kn K i ≤ kn K j
  wide : ∀ i, i < n → kn K i < kn K (i + g + 1)
/-- the knots, the last one on and on -/
def kx (K : List Int) (j : Nat) : Int := kn K (min j (K.length - 1))
def tx (K : List Int) (j : Nat) : Rat := ((kx K j : Int) : Rat)
section
variable {K : List Int} {g n : Nat} {x : Int} {m : Nat}
theorem Kn.kx_of (F : Kn K g n) {j : Nat} (h : j < K.length) : kx K j = kn K j := by
  unfold kx
  congr 1
  omega
theorem Kn.kx_le (F : Kn K g n) {i j : Nat} (h : i ≤ j) : kx K i ≤ kx K j := F.le _ _ (by omega) (by have := F.len; omega)
theorem Kn.mono (F : Kn K g n) : Mono (tx K) := fun i j h => by
  unfold tx
  exact_mod_cast F.kx_le h
theorem Kn.last (F : Kn K g n) : lastK K = kx K (n + g) := by
  have := F.len
  unfold lastK kx kn
  congr 1
  omega
/-- x lies on the piece m, in the program's sense -/
structure Pc (K : List Int) (g n : Nat) (m : Nat) (x : Int) : Prop where
  lt : m < n + g
  ins : inside K m x = true
theorem Pc.on (F : Kn K g n) (p : Pc K g n m x) : On (tx K) m (x : Rat) := by
  have h := p.ins
  have e1 := F.kx_of (j := m) (by have := F.len; have := p.lt; omega)
  have e2 := F.kx_of (j := m + 1) (by have := F.len; have := p.lt; omega)
  unfold inside at h
  rw [← e1, ← e2] at h
  have q : kx K m ≤ x ∧ x ≤ kx K (m + 1) ∧ kx K m < kx K (m + 1) := by
    by_cases c : x = lastK K
    · rw [if_pos c] at h
      simp at h
      omega
    · rw [if_neg c] at h
      simp at h
      omega
  unfold tx
  exact ⟨by exact_mod_cast q.1, by exact_mod_cast q.2.1, by exact_mod_cast q.2.2⟩
theorem Pc.up (F : Kn K g n) (p : Pc K g n m x) {i : Nat} (hi : i < n) : isUp K g i x = true ↔ Up (tx K) m (x : Rat) g i := by
  have hl := F.len
  have hm := p.lt
  have h := p.ins
  have e1 := F.kx_of (j := m) (by omega)
  have e2 := F.kx_of (j := m + 1) (by omega)
  have e3 := F.kx_of (j := i) (by omega)
  have e4 := F.kx_of (j := i + g + 1) (by omega)
  have e5 := F.kx_of (j := i + g) (by omega)
  have e6 := F.kx_of (j := i + 1) (by omega)
  have w := F.wide i hi
  have el := F.last
  unfold inside at h
  unfold isUp Up tx
  rw [← e1, ← e2, el] at h
  rw [← e3, ← e4, ← e5, ← e6, el]
  rw [← e3, ← e4] at w
  have c1 : ((kx K i : Int) : Rat) < (x : Rat) ↔ kx K i < x := by exact_mod_cast Iff.rfl
  have c2 : (x : Rat) < ((kx K (i + g + 1) : Int) : Rat) ↔ x < kx K (i + g + 1) := by exact_mod_cast Iff.rfl
  rw [c1, c2]
  have mono : ∀ a b, a ≤ b → kx K a ≤ kx K b := fun a b hab => F.kx_le hab
  have l1 := mono (i + g + 1) (n + g) (by omega)
  have l2 := mono (m + 1) (n + g) (by omega)
  simp only [Bool.or_eq_true, Bool.and_eq_true, decide_eq_true_eq]
  by_cases cl : x = kx K (n + g)
  · rw [if_pos cl] at h
    simp only [Bool.and_eq_true, decide_eq_true_eq] at h
    constructor
    · rintro ((⟨a1, a2⟩ | ⟨a1, a2⟩) | ⟨a1, a2⟩)
      · omega
      · omega
      · have k1 : ¬ i + 1 ≤ m := fun z => by have := mono (i + 1) m z; omega
        have k2 : ¬ m + 1 ≤ i := fun z => by have := mono (m + 1) i z; omega
        omega
    · rintro ⟨u1, u2, u3, u4⟩
      have k1 : m = i := by
        rcases u4 with z | z
        · omega
        · exact z
      subst k1
      exact .inr ⟨cl, by omega⟩
  · rw [if_neg cl] at h
    simp only [Bool.and_eq_true, decide_eq_true_eq] at h
    constructor
    · rintro ((⟨a1, a2⟩ | ⟨a1, a2⟩) | ⟨a1, a2⟩)
      · have k1 : ¬ m + 1 ≤ i := fun z => by have := mono (m + 1) i z; omega
        have k2 : ¬ i + g + 1 ≤ m := fun z => by have := mono (i + g + 1) m z; omega
        omega
      · have k1 : ¬ m + 1 ≤ i + g := fun z => by have := mono (m + 1) (i + g) z; omega
        have k2 : ¬ i + g + 1 ≤ m := fun z => by have := mono (i + g + 1) m z; omega
        omega
      · omega
    · rintro ⟨u1, u2, u3, u4⟩
      have k1 := mono i m u1
      have k2 := mono (m + 1) (i + g + 1) (by omega)
      by_cases c : kx K i < x
      · exact .inl (.inl ⟨c, by omega⟩)
      · have e : m = i + g := by omega
        subst e
        exact .inl (.inr ⟨by omega, by omega⟩)
/-- one piece alone -/
theorem Pc.one (F : Kn K g n) {m' : Nat} (p : Pc K g n m x) (p' : Pc K g n m' x) : m = m' := by
  have hl := F.len
  have h1 := p.lt
  have h2 := p'.lt
  have a := p.ins
  have b := p'.ins
  unfold inside at a b
  refine Classical.byContradiction fun hn => ?_
  have k1 : m < m' → kn K (m + 1) ≤ kn K m' := fun z => F.le _ _ z (by omega)
  have k2 : m' < m → kn K (m' + 1) ≤ kn K m := fun z => F.le _ _ z (by omega)
  by_cases c : x = lastK K
  · rw [if_pos c] at a b
    simp at a b
    omega
  · rw [if_neg c] at a b
    simp at a b
    omega
/-- the hill's value on its piece -/
theorem Pc.bmp (F : Kn K g n) (p : Pc K g n m x) : ∀ (d i : Nat), i + d < n + g → bmp K x d i = bet (tx K) m (x : Rat) d i
  | 0, i, h => by
    unfold SW.bmp bet
    by_cases e : i = m
    · rw [if_pos e, e, if_pos p.ins]
    · rw [if_neg e, if_neg fun z => e (Pc.one F ⟨by omega, z⟩ p)]
  | d + 1, i, h => by
    have hl := F.len
    have e1 := F.kx_of (j := i) (by omega)
    have e2 := F.kx_of (j := i + d + 1) (by omega)
    have e3 := F.kx_of (j := i + d + 2) (by omega)
    have e4 := F.kx_of (j := i + 1) (by omega)
    unfold SW.bmp bet
    rw [Pc.bmp F p d i (by omega), Pc.bmp F p d (i + 1) (by omega), ← e1, ← e2, ← e3, ← e4]
    have m1 := F.kx_le (i := i) (j := i + d + 1) (by omega)
    have m2 := F.kx_le (i := i + 1) (j := i + d + 2) (by omega)
    generalize bet (tx K) m (x : Rat) d i = b0
    generalize bet (tx K) m (x : Rat) d (i + 1) = b1
    unfold tx
    have k1 : (if 0 < kx K (i + d + 1) - kx K i then ((x - kx K i : Int) : Rat) / ((kx K (i + d + 1) - kx K i : Int) : Rat) * b0 else 0) = ((x : Rat) - ((kx K i : Int) : Rat)) / (((kx K (i + d + 1) : Int) : Rat) - ((kx K i : Int) : Rat)) * b0 := by
      by_cases c : 0 < kx K (i + d + 1) - kx K i
      · rw [if_pos c, Rat.intCast_sub, Rat.intCast_sub]
      · rw [if_neg c]
        have e : kx K (i + d + 1) = kx K i := by omega
        rw [e, Rat.div_def]
        grind
    have k2 : (if 0 < kx K (i + d + 2) - kx K (i + 1) then ((kx K (i + d + 2) - x : Int) : Rat) / ((kx K (i + d + 2) - kx K (i + 1) : Int) : Rat) * b1 else 0) = (((kx K (i + d + 2) : Int) : Rat) - (x : Rat)) / (((kx K (i + d + 2) : Int) : Rat) - ((kx K (i + 1) : Int) : Rat)) * b1 := by
      by_cases c : 0 < kx K (i + d + 2) - kx K (i + 1)
      · rw [if_pos c, Rat.intCast_sub, Rat.intCast_sub]
      · rw [if_neg c]
        have e : kx K (i + d + 2) = kx K (i + 1) := by omega
        rw [e, Rat.div_def]
        grind
    rw [k1, k2]
/-- no piece: all values are 0, no hill stands -/
theorem bmp_out (F : Kn K g n) (hn : ∀ m, ¬ Pc K g n m x) : ∀ (d i : Nat), i + d < n + g → bmp K x d i = 0
  | 0, i, h => by
    unfold SW.bmp
    rw [if_neg fun z => hn i ⟨by omega, z⟩]
  | d + 1, i, h => by
    unfold SW.bmp
    rw [bmp_out F hn d i (by omega), bmp_out F hn d (i + 1) (by omega)]
    grind
theorem up_pc (F : Kn K g n) {i : Nat} (hi : i < n) (hu : isUp K g i x = true) : ∃ m, Pc K g n m x := by
  have hl := F.len
  have el := F.last
  have wd := F.wide i hi
  -- x lies within the knots
  have b0 : kn K 0 ≤ x ∧ x ≤ lastK K ∧ kn K 0 < lastK K := by
    have a1 := F.le 0 i (by omega) (by omega)
    have a2 := F.le 0 (i + 1) (by omega) (by omega)
    have a3 := F.le (i + g + 1) (n + g) (by omega) (by omega)
    have e : lastK K = kn K (n + g) := by unfold lastK kn; rw [hl]; congr 1
    unfold isUp at hu
    simp at hu
    omega
  have e : lastK K = kn K (n + g) := by unfold lastK kn; rw [hl]; congr 1
  by_cases c : x = lastK K
  · -- the last rise
    have f : ∀ d, d ≤ n + g → kn K (n + g - d) < x → ∃ m, Pc K g n m x := by
      intro d
      induction d with
      | zero =>
        intro _ h
        rw [Nat.sub_zero, ← e] at h
        omega
      | succ d ih =>
        intro hd h
        by_cases c2 : kn K (n + g - d) < x
        · exact ih (by omega) c2
        · refine ⟨n + g - (d + 1), by omega, ?_⟩
          unfold inside
          have e2 : n + g - (d + 1) + 1 = n + g - d := by omega
          rw [if_pos c, e2]
          simp
          omega
    exact f (n + g) (Nat.le_refl _) (by rw [Nat.sub_self]; omega)
  · have f : ∀ d, d ≤ n + g → x < kn K d → ∃ m, Pc K g n m x := by
      intro d
      induction d with
      | zero =>
        intro _ h
        omega
      | succ d ih =>
        intro hd h
        by_cases c2 : x < kn K d
        · exact ih (by omega) c2
        · refine ⟨d, by omega, ?_⟩
          unfold inside
          rw [if_neg c]
          simp
          omega
    exact f (n + g) (Nat.le_refl _) (by omega)
/-- where a hill does not stand, it is over or not yet there -/
theorem up_side (F : Kn K g n) {i : Nat} (hi : i < n) (hu : isUp K g i x = false) : (∀ i', i ≤ i' → i' < n → ∀ y, y ≤ x → isUp K g i' y = false) ∨ (∀ i', i' ≤ i → ∀ y, x ≤ y → isUp K g i' y = false) := by
  have hl := F.len
  have e : lastK K = kn K (n + g) := by unfold lastK kn; rw [hl]; congr 1
  have neg : ∀ i y, isUp K g i y = false ↔ ¬ (kn K i < y ∧ y < kn K (i + g + 1)) ∧ ¬ (y = kn K i ∧ y = kn K (i + g)) ∧ ¬ (y = lastK K ∧ y = kn K (i + 1)) := fun i y => by
    unfold isUp
    cases h : ((decide (kn K i < y) && decide (y < kn K (i + g + 1))) || (decide (y = kn K i) && decide (y = kn K (i + g))) || (decide (y = lastK K) && decide (y = kn K (i + 1)))) with
    | true =>
      simp only [Bool.or_eq_true, Bool.and_eq_true, decide_eq_true_eq] at h
      simp only [reduceCtorEq, false_iff]
      omega
    | false =>
      simp only [Bool.or_eq_false_iff, Bool.and_eq_false_iff, decide_eq_false_iff_not] at h
      simp only [true_iff]
      omega
  rw [neg] at hu
  obtain ⟨n1, n2, n3⟩ := hu
  have wi := F.wide i hi
  have m1 := F.le i (i + g) (by omega) (by omega)
  by_cases c : x ≤ kn K i
  · left
    intro i' hi' hn y hy
    rw [neg]
    have a1 := F.le i i' hi' (by omega)
    have a2 := F.le (i + g) (i' + g) (by omega) (by omega)
    have a3 := F.wide i' hn
    have a4 := F.le (i' + g + 1) (n + g) (by omega) (by omega)
    omega
  · right
    intro i' hi' y hy
    rw [neg]
    have a1 := F.le (i' + g + 1) (i + g + 1) (by omega) (by omega)
    have a2 := F.wide i' (by omega)
    have a3 := F.le (i' + 1) (i + 1) (by omega) (by omega)
    have a4 := F.le (i + 1) (i + g + 1) (by omega) (by omega)
    have a5 := F.le (i + 1) (n + g) (by omega) (by omega)
    have a6 := F.le (i + g + 1) (n + g) (by omega) (by omega)
    omega
end
/-! ### the values as a good matrix -/
open Classical in
noncomputable def pcs (K : List Int) (g n : Nat) (y : Rat) : Nat := if h : ∃ m, Pc K g n m y.num then Classical.choose h else 0
open Classical in
noncomputable def SS (K : List Int) (g n : Nat) (i : Nat) (y : Rat) : Rat := if ∃ m, Pc K g n m y.num then bet (tx K) (pcs K g n y) y g i else 0
def UU (K : List Int) (g n : Nat) (i : Nat) (y : Rat) : Bool := decide (i < n) && isUp K g i y.num
section
variable {K : List Int} {g n : Nat}
theorem pcs_ok {x : Int} (h : ∃ m, Pc K g n m x) : Pc K g n (pcs K g n (x : Rat)) x := by
  have h' : ∃ m, Pc K g n m (x : Rat).num := by simpa using h
  unfold pcs
  rw [dif_pos h']
  have := Classical.choose_spec h'
  simpa using this
theorem SS_bmp (F : Kn K g n) {x : Int} {i : Nat} (hi : i < n) : SS K g n i (x : Rat) = bmp K x g i := by
  unfold SS
  by_cases h : ∃ m, Pc K g n m x
  · have h' : ∃ m, Pc K g n m (x : Rat).num := by simpa using h
    rw [if_pos h', Pc.bmp F (pcs_ok h) g i (by omega)]
  · have h' : ¬ ∃ m, Pc K g n m (x : Rat).num := by simpa using h
    rw [if_neg h', bmp_out F (fun m hm => h ⟨m, hm⟩) g i (by omega)]
theorem UU_cast {x : Int} {i : Nat} : UU K g n i (x : Rat) = (decide (i < n) && isUp K g i x) := by
  unfold UU
  rw [Rat.num_intCast]
theorem asc_cast {xs : List Int} (h : xs.Pairwise (· < ·)) : (xs.map fun x : Int => (x : Rat)).Pairwise (· < ·) := by
  refine List.pairwise_map.mpr (h.imp ?_)
  intro a b hab
  exact_mod_cast hab
theorem pat_of (F : Kn K g n) {xs : List Int} (hs : xs.Pairwise (· < ·)) : Pat (UU K g n) n (xs.map fun x : Int => (x : Rat)) := by
  refine ⟨asc_cast hs, fun i hi y hy hu => ?_⟩
  obtain ⟨x, hx, rfl⟩ := List.mem_map.mp hy
  rw [UU_cast, decide_eq_true hi, Bool.true_and] at hu
  refine (up_side F hi hu).imp (fun f i' h1 h2 z hz hl => ?_) fun f i' h1 z hz hl => ?_
  · obtain ⟨w, hw, rfl⟩ := List.mem_map.mp hz
    rw [UU_cast, f i' h1 h2 w (by exact_mod_cast hl), Bool.and_false]
  · obtain ⟨w, hw, rfl⟩ := List.mem_map.mp hz
    rw [UU_cast, f i' h1 w (by exact_mod_cast hl), Bool.and_false]
theorem good_of (F : Kn K g n) {xs : List Int} (hs : xs.Pairwise (· < ·)) : Good (SS K g n) (UU K g n) n (xs.map fun x : Int => (x : Rat)) 0 := by
  refine ⟨fun rs' hsub is hi hin hm => ?_, fun y hy i _ hi hu => ?_⟩
  · have int_of : ∀ y ∈ rs', ∃ x : Int, y = (x : Rat) := fun y hy => by
      obtain ⟨x, _, e⟩ := List.mem_map.mp (hsub.subset hy)
      exact ⟨x, e.symm⟩
    -- each row has a piece
    have pieces : ∀ (rs : List Rat) (is : List Nat), (∀ y ∈ rs, ∃ x : Int, y = (x : Rat)) → Mat (fun i x => UU K g n i x = true) rs is → ∀ y ∈ rs, ∃ m, Pc K g n m y.num := by
      intro rs
      induction rs with
      | nil => intro _ _ _ y hy; cases hy
      | cons y0 rs ih =>
        intro is hint hm y hy
        cases is with
        | nil => cases hm
        | cons i is =>
          obtain ⟨h1, h2⟩ := hm
          rcases List.mem_cons.mp hy with e | hy
          · obtain ⟨x, rfl⟩ := hint y (by rw [e]; exact List.mem_cons_self)
            rw [← e, UU_cast] at h1
            simp only [Bool.and_eq_true, decide_eq_true_eq] at h1
            rw [Rat.num_intCast]
            exact up_pc F h1.1 h1.2
          · exact ih is (fun z hz => hint z (List.mem_cons_of_mem _ hz)) h2 y hy
    have hp := pieces rs' is int_of hm
    have on : ∀ y ∈ rs', On (tx K) (pcs K g n y) y := fun y hy => by
      obtain ⟨x, rfl⟩ := int_of y hy
      have := hp _ hy
      rw [Rat.num_intCast] at this
      exact (pcs_ok this).on F
    have e : det rs' (is.map (SS K g n)) = det rs' (is.map (hil (tx K) (pcs K g n) g)) := det_map rs' (fun i y hy => by
      unfold SS
      rw [if_pos (hp y hy)]) is
    rw [e]
    refine (tn_all rs' (tx K) (pcs K g n) F.mono on ((asc_cast hs).sublist hsub) is hi).2 (hm.imp fun y hy i hu => ?_)
    obtain ⟨x, rfl⟩ := int_of y hy
    rw [UU_cast] at hu
    simp only [Bool.and_eq_true, decide_eq_true_eq] at hu
    have := hp _ hy
    rw [Rat.num_intCast] at this
    exact ((pcs_ok this).up F hu.1).mp hu.2
  · obtain ⟨x, _, rfl⟩ := List.mem_map.mp hy
    rw [UU_cast, decide_eq_true hi, Bool.true_and] at hu
    unfold SS
    by_cases h : ∃ m, Pc K g n m x
    · have h' : ∃ m, Pc K g n m (x : Rat).num := by simpa using h
      rw [if_pos h']
      refine (bet_up F.mono ((pcs_ok h).on F) g i).2 fun u => ?_
      have := ((pcs_ok h).up F hi).mpr u
      rw [this] at hu
      cases hu
    · have h' : ¬ ∃ m, Pc K g n m (x : Rat).num := by simpa using h
      rw [if_neg h']
/-- where a hill stands it is above 0 -/
theorem bmp_pos (F : Kn K g n) {x : Int} {i : Nat} (hi : i < n) (hu : isUp K g i x = true) : 0 < bmp K x g i := by
  have h := up_pc F hi hu
  obtain ⟨m, p⟩ := h
  rw [Pc.bmp F p g i (by omega)]
  exact (bet_up F.mono (p.on F) g i).1 ((p.up F hi).mp hu)
end
/-! ### the law's rank of the grid -/
/-- a row of fractions as a row of integers -/
def lcmOf (qs : List Rat) : Nat := qs.foldl (fun b q => b / Nat.gcd b q.den * q.den) 1
def scaleOf (qs : List Rat) : List Int := qs.map fun q => q.num * (((lcmOf qs) / q.den : Nat) : Int)
theorem lcm_acc : ∀ (qs : List Rat) (b : Nat), 0 < b → 0 < qs.foldl (fun b q => b / Nat.gcd b q.den * q.den) b ∧ b ∣ qs.foldl (fun b q => b / Nat.gcd b q.den * q.den) b ∧ ∀ q ∈ qs, q.den ∣ qs.foldl (fun b q => b / Nat.gcd b q.den * q.den) b
  | [], b, hb => ⟨hb, Nat.dvd_refl _, by simp⟩
  | q :: qs, b, hb => by
    have e : b / Nat.gcd b q.den * q.den = Nat.lcm b q.den := by
      unfold Nat.lcm
      rw [Nat.div_mul_right_comm (Nat.gcd_dvd_left _ _)]
    have hp : 0 < Nat.lcm b q.den := Nat.lcm_pos hb q.den_pos
    obtain ⟨h1, h2, h3⟩ := lcm_acc qs (Nat.lcm b q.den) hp
    rw [List.foldl_cons, e]
    refine ⟨h1, Nat.dvd_trans (Nat.dvd_lcm_left _ _) h2, fun r hr => ?_⟩
    rcases List.mem_cons.mp hr with e | hr
    · rw [e]
      exact Nat.dvd_trans (Nat.dvd_lcm_right _ _) h2
    · exact h3 r hr
theorem den_mul (q : Rat) : (q.den : Rat) * q = (q.num : Rat) := by
  have h := Rat.num_divInt_den q
  rw [Rat.divInt_eq_div] at h
  have hd : ((q.den : Int) : Rat) ≠ 0 := by
    have := q.den_pos
    have : (0 : Rat) < ((q.den : Int) : Rat) := by exact_mod_cast this
    grind
  have e : ((q.den : Int) : Rat) = (q.den : Rat) := by exact_mod_cast rfl
  rw [e] at h hd
  grind
theorem scale_val (qs : List Rat) {q : Rat} (hq : q ∈ qs) : ((q.num * (((lcmOf qs) / q.den : Nat) : Int) : Int) : Rat) = (lcmOf qs : Rat) * q := by
  obtain ⟨h1, _, h3⟩ := lcm_acc qs 1 (by decide)
  obtain ⟨k, hk⟩ := h3 q hq
  have e : lcmOf qs = q.den * k := hk
  rw [e, Nat.mul_div_cancel_left _ q.den_pos, Rat.intCast_mul]
  have d : ((q.den * k : Nat) : Rat) = (q.den : Rat) * (k : Rat) := by exact_mod_cast rfl
  rw [d]
  have hq := den_mul q
  have : ((k : Int) : Rat) = (k : Rat) := by exact_mod_cast rfl
  rw [this]
  grind
def gridOf (K : List Int) (g n : Nat) (xs : List Int) : List (List Rat) := xs.map fun x => (List.range n).map fun i => bmp K x g i
theorem rank_grid {K : List Int} {g n : Nat} (F : Kn K g n) {xs : List Int} (hs : xs.Pairwise (· < ·)) : rankL ((gridOf K g n xs).map scaleOf) = lng (fun i x => isUp K g i x) n n xs := by
  have rows : ∀ xs : List Int, Rows (SS K g n) 0 n (xs.map fun x : Int => (x : Rat)) ((gridOf K g n xs).map scaleOf) := by
    intro xs
    induction xs with
    | nil => trivial
    | cons x xs ih =>
      refine ⟨⟨by simp [scaleOf], ((lcmOf ((List.range n).map fun i => bmp K x g i) : Nat) : Rat), ?_, fun i hi => ?_⟩, ih⟩
      · have := (lcm_acc ((List.range n).map fun i => bmp K x g i) 1 (by decide)).1
        exact_mod_cast this
      · rw [if_neg (by omega), SS_bmp F hi]
        have hm : bmp K x g i ∈ (List.range n).map fun i => bmp K x g i := List.mem_map.mpr ⟨i, List.mem_range.mpr hi, rfl⟩
        rw [← scale_val _ hm]
        congr 1
        unfold scaleOf
        rw [List.getD_eq_getElem?_getD, List.getElem?_map, List.getElem?_map, List.getElem?_range hi]
        rfl
  have e := rank_is (U := UU K g n) (n := n) (xs.map fun x : Int => (x : Rat)) _ (SS K g n) 0 (by omega) (pat_of F hs) (good_of F hs) (rows xs)
  rw [e, Nat.sub_zero]
  have cong : ∀ d, d ≤ n → ∀ xs : List Int, lng (UU K g n) n d (xs.map fun x : Int => (x : Rat)) = lng (fun i x => isUp K g i x) n d xs := by
    intro d
    induction d with
    | zero => intro _ xs; simp [lng]
    | succ d ih =>
      intro hd xs
      induction xs with
      | nil => simp [lng]
      | cons x xs ih2 =>
        have a := ih (by omega) (x :: xs)
        have b := ih (by omega) xs
        rw [List.map_cons] at a ⊢
        rw [lng.eq_3, lng.eq_3, a, b, ih2, UU_cast, decide_eq_true (show n - (d + 1) < n by omega), Bool.true_and]
  exact cong n (Nat.le_refl _) xs
end SW
/-! ==== M7 ==== -/
set_option linter.all false
/-! Sums; elimination of Gauss and Jordan; solutions. -/
namespace LS
def sumN (n : Nat) (f : Nat → Rat) : Rat := match n with
  | 0 => 0
  | n + 1 => sumN n f + f n
theorem sum_congr {n : Nat} {f g : Nat → Rat} (h : ∀ i, i < n → f i = g i) : sumN n f = sumN n g := by
  induction n with
  | zero => rfl
  | succ n ih =>
    unfold sumN
    rw [ih fun i hi => h i (by omega), h n (by omega)]
theorem sum_zero {n : Nat} {f : Nat → Rat} (h : ∀ i, i < n → f i = 0) : sumN n f = 0 := by
  induction n with
  | zero => rfl
  | succ n ih =>
    unfold sumN
    rw [ih fun i hi => h i (by omega), h n (by omega)]
    grind
theorem sum_add (n : Nat) (f g : Nat → Rat) : sumN n (fun i => f i + g i) = sumN n f + sumN n g := by
  induction n with
  | zero => unfold sumN; grind
  | succ n ih => unfold sumN; rw [ih]; grind
theorem sum_sub (n : Nat) (f g : Nat → Rat) : sumN n (fun i => f i - g i) = sumN n f - sumN n g := by
  induction n with
  | zero => unfold sumN; grind
  | succ n ih => unfold sumN; rw [ih]; grind
theorem sum_mul (n : Nat) (k : Rat) (f : Nat → Rat) : sumN n (fun i => k * f i) = k * sumN n f := by
  induction n with
  | zero => unfold sumN; grind
  | succ n ih => unfold sumN; rw [ih]; grind
theorem sum_mulr (n : Nat) (k : Rat) (f : Nat → Rat) : sumN n (fun i => f i * k) = sumN n f * k := by
  induction n with
  | zero => unfold sumN; grind
  | succ n ih => unfold sumN; rw [ih]; grind
theorem sum_swap (n m : Nat) (f : Nat → Nat → Rat) : sumN n (fun i => sumN m fun j => f i j) = sumN m fun j => sumN n fun i => f i j := by
  induction n with
  | zero => exact (sum_zero fun _ _ => rfl).symm
  | succ n ih =>
    show sumN n (fun i => sumN m fun j => f i j) + sumN m (f n) = sumN m fun j => (sumN n fun i => f i j) + f n j
    rw [ih, ← sum_add]
theorem sum_single {n k : Nat} {f : Nat → Rat} (hk : k < n) (h : ∀ i, i < n → i ≠ k → f i = 0) : sumN n f = f k := by
  induction n with
  | zero => omega
  | succ n ih =>
    unfold sumN
    by_cases e : k = n
    · subst e
      rw [sum_zero fun i hi => h i (by omega) (by omega)]
      grind
    · rw [ih (by omega) fun i hi => h i (by omega), h n (by omega) (by omega)]
      grind
theorem sum_nonneg {n : Nat} {f : Nat → Rat} (h : ∀ i, i < n → 0 ≤ f i) : 0 ≤ sumN n f := by
  induction n with
  | zero => unfold sumN; exact Rat.le_refl
  | succ n ih =>
    unfold sumN
    have a := ih fun i hi => h i (by omega)
    have b := h n (by omega)
    grind
theorem sum_null {n : Nat} {f : Nat → Rat} (h : ∀ i, i < n → 0 ≤ f i) (z : sumN n f = 0) : ∀ i, i < n → f i = 0 := by
  induction n with
  | zero => intro i hi; omega
  | succ n ih =>
    unfold sumN at z
    have a := sum_nonneg (n := n) fun i hi => h i (show i < n + 1 by omega)
    have b := h n (by omega)
    intro i hi
    by_cases e : i = n
    · rw [e]; grind
    · exact ih (fun i hi => h i (by omega)) (by grind) i (by omega)
theorem sum_pos {n k : Nat} {f : Nat → Rat} (h : ∀ i, i < n → 0 ≤ f i) (hk : k < n) (p : 0 < f k) : 0 < sumN n f := by
  have a := sum_nonneg h
  refine Classical.byContradiction fun hn => ?_
  have := sum_null h (by grind) k hk
  grind
theorem sq_nonneg (a : Rat) : 0 ≤ a * a := by
  by_cases h : 0 ≤ a
  · exact Rat.mul_nonneg h h
  · have := Rat.mul_nonneg (a := -a) (b := -a) (by grind) (by grind)
    grind
theorem sq_null {a : Rat} (h : a * a = 0) : a = 0 := by
  rcases Rat.mul_eq_zero.mp h with h | h <;> exact h
theorem sq_pos {a : Rat} (h : a ≠ 0) : 0 < a * a := by
  have := sq_nonneg a
  have : a * a ≠ 0 := fun z => h (sq_null z)
  grind
/-! ### one column, upon matrices as functions -/
def swp (a s i : Nat) : Nat := if i = a then s else if i = s then a else i
theorem swp_swp (a s i : Nat) : swp a s (swp a s i) = i := by
  unfold swp
  split
  · split <;> simp_all
  · split
    · simp_all
    · rfl
/-- rows a and s changed, row a made 1 in column c, the others cleared there -/
def stF (c a s : Nat) (e : Nat → Nat → Rat) : Nat → Nat → Rat := fun i j =>
  if i = a then e s j / e s c else e (swp a s i) j - e (swp a s i) c * (e s j / e s c)
/-- v solves the row -/
def Eqn (n : Nat) (r v : Nat → Rat) : Prop := sumN n (fun j => r j * v j) = r n
def Sol (R n : Nat) (e : Nat → Nat → Rat) (v : Nat → Rat) : Prop := ∀ i, i < R → Eqn n (e i) v
theorem eqn_div {n : Nat} {r v : Nat → Rat} {p : Rat} (hp : p ≠ 0) : Eqn n (fun j => r j / p) v ↔ Eqn n r v := by
  unfold Eqn
  have e : sumN n (fun j => r j / p * v j) = p⁻¹ * sumN n (fun j => r j * v j) := by
    rw [← sum_mul]
    refine sum_congr fun i _ => ?_
    grind
  rw [e]
  constructor <;> intro h <;> grind
theorem eqn_sub {n : Nat} {r l v : Nat → Rat} {k : Rat} (hl : Eqn n l v) : Eqn n (fun j => r j - k * l j) v ↔ Eqn n r v := by
  unfold Eqn at *
  have e : sumN n (fun j => (r j - k * l j) * v j) = sumN n (fun j => r j * v j) - k * sumN n (fun j => l j * v j) := by
    rw [← sum_mul, ← sum_sub]
    refine sum_congr fun i _ => ?_
    grind
  rw [e, hl]
  constructor <;> intro h <;> grind
theorem st_sol {R n c a s : Nat} {e : Nat → Nat → Rat} (ha : a < R) (hs : s < R) (hp : e s c ≠ 0) (v : Nat → Rat) : Sol R n (stF c a s e) v ↔ Sol R n e v := by
  have la : stF c a s e a = fun j => e s j / e s c := by
    funext j
    unfold stF
    rw [if_pos rfl]
  have lo : ∀ i, i ≠ a → stF c a s e i = fun j => e (swp a s i) j - e (swp a s i) c * stF c a s e a j := fun i hi => by
    funext j
    rw [la]
    unfold stF
    rw [if_neg hi]
  have sw : ∀ i, i < R → swp a s i < R := fun i hi => by
    unfold swp
    split
    · exact hs
    · split <;> omega
  have sa : swp a s a = s := by unfold swp; rw [if_pos rfl]
  constructor
  · intro h
    have h1 : Eqn n (stF c a s e a) v := h a ha
    have h2 : Eqn n (e s) v := by
      rw [la] at h1
      exact (eqn_div hp).mp h1
    intro i hi
    by_cases k : swp a s i = a
    · have : i = s := by
        have := swp_swp a s i
        rw [k, sa] at this
        exact this.symm
      rw [this]
      exact h2
    · have h3 := h _ (sw i hi)
      rw [lo _ k, swp_swp] at h3
      exact (eqn_sub h1).mp h3
  · intro h
    have h1 : Eqn n (stF c a s e a) v := by
      rw [la]
      exact (eqn_div hp).mpr (h s hs)
    intro i hi
    by_cases k : i = a
    · rw [k]
      exact h1
    · rw [lo i k]
      exact (eqn_sub h1).mpr (h _ (sw i hi))
/-- each row is made of the rows e0 -/
def Comb (R n : Nat) (e0 e : Nat → Nat → Rat) : Prop := ∀ i, i < R → ∃ y : Nat → Rat, ∀ j, j ≤ n → e i j = sumN R fun k => y k * e0 k j
theorem st_comb {R n c a s : Nat} {e0 e : Nat → Nat → Rat} (ha : a < R) (hs : s < R) (h : Comb R n e0 e) : Comb R n e0 (stF c a s e) := by
  intro i hi
  obtain ⟨ys, hys⟩ := h s hs
  by_cases k : i = a
  · refine ⟨fun l => (e s c)⁻¹ * ys l, fun j hj => ?_⟩
    unfold stF
    rw [if_pos k, hys j hj, Rat.div_def, Rat.mul_comm, ← sum_mul]
    refine sum_congr fun l _ => ?_
    grind
  · have hw : swp a s i < R := by
      unfold swp
      split
      · exact hs
      · split <;> omega
    obtain ⟨yi, hyi⟩ := h _ hw
    refine ⟨fun l => yi l - e (swp a s i) c * ((e s c)⁻¹ * ys l), fun j hj => ?_⟩
    unfold stF
    rw [if_neg k, hyi j hj, hys j hj, Rat.div_def, Rat.mul_comm (sumN R fun k => ys k * e0 k j), ← sum_mul, ← sum_mul, ← sum_sub]
    refine sum_congr fun l _ => ?_
    grind
/-- the columns ahead of c are done: the steps' are unit columns, the rows behind the steps are 0 -/
structure Done (R c : Nat) (e : Nat → Nat → Rat) (st : List Nat) : Prop where
  len : st.length ≤ R
  lt : ∀ k ∈ st, k < c
  asc : st.Pairwise (· < ·)
  unit : ∀ (k : Nat) j, st[k]? = some j → ∀ i, i < R → e i j = if i = k then 1 else 0
  zero : ∀ i, st.length ≤ i → i < R → ∀ j, j < c → e i j = 0
theorem done_none {R c : Nat} {e : Nat → Nat → Rat} {st : List Nat} (d : Done R c e st) (h : ∀ i, st.length ≤ i → i < R → e i c = 0) : Done R (c + 1) e st :=
  ⟨d.len, fun k hk => by have := d.lt k hk; omega, d.asc, d.unit, fun i h1 h2 j hj => by
    by_cases k : j = c
    · rw [k]; exact h i h1 h2
    · exact d.zero i h1 h2 j (by omega)⟩
theorem done_some {R c s : Nat} {e : Nat → Nat → Rat} {st : List Nat} (d : Done R c e st) (h1 : st.length ≤ s) (h2 : s < R) (hp : e s c ≠ 0) : Done R (c + 1) (stF c st.length s e) (st ++ [c]) := by
  have sw : ∀ i, i < st.length → swp st.length s i = i := fun i hi => by
    unfold swp
    rw [if_neg (by omega), if_neg (by omega)]
  have sw2 : ∀ i, st.length ≤ i → i < R → st.length ≤ swp st.length s i ∧ swp st.length s i < R := fun i ha hb => by
    unfold swp
    split
    · omega
    · split <;> omega
  have z : ∀ j, j < c → e s j = 0 := d.zero s h1 h2
  refine ⟨by simp; omega, fun k hk => ?_, ?_, fun k j hk i hi => ?_, fun i ha hb j hj => ?_⟩
  · rcases List.mem_append.mp hk with hk | hk
    · have := d.lt k hk
      omega
    · have := List.mem_singleton.mp hk
      omega
  · refine List.pairwise_append.mpr ⟨d.asc, List.pairwise_singleton _ _, fun x hx y hy => ?_⟩
    rw [List.mem_singleton.mp hy]
    exact d.lt x hx
  · by_cases hkl : k < st.length
    · rw [List.getElem?_append_left hkl] at hk
      have hj : j < c := d.lt j (List.mem_of_getElem? hk)
      have u := d.unit k j hk
      unfold stF
      by_cases e1 : i = st.length
      · rw [if_pos e1, z j hj, if_neg (by omega), Rat.div_def]
        grind
      · rw [if_neg e1, z j hj, Rat.div_def]
        by_cases e2 : i < st.length
        · rw [sw i e2, u i hi]
          grind
        · have ⟨q1, q2⟩ := sw2 i (by omega) hi
          rw [u _ q2, if_neg (by omega), if_neg (by omega)]
          grind
    · have hk2 : k = st.length := by
        have : k < (st ++ [c]).length := (List.getElem?_eq_some_iff.mp hk).1
        simp at this
        omega
      rw [hk2] at hk ⊢
      simp at hk
      rw [← hk]
      unfold stF
      by_cases e1 : i = st.length
      · rw [if_pos e1, if_pos e1]
        grind
      · rw [if_neg e1, if_neg e1]
        grind
  · have hl : (st ++ [c]).length = st.length + 1 := by simp
    rw [hl] at ha
    unfold stF
    rw [if_neg (by omega)]
    have ⟨q1, q2⟩ := sw2 i (by omega) hb
    by_cases k : j = c
    · rw [k]
      grind
    · rw [d.zero _ q1 q2 j (by omega), z j (by omega), Rat.div_def]
      grind
/-! ### the solution -/
theorem done_solve {R n : Nat} {e : Nat → Nat → Rat} {st : List Nat} {v : Nat → Rat} (d : Done R n e st) (hz : ∀ i, st.length ≤ i → i < R → e i n = 0)
    (hv : ∀ (k : Nat) j, st[k]? = some j → v j = e k n) (hf : ∀ j, j ∉ st → v j = 0) : Sol R n e v := by
  intro i hi
  unfold Eqn
  by_cases h : i < st.length
  · obtain ⟨j, hj⟩ : ∃ j, st[i]? = some j := ⟨st[i], List.getElem?_eq_getElem h⟩
    have hjn : j < n := d.lt j (List.mem_of_getElem? hj)
    rw [sum_single hjn fun l hl hne => ?_]
    · rw [d.unit i j hj i hi, if_pos rfl, hv i j hj]
      grind
    · by_cases hm : l ∈ st
      · obtain ⟨k, hk⟩ := List.getElem?_of_mem hm
        rw [d.unit k l hk i hi, if_neg fun z => ?_]
        · grind
        · rw [← z, hj] at hk
          exact hne (Option.some.inj hk).symm
      · rw [hf l hm]
        grind
  · rw [hz i (by omega) hi, sum_zero fun j hj => ?_]
    rw [d.zero i (by omega) hi j hj]
    grind
/-- a row 0 but for its goal: a combination of the first rows that shows that there is no solution -/
theorem comb_bar {R n : Nat} {e0 e : Nat → Nat → Rat} (h : Comb R n e0 e) {i : Nat} (hi : i < R) (hz : ∀ j, j < n → e i j = 0) (hn : e i n ≠ 0) :
    ∃ y : Nat → Rat, (∀ j, j < n → sumN R (fun k => y k * e0 k j) = 0) ∧ sumN R (fun k => y k * e0 k n) ≠ 0 := by
  obtain ⟨y, hy⟩ := h i hi
  exact ⟨y, fun j hj => by rw [← hy j (by omega)]; exact hz j hj, by rw [← hy n (Nat.le_refl _)]; exact hn⟩
/-! ### the least squares, upon functions: A x k the value of hill k at place x, h the heights -/
section
variable {R n : Nat} {A : Nat → Nat → Rat} {h : Nat → Rat}
def gram (R : Nat) (A : Nat → Nat → Rat) (k l : Nat) : Rat := sumN R fun x => A x k * A x l
def rhs (R : Nat) (A : Nat → Nat → Rat) (h : Nat → Rat) (k : Nat) : Rat := sumN R fun x => A x k * h x
def at_ (n : Nat) (A : Nat → Nat → Rat) (c : Nat → Rat) (x : Nat) : Rat := sumN n fun k => c k * A x k
def gap (n : Nat) (A : Nat → Nat → Rat) (h c : Nat → Rat) (x : Nat) : Rat := at_ n A c x - h x
def sqs (R n : Nat) (A : Nat → Nat → Rat) (h c : Nat → Rat) : Rat := sumN R fun x => gap n A h c x * gap n A h c x
/-- the normal equations can't be barred -/
theorem no_bar (y : Nat → Rat) (h1 : ∀ l, l < n → sumN n (fun k => y k * gram R A k l) = 0) : sumN n (fun k => y k * rhs R A h k) = 0 := by
  have q : sumN R (fun x => at_ n A y x * at_ n A y x) = 0 := by
    have e : sumN R (fun x => at_ n A y x * at_ n A y x) = sumN n fun l => y l * sumN n fun k => y k * gram R A k l := by
      have e1 : ∀ x, at_ n A y x * at_ n A y x = sumN n fun l => y l * (sumN n fun k => y k * (A x k * A x l)) := fun x => by
        show at_ n A y x * at_ n A y x = _
        conv => lhs; rhs; unfold at_
        rw [← sum_mul]
        refine sum_congr fun l _ => ?_
        have : (sumN n fun k => y k * (A x k * A x l)) = at_ n A y x * A x l := by
          unfold at_
          rw [← sum_mulr]
          exact sum_congr fun k _ => by grind
        rw [this]
        grind
      rw [sum_congr fun x _ => e1 x, sum_swap]
      refine sum_congr fun l _ => ?_
      rw [sum_mul, sum_swap]
      congr 1
      refine sum_congr fun k _ => ?_
      unfold gram
      rw [sum_mul]
    rw [e]
    exact sum_zero fun l hl => by rw [h1 l hl]; grind
  have z := sum_null (fun x _ => sq_nonneg _) q
  have e2 : sumN n (fun k => y k * rhs R A h k) = sumN R fun x => at_ n A y x * h x := by
    have : ∀ k, y k * rhs R A h k = sumN R fun x => y k * (A x k * h x) := fun k => by unfold rhs; rw [sum_mul]
    rw [sum_congr fun k _ => this k, sum_swap]
    refine sum_congr fun x _ => ?_
    unfold at_
    rw [← sum_mulr]
    exact sum_congr fun k _ => by grind
  rw [e2]
  refine sum_zero fun x hx => ?_
  rw [sq_null (z x hx)]
  grind
/-- the normal equations: the gaps are at right angles to each hill -/
theorem right_angles {c : Nat → Rat} {k : Nat} (h1 : sumN n (fun l => gram R A k l * c l) = rhs R A h k) : sumN R (fun x => gap n A h c x * A x k) = 0 := by
  have e : sumN R (fun x => gap n A h c x * A x k) = sumN n (fun l => gram R A k l * c l) - rhs R A h k := by
    have e1 : ∀ x, gap n A h c x * A x k = (sumN n fun l => A x k * A x l * c l) - A x k * h x := fun x => by
      have : (sumN n fun l => A x k * A x l * c l) = A x k * at_ n A c x := by
        unfold at_
        rw [← sum_mul]
        exact sum_congr fun l _ => by grind
      rw [this]
      unfold gap
      grind
    rw [sum_congr fun x _ => e1 x, sum_sub, sum_swap]
    unfold rhs
    congr 1
    refine sum_congr fun l _ => ?_
    unfold gram
    rw [sum_mulr]
  rw [e, h1]
  grind
theorem pythagoras {c d : Nat → Rat} (ho : ∀ k, k < n → sumN R (fun x => gap n A h c x * A x k) = 0) : sqs R n A h d = sqs R n A h c + sumN R fun x => at_ n A (fun k => d k - c k) x * at_ n A (fun k => d k - c k) x := by
  have e : ∀ x, gap n A h d x = gap n A h c x + at_ n A (fun k => d k - c k) x := fun x => by
    have : at_ n A (fun k => d k - c k) x = at_ n A d x - at_ n A c x := by
      unfold at_
      rw [← sum_sub]
      exact sum_congr fun k _ => by grind
    rw [this]
    unfold gap
    grind
  have cross : sumN R (fun x => gap n A h c x * at_ n A (fun k => d k - c k) x) = 0 := by
    have e1 : ∀ x, gap n A h c x * at_ n A (fun k => d k - c k) x = sumN n fun k => (d k - c k) * (gap n A h c x * A x k) := fun x => by
      unfold at_
      rw [← sum_mul]
      exact sum_congr fun k _ => by grind
    rw [sum_congr fun x _ => e1 x, sum_swap]
    refine sum_zero fun k hk => ?_
    rw [sum_mul, ho k hk]
    grind
  have e3 : sqs R n A h d = sumN R (fun x => gap n A h c x * gap n A h c x) + sumN R (fun x => 2 * (gap n A h c x * at_ n A (fun k => d k - c k) x)) + sumN R (fun x => at_ n A (fun k => d k - c k) x * at_ n A (fun k => d k - c k) x) := by
    unfold sqs
    rw [← sum_add, ← sum_add]
    refine sum_congr fun x _ => ?_
    rw [e x]
    grind
  rw [e3, sum_mul, cross]
  unfold sqs
  grind
end
end LS
/-! ==== V0 ==== -/
set_option Elab.async false
set_option linter.all false
set_option maxRecDepth 100000
set_option maxHeartbeats 2000000
/-! What expressions are worth, the heap growing: kinds of values by predicates that stay. -/
namespace Bt
open PySem PySem.Spec PyProof.Rows L2
abbrev Hq := Hp
/-- a kind: of a value and the heap -/
abbrev VP := V → Hp → Prop
class Stays (P : VP) : Prop where
  up : ∀ v H H', Same H H' → P v H → P v H'
theorem Same.new {H : Hp} {p : Addr} {o : HO} (h : H p = none) : Same H (upd H p o) := fun a u e => by
  rw [upd_ne (ne_of_none e h)]
  exact e
theorem Same.tup {K : PySem.W.Frag} {H H' : Hp} {a : Addr} {xs : List V} (e : Same H H') (h : SqT K H a xs) : SqT K H' a xs := by
  rcases h with (h | ⟨o, h⟩) | h
  · exact .inl (.inl (e _ _ h))
  · exact .inl (.inr ⟨o, e _ _ h⟩)
  · exact .inr h
/-! ### kinds -/
def IsV (x : V) : VP := fun v _ => v = x
abbrev IsI (n : Int) : VP := IsV (.int n)
abbrev IsB (b : Bool) : VP := IsV (.bl b)
def All2 {α : Type} (R : α → VP) : List V → List α → Hp → Prop
  | [], [], _ => True
  | v :: vs, x :: xs, H => R x v H ∧ All2 R vs xs H
  | _, _, _ => False
/-- a list of ours, a tuple -/
def IsL {α : Type} (R : α → VP) (xs : List α) : VP := fun v H => ∃ p vs, v = .ref p ∧ H p = some (.lst vs) ∧ All2 R vs xs H
def IsT {α : Type} (K : PySem.W.Frag) (R : α → VP) (xs : List α) : VP := fun v H => ∃ p vs, v = .ref p ∧ SqT K H p vs ∧ All2 R vs xs H
/-- a fraction in lowest terms -/
def IsF (K : PySem.W.Frag) (q : Rat) : VP := fun v H => ∃ p, v = .ref p ∧ SqT K H p [.int q.num, .int q.den]
instance (x : V) : Stays (IsV x) := ⟨fun _ _ _ _ h => h⟩
instance (K : PySem.W.Frag) (q : Rat) : Stays (IsF K q) := ⟨fun _ _ _ e ⟨p, h1, h2⟩ => ⟨p, h1, Same.tup e h2⟩⟩
theorem All2.up {α : Type} {R : α → VP} [s : ∀ x, Stays (R x)] {H H' : Hp} (e : Same H H') : ∀ {vs : List V} {xs : List α}, All2 R vs xs H → All2 R vs xs H'
  | [], [], _ => trivial
  | _ :: _, _ :: _, ⟨h1, h2⟩ => ⟨(s _).up _ _ _ e h1, All2.up e h2⟩
  | [], _ :: _, h => h.elim
  | _ :: _, [], h => h.elim
instance {α : Type} (R : α → VP) [∀ x, Stays (R x)] (xs : List α) : Stays (IsL R xs) := ⟨fun _ _ _ e ⟨p, vs, h1, h2, h3⟩ => ⟨p, vs, h1, e _ _ h2, All2.up e h3⟩⟩
instance {α : Type} (K : PySem.W.Frag) (R : α → VP) [∀ x, Stays (R x)] (xs : List α) : Stays (IsT K R xs) := ⟨fun _ _ _ e ⟨p, vs, h1, h2, h3⟩ => ⟨p, vs, h1, Same.tup e h2, All2.up e h3⟩⟩
theorem up {P : VP} [s : Stays P] {v : V} {H H' : Hp} (e : Same H H') (h : P v H) : P v H' := s.up v H H' e h
section
variable {α : Type} {R : α → VP} {H : Hp}
theorem All2.len : ∀ {vs : List V} {xs : List α}, All2 R vs xs H → vs.length = xs.length
  | [], [], _ => rfl
  | _ :: _, _ :: _, ⟨_, h⟩ => congrArg Nat.succ (All2.len h)
  | [], _ :: _, h => h.elim
  | _ :: _, [], h => h.elim
theorem All2.get : ∀ {vs : List V} {xs : List α} {i : Nat} {x : α}, All2 R vs xs H → xs[i]? = some x → ∃ v, vs[i]? = some v ∧ R x v H
  | v :: _, y :: _, 0, x, ⟨h, _⟩, e => by
    have e' : y = x := by simpa using e
    subst e'
    exact ⟨v, rfl, h⟩
  | _ :: _, _ :: _, i + 1, x, ⟨_, h⟩, e => by
    obtain ⟨v, e1, e2⟩ := All2.get (i := i) h (by simpa using e)
    exact ⟨v, by simpa using e1, e2⟩
  | [], [], _, _, _, e => by simp at e
  | [], _ :: _, _, _, h, _ => h.elim
  | _ :: _, [], _, _, h, _ => h.elim
theorem All2.get' : ∀ {vs : List V} {xs : List α} {i : Nat} {v : V}, All2 R vs xs H → vs[i]? = some v → ∃ x, xs[i]? = some x ∧ R x v H
  | w :: _, y :: _, 0, v, ⟨h, _⟩, e => by
    have e' : w = v := by simpa using e
    subst e'
    exact ⟨y, rfl, h⟩
  | _ :: _, _ :: _, i + 1, v, ⟨_, h⟩, e => by
    obtain ⟨x, e1, e2⟩ := All2.get' (i := i) h (by simpa using e)
    exact ⟨x, by simpa using e1, e2⟩
  | [], [], _, _, _, e => by simp at e
  | [], _ :: _, _, _, h, _ => h.elim
  | _ :: _, [], _, _, h, _ => h.elim
theorem All2.app : ∀ {vs : List V} {xs : List α} {ws : List V} {ys : List α}, All2 R vs xs H → All2 R ws ys H → All2 R (vs ++ ws) (xs ++ ys) H
  | [], [], _, _, _, g => g
  | _ :: _, _ :: _, _, _, ⟨h1, h2⟩, g => ⟨h1, All2.app h2 g⟩
  | [], _ :: _, _, _, h, _ => h.elim
  | _ :: _, [], _, _, h, _ => h.elim
theorem All2.snoc {vs : List V} {xs : List α} {v : V} {x : α} (h : All2 R vs xs H) (g : R x v H) : All2 R (vs ++ [v]) (xs ++ [x]) H := All2.app h ⟨g, trivial⟩
theorem All2.set : ∀ {vs : List V} {xs : List α} {i : Nat} {v : V} {x : α}, All2 R vs xs H → R x v H → All2 R (vs.set i v) (xs.set i x) H
  | [], [], _, _, _, _, _ => trivial
  | _ :: _, _ :: _, 0, _, _, ⟨_, h2⟩, g => ⟨g, h2⟩
  | _ :: _, _ :: _, i + 1, _, _, ⟨h1, h2⟩, g => ⟨h1, All2.set (i := i) h2 g⟩
  | [], _ :: _, _, _, _, h, _ => h.elim
  | _ :: _, [], _, _, _, h, _ => h.elim
theorem All2.drop : ∀ {vs : List V} {xs : List α} (n : Nat), All2 R vs xs H → All2 R (vs.drop n) (xs.drop n) H
  | _, _, 0, h => h
  | [], [], _ + 1, _ => trivial
  | _ :: _, _ :: _, n + 1, ⟨_, h⟩ => All2.drop n h
  | [], _ :: _, _ + 1, h => h.elim
  | _ :: _, [], _ + 1, h => h.elim
theorem All2.take : ∀ {vs : List V} {xs : List α} (n : Nat), All2 R vs xs H → All2 R (vs.take n) (xs.take n) H
  | _, _, 0, _ => trivial
  | [], [], _ + 1, _ => trivial
  | _ :: _, _ :: _, n + 1, ⟨h1, h2⟩ => ⟨h1, All2.take n h2⟩
  | [], _ :: _, _ + 1, h => h.elim
  | _ :: _, [], _ + 1, h => h.elim
theorem All2.ints : ∀ {vs : List V} {ns : List Int}, All2 IsI vs ns H → vs = ns.map V.int
  | [], [], _ => rfl
  | v :: vs, n :: ns, ⟨h1, h2⟩ => by
    have h1 : v = .int n := h1
    rw [h1, All2.ints h2]
    rfl
  | [], _ :: _, h => h.elim
  | _ :: _, [], h => h.elim
theorem All2.of_ints : ∀ (ns : List Int), All2 IsI (ns.map V.int) ns H
  | [] => trivial
  | _ :: ns => ⟨rfl, All2.of_ints ns⟩
end
/-! ### ghosts: the part of the heap that is told, within all of it -/
structure To (G H G2 H2 : Hp) : Prop where
  big : Same H H2
  up : Same G G2
  in_ : Same G2 H2
  new : ∀ b o, G2 b = some o → G b = some o ∨ H b = none
theorem To.refl {G H : Hp} (s : Same G H) : To G H G H := ⟨Same.refl H, Same.refl G, s, fun _ _ e => .inl e⟩
theorem To.trans {G H G2 H2 G3 H3 : Hp} (a : To G H G2 H2) (b : To G2 H2 G3 H3) : To G H G3 H3 := ⟨a.big.trans b.big, a.up.trans b.up, b.in_, fun p o e => by
  rcases b.new p o e with h | h
  · exact a.new p o h
  · exact .inr (a.big.free h)⟩
theorem To.alloc {G H : Hp} {p : Addr} {o : HO} (s : Same G H) (n : H p = none) : To G H (upd G p o) (upd H p o) := by
  refine ⟨Same.new n, Same.new (s.free n), fun b u e => ?_, fun b u e => ?_⟩
  · by_cases q : b = p
    · subst q
      rw [upd_same] at e ⊢
      exact e
    · rw [upd_ne q] at e ⊢
      exact s b u e
  · by_cases q : b = p
    · subst q
      exact .inr n
    · rw [upd_ne q] at e
      exact .inl e
/-- the same ghost: only what is not told has grown -/
theorem To.dull {G H H2 : Hp} (s : Same G H) (b : Same H H2) : To G H G H2 := ⟨b, Same.refl G, s.trans b, fun _ _ e => .inl e⟩
/-! ### expressions -/
def Ep (te : TE) (σ : L2.St) (G : Hp) (P : VP) : Prop := ∀ G1 H1, Same G G1 → Same G1 H1 → ∀ Q : VK, (∀ v G2 H2, To G1 H1 G2 H2 → P v G2 → Q v H2) → te σ H1 Q
def Et (tt : TT) (σ : L2.St) (G : Hp) (b : Bool) : Prop := ∀ G1 H1, Same G G1 → Same G1 H1 → ∀ Q : Bool → Hp → Prop, (∀ G2 H2, To G1 H1 G2 H2 → Q b H2) → tt σ H1 Q
abbrev LP := List V → Hp → Prop
def Ea (ta : TA) (σ : L2.St) (G : Hp) (P : LP) : Prop := ∀ G1 H1, Same G G1 → Same G1 H1 → ∀ Q : List V → Hp → Prop, (∀ v G2 H2, To G1 H1 G2 H2 → P v G2 → Q v H2) → ta σ H1 Q
section
variable {ta tb tc td te : TE} {σ : L2.St} {G G' : Hp} {P P' R : VP}
theorem Ep.up (e : Same G G') (h : Ep te σ G P) : Ep te σ G' P := fun G1 H1 g s Q q => h G1 H1 (e.trans g) s Q q
theorem Et.up {tt : TT} {b : Bool} (e : Same G G') (h : Et tt σ G b) : Et tt σ G' b := fun G1 H1 g s Q q => h G1 H1 (e.trans g) s Q q
theorem Ep.to (h : Ep te σ G P) (f : ∀ v G', Same G G' → P v G' → R v G') : Ep te σ G R := fun G1 H1 g s Q q => h G1 H1 g s Q fun v G2 H2 t p => q v G2 H2 t (f v G2 (g.trans t.up) p)
theorem Ep.is {x y : V} (h : Ep te σ G (IsV x)) (e : x = y) : Ep te σ G (IsV y) := e ▸ h
theorem Et.is {tt : TT} {a b : Bool} (h : Et tt σ G a) (e : a = b) : Et tt σ G b := e ▸ h
theorem ep_var {i : Nat} {v : V} [Stays P] (h : σ[i]? = some (some v)) (p : P v G) : Ep (tVar i) σ G P := fun G1 H1 g s Q q => ⟨v, h, q v G1 H1 (To.refl s) (Bt.up g p)⟩
theorem ep_v {i : Nat} {v : V} (h : σ[i]? = some (some v)) : Ep (tVar i) σ G (IsV v) := ep_var h rfl
theorem ep_c {v : V} : Ep (tC v) σ G (IsV v) := fun G1 H1 g s Q q => q v G1 H1 (To.refl s) rfl
theorem ep_cP {v : V} [Stays P] (p : P v G) : Ep (tC v) σ G P := fun G1 H1 g s Q q => q v G1 H1 (To.refl s) (Bt.up g p)
theorem ep_bin {r : R2} [Stays P] (ha : Ep ta σ G P) (hb : Ep tb σ G P') (hr : ∀ x y G1 H1 (Q : VK), Same G G1 → Same G1 H1 → P x G1 → P' y G1 → (∀ v G2 H2, To G1 H1 G2 H2 → R v G2 → Q v H2) → r x y H1 Q) : Ep (tOp r ta tb) σ G R :=
  fun G1 H1 g s Q q => ha G1 H1 g s _ fun x G2 H2 t2 px => hb G2 H2 (g.trans t2.up) t2.in_ _ fun y G3 H3 t3 py => hr x y G3 H3 Q ((g.trans t2.up).trans t3.up) t3.in_ (Bt.up t3.up px) py fun v G4 H4 t4 p => q v G4 H4 ((t2.trans t3).trans t4) p
theorem ep_un {r : V → Hp → VK → Prop} (ha : Ep ta σ G P) (hr : ∀ x G1 H1 (Q : VK), Same G G1 → Same G1 H1 → P x G1 → (∀ v G2 H2, To G1 H1 G2 H2 → R v G2 → Q v H2) → r x H1 Q) : Ep (tUn r ta) σ G R :=
  fun G1 H1 g s Q q => ha G1 H1 g s _ fun x G2 H2 t2 px => hr x G2 H2 Q (g.trans t2.up) t2.in_ px fun v G3 H3 t3 p => q v G3 H3 (t2.trans t3) p
/-- ints -/
abbrev rAddI : R2 := rI0 fun i j => .int (i + j)
abbrev rSubI : R2 := rI0 fun i j => .int (i - j)
abbrev rMulI : R2 := rI IntMulOk fun i j => .int (i * j)
abbrev rModI : R2 := rI (fun _ j => 0 < j) fun i j => .int (i % j)
abbrev rDivI : R2 := rI CDivW fun i j => .int (i / j)
/-- a divisor of any size -/
abbrev rDivP : R2 := rI (fun _ j => 0 < j) fun i j => .int (i / j)
abbrev rLtI : R2 := rI0 fun i j => .bl (decide (i < j))
abbrev rLeI : R2 := rI0 fun i j => .bl (decide (i ≤ j))
abbrev rGtI : R2 := rI0 fun i j => .bl (decide (j < i))
abbrev rGeI : R2 := rI0 fun i j => .bl (decide (j ≤ i))
abbrev uNeg : V → Hp → VK → Prop := rU fun i => .int (-i)
variable {a b : Int}
theorem ep_rI0 {g : Int → Int → V} (ha : Ep ta σ G (IsI a)) (hb : Ep tb σ G (IsI b)) : Ep (tOp (rI0 g) ta tb) σ G (IsV (g a b)) :=
  ep_bin ha hb fun x y G1 H1 Q _ s px py q => ⟨a, b, px, py, q _ G1 H1 (To.refl s) rfl⟩
theorem ep_rI {C : Int → Int → Prop} {g : Int → Int → V} (ha : Ep ta σ G (IsI a)) (hb : Ep tb σ G (IsI b)) (hc : C a b) : Ep (tOp (rI C g) ta tb) σ G (IsV (g a b)) :=
  ep_bin ha hb fun x y G1 H1 Q _ s px py q => ⟨a, b, px, py, hc, q _ G1 H1 (To.refl s) rfl⟩
theorem ep_add (ha : Ep ta σ G (IsI a)) (hb : Ep tb σ G (IsI b)) : Ep (tOp rAddI ta tb) σ G (IsI (a + b)) := ep_rI0 ha hb
theorem ep_sub (ha : Ep ta σ G (IsI a)) (hb : Ep tb σ G (IsI b)) : Ep (tOp rSubI ta tb) σ G (IsI (a - b)) := ep_rI0 ha hb
theorem ep_mul (ha : Ep ta σ G (IsI a)) (hb : Ep tb σ G (IsI b)) (hc : IntMulOk a b) : Ep (tOp rMulI ta tb) σ G (IsI (a * b)) := ep_rI ha hb hc
theorem ep_mod (ha : Ep ta σ G (IsI a)) (hb : Ep tb σ G (IsI b)) (hc : 0 < b) : Ep (tOp rModI ta tb) σ G (IsI (a % b)) := ep_rI ha hb hc
theorem ep_divP (ha : Ep ta σ G (IsI a)) (hb : Ep tb σ G (IsI b)) (hc : 0 < b) : Ep (tOp rDivP ta tb) σ G (IsI (a / b)) := ep_rI ha hb hc
theorem ep_lt (ha : Ep ta σ G (IsI a)) (hb : Ep tb σ G (IsI b)) : Ep (tOp rLtI ta tb) σ G (IsB (decide (a < b))) := ep_rI0 ha hb
theorem ep_le (ha : Ep ta σ G (IsI a)) (hb : Ep tb σ G (IsI b)) : Ep (tOp rLeI ta tb) σ G (IsB (decide (a ≤ b))) := ep_rI0 ha hb
theorem ep_gt (ha : Ep ta σ G (IsI a)) (hb : Ep tb σ G (IsI b)) : Ep (tOp rGtI ta tb) σ G (IsB (decide (b < a))) := ep_rI0 ha hb
theorem ep_ge (ha : Ep ta σ G (IsI a)) (hb : Ep tb σ G (IsI b)) : Ep (tOp rGeI ta tb) σ G (IsB (decide (b ≤ a))) := ep_rI0 ha hb
theorem ep_neg (ha : Ep ta σ G (IsI a)) : Ep (tUn uNeg ta) σ G (IsI (-a)) := ep_un ha fun x G1 H1 Q _ s px q => ⟨a, px, q _ G1 H1 (To.refl s) rfl⟩
theorem ep_eq {x y : V} (ha : Ep ta σ G (IsV x)) (hb : Ep tb σ G (IsV y)) (hs : scal x y = true) : Ep (tOp rEq ta tb) σ G (IsB (decide (x = y))) :=
  ep_bin ha hb fun v w G1 H1 Q _ s px py q => by
    have px : v = x := px
    have py : w = y := py
    subst px py
    exact ⟨hs, q _ G1 H1 (To.refl s) rfl⟩
theorem ep_ne {x y : V} (ha : Ep ta σ G (IsV x)) (hb : Ep tb σ G (IsV y)) (hs : scal x y = true) : Ep (tOp rNe ta tb) σ G (IsB (!decide (x = y))) :=
  ep_bin ha hb fun v w G1 H1 Q _ s px py q => by
    have px : v = x := px
    have py : w = y := py
    subst px py
    exact ⟨hs, q _ G1 H1 (To.refl s) rfl⟩
theorem dec_int' {i j : Int} : decide (V.int i = V.int j) = decide (i = j) := by
  by_cases h : i = j
  · subst h; simp
  · rw [decide_eq_false h, decide_eq_false fun z => h (V.int.inj z)]
theorem ep_eqI (ha : Ep ta σ G (IsI a)) (hb : Ep tb σ G (IsI b)) : Ep (tOp rEq ta tb) σ G (IsB (decide (a = b))) := (ep_eq ha hb rfl).is (by rw [dec_int'])
theorem ep_neI (ha : Ep ta σ G (IsI a)) (hb : Ep tb σ G (IsI b)) : Ep (tOp rNe ta tb) σ G (IsB (!decide (a = b))) := (ep_ne ha hb rfl).is (by rw [dec_int'])
/-- places -/
theorem ep_ixT {α : Type} {K : PySem.W.Frag} {F : α → VP} {xs : List α} {i : Nat} {x : α} [∀ x, Stays (F x)] (ha : Ep ta σ G (IsT K F xs)) (hb : Ep tb σ G (IsI (i : Int))) (hx : xs[i]? = some x) : Ep (tOp (rIxT K) ta tb) σ G (F x) :=
  ep_bin ha hb fun v w G1 H1 Q _ s px py q => by
    obtain ⟨p, vs, h1, h2, h3⟩ := px
    obtain ⟨y, e1, e2⟩ := All2.get h3 hx
    exact ⟨p, vs, i, y, h1, py, Same.tup s h2, atI_nat e1, q y G1 H1 (To.refl s) e2⟩
theorem ep_ixL {α : Type} {K : PySem.W.Frag} {F : α → VP} {xs : List α} {i : Nat} {x : α} [∀ x, Stays (F x)] (ha : Ep ta σ G (IsL F xs)) (hb : Ep tb σ G (IsI (i : Int))) (hx : xs[i]? = some x) : Ep (tOp (rIxL K) ta tb) σ G (F x) :=
  ep_bin ha hb fun v w G1 H1 Q _ s px py q => by
    obtain ⟨p, vs, h1, h2, h3⟩ := px
    obtain ⟨y, e1, e2⟩ := All2.get h3 hx
    exact ⟨p, vs, i, y, h1, py, SqL.of (s _ _ h2), atI_nat e1, q y G1 H1 (To.refl s) e2⟩
theorem ep_num {K : PySem.W.Frag} {q : Rat} (ha : Ep ta σ G (IsF K q)) : Ep (tOp (rIxT K) ta (tC (.int 0))) σ G (IsI q.num) :=
  ep_bin ha ep_c fun v w G1 H1 Q _ s px py k => by
    obtain ⟨p, h1, h2⟩ := px
    exact ⟨p, _, 0, .int q.num, h1, py, Same.tup s h2, rfl, k _ G1 H1 (To.refl s) rfl⟩
theorem ep_den {K : PySem.W.Frag} {q : Rat} (ha : Ep ta σ G (IsF K q)) : Ep (tOp (rIxT K) ta (tC (.int 1))) σ G (IsI q.den) :=
  ep_bin ha ep_c fun v w G1 H1 Q _ s px py k => by
    obtain ⟨p, h1, h2⟩ := px
    exact ⟨p, _, 1, .int q.den, h1, py, Same.tup s h2, rfl, k _ G1 H1 (To.refl s) rfl⟩
/-! tests -/
theorem et_test {c : Bool} (h : Ep te σ G (IsB c)) : Et (tTest te) σ G c := fun G1 H1 g s _ q => h G1 H1 g s _ fun v G2 H2 t p => ⟨c, p, q G2 H2 t⟩
theorem et_B {c : Bool} (h : Ep te σ G (IsB c)) : Et (tB te) σ G c := fun G1 H1 g s _ q => h G1 H1 g s _ fun v G2 H2 t p => ⟨c, p, q G2 H2 t⟩
theorem et_not {t : TT} {c : Bool} (h : Et t σ G c) : Et (tNot t) σ G (!c) := fun G1 H1 g s _ q => h G1 H1 g s _ fun G2 H2 t => q G2 H2 t
theorem et_and {t u : TT} {c d : Bool} (h : Et t σ G c) (g : c = true → Et u σ G d) : Et (tAnd t u) σ G (c && d) := fun G1 H1 e s Q q => h G1 H1 e s _ fun G2 H2 t2 => by
  cases c with
  | true => exact iteT (g rfl G2 H2 (e.trans t2.up) t2.in_ Q fun G3 H3 t3 => q G3 H3 (t2.trans t3))
  | false => exact iteF (q G2 H2 t2)
theorem et_or {t u : TT} {c d : Bool} (h : Et t σ G c) (g : c = false → Et u σ G d) : Et (tOr t u) σ G (c || d) := fun G1 H1 e s Q q => h G1 H1 e s _ fun G2 H2 t2 => by
  cases c with
  | true => exact iteT (q G2 H2 t2)
  | false => exact iteF (g rfl G2 H2 (e.trans t2.up) t2.in_ Q fun G3 H3 t3 => q G3 H3 (t2.trans t3))
theorem ep_andV {c d : Bool} (h : Ep ta σ G (IsB c)) (g : c = true → Ep tb σ G (IsB d)) : Ep (tAndV ta tb) σ G (IsB (c && d)) := fun G1 H1 e s Q q => h G1 H1 e s _ fun v G2 H2 t2 p => ⟨c, p, by
  cases c with
  | true => exact iteT (g rfl G2 H2 (e.trans t2.up) t2.in_ Q fun v G3 H3 t3 p => q v G3 H3 (t2.trans t3) p)
  | false => exact iteF (q _ G2 H2 t2 rfl)⟩
theorem ep_orV {c d : Bool} (h : Ep ta σ G (IsB c)) (g : c = false → Ep tb σ G (IsB d)) : Ep (tOrV ta tb) σ G (IsB (c || d)) := fun G1 H1 e s Q q => h G1 H1 e s _ fun v G2 H2 t2 p => ⟨c, p, by
  cases c with
  | true => exact iteT (q _ G2 H2 t2 rfl)
  | false => exact iteF (g rfl G2 H2 (e.trans t2.up) t2.in_ Q fun v G3 H3 t3 p => q v G3 H3 (t2.trans t3) p)⟩
theorem ep_notV {c : Bool} (h : Ep ta σ G (IsB c)) : Ep (tNotV ta) σ G (IsB (!c)) := fun G1 H1 e s _ q => h G1 H1 e s _ fun v G2 H2 t2 p => ⟨c, p, q _ G2 H2 t2 rfl⟩
theorem ep_if {t : TT} {c : Bool} (h : Et t σ G c) (h1 : c = true → Ep ta σ G P) (h2 : c = false → Ep tb σ G P) : Ep (tIf t ta tb) σ G P := fun G1 H1 e s Q q => h G1 H1 e s _ fun G2 H2 t2 => by
  cases c with
  | true => exact iteT (h1 rfl G2 H2 (e.trans t2.up) t2.in_ Q fun v G3 H3 t3 p => q v G3 H3 (t2.trans t3) p)
  | false => exact iteF (h2 rfl G2 H2 (e.trans t2.up) t2.in_ Q fun v G3 H3 t3 p => q v G3 H3 (t2.trans t3) p)
/-- a < b < c, of ints -/
theorem ep_chain {c d : Bool} {f g : Int → Int → V} {i j k : Int} (ha : Ep ta σ G (IsI i)) (hb : Ep tb σ G (IsI j)) (hf : f i j = .bl c) (hc : c = true → Ep tc σ G (IsI k)) (hg : c = true → g j k = .bl d) : Ep (tChain (rI0 f) (rI0 g) ta tb tc) σ G (IsB (c && d)) :=
  fun G1 H1 e s Q q => ha G1 H1 e s _ fun v G2 H2 t2 p => hb G2 H2 (e.trans t2.up) t2.in_ _ fun w G3 H3 t3 p' => by
    have p : v = .int i := p
    have p' : w = .int j := p'
    subst p p'
    refine ⟨i, j, rfl, rfl, c, hf, ?_⟩
    cases c with
    | false => exact iteF (q _ G3 H3 (t2.trans t3) rfl)
    | true =>
      refine iteT (hc rfl G3 H3 ((e.trans t2.up).trans t3.up) t3.in_ _ fun u G4 H4 t4 p5 => ?_)
      have p5 : u = .int k := p5
      subst p5
      refine ⟨j, k, rfl, rfl, ?_⟩
      rw [hg rfl]
      exact q _ G4 H4 ((t2.trans t3).trans t4) rfl
/-! arguments -/
theorem ea_nil : Ea tNil σ G (fun vs _ => vs = []) := fun G1 H1 _ s _ q => q [] G1 H1 (To.refl s) rfl
theorem ea_cons {tr : TA} {L : LP} [Stays P] (h : Ep ta σ G P) (hr : Ea tr σ G L) : Ea (tCons ta tr) σ G (fun vs G' => ∃ v r, vs = v :: r ∧ P v G' ∧ L r G') := fun G1 H1 e s _ q =>
  h G1 H1 e s _ fun v G2 H2 t2 p => hr G2 H2 (e.trans t2.up) t2.in_ _ fun r G3 H3 t3 l => q (v :: r) G3 H3 (t2.trans t3) ⟨v, r, rfl, Bt.up t3.up p, l⟩
/-! displays -/
theorem ep_tup1 {t : TA} {L : LP} (h : Ea t σ G L) (hl : ∀ vs G', L vs G' → vs.length ≤ 1000) (hp : ∀ p vs G', L vs G' → G' p = none → P (.ref p) (upd G' p (.tup vs))) : Ep (tTup t) σ G P := fun G1 H1 e s Q q =>
  h G1 H1 e s _ fun vs G2 H2 t2 l => ⟨Nat.le_trans (hl vs G2 l) (by decide), fun p np => q _ _ _ (t2.trans (To.alloc t2.in_ np)) (hp p vs G2 l (t2.in_.free np))⟩
theorem ep_lst1 {t : TA} {L : LP} (h : Ea t σ G L) (hl : ∀ vs G', L vs G' → vs.length ≤ 1000) (hp : ∀ p vs G', L vs G' → G' p = none → P (.ref p) (upd G' p (.lst vs))) : Ep (tLst t) σ G P := fun G1 H1 e s Q q =>
  h G1 H1 e s _ fun vs G2 H2 t2 l => ⟨Nat.le_trans (hl vs G2 l) (by decide), fun p np => q _ _ _ (t2.trans (To.alloc t2.in_ np)) (hp p vs G2 l (t2.in_.free np))⟩
/-- (top, bottom): a fraction, where they are in lowest terms -/
theorem ep_frac {K : PySem.W.Frag} {q : Rat} (ha : Ep ta σ G (IsI q.num)) (hb : Ep tb σ G (IsI q.den)) : Ep (tTup (tCons ta (tCons tb tNil))) σ G (IsF K q) :=
  ep_tup1 (ea_cons ha (ea_cons hb ea_nil)) (fun vs H' ⟨_, _, h, _, _, _, h2, _, h3⟩ => by rw [h, h2, h3]; simp) fun p vs H' ⟨v, r, h, hv, w, r2, h2, hw, h3⟩ np => by
    have hv : v = _ := hv
    have hw : w = _ := hw
    rw [h, h2, h3, hv, hw]
    exact ⟨p, rfl, SqT.of upd_same⟩
theorem ep_nilL {α : Type} {F : α → VP} : Ep (tLst tNil) σ G (IsL F ([] : List α)) :=
  ep_lst1 ea_nil (fun vs H' h => by rw [h]; simp) fun p vs H' h np => by
    rw [h]
    exact ⟨p, [], rfl, upd_same, trivial⟩
end
/-! ### calls of our own defs that only make new things -/
abbrev sp1 {α : Type} (P1 : α → VP) (C : α → Prop) (B : α → VP) : Sp := fun vs H Q _ => ∃ G a x, vs = [x] ∧ Same G H ∧ P1 a x G ∧ C a ∧ ∀ v G' H', To G H G' H' → B a v G' → Q v H'
abbrev sp2 {α β : Type} (P1 : α → VP) (P2 : β → VP) (C : α → β → Prop) (B : α → β → VP) : Sp := fun vs H Q _ => ∃ G a b x y, vs = [x, y] ∧ Same G H ∧ (P1 a x G ∧ P2 b y G) ∧ C a b ∧ ∀ v G' H', To G H G' H' → B a b v G' → Q v H'
abbrev sp3 {α β γ : Type} (P1 : α → VP) (P2 : β → VP) (P3 : γ → VP) (C : α → β → γ → Prop) (B : α → β → γ → VP) : Sp := fun vs H Q _ => ∃ G a b c x y z, vs = [x, y, z] ∧ Same G H ∧ (P1 a x G ∧ P2 b y G ∧ P3 c z G) ∧ C a b c ∧ ∀ v G' H', To G H G' H' → B a b c v G' → Q v H'
abbrev sp4 {α β γ δ : Type} (P1 : α → VP) (P2 : β → VP) (P3 : γ → VP) (P4 : δ → VP) (C : α → β → γ → δ → Prop) (B : α → β → γ → δ → VP) : Sp := fun vs H Q _ => ∃ G a b c d x y z w, vs = [x, y, z, w] ∧ Same G H ∧ (P1 a x G ∧ P2 b y G ∧ P3 c z G ∧ P4 d w G) ∧ C a b c d ∧ ∀ v G' H', To G H G' H' → B a b c d v G' → Q v H'
section
variable {ta tb tc td te : TE} {σ : L2.St} {G G' : Hp} {α β γ δ : Type} {P1 : α → VP} {P2 : β → VP} {P3 : γ → VP} {P4 : δ → VP} {E : XK}
theorem ep_call1 {C : α → Prop} {B : α → VP} (a : α) (ha : Ep ta σ G (P1 a)) (hc : C a) : Ep (tCall (sp1 P1 C B) [] E (tCons ta tNil)) σ G (B a) := fun G1 H1 e s Q q =>
  ha G1 H1 e s _ fun x G2 H2 t2 px => ⟨G2, a, x, rfl, t2.in_, px, hc, fun v G3 H3 t3 p => q v G3 H3 (t2.trans t3) p⟩
theorem ep_call2 {C : α → β → Prop} {B : α → β → VP} [∀ a, Stays (P1 a)] (a : α) (b : β) (ha : Ep ta σ G (P1 a)) (hb : Ep tb σ G (P2 b)) (hc : C a b) : Ep (tCall (sp2 P1 P2 C B) [] E (tCons ta (tCons tb tNil))) σ G (B a b) := fun G1 H1 e s Q q =>
  ha G1 H1 e s _ fun x G2 H2 t2 px => hb G2 H2 (e.trans t2.up) t2.in_ _ fun y G3 H3 t3 py => ⟨G3, a, b, x, y, rfl, t3.in_, ⟨up t3.up px, py⟩, hc, fun v G4 H4 t4 p => q v G4 H4 ((t2.trans t3).trans t4) p⟩
theorem ep_call3 {C : α → β → γ → Prop} {B : α → β → γ → VP} [∀ a, Stays (P1 a)] [∀ b, Stays (P2 b)] (a : α) (b : β) (c : γ) (ha : Ep ta σ G (P1 a)) (hb : Ep tb σ G (P2 b)) (hc' : Ep tc σ G (P3 c)) (hc : C a b c) : Ep (tCall (sp3 P1 P2 P3 C B) [] E (tCons ta (tCons tb (tCons tc tNil)))) σ G (B a b c) := fun G1 H1 e s Q q =>
  ha G1 H1 e s _ fun x G2 H2 t2 px => hb G2 H2 (e.trans t2.up) t2.in_ _ fun y G3 H3 t3 py => hc' G3 H3 ((e.trans t2.up).trans t3.up) t3.in_ _ fun z G4 H4 t4 pz =>
    ⟨G4, a, b, c, x, y, z, rfl, t4.in_, ⟨up (t3.up.trans t4.up) px, up t4.up py, pz⟩, hc, fun v G5 H5 t5 p => q v G5 H5 (((t2.trans t3).trans t4).trans t5) p⟩
theorem ep_call4 {C : α → β → γ → δ → Prop} {B : α → β → γ → δ → VP} [∀ a, Stays (P1 a)] [∀ b, Stays (P2 b)] [∀ c, Stays (P3 c)] (a : α) (b : β) (c : γ) (d : δ) (ha : Ep ta σ G (P1 a)) (hb : Ep tb σ G (P2 b)) (hc' : Ep tc σ G (P3 c)) (hd : Ep td σ G (P4 d)) (hc : C a b c d) :
    Ep (tCall (sp4 P1 P2 P3 P4 C B) [] E (tCons ta (tCons tb (tCons tc (tCons td tNil))))) σ G (B a b c d) := fun G1 H1 e s Q q =>
  ha G1 H1 e s _ fun x G2 H2 t2 px => hb G2 H2 (e.trans t2.up) t2.in_ _ fun y G3 H3 t3 py => hc' G3 H3 ((e.trans t2.up).trans t3.up) t3.in_ _ fun z G4 H4 t4 pz => hd G4 H4 (((e.trans t2.up).trans t3.up).trans t4.up) t4.in_ _ fun w G5 H5 t5 pw =>
    ⟨G5, a, b, c, d, x, y, z, w, rfl, t5.in_, ⟨up ((t3.up.trans t4.up).trans t5.up) px, up (t4.up.trans t5.up) py, up t5.up pz, pw⟩, hc, fun v G6 H6 t6 p => q v G6 H6 ((((t2.trans t3).trans t4).trans t5).trans t6) p⟩
/-! built-in calls -/
theorem ep_cb1 {r : List V → Hp → VK → Prop} {P R : VP} (ha : Ep ta σ G P) (hr : ∀ x G1 H1 (Q : VK), Same G G1 → Same G1 H1 → P x G1 → (∀ v G2 H2, To G1 H1 G2 H2 → R v G2 → Q v H2) → r [x] H1 Q) : Ep (tCB r (tCons ta tNil)) σ G R := fun G1 H1 e s Q q =>
  ha G1 H1 e s _ fun x G2 H2 t2 px => hr x G2 H2 Q (e.trans t2.up) t2.in_ px fun v G3 H3 t3 p => q v G3 H3 (t2.trans t3) p
theorem ep_cb2 {r : List V → Hp → VK → Prop} {P P' R : VP} [Stays P] (ha : Ep ta σ G P) (hb : Ep tb σ G P') (hr : ∀ x y G1 H1 (Q : VK), Same G G1 → Same G1 H1 → P x G1 → P' y G1 → (∀ v G2 H2, To G1 H1 G2 H2 → R v G2 → Q v H2) → r [x, y] H1 Q) : Ep (tCB r (tCons ta (tCons tb tNil))) σ G R := fun G1 H1 e s Q q =>
  ha G1 H1 e s _ fun x G2 H2 t2 px => hb G2 H2 (e.trans t2.up) t2.in_ _ fun y G3 H3 t3 py => hr x y G3 H3 Q ((e.trans t2.up).trans t3.up) t3.in_ (up t3.up px) py fun v G4 H4 t4 p => q v G4 H4 ((t2.trans t3).trans t4) p
end
/-! ### statements: R what is handed back, N where it falls through -/
abbrev NP := L2.St → Hp → Prop
def Es (ts : TS) (σ : L2.St) (G : Hp) (R : VP) (N : NP) : Prop := ∀ G1 H1 (D : Ends), Same G G1 → Same G1 H1 → (∀ v G2 H2, To G1 H1 G2 H2 → R v G2 → D.rt v H2) → (∀ σ2 G2 H2, To G1 H1 G2 H2 → N σ2 G2 → D.nx σ2 H2) → ts D σ H1
def NoN : NP := fun _ _ => False
section
variable {te ta tb : TE} {σ : L2.St} {G : Hp} {P R : VP} {N N1 : NP} {t u w : TS}
theorem Es.up {G' : Hp} (e : Same G G') (h : Es t σ G R N) : Es t σ G' R N := fun G1 H1 D g s => h G1 H1 D (e.trans g) s
theorem es_ret (h : Ep te σ G R) : Es (tRet te) σ G R N := fun G1 H1 D g s r _ => h G1 H1 g s _ r
theorem es_next (h : ∀ G1, Same G G1 → N σ G1) : Es tNext σ G R N := fun G1 H1 D g s _ n => n σ G1 H1 (To.refl s) (h G1 g)
theorem es_asg {i : Nat} (h : Ep te σ G P) (k : ∀ v G2, Same G G2 → P v G2 → N (σ.set i (some v)) G2) : Es (tAsg te (gName i)) σ G R N := fun G1 H1 D g s _ n => h G1 H1 g s _ fun v G2 H2 t2 p => n _ G2 H2 t2 (k v G2 (g.trans t2.up) p)
theorem es_seq (h : Es t σ G R N1) (k : ∀ σ2 G2, Same G G2 → N1 σ2 G2 → Es u σ2 G2 R N) : Es (tSeq t u) σ G R N := fun G1 H1 D g s r n => h G1 H1 { D with nx := u D } g s r fun σ2 G2 H2 t2 p =>
  k σ2 G2 (g.trans t2.up) p G2 H2 D (Same.refl G2) t2.in_ (fun v G3 H3 t3 => r v G3 H3 (t2.trans t3)) fun σ3 G3 H3 t3 => n σ3 G3 H3 (t2.trans t3)
theorem sq_asg {i : Nat} (h : Ep te σ G P) (k : ∀ v G2, Same G G2 → P v G2 → Es u (σ.set i (some v)) G2 R N) : Es (tSeq (tAsg te (gName i)) u) σ G R N :=
  es_seq (N1 := fun σ2 G2 => ∃ v G1, Same G G1 ∧ Same G1 G2 ∧ P v G1 ∧ σ2 = σ.set i (some v)) (es_asg h fun v G2 e p => ⟨v, G2, e, Same.refl G2, p, rfl⟩) fun σ2 G2 _ ⟨v, G1, e1, e2, p, e⟩ => by
    rw [e]
    exact (k v G1 e1 p).up e2
theorem es_if {c : TT} {b : Bool} (h : Et c σ G b) (h1 : b = true → Es t σ G R N) (h2 : b = false → Es u σ G R N) : Es (tIfS c t u) σ G R N := fun G1 H1 D g s r n => h G1 H1 g s _ fun G2 H2 t2 => by
  cases b with
  | true => exact iteT (h1 rfl G2 H2 D (g.trans t2.up) t2.in_ (fun v G3 H3 t3 => r v G3 H3 (t2.trans t3)) fun σ3 G3 H3 t3 => n σ3 G3 H3 (t2.trans t3))
  | false => exact iteF (h2 rfl G2 H2 D (g.trans t2.up) t2.in_ (fun v G3 H3 t3 => r v G3 H3 (t2.trans t3)) fun σ3 G3 H3 t3 => n σ3 G3 H3 (t2.trans t3))
/-- if c: t (handed back, or on with the rest) -/
theorem sq_if {c : TT} {b : Bool} (h : Et c σ G b) (h1 : b = true → Es (tSeq t u) σ G R N) (h2 : b = false → Es (tSeq w u) σ G R N) : Es (tSeq (tIfS c t w) u) σ G R N := fun G1 H1 D g s r n => h G1 H1 g s _ fun G2 H2 t2 => by
  cases b with
  | true => exact iteT (h1 rfl G2 H2 D (g.trans t2.up) t2.in_ (fun v G3 H3 t3 => r v G3 H3 (t2.trans t3)) fun σ3 G3 H3 t3 => n σ3 G3 H3 (t2.trans t3))
  | false => exact iteF (h2 rfl G2 H2 D (g.trans t2.up) t2.in_ (fun v G3 H3 t3 => r v G3 H3 (t2.trans t3)) fun σ3 G3 H3 t3 => n σ3 G3 H3 (t2.trans t3))
theorem sq_next (h : Es u σ G R N) : Es (tSeq tNext u) σ G R N := h
theorem sq_retd (h : Es t σ G R NoN) : Es (tSeq t u) σ G R N := es_seq h fun _ _ _ z => z.elim
theorem sq_drop (h : Ep te σ G P) (k : Es u σ G R N) : Es (tSeq (tDrop te) u) σ G R N := fun G1 H1 D g s r n => h G1 H1 g s _ fun v G2 H2 t2 p => k G2 H2 D (g.trans t2.up) t2.in_ (fun v G3 H3 t3 => r v G3 H3 (t2.trans t3)) fun σ3 G3 H3 t3 => n σ3 G3 H3 (t2.trans t3)
theorem es_drop (h : Ep te σ G P) (k : ∀ G1, Same G G1 → N σ G1) : Es (tDrop te) σ G R N := fun G1 H1 D g s r n => h G1 H1 g s _ fun v G2 H2 t2 p => n σ G2 H2 t2 (k G2 (g.trans t2.up))
theorem sq_skip {c : TT} (h : Et c σ G false) (h2 : Es u σ G R N) : Es (tSeq (tIfS c t tNext) u) σ G R N := sq_if h (fun z => nomatch z) fun _ => h2
theorem sq_par {i j : Nat} {P1 P2 : VP} [Stays P1] (ha : Ep ta σ G P1) (hb : Ep tb σ G P2) (k : ∀ v w G2, Same G G2 → P1 v G2 → P2 w G2 → Es u ((σ.set i (some v)).set j (some w)) G2 R N) : Es (tSeq (tPar i j (tCons ta (tCons tb tNil))) u) σ G R N := fun G1 H1 D g s r n =>
  ha G1 H1 g s _ fun v G2 H2 t2 p1 => hb G2 H2 (g.trans t2.up) t2.in_ _ fun w G3 H3 t3 p2 => ⟨v, w, rfl, k v w G3 ((g.trans t2.up).trans t3.up) (up t3.up p1) p2 G3 H3 D (Same.refl _) t3.in_
    (fun v G4 H4 t4 => r v G4 H4 ((t2.trans t3).trans t4)) fun σ4 G4 H4 t4 => n σ4 G4 H4 ((t2.trans t3).trans t4)⟩
theorem es_par {i j : Nat} {P1 P2 : VP} [Stays P1] (ha : Ep ta σ G P1) (hb : Ep tb σ G P2) (k : ∀ v w G2, Same G G2 → P1 v G2 → P2 w G2 → N ((σ.set i (some v)).set j (some w)) G2) : Es (tPar i j (tCons ta (tCons tb tNil))) σ G R N := fun G1 H1 D g s r n =>
  ha G1 H1 g s _ fun v G2 H2 t2 p1 => hb G2 H2 (g.trans t2.up) t2.in_ _ fun w G3 H3 t3 p2 => ⟨v, w, rfl, n _ G3 H3 (t2.trans t3) (k v w G3 ((g.trans t2.up).trans t3.up) (up t3.up p1) p2)⟩
/-- while: a measure, an invariant -/
theorem es_while {c : TT} (W : Nat → NP) {m : Nat} (h0 : W m σ G) (hW : ∀ m σ G G', Same G G' → W m σ G → W m σ G') (turn : ∀ m σ1 G1, W m σ1 G1 → ∃ b, Et c σ1 G1 b ∧ (b = true → Es t σ1 G1 R fun σ2 G2 => ∃ m', m' < m ∧ W m' σ2 G2) ∧ (b = false → ∀ G2, Same G1 G2 → N σ1 G2)) : Es (tWhile c t) σ G R N := fun G1 H1 D g s r n => by
  refine ⟨fun m σ H => ∃ G', To G1 H1 G' H ∧ W m σ G', ⟨m, G1, To.refl s, hW m σ G G1 g h0⟩, fun m σ H ⟨G', t', w'⟩ => ?_⟩
  obtain ⟨b, hc, hT, hF⟩ := turn m σ G' w'
  refine hc G' H (Same.refl _) t'.in_ _ fun G2 H2 t2 => ?_
  cases b with
  | false => exact iteF (n σ G2 H2 (t'.trans t2) (hF rfl G2 t2.up))
  | true =>
    refine iteT ⟨fun σ' H' => ∃ m', m' < m ∧ ∃ G'', To G1 H1 G'' H' ∧ W m' σ' G'', fun σ' H' ⟨m', hm, z⟩ => ⟨m', hm, z⟩, ?_⟩
    exact hT rfl G2 H2 _ t2.up t2.in_ (fun v G3 H3 t3 => r v G3 H3 ((t'.trans t2).trans t3)) fun σ3 G3 H3 t3 ⟨m', hm, w3⟩ => ⟨m', hm, G3, (t'.trans t2).trans t3, w3⟩
/-! ### what is walked -/
def Wk {α : Type} (J : L2.It) (G : Hp) (F : α → VP) (xs : List α) : Prop := ∀ G' H', Same G G' → Same G' H' → J.stop xs.length H' ∧ ∀ i x, xs[i]? = some x → J.go i H' ∧ ∀ v H'', J.yld i H' v H'' → ∃ G'', To G' H' G'' H'' ∧ F x v G''
def Wi {α : Type} (wi : TI) (σ : L2.St) (G : Hp) (F : α → VP) (xs : List α) : Prop := ∀ G1 H1, Same G G1 → Same G1 H1 → ∀ R : L2.It → Hp → Prop, (∀ J G2 H2, To G1 H1 G2 H2 → Wk J G2 F xs → R J H2) → wi σ H1 R
/-- a target takes a value -/
def Gb (g : TG) (v : V) (σ : L2.St) (G : Hp) (σ2 : L2.St) : Prop := ∀ H1, Same G H1 → ∀ Q : NP, Q σ2 H1 → g v σ H1 Q
theorem gb_name {i : Nat} {v : V} : Gb (gName i) v σ G (σ.set i (some v)) := fun H1 _ Q q => q
theorem gb_pair {K : PySem.W.Frag} {i j : Nat} {p : Addr} {v w : V} (h : SqT K G p [v, w]) : Gb (gTup K 2 (gCons (gName i) (gCons (gName j) gNil))) (.ref p) σ G ((σ.set i (some v)).set j (some w)) := fun H1 s Q q =>
  ⟨p, _, rfl, Same.tup s h, rfl, v, _, rfl, w, _, rfl, rfl, q⟩
theorem es_for {α : Type} {wi : TI} {g : TG} {F : α → VP} {xs : List α} (hi : Wi wi σ G F xs) (I : Nat → NP) (h0 : I 0 σ G) (hI : ∀ i σ G G', Same G G' → I i σ G → I i σ G')
    (step : ∀ i x v σ1 G1, xs[i]? = some x → Same G G1 → I i σ1 G1 → F x v G1 → ∃ σ2, Gb g v σ1 G1 σ2 ∧ Es t σ2 G1 R (I (i + 1))) (fin : ∀ σ1 G1, Same G G1 → I xs.length σ1 G1 → N σ1 G1) : Es (tFor wi g t) σ G R N := fun G1 H1 D e s r n => by
  refine hi G1 H1 e s _ fun J G2 H2 t2 wk => ?_
  refine ⟨fun i m σ H => i ≤ xs.length ∧ m = xs.length - i ∧ ∃ G', Same G2 G' ∧ To G1 H1 G' H ∧ I i σ G', ⟨_, Nat.zero_le _, rfl, G2, Same.refl _, t2, hI 0 σ G G2 (e.trans t2.up) h0⟩, fun i m σ H ⟨hi, hm, G', s2, t', iv⟩ => ?_⟩
  obtain ⟨hs, hg⟩ := wk G' H s2 t'.in_
  rcases Nat.lt_or_ge i xs.length with hl | hl
  · obtain ⟨go, hy⟩ := hg i xs[i] (List.getElem?_eq_getElem hl)
    refine .inr ⟨go, fun σ' H' => ∃ G'', Same G2 G'' ∧ To G1 H1 G'' H' ∧ I (i + 1) σ' G'', fun σ' H' ⟨G'', a, b, c⟩ => ⟨xs.length - (i + 1), by omega, hl, rfl, G'', a, b, c⟩, fun v H'' y => ?_⟩
    obtain ⟨G'', t3, f⟩ := hy v H'' y
    obtain ⟨σ2, gb, es⟩ := step i xs[i] v σ G'' (List.getElem?_eq_getElem hl) ((e.trans t'.up).trans t3.up) (hI _ _ _ _ t3.up iv) f
    refine gb H'' t3.in_ _ (es G'' H'' _ (Same.refl _) t3.in_ (fun v G4 H4 t4 => r v G4 H4 ((t'.trans t3).trans t4)) fun σ4 G4 H4 t4 z => ⟨G4, (s2.trans t3.up).trans t4.up, (t'.trans t3).trans t4, z⟩)
  · have : i = xs.length := Nat.le_antisymm hi hl
    subst this
    exact .inl ⟨hs, n σ G' H t' (fin σ G' (e.trans t'.up) iv)⟩
end
/-! ### the walkers -/
section
variable {te ta tb : TE} {σ : L2.St} {G : Hp} {K : PySem.W.Frag} {α β : Type} {F : α → VP} {F2 : β → VP} {xs : List α} {ys : List β}
theorem sqL_lst {a : Addr} {vs ws : List V} (h : G a = some (.lst vs)) (k : SqL K G a ws) (nK : K.lookup a = none) : ws = vs := by
  rcases k with (k | ⟨o, k⟩) | ⟨o, its, n, k, _⟩
  · rw [h] at k
    cases k
    rfl
  · rw [h] at k
    cases k
  · rw [nK] at k
    cases k
end
end Bt
/-! ==== W1 ==== -/
set_option Elab.async false
set_option linter.all false
set_option maxRecDepth 100000
set_option maxHeartbeats 2000000
/-! zip and enumerate over lists and tuples in any mix. -/
namespace Bt
open PySem PySem.Spec PyProof.Rows L2
/-- a list (true) or a tuple (false) -/
def SqX (k : Bool) (K : PySem.W.Frag) (H : Hp) (a : Addr) (xs : List V) : Prop := if k = true then SqL K H a xs else SqT K H a xs
def ItX (k : Bool) (h : Heap) (it a : Addr) (i : Nat) : Prop := if k = true then h.IsListIter it a i else h.IsTupleIter it a i
def SeqX (k : Bool) (h : Heap) (a : Addr) (its : Array Value) : Prop := if k = true then h.IsList a its else h.IsTuple a its
section
variable {X : Cx} {pins : List (Addr × Obj)} {σ : L2.St} {H : Hp} {s : Shared} {k : Bool} {a it : Addr} {xs ys : List V} {i : Nat}
theorem seqX_of (I : Inv X pins σ H s) (h : SqX k X.K H a xs) : ∃ its : List Value, Vals xs its ∧ SeqX k s.heap a its.toArray := by
  cases k with
  | true =>
    obtain ⟨its, r, p, _⟩ := I.list (show SqL X.K H a xs from h)
    exact ⟨its, r, p.isList⟩
  | false =>
    obtain ⟨its, r, p, _⟩ := I.tuple (show SqT X.K H a xs from h)
    exact ⟨its, r, p⟩
theorem sqX_inj (I : Inv X pins σ H s) (h : SqX k X.K H a xs) (h' : SqX k X.K H a ys) : xs = ys := by
  cases k with
  | true => exact I.list_inj h h'
  | false => exact I.tuple_inj h h'
theorem SeqX.lt {h : Heap} {its : Array Value} (x : SeqX k h a its) : a < h.objs.size := by
  cases k with
  | true =>
    have x : h.IsList a its := x
    obtain ⟨o, e, _⟩ := x
    exact Heap.lt_size e
  | false =>
    have x : h.IsTuple a its := x
    obtain ⟨o, e, _⟩ := x
    exact Heap.lt_size e
theorem itX_obj {h : Heap} (st : ItX k h it a i) : ∃ o, h.get? it = some o ∧ ∀ v, o.data ≠ .cell v := by
  cases k with
  | true =>
    obtain ⟨o, e, c, d⟩ := (show h.IsListIter it a i from st)
    exact ⟨o, e, fun v z => by rw [d] at z; cases z⟩
  | false =>
    obtain ⟨o, e, c, d⟩ := (show h.IsTupleIter it a i from st)
    exact ⟨o, e, fun v z => by rw [d] at z; cases z⟩
theorem itX_at {h h' : Heap} (st : ItX k h it a i) (f : ∀ o, h.get? it = some o → h'.get? it = some o) : ItX k h' it a i := by
  cases k with
  | true => exact (show h.IsListIter it a i from st).at f
  | false => exact (show h.IsTupleIter it a i from st).at f
theorem drawsX {prog : Program} {w : World} {A : Around} (hh : A.handled = none) (hne : a ≠ it) (its : Array Value) : Draws prog w A it [it, a] its.size (fun i v => its[i]? = some v) (fun i h => ItX k h it a i ∧ SeqX k h a its) := by
  cases k with
  | true => exact Draws.list hh it a hne its
  | false => exact Draws.tuple hh it a hne its
def itO (k : Bool) (a : Addr) : Obj := if k = true then { cls := .type "list_iterator", data := .fields #[.ref a, .int 0 0] } else { cls := .type "tuple_iterator", data := .fields #[.ref a, .int 0 0] }
theorem beginsX (its : Array Value) : Begins (.ref a) (itO k a) fun h => SeqX k h a its := by
  cases k with
  | true => exact begins_list a its
  | false => exact begins_tuple a its
theorem itX_new {h : Heap} (e : h.get? it = some (itO k a)) : ItX k h it a 0 := by
  cases k with
  | true => exact ⟨_, e, rfl, rfl⟩
  | false => exact ⟨_, e, rfl, rfl⟩
end
/-! ### zip -/
def ItzX (K : PySem.W.Frag) (k1 k2 : Bool) (a b : Addr) : It :=
  ⟨fun i H => ∃ (xs ys : List V) (x y : V), SqX k1 K H a xs ∧ SqX k2 K H b ys ∧ xs[i]? = some x ∧ ys[i]? = some y,
   fun i H v H' => ∃ T x y, v = .ref T ∧ H T = none ∧ H' = upd H T (.tup [x, y]) ∧ (∀ xs, SqX k1 K H a xs → xs[i]? = some x) ∧ ∀ ys, SqX k2 K H b ys → ys[i]? = some y,
   fun i H => ∃ xs ys : List V, SqX k1 K H a xs ∧ SqX k2 K H b ys ∧ i = min xs.length ys.length⟩
theorem turn_zipX {P : Program} {w : World} {K : PySem.W.Frag} {elts : List Expr} {kk : Nat} {tpos : Pos} {k1 k2 : Bool} {a b z TI TO i1 i2 : Addr} (S : ZipSep2 z TI TO i1 i2 [i1, a] [i2, b]) :
    Turn P w K (.Tuple elts kk tpos) (ItzX K k1 k2 a b) [z, TI, TO, i1, i2] z (fun i h => IsZip h z TI TO .none ∧ IsTupOf2 h TI (.ref i1) (.ref i2) ∧ (∃ x y, IsTupOf2 h TO x y) ∧ ItX k1 h i1 a i ∧ ItX k2 h i2 b i) where
  mem := List.mem_cons_self
  obj := fun i h st c hc => by
    obtain ⟨s1, s2, ⟨x, y, s3⟩, s4, s5⟩ := st
    simp only [List.mem_cons, List.not_mem_nil, or_false] at hc
    rcases hc with q | q | q | q | q <;> subst q
    · exact ⟨_, s1, fun v q => nomatch q⟩
    · exact ⟨_, s2, fun v q => nomatch q⟩
    · exact ⟨_, s3, fun v q => nomatch q⟩
    · exact itX_obj s4
    · exact itX_obj s5
  keep := fun i h h' st f => by
    obtain ⟨s1, s2, ⟨x, y, s3⟩, s4, s5⟩ := st
    exact ⟨f z (by simp) _ s1, f TI (by simp) _ s2, ⟨x, y, f TO (by simp) _ s3⟩, itX_at s4 fun o => f i1 (by simp) o, itX_at s5 fun o => f i2 (by simp) o⟩
  item := by
    intro X e1 e2 e3 hc i pins s σ H E I hf st hg
    subst e1 e2 e3
    obtain ⟨s1, s2, s3, s4, s5⟩ := st
    obtain ⟨xs, ys, x, y, qx, qy, hx, hy⟩ := hg
    obtain ⟨ix, rx, px⟩ := seqX_of I qx
    obtain ⟨iy, ry, py⟩ := seqX_of I qy
    have hh : X.A.in1.handled = none := I.ok.hd hc
    have na : a ≠ i1 := fun q => S.sep1_2 (by
      exfalso
      have hl := px.lt
      have := (hf i1 (by simp)).1
      rw [← q] at this
      cases k1 with
      | true =>
        rcases (show SqL X.K H a xs from qx) with (h | ⟨_, h⟩) | ⟨o, _, _, h, _⟩
        · rw [this] at h; cases h
        · rw [this] at h; cases h
        · have h2 := I.kIn a o h
          obtain ⟨o4, e4, c4, _⟩ := (show s.heap.IsListIter i1 a i from s4)
          rw [← q, h2] at e4
          cases e4
          simp_all
      | false =>
        rcases (show SqT X.K H a xs from qx) with (h | ⟨_, h⟩) | ⟨o, _, _, h, _⟩
        · rw [this] at h; cases h
        · rw [this] at h; cases h
        · have h2 := I.kIn a o h
          obtain ⟨o4, e4, c4, _⟩ := (show s.heap.IsTupleIter i1 a i from s4)
          rw [← q, h2] at e4
          cases e4
          simp_all)
    have nb : b ≠ i2 := fun q => S.sep2_1 (by
      exfalso
      have := (hf i2 (by simp)).1
      rw [← q] at this
      cases k2 with
      | true =>
        rcases (show SqL X.K H b ys from qy) with (h | ⟨_, h⟩) | ⟨o, _, _, h, _⟩
        · rw [this] at h; cases h
        · rw [this] at h; cases h
        · have h2 := I.kIn b o h
          obtain ⟨o4, e4, c4, _⟩ := (show s.heap.IsListIter i2 b i from s5)
          rw [← q, h2] at e4
          cases e4
          simp_all
      | false =>
        rcases (show SqT X.K H b ys from qy) with (h | ⟨_, h⟩) | ⟨o, _, _, h, _⟩
        · rw [this] at h; cases h
        · rw [this] at h; cases h
        · have h2 := I.kIn b o h
          obtain ⟨o4, e4, c4, _⟩ := (show s.heap.IsTupleIter i2 b i from s5)
          rw [← q, h2] at e4
          cases e4
          simp_all)
    have W := GoesN.zip2 (prog := X.prog) (w := X.w) (A := X.A) (elts := elts) (x1 := kk) (pos := tpos) S (drawsX (k := k1) hh na ix.toArray) (drawsX (k := k2) hh nb iy.toArray)
    have hlt : i < min ix.toArray.size iy.toArray.size := by
      have l1 := rx.length
      have l2 := ry.length
      have l3 : i < xs.length := (List.getElem?_eq_some_iff.mp hx).1
      have l4 : i < ys.length := (List.getElem?_eq_some_iff.mp hy).1
      simp only [List.size_toArray]
      omega
    refine W.goes i s (fun u s2 => ∃ x H', Inv X pins σ H' s2 ∧ RelV x u ∧ (ItzX X.K k1 k2 a b).yld i H x H' ∧ (IsZip s2.heap z TI TO .none ∧ IsTupOf2 s2.heap TI (.ref i1) (.ref i2) ∧ (∃ x y, IsTupOf2 s2.heap TO x y) ∧ ItX k1 s2.heap i1 a (i + 1) ∧ ItX k2 s2.heap i2 b (i + 1)) ∧ ∀ b ∈ [z, TI, TO, i1, i2], H' b = none) E hlt ⟨s1, s2, s3, ⟨s4, px⟩, s5, py⟩ fun v h' tk hY st' hk htk => ?_
    obtain ⟨T, u1, u2, ev, hT, hu1, hu2, oT⟩ := hY
    subst ev
    obtain ⟨t1, t2, t3, ⟨t4, _⟩, t5, _⟩ := st'
    obtain ⟨x', hx', r1⟩ : ∃ x', xs[i]? = some x' ∧ RelV x' u1 := by
      obtain ⟨u, e, r⟩ := rx.get hx
      have e2 : ix[i]? = some u1 := by simpa using hu1
      rw [e] at e2
      cases e2
      exact ⟨x, hx, r⟩
    obtain ⟨y', hy', r2⟩ : ∃ y', ys[i]? = some y' ∧ RelV y' u2 := by
      obtain ⟨u, e, r⟩ := ry.get hy
      have e2 : iy[i]? = some u2 := by simpa using hu2
      rw [e] at e2
      cases e2
      exact ⟨y, hy, r⟩
    have new : ObjOk X.prog X.w (upd H T (.tup [x', y'])) h' T (.tup [x', y']) := ⟨by show 2 ≤ sizeLine; decide, [u1, u2], .cons r1 (.cons r2 .nil), oT⟩
    have I1 : Inv X pins σ (upd H T (.tup [x', y'])) { s with heap := h', toks := tk } := I.turnedNew (ch := [z, TI, TO, i1, i2]) (fun c o hc q => hk c o (fun hm => hc (by
      simp only [List.mem_cons, List.not_mem_nil, or_false] at hm ⊢
      rcases hm with q | q | q | q <;> simp [q])) q) hf hT new
    refine ⟨.ref T, _, I1, rfl, ⟨T, x', y', rfl, I.hok.fresh hT, rfl, fun l hl => by rw [sqX_inj I hl qx]; exact hx', fun l hl => by rw [sqX_inj I hl qy]; exact hy'⟩, ⟨t1, t2, t3, t4, t5⟩, fun c hcm => ?_⟩
    have hlt2 : c < s.heap.objs.size := by
      simp only [List.mem_cons, List.not_mem_nil, or_false] at hcm
      rcases hcm with q | q | q | q | q <;> subst q
      · exact Heap.lt_size s1
      · exact Heap.lt_size s2
      · obtain ⟨_, _, q⟩ := s3
        exact Heap.lt_size q
      · obtain ⟨_, q, _⟩ := itX_obj s4
        exact Heap.lt_size q
      · obtain ⟨_, q, _⟩ := itX_obj s5
        exact Heap.lt_size q
    rw [upd_ne (Nat.ne_of_lt (Nat.lt_of_lt_of_le hlt2 hT))]
    exact (hf c hcm).1
  done := by
    intro X e1 e2 e3 hc i pins s σ H E I hf st hg
    subst e1 e2 e3
    obtain ⟨s1, s2, s3, s4, s5⟩ := st
    obtain ⟨xs, ys, qx, qy, hi⟩ := hg
    obtain ⟨ix, rx, px⟩ := seqX_of I qx
    obtain ⟨iy, ry, py⟩ := seqX_of I qy
    have hh : X.A.in1.handled = none := I.ok.hd hc
    have na : a ≠ i1 := by
      have := S.sep1_2
      have h5 := S.TIi1
      intro q
      have hn := (hf i1 (by simp)).1
      rw [← q] at hn
      cases k1 with
      | true =>
        rcases (show SqL X.K H a xs from qx) with (h | ⟨_, h⟩) | ⟨o, _, _, h, _⟩
        · rw [hn] at h; cases h
        · rw [hn] at h; cases h
        · have h2 := I.kIn a o h
          obtain ⟨o4, e4, c4, _⟩ := (show s.heap.IsListIter i1 a i from s4)
          rw [← q, h2] at e4
          cases e4
          simp_all
      | false =>
        rcases (show SqT X.K H a xs from qx) with (h | ⟨_, h⟩) | ⟨o, _, _, h, _⟩
        · rw [hn] at h; cases h
        · rw [hn] at h; cases h
        · have h2 := I.kIn a o h
          obtain ⟨o4, e4, c4, _⟩ := (show s.heap.IsTupleIter i1 a i from s4)
          rw [← q, h2] at e4
          cases e4
          simp_all
    have nb : b ≠ i2 := by
      intro q
      have hn := (hf i2 (by simp)).1
      rw [← q] at hn
      cases k2 with
      | true =>
        rcases (show SqL X.K H b ys from qy) with (h | ⟨_, h⟩) | ⟨o, _, _, h, _⟩
        · rw [hn] at h; cases h
        · rw [hn] at h; cases h
        · have h2 := I.kIn b o h
          obtain ⟨o4, e4, c4, _⟩ := (show s.heap.IsListIter i2 b i from s5)
          rw [← q, h2] at e4
          cases e4
          simp_all
      | false =>
        rcases (show SqT X.K H b ys from qy) with (h | ⟨_, h⟩) | ⟨o, _, _, h, _⟩
        · rw [hn] at h; cases h
        · rw [hn] at h; cases h
        · have h2 := I.kIn b o h
          obtain ⟨o4, e4, c4, _⟩ := (show s.heap.IsTupleIter i2 b i from s5)
          rw [← q, h2] at e4
          cases e4
          simp_all
    have W := GoesN.zip2 (prog := X.prog) (w := X.w) (A := X.A) (elts := elts) (x1 := kk) (pos := tpos) S (drawsX (k := k1) hh na ix.toArray) (drawsX (k := k2) hh nb iy.toArray)
    have hn : i = min ix.toArray.size iy.toArray.size := by
      have l1 := rx.length
      have l2 := ry.length
      simp only [List.size_toArray]
      omega
    rw [hn] at s4 s5
    refine wpAny_mono (W.stops s (fun s1 => Inv X pins σ H s1) E ⟨s1, s2, s3, ⟨s4, px⟩, s5, py⟩ fun h' tk hk htk => ?_) (fun r s' q => q) fun _ _ q => q
    exact I.turnedL (ch := [z, TI, TO, i1, i2]) (fun c o hc q => hk c o (fun hm => hc (by
      simp only [List.mem_cons, List.not_mem_nil, or_false] at hm ⊢
      rcases hm with q | q | q | q <;> simp [q])) q) hf
  self := fun A i s Q E st h => wpAny_pyIter_zip st.1 h
def iZipX (K : PySem.W.Frag) (ta : TA) : TI := fun σ H R => ta σ H fun vs H1 => ∃ a b xs ys k1 k2, vs = [.ref a, .ref b] ∧ SqX k1 K H1 a xs ∧ SqX k2 K H1 b ys ∧ R (ItzX K k1 k2 a b) H1
theorem pi_zipX {X : Cx} {e e2 : Expr} {ta : TA} {p pos tpos : Pos} {elts : List Expr} {kk : Nat} (hg : Gl X "zip") (hm : X.mg "zip" = none) (ha : PA X [e, e2] ta)
    (hs : starEach [e, e2] X.env = (false, eval e X.env) :: starEach [e2] X.env := by rfl) (hpl : (backTo pos (starEach [e2] X.env)).any (·.1) = false := by rfl) :
    PI X (.Tuple elts kk tpos) (.Call (.Name "zip" p) [e, e2] [] pos) (iZipX X.K ta) := by
  refine ⟨fun pins s σ H R I0 h => ?_⟩
  refine Call_ (ld_blt I0 hg hm PyProof.Rows.boot_zip (PyProof.Rows.callWith_type1 (thn (ha.run pos pins s σ H _ I0 h) fun us s1 ⟨vs, H1, I1, r1, q1⟩ => ?_) hs hpl))
  obtain ⟨a, b, xs, ys, k1, k2, ev, qx, qy, q⟩ := q1
  subst ev
  obtain ⟨u1, u2, rfl, ra, rb⟩ := vals2 r1
  have ra : u1 = Value.ref a := ra
  have rb : u2 = Value.ref b := rb
  subst ra rb
  obtain ⟨ix, rx, px⟩ := seqX_of I1 qx
  obtain ⟨iy, ry, py⟩ := seqX_of I1 qy
  refine zip_begins2 (beginsX (k := k1) ix.toArray) (beginsX (k := k2) iy.toArray) px py fun h' z1 z2 z3 z4 z5 z6 hk => wpAny_pyIter_zip z1 ?_
  have I2 : Inv X pins σ H1 { s1 with heap := h' } := I1.kept (t' := s1.toks) hk
  refine ⟨s1.heap.objs.size + 4, [s1.heap.objs.size + 4, s1.heap.objs.size + 2, s1.heap.objs.size + 3, s1.heap.objs.size, s1.heap.objs.size + 1], _, _, H1, rfl, I2, turn_zipX (zip_sep2 (fp1 := [a]) (fp2 := [b]) (fun c hc => by rw [List.mem_singleton.mp hc]; exact px.lt) fun c hc => by rw [List.mem_singleton.mp hc]; exact py.lt), ⟨z1, z2, ⟨_, _, z3⟩, itX_new z4, itX_new z5⟩, fun c hcm => ?_, q⟩
  have hle : s1.heap.objs.size ≤ c := by
    simp only [List.mem_cons, List.not_mem_nil, or_false] at hcm
    rcases hcm with q | q | q | q | q <;> subst q
    · exact Nat.le_add_right _ _
    · exact Nat.le_add_right _ _
    · exact Nat.le_add_right _ _
    · exact Nat.le_refl _
    · exact Nat.le_add_right _ _
  exact I1.fpOk hle (I1.hok.fresh hle)
end Bt
/-! ==== W2 ==== -/
set_option Elab.async false
set_option linter.all false
set_option maxRecDepth 100000
set_option maxHeartbeats 2000000
/-! enumerate over a list or a tuple. -/
namespace Bt
open PySem PySem.Spec PyProof.Rows L2
theorem meets_enum1 {v : Value} {o : Obj} {G : Heap → Prop} (B : Begins v o G) :
    Meets (Builtin.«enumerate.__new__» ⟨[.type "enumerate", v], []⟩) (fun _ R s => G s.heap ∧
      R (.ok (.ret (.ref (s.heap.push o).objs.size))) { s with heap := (s.heap.push o).push { cls := .type "enumerate", data := .fields #[.none, .bool false, .ref s.heap.objs.size, rawInt 0, .none, .none] } }) :=
  .of_wp fun prog w A R s h => by
    obtain ⟨hp, g, d, tk, os⟩ := s
    obtain ⟨hG, h⟩ := h
    have hsub := sub_enumerate
    have step : ∀ {A' : Around} {E' : Value → Shared → Prop} {Q' : Value → Shared → Prop}, Q' (.ref hp.objs.size) ⟨hp.push o, g, d, tk, os⟩ → wpAny (model prog w) A' (pyIter v) Q' E' ⟨hp, g, d, tk, os⟩ := fun q => B.iter prog w _ _ ⟨hp, g, d, tk, os⟩ _ hG q
    wp_walk using step
    refine wpAny_stack_any fun st => wpAny_pure ?_
    split
    · rename_i c _ _ _ _ _
      cases (c == Value.type "enumerate") <;> (wp_walk using step; exact ⟨_, rfl, h⟩)
    · wp_walk using step
      exact ⟨_, rfl, h⟩
theorem enum1_begins {prog : Program} {w : World} {A : Around} {E : Value → Shared → Prop} {s : Shared} {v : Value} {o : Obj} {G : Heap → Prop} {Q : Value → Shared → Prop} (B : Begins v o G) (hG : G s.heap)
    (h : ∀ h', IsEnum h' (s.heap.objs.size + 1) s.heap.objs.size 0 .none → h'.get? s.heap.objs.size = some o → (∀ b o, s.heap.get? b = some o → h'.get? b = some o) → Q (.ref (s.heap.objs.size + 1)) { s with heap := h' }) :
    wpAny (model prog w) A (call (.type "enumerate") [v]) Q E s := by
  refine callType_new F.called_enumerate (by decide) (F.typeCall_enumerate_1 _) (F.newCall_enumerate_1 _) (fun obj => F.args_object_init_2 obj _) F.entry_enumerate_new (meets_enum1 B) ⟨hG, ?_⟩
  have hz : (s.heap.push o).objs.size = s.heap.objs.size + 1 := Heap.size_push ..
  show _ ∧ _
  rw [hz]
  have he : IsEnum ((s.heap.push o).push { cls := .type "enumerate", data := .fields #[.none, .bool false, .ref s.heap.objs.size, rawInt 0, .none, .none] }) (s.heap.objs.size + 1) s.heap.objs.size 0 .none := by
    have q := Heap.get?_push_size (s.heap.push o) (o := { cls := .type "enumerate", data := .fields #[.none, .bool false, .ref s.heap.objs.size, rawInt 0, .none, .none] }) rfl
    rw [hz] at q
    exact q
  exact ⟨⟨_, he, rfl⟩, h _ he (Heap.get?_push_of_some _ (Heap.get?_push_size _ B.free)) fun b o x => Heap.get?_push_of_some _ (Heap.get?_push_of_some _ x)⟩
def IteX (K : PySem.W.Frag) (k : Bool) (a : Addr) : It :=
  ⟨fun i H => ∃ (xs : List V) (x : V), SqX k K H a xs ∧ xs[i]? = some x,
   fun i H v H' => ∃ T x, v = .ref T ∧ H T = none ∧ H' = upd H T (.tup [.int (i : Nat), x]) ∧ ∀ xs, SqX k K H a xs → xs[i]? = some x,
   fun i H => ∃ xs : List V, SqX k K H a xs ∧ i = xs.length⟩
/-- the thing walked is no record of the iterator -/
theorem apartX {X : Cx} {pins : List (Addr × Obj)} {σ : L2.St} {H : Hp} {s : Shared} {k : Bool} {a it : Addr} {xs : List V} {i : Nat} (I : Inv X pins σ H s) (hn : H it = none) (st : ItX k s.heap it a i) (q : SqX k X.K H a xs) : a ≠ it := by
  intro e
  rw [← e] at hn
  cases k with
  | true =>
    rcases (show SqL X.K H a xs from q) with (h | ⟨_, h⟩) | ⟨o, _, _, h, _⟩
    · rw [hn] at h; cases h
    · rw [hn] at h; cases h
    · have h2 := I.kIn a o h
      obtain ⟨o4, e4, c4, _⟩ := (show s.heap.IsListIter it a i from st)
      rw [← e, h2] at e4
      cases e4
      simp_all
  | false =>
    rcases (show SqT X.K H a xs from q) with (h | ⟨_, h⟩) | ⟨o, _, _, h, _⟩
    · rw [hn] at h; cases h
    · rw [hn] at h; cases h
    · have h2 := I.kIn a o h
      obtain ⟨o4, e4, c4, _⟩ := (show s.heap.IsTupleIter it a i from st)
      rw [← e, h2] at e4
      cases e4
      simp_all
theorem turn_enumX {P : Program} {w : World} {K : PySem.W.Frag} {elts : List Expr} {kk : Nat} {tpos : Pos} {k : Bool} {a e it : Addr} (hei : e ≠ it) (hea : e ≠ a) :
    Turn P w K (.Tuple elts kk tpos) (IteX K k a) [e, it] e (fun i h => (∃ old, IsEnum h e it ((0 : Int) + (i : Int)) old) ∧ ItX k h it a i) where
  mem := List.mem_cons_self
  obj := fun i h st c hc => by
    obtain ⟨⟨old, s1⟩, s2⟩ := st
    simp only [List.mem_cons, List.not_mem_nil, or_false] at hc
    rcases hc with q | q <;> subst q
    · exact ⟨_, s1, fun v q => nomatch q⟩
    · exact itX_obj s2
  keep := fun i h h' st f => by
    obtain ⟨⟨old, s1⟩, s2⟩ := st
    exact ⟨⟨old, f e (by simp) _ s1⟩, itX_at s2 fun o => f it (by simp) o⟩
  item := by
    intro X e1 e2 e3 hc i pins s σ H E I hf st hg
    subst e1 e2 e3
    obtain ⟨s1, s2⟩ := st
    obtain ⟨xs, x, qx, hx⟩ := hg
    obtain ⟨ix, rx, px⟩ := seqX_of I qx
    have hh : X.A.in1.handled = none := I.ok.hd hc
    have na := apartX I (hf it (by simp)).1 s2 qx
    have W := GoesN.enumFrom (prog := X.prog) (w := X.w) (A := X.A) (elts := elts) (x1 := kk) (pos := tpos) 0 (drawsX (k := k) hh na ix.toArray) e hei (by simp only [List.mem_cons, List.not_mem_nil, or_false]; exact fun z => z.elim hei hea) (by simp)
    have hlt : i < ix.toArray.size := by
      have l1 := rx.length
      have l3 : i < xs.length := (List.getElem?_eq_some_iff.mp hx).1
      simp only [List.size_toArray]
      omega
    refine W.goes i s (fun u s2 => ∃ x H', Inv X pins σ H' s2 ∧ RelV x u ∧ (IteX X.K k a).yld i H x H' ∧ ((∃ old, IsEnum s2.heap e it ((0 : Int) + ((i + 1 : Nat) : Int)) old) ∧ ItX k s2.heap it a (i + 1)) ∧ ∀ b ∈ [e, it], H' b = none) E hlt ⟨s1, s2, px⟩ fun v h' tk hY st' hk htk => ?_
    obtain ⟨T, t, u1, ev, hT, hu1, oT⟩ := hY
    subst ev
    obtain ⟨t1, t2, _⟩ := st'
    obtain ⟨x', hx', r1⟩ : ∃ x', xs[i]? = some x' ∧ RelV x' u1 := by
      obtain ⟨u, e, r⟩ := rx.get hx
      have e2 : ix[i]? = some u1 := by simpa using hu1
      rw [e] at e2
      cases e2
      exact ⟨x, hx, r⟩
    have new : ObjOk X.prog X.w (upd H T (.tup [.int (i : Nat), x'])) h' T (.tup [.int (i : Nat), x']) := ⟨by show 2 ≤ sizeLine; decide, [.int ((0 : Int) + (i : Int)) t, u1], .cons ⟨t, by rw [Int.zero_add]⟩ (.cons r1 .nil), oT⟩
    have I1 : Inv X pins σ (upd H T (.tup [.int (i : Nat), x'])) { s with heap := h', toks := tk } := I.turnedNew (ch := [e, it]) (fun c o hc q => hk c o hc q) hf hT new
    refine ⟨.ref T, _, I1, rfl, ⟨T, x', rfl, I.hok.fresh hT, rfl, fun l hl => by rw [sqX_inj I hl qx]; exact hx'⟩, ⟨t1, t2⟩, fun c hcm => ?_⟩
    have hlt2 : c < s.heap.objs.size := by
      simp only [List.mem_cons, List.not_mem_nil, or_false] at hcm
      rcases hcm with q | q <;> subst q
      · obtain ⟨_, q⟩ := s1
        exact Heap.lt_size q
      · obtain ⟨_, q, _⟩ := itX_obj s2
        exact Heap.lt_size q
    rw [upd_ne (Nat.ne_of_lt (Nat.lt_of_lt_of_le hlt2 hT))]
    exact (hf c hcm).1
  done := by
    intro X e1 e2 e3 hc i pins s σ H E I hf st hg
    subst e1 e2 e3
    obtain ⟨s1, s2⟩ := st
    obtain ⟨xs, qx, hi⟩ := hg
    obtain ⟨ix, rx, px⟩ := seqX_of I qx
    have hh : X.A.in1.handled = none := I.ok.hd hc
    have na := apartX I (hf it (by simp)).1 s2 qx
    have W := GoesN.enumFrom (prog := X.prog) (w := X.w) (A := X.A) (elts := elts) (x1 := kk) (pos := tpos) 0 (drawsX (k := k) hh na ix.toArray) e hei (by simp only [List.mem_cons, List.not_mem_nil, or_false]; exact fun z => z.elim hei hea) (by simp)
    have hn : i = ix.toArray.size := by
      have l1 := rx.length
      simp only [List.size_toArray]
      omega
    rw [hn] at s1 s2
    refine wpAny_mono (W.stops s (fun s1 => Inv X pins σ H s1) E ⟨s1, s2, px⟩ fun h' tk hk htk => ?_) (fun r s' q => q) fun _ _ q => q
    exact I.turnedL (ch := [e, it]) (fun c o hc q => hk c o hc q) hf
  self := fun A i s Q E st h => let ⟨⟨_, q⟩, _⟩ := st; wpAny_pyIter_enum q h
def iEnumX (K : PySem.W.Frag) (ta : TA) : TI := fun σ H R => ta σ H fun vs H1 => ∃ a xs k, vs = [.ref a] ∧ SqX k K H1 a xs ∧ R (IteX K k a) H1
theorem pi_enumX {X : Cx} {e : Expr} {ta : TA} {p pos tpos : Pos} {elts : List Expr} {kk : Nat} (hg : Gl X "enumerate") (hm : X.mg "enumerate" = none) (ha : PA X [e] ta) (hs : starEach [e] X.env = [(false, eval e X.env)] := by rfl) :
    PI X (.Tuple elts kk tpos) (.Call (.Name "enumerate" p) [e] [] pos) (iEnumX X.K ta) := by
  refine ⟨fun pins s σ H R I0 h => ?_⟩
  refine Call_ (ld_blt I0 hg hm boot_enumerate (PyProof.Rows.callWith_type1 (thn (ha.run pos pins s σ H _ I0 h) fun us s1 ⟨vs, H1, I1, r1, q1⟩ => ?_) hs rfl))
  obtain ⟨a, xs, k, ev, qx, q⟩ := q1
  subst ev
  obtain ⟨u1, rfl, ra⟩ := vals1 r1
  have ra : u1 = Value.ref a := ra
  subst ra
  obtain ⟨ix, rx, px⟩ := seqX_of I1 qx
  refine enum1_begins (beginsX (k := k) ix.toArray) px fun h' z1 z2 hk => wpAny_pyIter_enum z1 ?_
  have I2 : Inv X pins σ H1 { s1 with heap := h' } := I1.kept (t' := s1.toks) hk
  have hl := px.lt
  refine ⟨s1.heap.objs.size + 1, [s1.heap.objs.size + 1, s1.heap.objs.size], _, _, H1, rfl, I2, turn_enumX (Nat.succ_ne_self _) (Nat.ne_of_gt (Nat.lt_succ_of_lt hl)), ⟨⟨.none, z1⟩, itX_new z2⟩, fun c hcm => ?_, q⟩
  have hle : s1.heap.objs.size ≤ c := by
    simp only [List.mem_cons, List.not_mem_nil, or_false] at hcm
    rcases hcm with q | q <;> subst q
    · exact Nat.le_add_right _ _
    · exact Nat.le_refl _
  exact I1.fpOk hle (I1.hok.fresh hle)
end Bt
/-! ==== W3 ==== -/
set_option Elab.async false
set_option linter.all false
set_option maxRecDepth 100000
set_option maxHeartbeats 2000000
/-! More rules of operators: products and quotients of ints of any size. -/
namespace Bt
open PySem PySem.Spec PyProof.Rows L2
section
variable {X : Cx}
theorem op_mulB : OpR X (binaryOp .Mult) rMulI := opI fun _ _ _ _ _ _ _ hc q => mul_int q hc
theorem pylong_room {pins : List (Addr × Obj)} {σ : L2.St} {H : Hp} {s : Shared} {e : Env} {l : List Env} (hS : X.base.NoSeer) (ht : X.prog.given.tree = none) (hst : X.stack = e :: l) (hg : e.scope.isGenerator = false) (hc : e.scope.isCoroutine = false) (hb : e.builtins = builtinsNs) (hm : e.globals = mainGlobals) (hr : Room 33 X.A)
    (I : Inv X pins σ H s) : PylongRoom (model X.prog X.w) X.A s := by
  refine PylongRoom.of I.nolimit ?_ (SeerAt.of (hS.keeps I.bk) ht (by rw [I.ok.frames, hst]) hg hc hb hm)
  have := hr.dp
  have e : Builtin.pylongFrames = 100 := rfl
  omega
theorem op_fdivP {e : Env} {l : List Env} (hS : X.base.NoSeer) (ht : X.prog.given.tree = none) (hst : X.stack = e :: l) (hg : e.scope.isGenerator = false) (hc : e.scope.isCoroutine = false) (hb : e.builtins = builtinsNs) (hm : e.globals = mainGlobals) (hr : Room 33 X.A) : OpR X (binaryOp .FloorDiv) rDivP := by
  intro pins s σ H x y v u Q I rx ry h
  obtain ⟨i, j, rfl, rfl, hj, q⟩ := h
  obtain ⟨t, rfl⟩ := rx
  obtain ⟨t', rfl⟩ := ry
  have hj : (0 : Int) < j := hj
  refine floordiv_int (by omega) ⟨.int (i / j), H, I.tok _, ⟨_, by rw [Int.fdiv_eq_ediv_of_nonneg i (by omega)]⟩, q⟩ (.inr (pylong_room hS ht hst hg hc hb hm hr I))
end
end Bt
/-! ==== V1 ==== -/
set_option Elab.async false
set_option linter.all false
set_option maxRecDepth 100000
set_option maxHeartbeats 2000000
/-! The walkers of lists, tuples, ranges, zip, enumerate; comprehensions. -/
namespace Bt
open PySem PySem.Spec PyProof.Rows L2
theorem Same.seqX {k : Bool} {K : PySem.W.Frag} {H H' : Hp} {a : Addr} {xs : List V} (e : Same H H') (h : SqX k K H a xs) : SqX k K H' a xs := by
  cases k with
  | true =>
    have h : SqL K H a xs := h
    exact (e.seq h : SqL K H' a xs)
  | false =>
    have h : SqT K H a xs := h
    exact (Same.tup e h : SqT K H' a xs)
/-- a list or a tuple -/
def IsS {α : Type} (K : PySem.W.Frag) (F : α → VP) (xs : List α) : VP := fun v H => ∃ p vs k, v = .ref p ∧ SqX k K H p vs ∧ All2 F vs xs H
instance {α : Type} (K : PySem.W.Frag) (F : α → VP) [∀ x, Stays (F x)] (xs : List α) : Stays (IsS K F xs) := ⟨fun _ _ _ e ⟨p, vs, k, h1, h2, h3⟩ => ⟨p, vs, k, h1, Same.seqX e h2, All2.up e h3⟩⟩
/-- a tuple of two -/
def IsP {α β : Type} (K : PySem.W.Frag) (F : α → VP) (F2 : β → VP) (x : α × β) : VP := fun v H => ∃ p v1 v2, v = .ref p ∧ SqT K H p [v1, v2] ∧ F x.1 v1 H ∧ F2 x.2 v2 H
instance {α β : Type} (K : PySem.W.Frag) (F : α → VP) (F2 : β → VP) [∀ x, Stays (F x)] [∀ x, Stays (F2 x)] (x : α × β) : Stays (IsP K F F2 x) := ⟨fun _ _ _ e ⟨p, v1, v2, h1, h2, h3, h4⟩ => ⟨p, v1, v2, h1, Same.tup e h2, up e h3, up e h4⟩⟩
section
variable {te ta tb : TE} {σ : L2.St} {G : Hp} {K : PySem.W.Frag} {α β : Type} {F : α → VP} {F2 : β → VP} {xs : List α} {ys : List β}
theorem IsL.s {v : V} {H : Hp} (h : IsL F xs v H) : IsS K F xs v H := by
  obtain ⟨p, vs, h1, h2, h3⟩ := h
  exact ⟨p, vs, true, h1, (SqL.of h2 : SqL K H p vs), h3⟩
theorem IsT.s {v : V} {H : Hp} (h : IsT K F xs v H) : IsS K F xs v H := by
  obtain ⟨p, vs, h1, h2, h3⟩ := h
  exact ⟨p, vs, false, h1, h2, h3⟩
theorem Ep.sL (h : Ep te σ G (IsL F xs)) : Ep te σ G (IsS K F xs) := h.to fun _ _ _ => IsL.s
theorem Ep.sT (h : Ep te σ G (IsT K F xs)) : Ep te σ G (IsS K F xs) := h.to fun _ _ _ => IsT.s
variable [∀ x, Stays (F x)] [∀ y, Stays (F2 y)]
theorem wk_list {a : Addr} (h : IsL F xs (.ref a) G) : Wk (Itl K a) G F xs := fun G' H' g s => by
  obtain ⟨p, vs, e, h1, h2⟩ := up g h
  cases e
  have q : SqL K H' a vs := SqL.of (s _ _ h1)
  refine ⟨⟨vs, q, Nat.le_of_eq h2.len⟩, fun i x hx => ?_⟩
  obtain ⟨v, ev, fv⟩ := h2.get hx
  refine ⟨⟨vs, v, q, ev⟩, fun u H'' y => ?_⟩
  obtain ⟨rfl, y⟩ := y
  have eu := y vs q
  rw [ev] at eu
  cases eu
  exact ⟨G', To.refl s, fv⟩
theorem it_list (h : Ep te σ G (IsL F xs)) : Wi (iList K te) σ G F xs := fun G1 H1 g s R r => h G1 H1 g s _ fun v G2 H2 t p => by
  obtain ⟨a, vs, rfl, h1, h2⟩ := id p
  exact ⟨a, rfl, ⟨vs, SqL.of (t.in_ _ _ h1)⟩, r _ G2 H2 t (wk_list p)⟩
theorem wk_tup {a : Addr} (h : IsT K F xs (.ref a) G) : Wk (Itt K a) G F xs := fun G' H' g s => by
  obtain ⟨p, vs, e, h1, h2⟩ := up g h
  cases e
  have q : SqT K H' a vs := Same.tup s h1
  refine ⟨⟨vs, q, Nat.le_of_eq h2.len⟩, fun i x hx => ?_⟩
  obtain ⟨v, ev, fv⟩ := h2.get hx
  refine ⟨⟨vs, v, q, ev⟩, fun u H'' y => ?_⟩
  obtain ⟨rfl, y⟩ := y
  have eu := y vs q
  rw [ev] at eu
  cases eu
  exact ⟨G', To.refl s, fv⟩
theorem it_tup (h : Ep te σ G (IsT K F xs)) : Wi (iTup K te) σ G F xs := fun G1 H1 g s R r => h G1 H1 g s _ fun v G2 H2 t p => by
  obtain ⟨a, vs, rfl, h1, h2⟩ := id p
  exact ⟨a, rfl, ⟨vs, Same.tup t.in_ h1⟩, r _ G2 H2 t (wk_tup p)⟩
/-- lo, lo + 1, .. -/
def rng (lo : Int) (n : Nat) : List Int := (List.range n).map fun i => lo + (i : Nat)
theorem rng_len {lo : Int} {n : Nat} : (rng lo n).length = n := by simp [rng]
theorem rng_get {lo : Int} {n i : Nat} {x : Int} (h : (rng lo n)[i]? = some x) : i < n ∧ x = lo + (i : Nat) := by
  unfold rng at h
  rw [List.getElem?_map] at h
  rcases Nat.lt_or_ge i n with hl | hl
  · rw [List.getElem?_range hl] at h
    exact ⟨hl, (Option.some.inj h).symm⟩
  · rw [List.getElem?_eq_none (by simpa using hl)] at h
    cases h
theorem rng_at {lo : Int} {n i : Nat} (h : i < n) : (rng lo n)[i]? = some (lo + (i : Nat)) := by
  unfold rng
  rw [List.getElem?_map, List.getElem?_range h]
  rfl
theorem wk_rng {lo : Int} {n : Nat} : Wk (Itr lo n) G IsI (rng lo n) := fun G' H' g s => by
  refine ⟨Nat.le_of_eq rng_len.symm, fun i x hx => ?_⟩
  obtain ⟨h1, h2⟩ := rng_get hx
  refine ⟨h1, fun u H'' y => ?_⟩
  obtain ⟨rfl, rfl⟩ := y
  exact ⟨G', To.refl s, by rw [h2]; rfl⟩
theorem it_rng1 {n : Int} (h : Ep te σ G (IsI n)) (h1 : -(2 ^ 62) ≤ n) (h2 : n < 2 ^ 62) : Wi (iRng1 (tCons te tNil)) σ G IsI (rng 0 n.toNat) := fun G1 H1 g s R r => h G1 H1 g s _ fun v G2 H2 t p => by
  have p : v = .int n := p
  subst p
  exact ⟨n, rfl, h1, h2, r _ G2 H2 t wk_rng⟩
theorem it_rng2 {m n : Int} (ha : Ep ta σ G (IsI m)) (hb : Ep tb σ G (IsI n)) (h1 : -(2 ^ 62) ≤ m ∧ m < 2 ^ 62 ∧ -(2 ^ 62) ≤ n ∧ n < 2 ^ 62) : Wi (iRng2 (tCons ta (tCons tb tNil))) σ G IsI (rng m (n - m).toNat) := fun G1 H1 g s R r =>
  ha G1 H1 g s _ fun v G2 H2 t p => hb G2 H2 (g.trans t.up) t.in_ _ fun w G3 H3 t3 p' => by
    have p : v = .int m := p
    have p' : w = .int n := p'
    subst p p'
    exact ⟨m, n, rfl, h1, r _ G3 H3 (t.trans t3) wk_rng⟩
theorem wk_zip {a b : Addr} {vs ws : List V} {k1 k2 : Bool} (ha : SqX k1 K G a vs) (hb : SqX k2 K G b ws) (fa : All2 F vs xs G) (fb : All2 F2 ws ys G) : Wk (ItzX K k1 k2 a b) G (IsP K F F2) (xs.zip ys) := fun G' H' g s => by
  have qa := Same.seqX (g.trans s) ha
  have qb := Same.seqX (g.trans s) hb
  have fa := All2.up g fa
  have fb := All2.up g fb
  refine ⟨⟨vs, ws, qa, qb, by rw [List.length_zip, fa.len, fb.len]⟩, fun i x hx => ?_⟩
  rw [List.getElem?_zip_eq_some] at hx
  obtain ⟨v, ev, fv⟩ := fa.get hx.1
  obtain ⟨w, ew, fw⟩ := fb.get hx.2
  refine ⟨⟨vs, ws, v, w, qa, qb, ev, ew⟩, fun u H'' y => ?_⟩
  obtain ⟨T, x1, y1, rfl, nT, rfl, yx, yy⟩ := y
  have e1 := yx vs qa
  have e2 := yy ws qb
  rw [ev] at e1
  rw [ew] at e2
  cases e1
  cases e2
  exact ⟨_, To.alloc s nT, T, v, w, rfl, SqT.of upd_same, up (Same.new (s.free nT)) fv, up (Same.new (s.free nT)) fw⟩
theorem it_zip (ha : Ep ta σ G (IsS K F xs)) (hb : Ep tb σ G (IsS K F2 ys)) : Wi (iZipX K (tCons ta (tCons tb tNil))) σ G (IsP K F F2) (xs.zip ys) := fun G1 H1 g s R r =>
  ha G1 H1 g s _ fun v G2 H2 t p => hb G2 H2 (g.trans t.up) t.in_ _ fun w G3 H3 t3 p' => by
    obtain ⟨a, vs, k1, rfl, h1, h2⟩ := up t3.up p
    obtain ⟨b, ws, k2, rfl, h3, h4⟩ := p'
    exact ⟨a, b, vs, ws, k1, k2, rfl, Same.seqX t3.in_ h1, Same.seqX t3.in_ h3, r _ G3 H3 (t.trans t3) (wk_zip h1 h3 h2 h4)⟩
/-- (0, x0), (1, x1), .. -/
def enumI (xs : List α) : List (Int × α) := (rng 0 xs.length).zip xs
theorem wk_enum {a : Addr} {vs : List V} {k : Bool} (ha : SqX k K G a vs) (fa : All2 F vs xs G) : Wk (IteX K k a) G (IsP K IsI F) (enumI xs) := fun G' H' g s => by
  have qa := Same.seqX (g.trans s) ha
  have fa := All2.up g fa
  refine ⟨⟨vs, qa, by unfold enumI; rw [List.length_zip, fa.len, rng_len, Nat.min_self]⟩, fun i x hx => ?_⟩
  unfold enumI at hx
  rw [List.getElem?_zip_eq_some] at hx
  obtain ⟨v, ev, fv⟩ := fa.get hx.2
  refine ⟨⟨vs, v, qa, ev⟩, fun u H'' y => ?_⟩
  obtain ⟨T, x1, rfl, nT, rfl, yx⟩ := y
  have e1 := yx vs qa
  rw [ev] at e1
  cases e1
  refine ⟨_, To.alloc s nT, T, .int (i : Nat), v, rfl, SqT.of upd_same, ?_, up (Same.new (s.free nT)) fv⟩
  have e := (rng_get hx.1).2
  show V.int (i : Nat) = V.int x.1
  rw [e, Int.zero_add]
theorem it_enum (ha : Ep ta σ G (IsS K F xs)) : Wi (iEnumX K (tCons ta tNil)) σ G (IsP K IsI F) (enumI xs) := fun G1 H1 g s R r =>
  ha G1 H1 g s _ fun v G2 H2 t p => by
    obtain ⟨a, vs, k, rfl, h1, h2⟩ := p
    exact ⟨a, vs, k, rfl, Same.seqX t.in_ h1, r _ G2 H2 t (wk_enum h1 h2)⟩
end
/-! ### comprehensions -/
section
variable {wi : TI} {g : TG} {tt : TT} {te : TE} {vs : List Nat} {σ : L2.St} {G : Hp} {α β : Type} {F : α → VP} {R : β → VP} {xs : List α}
theorem filter_take_succ {xs : List α} {c : α → Bool} {f : α → β} {i : Nat} {x : α} (h : xs[i]? = some x) : ((xs.take (i + 1)).filter c).map f = ((xs.take i).filter c).map f ++ (if c x = true then [f x] else []) := by
  have e : xs.take (i + 1) = xs.take i ++ [x] := by
    rw [List.take_add_one, h]
    rfl
  rw [e, List.filter_append, List.map_append]
  congr 1
  by_cases hc : c x = true
  · simp [hc]
  · simp [hc]
/-- a list that was just laid, what is told ahead of it -/
def OwL {β : Type} (G : Hp) (R : β → VP) (ys : List β) : VP := fun v G2 => ∃ p vs G', v = .ref p ∧ G2 = upd G' p (.lst vs) ∧ G' p = none ∧ Same G G' ∧ All2 R vs ys G'
theorem OwL.l {β : Type} {G : Hp} {R : β → VP} [∀ y, Stays (R y)] {ys : List β} {v : V} {G2 : Hp} (h : OwL G R ys v G2) : IsL R ys v G2 := by
  obtain ⟨p, vs, G', rfl, rfl, n, s, a⟩ := h
  exact ⟨p, vs, rfl, upd_same, All2.up (Same.new n) a⟩
theorem ep_lco [∀ y, Stays (R y)] (c : α → Bool) (f : α → β) (hi : Wi wi σ G F xs) (hl : xs.length ≤ 1000)
    (hb : ∀ (i : Nat) (x : α) (v : V) (G2 : Hp), xs[i]? = some x → Same G G2 → F x v G2 → ∃ σ2, Gb g v (wipe σ vs) G2 σ2 ∧ wipe σ2 vs = wipe σ vs ∧ Et tt σ2 G2 (c x) ∧ (c x = true → Ep te σ2 G2 (R (f x)))) : Ep (tLc wi g tt te vs) σ G (OwL G R ((xs.filter c).map f)) := fun G1 H1 e s Q q => by
  refine hi G1 H1 e s _ fun J G2 H2 t2 wk => ?_
  intro D nD
  have nD1 : H1 D = none := t2.big.free nD
  refine ⟨fun i m H => i ≤ xs.length ∧ m = xs.length - i ∧ ∃ G' acc, Same G2 G' ∧ To G1 H1 G' H ∧ G' D = none ∧ H D = some (.lst acc) ∧ All2 R acc (((xs.take i).filter c).map f) G', ⟨_, Nat.zero_le _, rfl, G2, [], Same.refl _, ?_, t2.in_.free nD, upd_same, trivial⟩, fun i m H ⟨hi, hm, G', acc, s2, t', gD, hD, ha⟩ => ?_⟩
  · exact t2.trans (To.dull t2.in_ (Same.new nD))
  obtain ⟨hs, hg⟩ := wk G' H s2 t'.in_
  rcases Nat.lt_or_ge i xs.length with hl' | hl'
  · have hx := List.getElem?_eq_getElem hl'
    obtain ⟨go, hy⟩ := hg i xs[i] hx
    refine .inr ⟨go, fun H' => ∃ G'' acc, Same G2 G'' ∧ To G1 H1 G'' H' ∧ G'' D = none ∧ H' D = some (.lst acc) ∧ All2 R acc (((xs.take (i + 1)).filter c).map f) G'', fun H' ⟨G'', acc, z⟩ => ⟨xs.length - (i + 1), by omega, hl', rfl, G'', acc, z⟩, fun v H'' y => ?_⟩
    obtain ⟨G'', t3, fv⟩ := hy v H'' y
    obtain ⟨σ2, gb, hw, ht, he⟩ := hb i xs[i] v G'' hx ((e.trans t'.up).trans t3.up) fv
    have keepD : ∀ {Ga Ha Gb Hb : Hp}, To Ga Ha Gb Hb → Ga D = none → Ha D = some (.lst acc) → Gb D = none := fun {Ga Ha Gb Hb} t n h => by
      cases z : Gb D with
      | none => rfl
      | some o =>
        rcases t.new D o z with z | z
        · rw [n] at z
          cases z
        · rw [h] at z
          cases z
    refine gb H'' t3.in_ _ ⟨hw, ht G'' H'' (Same.refl _) t3.in_ _ fun G4 H4 t4 => ?_⟩
    have d3 := keepD t3 gD hD
    have h3 := t3.big _ _ hD
    have d4 := keepD t4 d3 h3
    have h4 := t4.big _ _ h3
    cases hc : c xs[i] with
    | false =>
      refine iteF ⟨G4, acc, (s2.trans t3.up).trans t4.up, (t'.trans t3).trans t4, d4, h4, ?_⟩
      rw [filter_take_succ hx, hc]
      show All2 R acc (_ ++ []) G4
      rw [List.append_nil]
      exact All2.up (t3.up.trans t4.up) ha
    | true =>
      refine iteT (he hc G4 H4 t4.up t4.in_ _ fun u G5 H5 t5 ru => ?_)
      have d5 := keepD t5 d4 h4
      have h5 := t5.big _ _ h4
      have lenA : acc.length ≤ i := by
        rw [ha.len, List.length_map]
        exact Nat.le_trans (List.length_filter_le _ _) (by rw [List.length_take]; exact Nat.min_le_left _ _)
      have tt' := ((t'.trans t3).trans t4).trans t5
      refine ⟨acc, h5, small1000 (by omega), G5, acc ++ [u], ((s2.trans t3.up).trans t4.up).trans t5.up, ⟨fun b o z => ?_, tt'.up, fun b o z => ?_, tt'.new⟩, d5, upd_same, ?_⟩
      · rw [upd_ne (ne_of_none z nD1)]
        exact tt'.big b o z
      · rw [upd_ne (ne_of_none z d5)]
        exact tt'.in_ b o z
      · rw [filter_take_succ hx, hc]
        exact All2.snoc (All2.up ((t3.up.trans t4.up).trans t5.up) ha) ru
  · have : i = xs.length := Nat.le_antisymm hi hl'
    subst this
    refine .inl ⟨hs, q _ (upd G' D (.lst acc)) H ⟨t'.big, t'.up.trans (Same.new gD), fun b o z => ?_, fun b o z => ?_⟩ ⟨D, acc, G', rfl, rfl, gD, e.trans t'.up, ?_⟩⟩
    · by_cases hb' : b = D
      · subst hb'
        rw [upd_same] at z
        cases z
        exact hD
      · rw [upd_ne hb'] at z
        exact t'.in_ b o z
    · by_cases hb' : b = D
      · subst hb'
        exact .inr nD1
      · rw [upd_ne hb'] at z
        exact t'.new b o z
    · rw [List.take_length] at ha
      exact ha
theorem ep_lc [∀ y, Stays (R y)] (c : α → Bool) (f : α → β) (hi : Wi wi σ G F xs) (hl : xs.length ≤ 1000)
    (hb : ∀ (i : Nat) (x : α) (v : V) (G2 : Hp), xs[i]? = some x → Same G G2 → F x v G2 → ∃ σ2, Gb g v (wipe σ vs) G2 σ2 ∧ wipe σ2 vs = wipe σ vs ∧ Et tt σ2 G2 (c x) ∧ (c x = true → Ep te σ2 G2 (R (f x)))) : Ep (tLc wi g tt te vs) σ G (IsL R ((xs.filter c).map f)) :=
  (ep_lco c f hi hl hb).to fun _ _ _ => OwL.l
theorem et_yes {σ : L2.St} : Et tYes σ G true := fun G1 H1 e s Q q => q G1 H1 (To.refl s)
/-- no condition -/
theorem ep_lm [∀ y, Stays (R y)] (f : α → β) (hi : Wi wi σ G F xs) (hl : xs.length ≤ 1000)
    (hb : ∀ (i : Nat) (x : α) (v : V) (G2 : Hp), xs[i]? = some x → Same G G2 → F x v G2 → ∃ σ2, Gb g v (wipe σ vs) G2 σ2 ∧ wipe σ2 vs = wipe σ vs ∧ Ep te σ2 G2 (R (f x))) : Ep (tLc wi g tYes te vs) σ G (IsL R (xs.map f)) := by
  have h := ep_lc (R := R) (te := te) (tt := tYes) (g := g) (vs := vs) (fun _ => true) f hi hl fun i x v G2 hx e fv => by
    obtain ⟨σ2, a, b, c⟩ := hb i x v G2 hx e fv
    exact ⟨σ2, a, b, et_yes, fun _ => c⟩
  rw [List.filter_eq_self.mpr fun _ _ => rfl] at h
  exact h
theorem ep_lmo [∀ y, Stays (R y)] (f : α → β) (hi : Wi wi σ G F xs) (hl : xs.length ≤ 1000)
    (hb : ∀ (i : Nat) (x : α) (v : V) (G2 : Hp), xs[i]? = some x → Same G G2 → F x v G2 → ∃ σ2, Gb g v (wipe σ vs) G2 σ2 ∧ wipe σ2 vs = wipe σ vs ∧ Ep te σ2 G2 (R (f x))) : Ep (tLc wi g tYes te vs) σ G (OwL G R (xs.map f)) := by
  have h := ep_lco (R := R) (te := te) (tt := tYes) (g := g) (vs := vs) (fun _ => true) f hi hl fun i x v G2 hx e fv => by
    obtain ⟨σ2, a, b, c⟩ := hb i x v G2 hx e fv
    exact ⟨σ2, a, b, et_yes, fun _ => c⟩
  rw [List.filter_eq_self.mpr fun _ _ => rfl] at h
  exact h
theorem ep_nilo {σ : L2.St} {G : Hp} : Ep (tLst tNil) σ G (OwL G R ([] : List β)) := fun G1 H1 e s Q q =>
  ea_nil G1 H1 e s _ fun vs G2 H2 t l => by
    have l : vs = [] := l
    subst l
    exact ⟨by decide, fun p np => q _ _ _ (t.trans (To.alloc t.in_ np)) ⟨p, [], G2, rfl, rfl, t.in_.free np, e.trans t.up, trivial⟩⟩
end
/-! ### a part taken out of what is told -/
def wo (p : Addr) (H : Hp) : Hp := fun b => if b = p then none else H b
theorem wo_same {p : Addr} {H : Hp} : wo p H p = none := if_pos rfl
theorem wo_ne {p b : Addr} {H : Hp} (h : b ≠ p) : wo p H b = H b := if_neg h
theorem wo_in {p : Addr} {H : Hp} : Same (wo p H) H := fun b o e => by
  by_cases h : b = p
  · rw [h, wo_same] at e
    cases e
  · rw [wo_ne h] at e
    exact e
theorem wo_sub {p : Addr} {G H : Hp} (s : Same G H) (n : G p = none) : Same G (wo p H) := fun b o e => by
  rw [wo_ne (ne_of_none e n)]
  exact s b o e
theorem wo_upd {p : Addr} {H : Hp} {o : HO} (n : H p = none) : wo p (upd H p o) = H := funext fun b => by
  by_cases h : b = p
  · rw [h, wo_same, n]
  · rw [wo_ne h, upd_ne h]
/-- p was told for a while -/
theorem To.lose {G H G2 H2 : Hp} {p : Addr} {o : HO} (n : G p = none) (hp : H p = some o) (s : Same G H) (t : To (upd G p o) H G2 H2) : To G H (wo p G2) H2 :=
  ⟨t.big, wo_sub ((Same.new n).trans t.up) n, wo_in.trans t.in_, fun b u e => by
    by_cases h : b = p
    · rw [h, wo_same] at e
      cases e
    · rw [wo_ne h] at e
      rcases t.new b u e with z | z
      · rw [upd_ne h] at z
        exact .inl z
      · exact .inr z⟩
theorem Same.tell {G H : Hp} {p : Addr} {o : HO} (s : Same G H) (hp : H p = some o) : Same (upd G p o) H := fun b u e => by
  by_cases h : b = p
  · rw [h] at e ⊢
    rw [upd_same] at e
    rw [hp]
    exact e
  · rw [upd_ne h] at e
    exact s b u e
/-- a fraction is no list -/
theorem IsF.wo {K : PySem.W.Frag} {q : Rat} {v : V} {G : Hp} {p : Addr} {xs : List V} (h : IsF K q v G) (hp : G p = some (.lst xs)) : IsF K q v (wo p G) := by
  obtain ⟨t, rfl, h⟩ := h
  refine ⟨t, rfl, ?_⟩
  rcases h with (h | ⟨o, h⟩) | h
  · refine .inl (.inl ?_)
    rw [wo_ne fun z => ?_]
    · exact h
    · rw [z, hp] at h
      cases h
  · refine .inl (.inr ⟨o, ?_⟩)
    rw [wo_ne fun z => ?_]
    · exact h
    · rw [z, hp] at h
      cases h
  · exact .inr h
theorem All2.imp {α : Type} {R R' : α → VP} {H H' : Hp} (h : ∀ x v, R x v H → R' x v H') : ∀ {vs : List V} {xs : List α}, All2 R vs xs H → All2 R' vs xs H'
  | [], [], _ => trivial
  | _ :: _, _ :: _, ⟨h1, h2⟩ => ⟨h _ _ h1, All2.imp h h2⟩
  | [], _ :: _, z => z.elim
  | _ :: _, [], z => z.elim
end Bt
/-! ==== W4 ==== -/
set_option Elab.async false
set_option linter.all false
set_option maxRecDepth 100000
set_option maxHeartbeats 2000000
/-! Defs of the text: how they stand, how they are shown. -/
namespace Bt
open PySem PySem.Spec PyProof.Rows L2
abbrev prog : Program := PySem.Challenge.pw_bentthrough_k30_whole_nearest_curves
def top (i : Nat) : Stmt := PySem.Challenge.pw_bentthrough_k30_whole_nearest_curves.main.body.getD i (.Pass ⟨0, 0, 0, 0⟩)
/-- a def of the text stands under its name -/
structure Dd (K : PySem.W.Frag) (mg : Str → Option Value) (x : Str) (st : Stmt) : Prop where
  ex : ∃ f fd, FunD K x x (defArgs st) (defBody st) (defScope st) [] [] f fd ∧ mg x = some (.ref f)
/-- built-in readings -/
abbrev rAbs : List V → Hp → VK → Prop := fun xs H Q => ∃ i, xs = [.int i] ∧ Q (.int (if i < 0 then -i else i)) H
abbrev rMax2 : List V → Hp → VK → Prop := fun xs H Q => ∃ i j, xs = [.int i, .int j] ∧ Q (.int (if j > i then j else i)) H
abbrev rMin2 : List V → Hp → VK → Prop := fun xs H Q => ∃ i j, xs = [.int i, .int j] ∧ Q (.int (if j < i then j else i)) H
abbrev rInt1 : List V → Hp → VK → Prop := fun xs H Q => (∃ i, xs = [.int i] ∧ Q (.int i) H) ∨ ∃ k, xs = [.bl k] ∧ Q (.int (if k then 1 else 0)) H
abbrev rListOf (K : PySem.W.Frag) : List V → Hp → VK → Prop := fun xs H Q => ∃ p ys, xs = [.ref p] ∧ (SqL K H p ys ∨ SqT K H p ys) ∧ ∀ l, H l = none → Q (.ref l) (upd H l (.lst ys))
abbrev rTupOf (K : PySem.W.Frag) : List V → Hp → VK → Prop := fun xs H Q => ∃ p ys, xs = [.ref p] ∧ ((SqL K H p ys ∧ ∀ l, H l = none → Q (.ref l) (upd H l (.tup ys))) ∨ (SqT K H p ys ∧ Q (.ref p) H))
section
variable {P : Program} {w : World} {K : PySem.W.Frag} {mg : Str → Option Value} {base : Heap}
abbrev Hb (x : Str) (st : Stmt) (ps : List Str) : Prop := ∀ (kV doc pm : Value) (an : Option Addr) (cdv ct : Value) (us : List Value), us.length = ps.length → bindArgs (PySem.W.fnOf x x (defArgs st) (defBody st) (defScope st) .none kV doc pm an cdv ct) ⟨us, []⟩ = pure (ps.zip us)
abbrev Hps (P : Program) (w : World) (K : PySem.W.Frag) (mg : Str → Option Value) (base : Heap) (k : Nat) (x : Str) (st : Stmt) (N : List Str) (t : TS) : Prop := ∀ (f : Addr) (cdv : Value) (A : Around) (outer : List Env) (s : Shared) (H : Hp) (E : XK), Room k (A.deeper (envOfC x (defScope st) s.heap.objs.size f cdv)) → PSs (cxOf CX0 P w K mg base N x (defScope st) f cdv A outer s H E).nox (defBody st) t
theorem cal_of {x : Str} {st : Stmt} {N ps : List Str} {k : Nat} {sp : Sp} (D : Dd K mg x st) (S : FnScope N ps (defScope st)) (hb : Hb x st ps)
    (len : ∀ vs H Q E, sp vs H Q E → vs.length = ps.length) {t : TS} (hp : Hps P w K mg base k x st N t)
    (hpure : ∀ (vs : List V) (H : Hp) (Q : VK) (E : XK), sp vs H Q E → t { nx := fun _ H' => Q .non H', rt := Q } (start N vs) H) : C8.Cal P w K mg base (k + 1) x sp [] := by
  obtain ⟨f, fd, F, hm⟩ := D.ex
  exact ⟨f, fd, ps, [], F.ok S len fun cdv A outer s H vs Q E hr hs => ⟨t, (hp f cdv A outer s H E hr).nox, hpure vs H Q E hs⟩, hm, F.kp, F.bindsN hb, .nil⟩
variable {α β γ δ : Type} {P1 : α → VP} {P2 : β → VP} {P3 : γ → VP} {P4 : δ → VP}
/-- handed back at its end, or None by falling through -/
theorem cal1 {x : Str} {st : Stmt} {N : List Str} {p1 : Str} {k : Nat} {C : α → Prop} {B : α → VP} {t : TS} (D : Dd K mg x st) (S : FnScope N [p1] (defScope st)) (hb : Hb x st [p1]) (hp : Hps P w K mg base k x st N t)
    (h : ∀ G a x, P1 a x G → C a → Es t (start N [x]) G (B a) (fun _ G' => B a .non G')) : C8.Cal P w K mg base (k + 1) x (sp1 P1 C B) [] :=
  cal_of D S hb (fun vs H Q E ⟨_, _, _, e, _⟩ => by rw [e]; rfl) hp fun vs H Q E ⟨G, a, x, e, s, p, c, q⟩ => by
    rw [e]
    exact h G a x p c G H _ (Same.refl G) s (fun v G2 H2 t r => q v G2 H2 t r) fun _ G2 H2 t r => q _ G2 H2 t r
theorem cal2 {x : Str} {st : Stmt} {N : List Str} {p1 p2 : Str} {k : Nat} {C : α → β → Prop} {B : α → β → VP} {t : TS} (D : Dd K mg x st) (S : FnScope N [p1, p2] (defScope st)) (hb : Hb x st [p1, p2]) (hp : Hps P w K mg base k x st N t)
    (h : ∀ G a b x y, P1 a x G → P2 b y G → C a b → Es t (start N [x, y]) G (B a b) (fun _ G' => B a b .non G')) : C8.Cal P w K mg base (k + 1) x (sp2 P1 P2 C B) [] :=
  cal_of D S hb (fun vs H Q E ⟨_, _, _, _, _, e, _⟩ => by rw [e]; rfl) hp fun vs H Q E ⟨G, a, b, x, y, e, s, p, c, q⟩ => by
    rw [e]
    exact h G a b x y p.1 p.2 c G H _ (Same.refl G) s (fun v G2 H2 t r => q v G2 H2 t r) fun _ G2 H2 t r => q _ G2 H2 t r
theorem cal3 {x : Str} {st : Stmt} {N : List Str} {p1 p2 p3 : Str} {k : Nat} {C : α → β → γ → Prop} {B : α → β → γ → VP} {t : TS} (D : Dd K mg x st) (S : FnScope N [p1, p2, p3] (defScope st)) (hb : Hb x st [p1, p2, p3]) (hp : Hps P w K mg base k x st N t)
    (h : ∀ G a b c x y z, P1 a x G → P2 b y G → P3 c z G → C a b c → Es t (start N [x, y, z]) G (B a b c) (fun _ G' => B a b c .non G')) : C8.Cal P w K mg base (k + 1) x (sp3 P1 P2 P3 C B) [] :=
  cal_of D S hb (fun vs H Q E ⟨_, _, _, _, _, _, _, e, _⟩ => by rw [e]; rfl) hp fun vs H Q E ⟨G, a, b, d, x, y, z, e, s, p, c, q⟩ => by
    rw [e]
    exact h G a b d x y z p.1 p.2.1 p.2.2 c G H _ (Same.refl G) s (fun v G2 H2 t r => q v G2 H2 t r) fun _ G2 H2 t r => q _ G2 H2 t r
theorem cal4 {x : Str} {st : Stmt} {N : List Str} {p1 p2 p3 p4 : Str} {k : Nat} {C : α → β → γ → δ → Prop} {B : α → β → γ → δ → VP} {t : TS} (D : Dd K mg x st) (S : FnScope N [p1, p2, p3, p4] (defScope st)) (hb : Hb x st [p1, p2, p3, p4]) (hp : Hps P w K mg base k x st N t)
    (h : ∀ G a b c d x y z u, P1 a x G → P2 b y G → P3 c z G → P4 d u G → C a b c d → Es t (start N [x, y, z, u]) G (B a b c d) (fun _ G' => B a b c d .non G')) : C8.Cal P w K mg base (k + 1) x (sp4 P1 P2 P3 P4 C B) [] :=
  cal_of D S hb (fun vs H Q E ⟨_, _, _, _, _, _, _, _, _, e, _⟩ => by rw [e]; rfl) hp fun vs H Q E ⟨G, a, b, d, d2, x, y, z, u, e, s, p, c, q⟩ => by
    rw [e]
    exact h G a b d d2 x y z u p.1 p.2.1 p.2.2.1 p.2.2.2 c G H _ (Same.refl G) s (fun v G2 H2 t r => q v G2 H2 t r) fun _ G2 H2 t r => q _ G2 H2 t r
end
section
variable {ta tb te : TE} {σ : L2.St} {G : Hp} {K : PySem.W.Frag} {a b : Int} {α : Type} {F : α → VP} {xs : List α}
theorem ep_abs (h : Ep ta σ G (IsI a)) : Ep (tCB rAbs (tCons ta tNil)) σ G (IsI (a.natAbs : Int)) := ep_cb1 h fun x G1 H1 Q _ s p q => ⟨a, by rw [show x = .int a from p], q _ G1 H1 (To.refl s) (by
  show V.int _ = V.int _
  congr 1
  split <;> omega)⟩
theorem ep_max (h : Ep ta σ G (IsI a)) (k : Ep tb σ G (IsI b)) : Ep (tCB rMax2 (tCons ta (tCons tb tNil))) σ G (IsI (max a b)) := ep_cb2 h k fun x y G1 H1 Q _ s p p' q => ⟨a, b, by rw [show x = .int a from p, show y = .int b from p'], q _ G1 H1 (To.refl s) (by
  show V.int _ = V.int _
  congr 1
  split <;> omega)⟩
theorem ep_min (h : Ep ta σ G (IsI a)) (k : Ep tb σ G (IsI b)) : Ep (tCB rMin2 (tCons ta (tCons tb tNil))) σ G (IsI (min a b)) := ep_cb2 h k fun x y G1 H1 Q _ s p p' q => ⟨a, b, by rw [show x = .int a from p, show y = .int b from p'], q _ G1 H1 (To.refl s) (by
  show V.int _ = V.int _
  congr 1
  split <;> omega)⟩
theorem ep_int1 (h : Ep ta σ G (IsI a)) : Ep (tCB rInt1 (tCons ta tNil)) σ G (IsI a) := ep_cb1 h fun x G1 H1 Q _ s p q => .inl ⟨a, by rw [show x = .int a from p], q _ G1 H1 (To.refl s) rfl⟩
theorem ep_len (h : Ep ta σ G (IsS K F xs)) : Ep (tCB (rLen K) (tCons ta tNil)) σ G (IsI (xs.length : Int)) := ep_cb1 h fun x G1 H1 Q _ s p q => by
  obtain ⟨a, vs, k, rfl, h1, h2⟩ := p
  refine ⟨_, vs.length, rfl, ?_, q _ G1 H1 (To.refl s) (by rw [h2.len]; rfl)⟩
  cases k with
  | true => exact .inl ⟨vs, (Same.seqX s h1 : SqL K H1 a vs), rfl⟩
  | false => exact .inr ⟨vs, (Same.seqX s h1 : SqT K H1 a vs), rfl⟩
theorem ep_listOf (h : Ep ta σ G (IsS K F xs)) [∀ x, Stays (F x)] : Ep (tCB (rListOf K) (tCons ta tNil)) σ G (IsL F xs) := ep_cb1 h fun x G1 H1 Q _ s p q => by
  obtain ⟨a, vs, k, rfl, h1, h2⟩ := p
  refine ⟨_, vs, rfl, ?_, fun l nl => q _ _ _ (To.alloc s nl) ⟨l, vs, rfl, upd_same, All2.up (Same.new (s.free nl)) h2⟩⟩
  cases k with
  | true => exact .inl (Same.seqX s h1 : SqL K H1 a vs)
  | false => exact .inr (Same.seqX s h1 : SqT K H1 a vs)
theorem ep_tupOf (h : Ep ta σ G (IsL F xs)) [∀ x, Stays (F x)] : Ep (tCB (rTupOf K) (tCons ta tNil)) σ G (IsT K F xs) := ep_cb1 h fun x G1 H1 Q _ s p q => by
  obtain ⟨a, vs, rfl, h1, h2⟩ := p
  exact ⟨_, vs, rfl, .inl ⟨SqL.of (s _ _ h1), fun l nl => q _ _ _ (To.alloc s nl) ⟨l, vs, rfl, SqT.of upd_same, All2.up (Same.new (s.free nl)) h2⟩⟩⟩
end
end Bt
/-! ==== W5 ==== -/
set_option Elab.async false
set_option linter.all false
set_option maxRecDepth 100000
set_option maxHeartbeats 2000000
/-! The arithmetic of fractions. -/
namespace Bt
open PySem PySem.Spec PyProof.Rows L2
/-- what all of the walk leans on -/
structure Txt (P : Program) (K : PySem.W.Frag) (mg : Str → Option Value) (base : Heap) : Prop where
  seer : base.NoSeer
  tree : P.given.tree = none
  NONE : ∃ u, mg "NONE" = some u ∧ RelV (.ref (He.ga K "NONE")) u
  tNONE : ∀ H, SqT K H (He.ga K "NONE") [.int 0, .int 1]
  ONE : ∃ u, mg "ONE" = some u ∧ RelV (.ref (He.ga K "ONE")) u
  tONE : ∀ H, SqT K H (He.ga K "ONE") [.int 1, .int 1]
  MOST_KNOT : ∃ u, mg "MOST_KNOT" = some u ∧ RelV (.int 1000000) u
  MOST_PLACES : ∃ u, mg "MOST_PLACES" = some u ∧ RelV (.int 12) u
  MOST_HEIGHT : ∃ u, mg "MOST_HEIGHT" = some u ∧ RelV (.int 100000000000000000000) u
  MOST_HILLS : ∃ u, mg "MOST_HILLS" = some u ∧ RelV (.int 10) u
  MOST_DEGREE : ∃ u, mg "MOST_DEGREE" = some u ∧ RelV (.int 4) u
  c_Frame : ∃ u, mg "Frame" = some u ∧ RelV (.ref (He.ga K "Frame")) u
  c_Curve : ∃ u, mg "Curve" = some u ∧ RelV (.ref (He.ga K "Curve")) u
  oFrame : C8.InsC K (He.ga K "Frame")
  oCurve : C8.InsC K (He.ga K "Curve")
  nFrame : NoAttr K (He.ga K "Frame") "parts"
  nCurve : NoAttr K (He.ga K "Curve") "parts"
  f_abs : mg "abs" = none
  f_zip : mg "zip" = none
  f_len : mg "len" = none
  f_range : mg "range" = none
  f_enumerate : mg "enumerate" = none
  f_max : mg "max" = none
  f_min : mg "min" = none
  f_int : mg "int" = none
  f_bool : mg "bool" = none
  f_tuple : mg "tuple" = none
  f_list : mg "list" = none
  f_set : mg "set" = none
  f_sorted : mg "sorted" = none
  f_any : mg "any" = none
  f_all : mg "all" = none
  f_isinstance : mg "isinstance" = none
  f_ValueError : mg "ValueError" = none
  f_LookupError : mg "LookupError" = none
  f_ArithmeticError : mg "ArithmeticError" = none
/-! ### sizes -/
def big : Nat := 60000000
def Fit (i : Int) : Prop := i.natAbs < 2 ^ big
def FitF (q : Rat) : Prop := Fit q.num ∧ Fit q.den
theorem fit_bits {i : Int} (h : Fit i) : Builtin.Int.intBits i ≤ big := by
  unfold Builtin.Int.intBits
  split
  · exact Nat.zero_le _
  · exact PySem.Flt.log2_lt_of (by decide) h
theorem fit_mul {i j : Int} (h : Fit i) (k : Fit j) : IntMulOk i j := by
  have a := fit_bits h
  have b := fit_bits k
  have e : bitsLine = 134217728 := by decide
  have eb : big = 60000000 := rfl
  unfold IntMulOk
  intro z
  rw [Bool.and_eq_true] at z
  have z2 := z.2
  unfold Builtin.Int.intTooBig at z2
  have z3 := of_decide_eq_true z2
  rw [e] at z3
  omega
/-- the sum from the left -/
def qs (xs : List Rat) : Rat := xs.foldl (· + ·) 0
theorem qs_snoc (xs : List Rat) (x : Rat) : qs (xs ++ [x]) = qs xs + x := by simp [qs, List.foldl_append]
/-- every part of the sum is of fair size -/
def FitS (xs : List Rat) : Prop := (∀ x ∈ xs, FitF x) ∧ ∀ k, FitF (qs (xs.take k))
def prods (xs ys : List Rat) : List Rat := (xs.zip ys).map fun p => p.1 * p.2
def gdot (xs ys : List Rat) : Rat := qs (prods xs ys)
def FitD (xs ys : List Rat) : Prop := (∀ x ∈ xs, FitF x) ∧ (∀ y ∈ ys, FitF y) ∧ FitS (prods xs ys) ∧ xs.length ≤ 1000
/-! ### lowest terms -/
theorem low_num {a b : Int} (h : 0 < b) : ((a : Rat) / (b : Rat)).num = a / (Int.gcd a b : Int) := by
  rw [← Rat.divInt_eq_div, Rat.num_divInt]
  have hs : b.sign = 1 := Int.sign_eq_one_of_pos h
  rw [hs, Int.one_mul, Int.gcd_comm]
theorem low_den {a b : Int} (h : 0 < b) : (((a : Rat) / (b : Rat)).den : Int) = b / (Int.gcd a b : Int) := by
  rw [← Rat.divInt_eq_div, Rat.den_divInt]
  rw [if_neg (by omega)]
  obtain ⟨n, rfl⟩ := Int.eq_ofNat_of_zero_le (Int.le_of_lt h)
  rw [Int.gcd_comm]
  show (((n : Int).natAbs / Int.gcd a n : Nat) : Int) = _
  rw [Int.natAbs_natCast, Int.natCast_ediv]
/-! ### what the defs promise -/
def sp_common (K : PySem.W.Frag) : Sp := sp2 IsI IsI (fun _ _ => True) fun a b => IsI (Int.gcd a b : Int)
def sp_ratio (K : PySem.W.Frag) : Sp := sp2 IsI IsI (fun _ b => b ≠ 0) fun a b => IsF K ((a : Rat) / (b : Rat))
def sp_plus (K : PySem.W.Frag) : Sp := sp2 (IsF K) (IsF K) (fun x y => FitF x ∧ FitF y) fun x y => IsF K (x + y)
def sp_minus (K : PySem.W.Frag) : Sp := sp2 (IsF K) (IsF K) (fun x y => FitF x ∧ FitF y) fun x y => IsF K (x - y)
def sp_times (K : PySem.W.Frag) : Sp := sp2 (IsF K) (IsF K) (fun x y => FitF x ∧ FitF y) fun x y => IsF K (x * y)
def sp_over (K : PySem.W.Frag) : Sp := sp2 (IsF K) (IsF K) (fun x y => FitF x ∧ FitF y ∧ y ≠ 0) fun x y => IsF K (x / y)
def sp_total (K : PySem.W.Frag) : Sp := sp1 (IsL (IsF K)) FitS fun xs => IsF K (qs xs)
def sp_joined (K : PySem.W.Frag) : Sp := sp2 (IsS K (IsF K)) (IsS K (IsF K)) FitD fun xs ys => IsF K (gdot xs ys)
abbrev st_common := top 45
theorem sc_common : FnScope ["high", "low"] ["high", "low"] (defScope st_common) := ⟨rfl, rfl, rfl, by decide +kernel, rfl, by decide +kernel, by decide +kernel⟩
def t_common (K : PySem.W.Frag) : TS := (tSeq (tPar 0 1 (tCons (tCB rAbs (tCons (tVar 0) tNil)) (tCons (tCB rAbs (tCons (tVar 1) tNil)) tNil)))
    (tSeq (tWhile (tTest (tOp rGtI (tVar 1) (tC (.int 0)))) (tPar 0 1 (tCons (tVar 1) (tCons (tOp rModI (tVar 0) (tVar 1)) tNil))))
    (tRet (tVar 0))))
theorem ps_common {P : Program} {w : World} {K : PySem.W.Frag} {mg : Str → Option Value} {base : Heap} (T : Txt P K mg base) : Hps P w K mg base 0 "common" st_common ["high", "low"] (t_common K) := fun f cdv A outer s H E hr =>
  (pss_cons (ps_par (i := 0) (j := 1) rfl sc_common.nd rfl rfl (by decide) rfl rfl (pa_cons (pe_callB call_abs (by rfl) T.f_abs (by decide +kernel) (pa_cons (pv 0) pa_nil)) (pa_cons (pe_callB call_abs (by rfl) T.f_abs (by decide +kernel) (pa_cons (pv 1) pa_nil)) pa_nil)) (by rfl))
    (pss_cons (ps_while PassesOwn.never (pt_cmpR op_gt (pv 1) pe_int (nomark _)) (pss_one (ps_par (i := 0) (j := 1) rfl sc_common.nd rfl rfl (by decide) rfl rfl (pa_cons (pv 1) (pa_cons (pe_op op_mod (pv 0) (pv 1)) pa_nil)) (by rfl))))
    (pss_one (ps_ret (pv 0)))))
abbrev st_ratio := top 46
theorem sc_ratio : FnScope ["top", "bottom", "same"] ["top", "bottom"] (defScope st_ratio) := ⟨rfl, rfl, rfl, by decide +kernel, rfl, by decide +kernel, by decide +kernel⟩
def t_ratio (K : PySem.W.Frag) : TS := (tSeq (tIfS (tTest (tOp rLtI (tVar 1) (tC (.int 0)))) (tPar 0 1 (tCons (tUn uNeg (tVar 0)) (tCons (tUn uNeg (tVar 1)) tNil))) tNext)
    (tSeq (tAsg (tCall (sp_common K) [] E0 (tCons (tVar 0) (tCons (tVar 1) tNil))) (gName 2))
    (tRet (tTup (tCons (tOp rDivP (tVar 0) (tVar 2)) (tCons (tOp rDivP (tVar 1) (tVar 2)) tNil))))))
theorem ps_ratio {P : Program} {w : World} {K : PySem.W.Frag} {mg : Str → Option Value} {base : Heap} (T : Txt P K mg base) (c_common : C8.Cal P w K mg base 1 "common" (sp_common K) []) : Hps P w K mg base 33 "ratio" st_ratio ["top", "bottom", "same"] (t_ratio K) := fun f cdv A outer s H E hr =>
  (pss_cons (ps_if (pt_cmpR op_lt (pv 1) pe_int (nomark _)) (pss_one (ps_par (i := 0) (j := 1) rfl sc_ratio.nd rfl rfl (by decide) rfl rfl (pa_cons (pe_un un_neg (pv 0)) (pa_cons (pe_un un_neg (pv 1)) pa_nil)) (by rfl))) pss_nil)
    (pss_cons (ps_set (i := 2) sc_ratio.nd rfl (Or.inl rfl) (C8.pe_c c_common hr (by decide) rfl (pa_cons (pv 0) (pa_cons (pv 1) pa_nil))))
    (pss_one (ps_ret (pe_tup (pa_cons (pe_op (op_fdivP T.seer T.tree rfl rfl rfl rfl rfl (hr.mono (by decide))) (pv 0) (pv 2)) (pa_cons (pe_op (op_fdivP T.seer T.tree rfl rfl rfl rfl rfl (hr.mono (by decide))) (pv 1) (pv 2)) pa_nil)))))))
abbrev st_plus := top 47
theorem sc_plus : FnScope ["one", "other"] ["one", "other"] (defScope st_plus) := ⟨rfl, rfl, rfl, by decide +kernel, rfl, by decide +kernel, by decide +kernel⟩
def t_plus (K : PySem.W.Frag) : TS := (tRet (tCall (sp_ratio K) [] E0 (tCons (tOp rAddI (tOp rMulI (tOp (rIxT K) (tVar 0) (tC (.int 0))) (tOp (rIxT K) (tVar 1) (tC (.int 1)))) (tOp rMulI (tOp (rIxT K) (tVar 1) (tC (.int 0))) (tOp (rIxT K) (tVar 0) (tC (.int 1))))) (tCons (tOp rMulI (tOp (rIxT K) (tVar 0) (tC (.int 1))) (tOp (rIxT K) (tVar 1) (tC (.int 1)))) tNil))))
theorem ps_plus {P : Program} {w : World} {K : PySem.W.Frag} {mg : Str → Option Value} {base : Heap} (T : Txt P K mg base) (c_ratio : C8.Cal P w K mg base 34 "ratio" (sp_ratio K) []) : Hps P w K mg base 34 "plus" st_plus ["one", "other"] (t_plus K) := fun f cdv A outer s H E hr =>
  (pss_one (ps_ret (C8.pe_c c_ratio hr (by decide) rfl (pa_cons (pe_op op_add (pe_op op_mulB (pe_ix ix_tup (pv 0) pe_int (fun _ _ => rfl)) (pe_ix ix_tup (pv 1) pe_int (fun _ _ => rfl))) (pe_op op_mulB (pe_ix ix_tup (pv 1) pe_int (fun _ _ => rfl)) (pe_ix ix_tup (pv 0) pe_int (fun _ _ => rfl)))) (pa_cons (pe_op op_mulB (pe_ix ix_tup (pv 0) pe_int (fun _ _ => rfl)) (pe_ix ix_tup (pv 1) pe_int (fun _ _ => rfl))) pa_nil)))))
abbrev st_minus := top 48
theorem sc_minus : FnScope ["one", "other"] ["one", "other"] (defScope st_minus) := ⟨rfl, rfl, rfl, by decide +kernel, rfl, by decide +kernel, by decide +kernel⟩
def t_minus (K : PySem.W.Frag) : TS := (tRet (tCall (sp_ratio K) [] E0 (tCons (tOp rSubI (tOp rMulI (tOp (rIxT K) (tVar 0) (tC (.int 0))) (tOp (rIxT K) (tVar 1) (tC (.int 1)))) (tOp rMulI (tOp (rIxT K) (tVar 1) (tC (.int 0))) (tOp (rIxT K) (tVar 0) (tC (.int 1))))) (tCons (tOp rMulI (tOp (rIxT K) (tVar 0) (tC (.int 1))) (tOp (rIxT K) (tVar 1) (tC (.int 1)))) tNil))))
theorem ps_minus {P : Program} {w : World} {K : PySem.W.Frag} {mg : Str → Option Value} {base : Heap} (T : Txt P K mg base) (c_ratio : C8.Cal P w K mg base 34 "ratio" (sp_ratio K) []) : Hps P w K mg base 34 "minus" st_minus ["one", "other"] (t_minus K) := fun f cdv A outer s H E hr =>
  (pss_one (ps_ret (C8.pe_c c_ratio hr (by decide) rfl (pa_cons (pe_op op_sub (pe_op op_mulB (pe_ix ix_tup (pv 0) pe_int (fun _ _ => rfl)) (pe_ix ix_tup (pv 1) pe_int (fun _ _ => rfl))) (pe_op op_mulB (pe_ix ix_tup (pv 1) pe_int (fun _ _ => rfl)) (pe_ix ix_tup (pv 0) pe_int (fun _ _ => rfl)))) (pa_cons (pe_op op_mulB (pe_ix ix_tup (pv 0) pe_int (fun _ _ => rfl)) (pe_ix ix_tup (pv 1) pe_int (fun _ _ => rfl))) pa_nil)))))
abbrev st_times := top 49
theorem sc_times : FnScope ["one", "other"] ["one", "other"] (defScope st_times) := ⟨rfl, rfl, rfl, by decide +kernel, rfl, by decide +kernel, by decide +kernel⟩
def t_times (K : PySem.W.Frag) : TS := (tRet (tCall (sp_ratio K) [] E0 (tCons (tOp rMulI (tOp (rIxT K) (tVar 0) (tC (.int 0))) (tOp (rIxT K) (tVar 1) (tC (.int 0)))) (tCons (tOp rMulI (tOp (rIxT K) (tVar 0) (tC (.int 1))) (tOp (rIxT K) (tVar 1) (tC (.int 1)))) tNil))))
theorem ps_times {P : Program} {w : World} {K : PySem.W.Frag} {mg : Str → Option Value} {base : Heap} (T : Txt P K mg base) (c_ratio : C8.Cal P w K mg base 34 "ratio" (sp_ratio K) []) : Hps P w K mg base 34 "times" st_times ["one", "other"] (t_times K) := fun f cdv A outer s H E hr =>
  (pss_one (ps_ret (C8.pe_c c_ratio hr (by decide) rfl (pa_cons (pe_op op_mulB (pe_ix ix_tup (pv 0) pe_int (fun _ _ => rfl)) (pe_ix ix_tup (pv 1) pe_int (fun _ _ => rfl))) (pa_cons (pe_op op_mulB (pe_ix ix_tup (pv 0) pe_int (fun _ _ => rfl)) (pe_ix ix_tup (pv 1) pe_int (fun _ _ => rfl))) pa_nil)))))
abbrev st_over := top 50
theorem sc_over : FnScope ["one", "other"] ["one", "other"] (defScope st_over) := ⟨rfl, rfl, rfl, by decide +kernel, rfl, by decide +kernel, by decide +kernel⟩
def t_over (K : PySem.W.Frag) : TS := (tRet (tCall (sp_ratio K) [] E0 (tCons (tOp rMulI (tOp (rIxT K) (tVar 0) (tC (.int 0))) (tOp (rIxT K) (tVar 1) (tC (.int 1)))) (tCons (tOp rMulI (tOp (rIxT K) (tVar 0) (tC (.int 1))) (tOp (rIxT K) (tVar 1) (tC (.int 0)))) tNil))))
theorem ps_over {P : Program} {w : World} {K : PySem.W.Frag} {mg : Str → Option Value} {base : Heap} (T : Txt P K mg base) (c_ratio : C8.Cal P w K mg base 34 "ratio" (sp_ratio K) []) : Hps P w K mg base 34 "over" st_over ["one", "other"] (t_over K) := fun f cdv A outer s H E hr =>
  (pss_one (ps_ret (C8.pe_c c_ratio hr (by decide) rfl (pa_cons (pe_op op_mulB (pe_ix ix_tup (pv 0) pe_int (fun _ _ => rfl)) (pe_ix ix_tup (pv 1) pe_int (fun _ _ => rfl))) (pa_cons (pe_op op_mulB (pe_ix ix_tup (pv 0) pe_int (fun _ _ => rfl)) (pe_ix ix_tup (pv 1) pe_int (fun _ _ => rfl))) pa_nil)))))
abbrev st_total := top 51
theorem sc_total : FnScope ["rows", "found", "one"] ["rows"] (defScope st_total) := ⟨rfl, rfl, rfl, by decide +kernel, rfl, by decide +kernel, by decide +kernel⟩
def t_total (K : PySem.W.Frag) : TS := (tSeq (tAsg (tC (.ref (He.ga K "NONE"))) (gName 1))
    (tSeq (tFor (iList K (tVar 0)) (gName 2)
    (tAsg (tCall (sp_plus K) [] E0 (tCons (tVar 1) (tCons (tVar 2) tNil))) (gName 1)))
    (tRet (tVar 1))))
theorem ps_total {P : Program} {w : World} {K : PySem.W.Frag} {mg : Str → Option Value} {base : Heap} (T : Txt P K mg base) (c_plus : C8.Cal P w K mg base 35 "plus" (sp_plus K) []) : Hps P w K mg base 35 "total" st_total ["rows", "found", "one"] (t_total K) := fun f cdv A outer s H E hr =>
  (pss_cons (ps_set (i := 1) sc_total.nd rfl (Or.inl rfl) (C8.pe_gc rfl T.NONE))
    (pss_cons (ps_for PassesOwn.never rfl (pi_list (pv 0)) (pg_name (i := 2) sc_total.nd rfl (Or.inl rfl))
    (pss_one (ps_set (i := 1) sc_total.nd rfl (Or.inl rfl) (C8.pe_c c_plus hr (by decide) rfl (pa_cons (pv 1) (pa_cons (pv 2) pa_nil))))))
    (pss_one (ps_ret (pv 1)))))
abbrev st_joined := top 52
theorem sc_joined : FnScope ["rows", "others", "one", "other"] ["rows", "others"] (defScope st_joined) := ⟨rfl, rfl, rfl, by decide +kernel, rfl, by decide +kernel, by decide +kernel⟩
def t_joined (K : PySem.W.Frag) : TS := (tRet (tCall (sp_total K) [] E0 (tCons (tLc (iZipX K (tCons (tVar 0) (tCons (tVar 1) tNil))) (gTup K 2 (gCons (gName 2) (gCons (gName 3) gNil))) tYes (tCall (sp_times K) [] E0 (tCons (tVar 2) (tCons (tVar 3) tNil))) [2, 3]) tNil)))
theorem ps_joined {P : Program} {w : World} {K : PySem.W.Frag} {mg : Str → Option Value} {base : Heap} (T : Txt P K mg base) (c_total : C8.Cal P w K mg base 36 "total" (sp_total K) []) (c_times : C8.Cal P w K mg base 35 "times" (sp_times K) []) : Hps P w K mg base 36 "joined" st_joined ["rows", "others", "one", "other"] (t_joined K) := fun f cdv A outer s H E hr =>
  (pss_one (ps_ret (C8.pe_c c_total hr (by decide) rfl (pa_cons (pe_lc (own := [("one", 2), ("other", 3)]) (g := (gTup K 2 (gCons (gName 2) (gCons (gName 3) gNil)))) (tt := tYes) rfl sc_joined.nd (pi_zipX rfl T.f_zip (pa_cons (pv 0) (pa_cons (pv 1) pa_nil))) (blkOk_by (by rfl)) (fun _ _ _ _ _ => (pg_tup rfl (pgs_cons (pg_name (i := 2) sc_joined.nd rfl (Or.inl rfl)) (pgs_cons (pg_name (i := 3) sc_joined.nd rfl (Or.inl rfl)) pgs_nil)))) (fun _ _ _ _ _ => pts_nil) (fun _ _ _ _ _ => (C8.pe_c c_times hr (by decide) rfl (pa_cons (pv 2) (pa_cons (pv 3) pa_nil))))) pa_nil))))
section
variable {P : Program} {w : World} {K : PySem.W.Frag} {mg : Str → Option Value} {base : Heap}
theorem cal_common (D : Dd K mg "common" st_common) (T : Txt P K mg base) : C8.Cal P w K mg base 1 "common" (sp_common K) [] :=
  cal2 D sc_common (fun _ _ _ _ _ _ us hl => match us, hl with | [_, _], _ => rfl) (ps_common T) fun G a b x y hx hy _ => by
    have hx : x = .int a := hx
    have hy : y = .int b := hy
    subst hx hy
    refine sq_par (ep_abs (ep_v rfl)) (ep_abs (ep_v rfl)) fun v w G2 e pv pw => ?_
    have pv : v = .int _ := pv
    have pw : w = .int _ := pw
    subst pv pw
    refine es_seq (N1 := fun σ _ => σ = [some (.int (Int.gcd a b : Int)), some (.int 0)]) (es_while (fun m σ _ => ∃ c d : Nat, σ = [some (.int c), some (.int d)] ∧ Nat.gcd c d = Int.gcd a b ∧ d = m) ⟨_, _, rfl, rfl, rfl⟩ (fun _ _ _ _ _ h => h) ?_) ?_
    · rintro m σ1 G1 ⟨c, d, rfl, hg, rfl⟩
      refine ⟨_, et_test (ep_gt (ep_v rfl) ep_c), fun h => ?_, fun h => ?_⟩
      · have h0 : (0 : Int) < d := of_decide_eq_true h
        refine es_par (ep_v rfl) (ep_mod (ep_v rfl) (ep_v rfl) h0) fun v w G2 e pv pw => ?_
        have pv : v = .int _ := pv
        have pw : w = .int _ := pw
        subst pv pw
        refine ⟨c % d, Nat.mod_lt _ (by omega), d, c % d, rfl, ?_, rfl⟩
        rw [← hg, Nat.gcd_comm c d, Nat.gcd_comm d (c % d)]
        exact (Nat.gcd_rec d c).symm
      · have h0 : ¬ (0 : Int) < d := of_decide_eq_false h
        have : d = 0 := by omega
        subst this
        intro G2 _
        rw [Nat.gcd_zero_right] at hg
        rw [hg] <;> rfl
    · rintro σ2 G2 _ rfl
      exact es_ret (ep_v rfl)
theorem cal_ratio (D : Dd K mg "ratio" st_ratio) (T : Txt P K mg base) (c1 : C8.Cal P w K mg base 1 "common" (sp_common K) []) : C8.Cal P w K mg base 34 "ratio" (sp_ratio K) [] :=
  cal2 D sc_ratio (fun _ _ _ _ _ _ us hl => match us, hl with | [_, _], _ => rfl) (ps_ratio T c1) fun G a b x y hx hy hb => by
    have hx : x = .int a := hx
    have hy : y = .int b := hy
    subst hx hy
    have key : ∀ (a b : Int) (σ : L2.St) (G : Hp) N, 0 < b → σ = [some (.int a), some (.int b), none] → Es (tSeq (tAsg (tCall (sp_common K) [] E0 (tCons (tVar 0) (tCons (tVar 1) tNil))) (gName 2)) (tRet (tTup (tCons (tOp rDivP (tVar 0) (tVar 2)) (tCons (tOp rDivP (tVar 1) (tVar 2)) tNil))))) σ G (IsF K ((a : Rat) / (b : Rat))) N := by
      rintro a b σ G N h rfl
      have g0 : 0 < (Int.gcd a b : Int) := by
        have := Int.gcd_pos_of_ne_zero_right a (by omega : b ≠ 0)
        omega
      refine sq_asg (ep_call2 a b (ep_v rfl) (ep_v rfl) trivial) fun v G2 _ pv => ?_
      have pv : v = .int _ := pv
      subst pv
      exact es_ret (ep_frac ((ep_divP (ep_v rfl) (ep_v rfl) g0).is (by rw [low_num h])) ((ep_divP (ep_v rfl) (ep_v rfl) g0).is (by rw [low_den h])))
    refine sq_if (et_test (ep_lt (ep_v rfl) ep_c)) (fun h => ?_) fun h => ?_
    · have h0 : b < 0 := of_decide_eq_true h
      refine sq_par (ep_neg (ep_v rfl)) (ep_neg (ep_v rfl)) fun v w G2 e pv pw => ?_
      have pv : v = .int _ := pv
      have pw : w = .int _ := pw
      subst pv pw
      have q := key (-a) (-b) [some (.int (-a)), some (.int (-b)), none] G2 (fun _ G' => IsF K ((a : Rat) / (b : Rat)) .non G') (by omega) rfl
      have e2 : ((-a : Int) : Rat) / ((-b : Int) : Rat) = (a : Rat) / (b : Rat) := by
        have hb0 : (b : Rat) ≠ 0 := by
          intro z
          have : b = 0 := by exact_mod_cast z
          omega
        rw [Rat.intCast_neg, Rat.intCast_neg]
        generalize (b : Rat) = d at *
        generalize (a : Rat) = n at *
        grind
      rw [e2] at q
      exact q
    · have h0 : ¬ b < 0 := of_decide_eq_false h
      exact sq_next (key a b _ G _ (by have : b ≠ 0 := hb; omega) rfl)
theorem q_add (x y : Rat) : ((x.num * (y.den : Int) + y.num * (x.den : Int) : Int) : Rat) / (((x.den : Int) * (y.den : Int) : Int) : Rat) = x + y := by
  have hx := Rat.num_divInt_den x
  have hy := Rat.num_divInt_den y
  rw [Rat.divInt_eq_div] at hx hy
  have dx : ((x.den : Int) : Rat) ≠ 0 := by
    have := x.den_nz
    simp [this]
  have dy : ((y.den : Int) : Rat) ≠ 0 := by
    have := y.den_nz
    simp [this]
  rw [Rat.intCast_add, Rat.intCast_mul, Rat.intCast_mul, Rat.intCast_mul]
  generalize ((x.den : Int) : Rat) = d at *
  generalize ((y.den : Int) : Rat) = e at *
  generalize ((x.num : Int) : Rat) = n at *
  generalize ((y.num : Int) : Rat) = m at *
  grind
theorem q_sub (x y : Rat) : ((x.num * (y.den : Int) - y.num * (x.den : Int) : Int) : Rat) / (((x.den : Int) * (y.den : Int) : Int) : Rat) = x - y := by
  have hx := Rat.num_divInt_den x
  have hy := Rat.num_divInt_den y
  rw [Rat.divInt_eq_div] at hx hy
  have dx : ((x.den : Int) : Rat) ≠ 0 := by
    have := x.den_nz
    simp [this]
  have dy : ((y.den : Int) : Rat) ≠ 0 := by
    have := y.den_nz
    simp [this]
  rw [Rat.intCast_sub, Rat.intCast_mul, Rat.intCast_mul, Rat.intCast_mul]
  generalize ((x.den : Int) : Rat) = d at *
  generalize ((y.den : Int) : Rat) = e at *
  generalize ((x.num : Int) : Rat) = n at *
  generalize ((y.num : Int) : Rat) = m at *
  grind
theorem q_mul (x y : Rat) : ((x.num * y.num : Int) : Rat) / (((x.den : Int) * (y.den : Int) : Int) : Rat) = x * y := by
  have hx := Rat.num_divInt_den x
  have hy := Rat.num_divInt_den y
  rw [Rat.divInt_eq_div] at hx hy
  have dx : ((x.den : Int) : Rat) ≠ 0 := by
    have := x.den_nz
    simp [this]
  have dy : ((y.den : Int) : Rat) ≠ 0 := by
    have := y.den_nz
    simp [this]
  rw [Rat.intCast_mul, Rat.intCast_mul]
  generalize ((x.den : Int) : Rat) = d at *
  generalize ((y.den : Int) : Rat) = e at *
  generalize ((x.num : Int) : Rat) = n at *
  generalize ((y.num : Int) : Rat) = m at *
  grind
theorem q_div (x y : Rat) (hy0 : y ≠ 0) : ((x.num * (y.den : Int) : Int) : Rat) / (((x.den : Int) * y.num : Int) : Rat) = x / y := by
  have hx := Rat.num_divInt_den x
  have hy := Rat.num_divInt_den y
  rw [Rat.divInt_eq_div] at hx hy
  have dx : ((x.den : Int) : Rat) ≠ 0 := by
    have := x.den_nz
    simp [this]
  have dy : ((y.den : Int) : Rat) ≠ 0 := by
    have := y.den_nz
    simp [this]
  rw [Rat.intCast_mul, Rat.intCast_mul]
  generalize ((x.den : Int) : Rat) = d at *
  generalize ((y.den : Int) : Rat) = e at *
  generalize ((x.num : Int) : Rat) = n at *
  generalize ((y.num : Int) : Rat) = m at *
  grind
theorem den_ne (x y : Rat) : (x.den : Int) * (y.den : Int) ≠ 0 := by
  have a := x.den_nz
  have b := y.den_nz
  intro h
  rcases Int.mul_eq_zero.mp h with h | h <;> omega
theorem cal_plus (D : Dd K mg "plus" st_plus) (T : Txt P K mg base) (c1 : C8.Cal P w K mg base 34 "ratio" (sp_ratio K) []) : C8.Cal P w K mg base 35 "plus" (sp_plus K) [] :=
  cal2 D sc_plus (fun _ _ _ _ _ _ us hl => match us, hl with | [_, _], _ => rfl) (ps_plus T c1) fun G a b x y hx hy hf => by
    have h := ep_call2 (E := E0) (P1 := IsI) (P2 := IsI) (C := fun _ b => b ≠ 0) (B := fun a b => IsF K ((a : Rat) / (b : Rat))) _ _ (ep_add (ep_mul (ep_num (ep_var (σ := start ["one", "other"] [x, y]) (i := 0) rfl hx)) (ep_den (ep_var (i := 1) rfl hy)) (fit_mul hf.1.1 hf.2.2)) (ep_mul (ep_num (ep_var (i := 1) rfl hy)) (ep_den (ep_var (i := 0) rfl hx)) (fit_mul hf.2.1 hf.1.2)))
      (ep_mul (ep_den (ep_var (i := 0) rfl hx)) (ep_den (ep_var (i := 1) rfl hy)) (fit_mul hf.1.2 hf.2.2)) (den_ne a b)
    rw [q_add] at h
    exact es_ret h
theorem cal_minus (D : Dd K mg "minus" st_minus) (T : Txt P K mg base) (c1 : C8.Cal P w K mg base 34 "ratio" (sp_ratio K) []) : C8.Cal P w K mg base 35 "minus" (sp_minus K) [] :=
  cal2 D sc_minus (fun _ _ _ _ _ _ us hl => match us, hl with | [_, _], _ => rfl) (ps_minus T c1) fun G a b x y hx hy hf => by
    have h := ep_call2 (E := E0) (P1 := IsI) (P2 := IsI) (C := fun _ b => b ≠ 0) (B := fun a b => IsF K ((a : Rat) / (b : Rat))) _ _ (ep_sub (ep_mul (ep_num (ep_var (σ := start ["one", "other"] [x, y]) (i := 0) rfl hx)) (ep_den (ep_var (i := 1) rfl hy)) (fit_mul hf.1.1 hf.2.2)) (ep_mul (ep_num (ep_var (i := 1) rfl hy)) (ep_den (ep_var (i := 0) rfl hx)) (fit_mul hf.2.1 hf.1.2)))
      (ep_mul (ep_den (ep_var (i := 0) rfl hx)) (ep_den (ep_var (i := 1) rfl hy)) (fit_mul hf.1.2 hf.2.2)) (den_ne a b)
    rw [q_sub] at h
    exact es_ret h
theorem cal_times (D : Dd K mg "times" st_times) (T : Txt P K mg base) (c1 : C8.Cal P w K mg base 34 "ratio" (sp_ratio K) []) : C8.Cal P w K mg base 35 "times" (sp_times K) [] :=
  cal2 D sc_times (fun _ _ _ _ _ _ us hl => match us, hl with | [_, _], _ => rfl) (ps_times T c1) fun G a b x y hx hy hf => by
    have h := ep_call2 (E := E0) (P1 := IsI) (P2 := IsI) (C := fun _ b => b ≠ 0) (B := fun a b => IsF K ((a : Rat) / (b : Rat))) _ _ (ep_mul (ep_num (ep_var (σ := start ["one", "other"] [x, y]) (i := 0) rfl hx)) (ep_num (ep_var (i := 1) rfl hy)) (fit_mul hf.1.1 hf.2.1))
      (ep_mul (ep_den (ep_var (i := 0) rfl hx)) (ep_den (ep_var (i := 1) rfl hy)) (fit_mul hf.1.2 hf.2.2)) (den_ne a b)
    rw [q_mul] at h
    exact es_ret h
theorem cal_over (D : Dd K mg "over" st_over) (T : Txt P K mg base) (c1 : C8.Cal P w K mg base 34 "ratio" (sp_ratio K) []) : C8.Cal P w K mg base 35 "over" (sp_over K) [] :=
  cal2 D sc_over (fun _ _ _ _ _ _ us hl => match us, hl with | [_, _], _ => rfl) (ps_over T c1) fun G a b x y hx hy hf => by
    have hn : (a.den : Int) * b.num ≠ 0 := by
      intro h
      rcases Int.mul_eq_zero.mp h with h | h
      · have := a.den_nz
        omega
      · exact hf.2.2 (Rat.num_eq_zero.mp h)
    have h := ep_call2 (E := E0) (P1 := IsI) (P2 := IsI) (C := fun _ b => b ≠ 0) (B := fun a b => IsF K ((a : Rat) / (b : Rat))) _ _ (ep_mul (ep_num (ep_var (σ := start ["one", "other"] [x, y]) (i := 0) rfl hx)) (ep_den (ep_var (i := 1) rfl hy)) (fit_mul hf.1.1 hf.2.1.2))
      (ep_mul (ep_den (ep_var (i := 0) rfl hx)) (ep_num (ep_var (i := 1) rfl hy)) (fit_mul hf.1.2 hf.2.1.1)) hn
    rw [q_div _ _ hf.2.2] at h
    exact es_ret h
theorem isNONE (T : Txt P K mg base) {G : Hp} : IsF K 0 (.ref (He.ga K "NONE")) G := ⟨_, rfl, T.tNONE G⟩
theorem isONE (T : Txt P K mg base) {G : Hp} : IsF K 1 (.ref (He.ga K "ONE")) G := ⟨_, rfl, T.tONE G⟩
theorem cal_total (D : Dd K mg "total" st_total) (T : Txt P K mg base) (c1 : C8.Cal P w K mg base 35 "plus" (sp_plus K) []) : C8.Cal P w K mg base 36 "total" (sp_total K) [] :=
  cal1 D sc_total (fun _ _ _ _ _ _ us hl => match us, hl with | [_], _ => rfl) (ps_total T c1) fun G xs x hx hf => by
    refine sq_asg (ep_cP (P := IsF K 0) (isNONE T)) fun v G2 e pv => ?_
    refine es_seq (N1 := fun σ G => ∃ v u, σ = [some x, some v, u] ∧ IsF K (qs xs) v G) (es_for (it_list (F := IsF K) (xs := xs) (ep_var (i := 0) rfl (up e hx))) (fun i σ G => ∃ v u, σ = [some x, some v, u] ∧ IsF K (qs (xs.take i)) v G) ⟨v, none, rfl, pv⟩ (fun i σ G G' s ⟨v, u, h, p⟩ => ⟨v, u, h, up s p⟩) ?_ ?_) ?_
    · rintro i y v1 σ1 G1 hy s1 ⟨v, u, rfl, p⟩ f
      refine ⟨_, gb_name, es_asg (ep_call2 (qs (xs.take i)) y (ep_var (i := 1) rfl p) (ep_var (i := 2) rfl f) ⟨hf.2 i, hf.1 y (List.mem_of_getElem? hy)⟩) fun v2 G2 e2 p2 => ⟨v2, some v1, rfl, ?_⟩⟩
      have e3 : xs.take (i + 1) = xs.take i ++ [y] := by
        rw [List.take_add_one, hy]
        rfl
      rw [e3, qs_snoc]
      exact p2
    · rintro σ1 G1 s1 ⟨v, u, rfl, p⟩
      rw [List.take_length] at p
      exact ⟨v, u, rfl, p⟩
    · rintro σ2 G3 s3 ⟨v, u, rfl, p⟩
      exact es_ret (ep_var (i := 1) rfl p)
theorem cal_joined (D : Dd K mg "joined" st_joined) (T : Txt P K mg base) (c1 : C8.Cal P w K mg base 36 "total" (sp_total K) []) (c2 : C8.Cal P w K mg base 35 "times" (sp_times K) []) : C8.Cal P w K mg base 37 "joined" (sp_joined K) [] :=
  cal2 D sc_joined (fun _ _ _ _ _ _ us hl => match us, hl with | [_, _], _ => rfl) (ps_joined T c1 c2) fun G xs ys x y hx hy hf => by
    refine es_ret (ep_call1 (prods xs ys) (ep_lm (F := IsP K (IsF K) (IsF K)) (xs := xs.zip ys) (fun p => p.1 * p.2) (it_zip (ep_var (i := 0) rfl hx) (ep_var (i := 1) rfl hy)) (by rw [List.length_zip]; exact Nat.le_trans (Nat.min_le_left _ _) hf.2.2.2) ?_) hf.2.2.1)
    · rintro i ⟨a, b⟩ v G2 hi s ⟨p, v1, v2, rfl, h1, h2, h3⟩
      have hz := List.getElem?_zip_eq_some.mp hi
      exact ⟨_, gb_pair h1, rfl, ep_call2 a b (ep_var (i := 2) rfl h2) (ep_var (i := 3) rfl h3) ⟨hf.1 a (List.mem_of_getElem? hz.1), hf.2.1 b (List.mem_of_getElem? hz.2)⟩⟩
end
end Bt
/-! ==== W6 ==== -/
set_option Elab.async false
set_option linter.all false
set_option maxRecDepth 100000
set_option maxHeartbeats 2000000
/-! The law's own arithmetic of fractions. -/
namespace Bt
open PySem PySem.Spec PyProof.Rows L2
def sp__law_gcd (K : PySem.W.Frag) : Sp := sp2 IsI IsI (fun _ _ => True) fun a b => IsI (Int.gcd a b : Int)
def sp__law_low (K : PySem.W.Frag) : Sp := sp2 IsI IsI (fun _ b => b ≠ 0) fun a b => IsF K ((a : Rat) / (b : Rat))
def sp__law_plus (K : PySem.W.Frag) : Sp := sp2 (IsF K) (IsF K) (fun x y => FitF x ∧ FitF y) fun x y => IsF K (x + y)
def sp__law_less (K : PySem.W.Frag) : Sp := sp2 (IsF K) (IsF K) (fun x y => FitF x ∧ FitF y) fun x y => IsF K (x - y)
def sp__law_mult (K : PySem.W.Frag) : Sp := sp2 (IsF K) (IsF K) (fun x y => FitF x ∧ FitF y) fun x y => IsF K (x * y)
def sp__law_dot (K : PySem.W.Frag) : Sp := sp2 (IsS K (IsF K)) (IsS K (IsF K)) FitD fun xs ys => IsF K (gdot xs ys)
abbrev st__law_gcd := top 83
theorem sc__law_gcd : FnScope ["_law_one", "_law_two"] ["_law_one", "_law_two"] (defScope st__law_gcd) := ⟨rfl, rfl, rfl, by decide +kernel, rfl, by decide +kernel, by decide +kernel⟩
def t__law_gcd (K : PySem.W.Frag) : TS := (tSeq (tPar 0 1 (tCons (tCB rAbs (tCons (tVar 0) tNil)) (tCons (tCB rAbs (tCons (tVar 1) tNil)) tNil)))
    (tSeq (tWhile (tTest (tOp rGtI (tVar 1) (tC (.int 0)))) (tPar 0 1 (tCons (tVar 1) (tCons (tOp rModI (tCB rInt1 (tCons (tVar 0) tNil)) (tVar 1)) tNil))))
    (tRet (tVar 0))))
theorem ps__law_gcd {P : Program} {w : World} {K : PySem.W.Frag} {mg : Str → Option Value} {base : Heap} (T : Txt P K mg base) : Hps P w K mg base 0 "_law_gcd" st__law_gcd ["_law_one", "_law_two"] (t__law_gcd K) := fun f cdv A outer s H E hr =>
  (pss_cons (ps_par (i := 0) (j := 1) rfl sc__law_gcd.nd rfl rfl (by decide) rfl rfl (pa_cons (pe_callB call_abs (by rfl) T.f_abs (by decide +kernel) (pa_cons (pv 0) pa_nil)) (pa_cons (pe_callB call_abs (by rfl) T.f_abs (by decide +kernel) (pa_cons (pv 1) pa_nil)) pa_nil)) (by rfl))
    (pss_cons (ps_while PassesOwn.never (pt_cmpR op_gt (pv 1) pe_int (nomark _)) (pss_one (ps_par (i := 0) (j := 1) rfl sc__law_gcd.nd rfl rfl (by decide) rfl rfl (pa_cons (pv 1) (pa_cons (pe_op op_mod (pe_callTy call_int1 (by rfl) T.f_int (by decide +kernel) (pa_cons (pv 0) pa_nil)) (pv 1)) pa_nil)) (by rfl))))
    (pss_one (ps_ret (pv 0)))))
abbrev st__law_low := top 84
theorem sc__law_low : FnScope ["_law_top", "_law_bottom", "_law_same"] ["_law_top", "_law_bottom"] (defScope st__law_low) := ⟨rfl, rfl, rfl, by decide +kernel, rfl, by decide +kernel, by decide +kernel⟩
def t__law_low (K : PySem.W.Frag) : TS := (tSeq (tIfS (tTest (tOp rLtI (tVar 1) (tC (.int 0)))) (tPar 0 1 (tCons (tUn uNeg (tVar 0)) (tCons (tUn uNeg (tVar 1)) tNil))) tNext)
    (tSeq (tAsg (tCall (sp__law_gcd K) [] E0 (tCons (tVar 0) (tCons (tVar 1) tNil))) (gName 2))
    (tRet (tTup (tCons (tOp rDivP (tVar 0) (tVar 2)) (tCons (tOp rDivP (tVar 1) (tVar 2)) tNil))))))
theorem ps__law_low {P : Program} {w : World} {K : PySem.W.Frag} {mg : Str → Option Value} {base : Heap} (T : Txt P K mg base) (c__law_gcd : C8.Cal P w K mg base 1 "_law_gcd" (sp__law_gcd K) []) : Hps P w K mg base 33 "_law_low" st__law_low ["_law_top", "_law_bottom", "_law_same"] (t__law_low K) := fun f cdv A outer s H E hr =>
  (pss_cons (ps_if (pt_cmpR op_lt (pv 1) pe_int (nomark _)) (pss_one (ps_par (i := 0) (j := 1) rfl sc__law_low.nd rfl rfl (by decide) rfl rfl (pa_cons (pe_un un_neg (pv 0)) (pa_cons (pe_un un_neg (pv 1)) pa_nil)) (by rfl))) pss_nil)
    (pss_cons (ps_set (i := 2) sc__law_low.nd rfl (Or.inl rfl) (C8.pe_c c__law_gcd hr (by decide) rfl (pa_cons (pv 0) (pa_cons (pv 1) pa_nil))))
    (pss_one (ps_ret (pe_tup (pa_cons (pe_op (op_fdivP T.seer T.tree rfl rfl rfl rfl rfl (hr.mono (by decide))) (pv 0) (pv 2)) (pa_cons (pe_op (op_fdivP T.seer T.tree rfl rfl rfl rfl rfl (hr.mono (by decide))) (pv 1) (pv 2)) pa_nil)))))))
abbrev st__law_plus := top 85
theorem sc__law_plus : FnScope ["_law_one", "_law_two"] ["_law_one", "_law_two"] (defScope st__law_plus) := ⟨rfl, rfl, rfl, by decide +kernel, rfl, by decide +kernel, by decide +kernel⟩
def t__law_plus (K : PySem.W.Frag) : TS := (tRet (tCall (sp__law_low K) [] E0 (tCons (tOp rAddI (tOp rMulI (tOp (rIxT K) (tVar 0) (tC (.int 0))) (tOp (rIxT K) (tVar 1) (tC (.int 1)))) (tOp rMulI (tOp (rIxT K) (tVar 1) (tC (.int 0))) (tOp (rIxT K) (tVar 0) (tC (.int 1))))) (tCons (tOp rMulI (tOp (rIxT K) (tVar 0) (tC (.int 1))) (tOp (rIxT K) (tVar 1) (tC (.int 1)))) tNil))))
theorem ps__law_plus {P : Program} {w : World} {K : PySem.W.Frag} {mg : Str → Option Value} {base : Heap} (T : Txt P K mg base) (c__law_low : C8.Cal P w K mg base 34 "_law_low" (sp__law_low K) []) : Hps P w K mg base 34 "_law_plus" st__law_plus ["_law_one", "_law_two"] (t__law_plus K) := fun f cdv A outer s H E hr =>
  (pss_one (ps_ret (C8.pe_c c__law_low hr (by decide) rfl (pa_cons (pe_op op_add (pe_op op_mulB (pe_ix ix_tup (pv 0) pe_int (fun _ _ => rfl)) (pe_ix ix_tup (pv 1) pe_int (fun _ _ => rfl))) (pe_op op_mulB (pe_ix ix_tup (pv 1) pe_int (fun _ _ => rfl)) (pe_ix ix_tup (pv 0) pe_int (fun _ _ => rfl)))) (pa_cons (pe_op op_mulB (pe_ix ix_tup (pv 0) pe_int (fun _ _ => rfl)) (pe_ix ix_tup (pv 1) pe_int (fun _ _ => rfl))) pa_nil)))))
abbrev st__law_less := top 86
theorem sc__law_less : FnScope ["_law_one", "_law_two"] ["_law_one", "_law_two"] (defScope st__law_less) := ⟨rfl, rfl, rfl, by decide +kernel, rfl, by decide +kernel, by decide +kernel⟩
def t__law_less (K : PySem.W.Frag) : TS := (tRet (tCall (sp__law_low K) [] E0 (tCons (tOp rSubI (tOp rMulI (tOp (rIxT K) (tVar 0) (tC (.int 0))) (tOp (rIxT K) (tVar 1) (tC (.int 1)))) (tOp rMulI (tOp (rIxT K) (tVar 1) (tC (.int 0))) (tOp (rIxT K) (tVar 0) (tC (.int 1))))) (tCons (tOp rMulI (tOp (rIxT K) (tVar 0) (tC (.int 1))) (tOp (rIxT K) (tVar 1) (tC (.int 1)))) tNil))))
theorem ps__law_less {P : Program} {w : World} {K : PySem.W.Frag} {mg : Str → Option Value} {base : Heap} (T : Txt P K mg base) (c__law_low : C8.Cal P w K mg base 34 "_law_low" (sp__law_low K) []) : Hps P w K mg base 34 "_law_less" st__law_less ["_law_one", "_law_two"] (t__law_less K) := fun f cdv A outer s H E hr =>
  (pss_one (ps_ret (C8.pe_c c__law_low hr (by decide) rfl (pa_cons (pe_op op_sub (pe_op op_mulB (pe_ix ix_tup (pv 0) pe_int (fun _ _ => rfl)) (pe_ix ix_tup (pv 1) pe_int (fun _ _ => rfl))) (pe_op op_mulB (pe_ix ix_tup (pv 1) pe_int (fun _ _ => rfl)) (pe_ix ix_tup (pv 0) pe_int (fun _ _ => rfl)))) (pa_cons (pe_op op_mulB (pe_ix ix_tup (pv 0) pe_int (fun _ _ => rfl)) (pe_ix ix_tup (pv 1) pe_int (fun _ _ => rfl))) pa_nil)))))
abbrev st__law_mult := top 87
theorem sc__law_mult : FnScope ["_law_one", "_law_two"] ["_law_one", "_law_two"] (defScope st__law_mult) := ⟨rfl, rfl, rfl, by decide +kernel, rfl, by decide +kernel, by decide +kernel⟩
def t__law_mult (K : PySem.W.Frag) : TS := (tRet (tCall (sp__law_low K) [] E0 (tCons (tOp rMulI (tOp (rIxT K) (tVar 0) (tC (.int 0))) (tOp (rIxT K) (tVar 1) (tC (.int 0)))) (tCons (tOp rMulI (tOp (rIxT K) (tVar 0) (tC (.int 1))) (tOp (rIxT K) (tVar 1) (tC (.int 1)))) tNil))))
theorem ps__law_mult {P : Program} {w : World} {K : PySem.W.Frag} {mg : Str → Option Value} {base : Heap} (T : Txt P K mg base) (c__law_low : C8.Cal P w K mg base 34 "_law_low" (sp__law_low K) []) : Hps P w K mg base 34 "_law_mult" st__law_mult ["_law_one", "_law_two"] (t__law_mult K) := fun f cdv A outer s H E hr =>
  (pss_one (ps_ret (C8.pe_c c__law_low hr (by decide) rfl (pa_cons (pe_op op_mulB (pe_ix ix_tup (pv 0) pe_int (fun _ _ => rfl)) (pe_ix ix_tup (pv 1) pe_int (fun _ _ => rfl))) (pa_cons (pe_op op_mulB (pe_ix ix_tup (pv 0) pe_int (fun _ _ => rfl)) (pe_ix ix_tup (pv 1) pe_int (fun _ _ => rfl))) pa_nil)))))
abbrev st__law_dot := top 88
theorem sc__law_dot : FnScope ["_law_some", "_law_others", "_law_found", "_law_one", "_law_two"] ["_law_some", "_law_others"] (defScope st__law_dot) := ⟨rfl, rfl, rfl, by decide +kernel, rfl, by decide +kernel, by decide +kernel⟩
def t__law_dot (K : PySem.W.Frag) : TS := (tSeq (tAsg (tTup (tCons (tC (.int 0)) (tCons (tC (.int 1)) tNil))) (gName 2))
    (tSeq (tFor (iZipX K (tCons (tVar 0) (tCons (tVar 1) tNil))) (gTup K 2 (gCons (gName 3) (gCons (gName 4) gNil)))
    (tAsg (tCall (sp__law_plus K) [] E0 (tCons (tVar 2) (tCons (tCall (sp__law_mult K) [] E0 (tCons (tVar 3) (tCons (tVar 4) tNil))) tNil))) (gName 2)))
    (tRet (tVar 2))))
theorem ps__law_dot {P : Program} {w : World} {K : PySem.W.Frag} {mg : Str → Option Value} {base : Heap} (T : Txt P K mg base) (c__law_plus : C8.Cal P w K mg base 35 "_law_plus" (sp__law_plus K) []) (c__law_mult : C8.Cal P w K mg base 35 "_law_mult" (sp__law_mult K) []) : Hps P w K mg base 35 "_law_dot" st__law_dot ["_law_some", "_law_others", "_law_found", "_law_one", "_law_two"] (t__law_dot K) := fun f cdv A outer s H E hr =>
  (pss_cons (ps_set (i := 2) sc__law_dot.nd rfl (Or.inl rfl) (pe_tup (pa_cons pe_int (pa_cons pe_int pa_nil))))
    (pss_cons (ps_for PassesOwn.never rfl (pi_zipX rfl T.f_zip (pa_cons (pv 0) (pa_cons (pv 1) pa_nil))) (pg_tup rfl (pgs_cons (pg_name (i := 3) sc__law_dot.nd rfl (Or.inl rfl)) (pgs_cons (pg_name (i := 4) sc__law_dot.nd rfl (Or.inl rfl)) pgs_nil)))
    (pss_one (ps_set (i := 2) sc__law_dot.nd rfl (Or.inl rfl) (C8.pe_c c__law_plus hr (by decide) rfl (pa_cons (pv 2) (pa_cons (C8.pe_c c__law_mult hr (by decide) rfl (pa_cons (pv 3) (pa_cons (pv 4) pa_nil))) pa_nil))))))
    (pss_one (ps_ret (pv 2)))))
section
variable {P : Program} {w : World} {K : PySem.W.Frag} {mg : Str → Option Value} {base : Heap}
theorem cal__law_gcd (D : Dd K mg "_law_gcd" st__law_gcd) (T : Txt P K mg base) : C8.Cal P w K mg base 1 "_law_gcd" (sp__law_gcd K) [] :=
  cal2 D sc__law_gcd (fun _ _ _ _ _ _ us hl => match us, hl with | [_, _], _ => rfl) (ps__law_gcd T) fun G a b x y hx hy _ => by
    have hx : x = .int a := hx
    have hy : y = .int b := hy
    subst hx hy
    refine sq_par (ep_abs (ep_v rfl)) (ep_abs (ep_v rfl)) fun v w G2 e pv pw => ?_
    have pv : v = .int _ := pv
    have pw : w = .int _ := pw
    subst pv pw
    refine es_seq (N1 := fun σ _ => σ = [some (.int (Int.gcd a b : Int)), some (.int 0)]) (es_while (fun m σ _ => ∃ c d : Nat, σ = [some (.int c), some (.int d)] ∧ Nat.gcd c d = Int.gcd a b ∧ d = m) ⟨_, _, rfl, rfl, rfl⟩ (fun _ _ _ _ _ h => h) ?_) ?_
    · rintro m σ1 G1 ⟨c, d, rfl, hg, rfl⟩
      refine ⟨_, et_test (ep_gt (ep_v rfl) ep_c), fun h => ?_, fun h => ?_⟩
      · have h0 : (0 : Int) < d := of_decide_eq_true h
        refine es_par (ep_v rfl) (ep_mod (ep_int1 (ep_v rfl)) (ep_v rfl) h0) fun v w G2 e pv pw => ?_
        have pv : v = .int _ := pv
        have pw : w = .int _ := pw
        subst pv pw
        refine ⟨c % d, Nat.mod_lt _ (by omega), d, c % d, rfl, ?_, rfl⟩
        rw [← hg, Nat.gcd_comm c d, Nat.gcd_comm d (c % d)]
        exact (Nat.gcd_rec d c).symm
      · have h0 : ¬ (0 : Int) < d := of_decide_eq_false h
        have : d = 0 := by omega
        subst this
        intro G2 _
        rw [Nat.gcd_zero_right] at hg
        rw [hg] <;> rfl
    · rintro σ2 G2 _ rfl
      exact es_ret (ep_v rfl)
theorem neg_div (a b : Int) (h : b ≠ 0) : ((-a : Int) : Rat) / ((-b : Int) : Rat) = (a : Rat) / (b : Rat) := by
  have hb0 : (b : Rat) ≠ 0 := by
    intro z
    have : b = 0 := by exact_mod_cast z
    omega
  rw [Rat.intCast_neg, Rat.intCast_neg]
  generalize (b : Rat) = d at *
  generalize (a : Rat) = n at *
  grind
theorem cal__law_low (D : Dd K mg "_law_low" st__law_low) (T : Txt P K mg base) (c1 : C8.Cal P w K mg base 1 "_law_gcd" (sp__law_gcd K) []) : C8.Cal P w K mg base 34 "_law_low" (sp__law_low K) [] :=
  cal2 D sc__law_low (fun _ _ _ _ _ _ us hl => match us, hl with | [_, _], _ => rfl) (ps__law_low T c1) fun G a b x y hx hy hb => by
    have hx : x = .int a := hx
    have hy : y = .int b := hy
    subst hx hy
    have key : ∀ (a b : Int) (σ : L2.St) (G : Hp) N, 0 < b → σ = [some (.int a), some (.int b), none] → Es (tSeq (tAsg (tCall (sp__law_gcd K) [] E0 (tCons (tVar 0) (tCons (tVar 1) tNil))) (gName 2)) (tRet (tTup (tCons (tOp rDivP (tVar 0) (tVar 2)) (tCons (tOp rDivP (tVar 1) (tVar 2)) tNil))))) σ G (IsF K ((a : Rat) / (b : Rat))) N := by
      rintro a b σ G N h rfl
      have g0 : 0 < (Int.gcd a b : Int) := by
        have := Int.gcd_pos_of_ne_zero_right a (by omega : b ≠ 0)
        omega
      refine sq_asg (ep_call2 a b (ep_v rfl) (ep_v rfl) trivial) fun v G2 _ pv => ?_
      have pv : v = .int _ := pv
      subst pv
      exact es_ret (ep_frac ((ep_divP (ep_v rfl) (ep_v rfl) g0).is (by rw [low_num h])) ((ep_divP (ep_v rfl) (ep_v rfl) g0).is (by rw [low_den h])))
    refine sq_if (et_test (ep_lt (ep_v rfl) ep_c)) (fun h => ?_) fun h => ?_
    · have h0 : b < 0 := of_decide_eq_true h
      refine sq_par (ep_neg (ep_v rfl)) (ep_neg (ep_v rfl)) fun v w G2 e pv pw => ?_
      have pv : v = .int _ := pv
      have pw : w = .int _ := pw
      subst pv pw
      have q := key (-a) (-b) [some (.int (-a)), some (.int (-b)), none] G2 (fun _ G' => IsF K ((a : Rat) / (b : Rat)) .non G') (by omega) rfl
      rw [neg_div a b hb] at q
      exact q
    · have h0 : ¬ b < 0 := of_decide_eq_false h
      exact sq_next (key a b _ G _ (by have : b ≠ 0 := hb; omega) rfl)
theorem cal__law_plus (D : Dd K mg "_law_plus" st__law_plus) (T : Txt P K mg base) (c1 : C8.Cal P w K mg base 34 "_law_low" (sp__law_low K) []) : C8.Cal P w K mg base 35 "_law_plus" (sp__law_plus K) [] :=
  cal2 D sc__law_plus (fun _ _ _ _ _ _ us hl => match us, hl with | [_, _], _ => rfl) (ps__law_plus T c1) fun G a b x y hx hy hf => by
    have h := ep_call2 (E := E0) (P1 := IsI) (P2 := IsI) (C := fun _ b => b ≠ 0) (B := fun a b => IsF K ((a : Rat) / (b : Rat))) _ _ (ep_add (ep_mul (ep_num (ep_var (σ := start ["_law_one", "_law_two"] [x, y]) (i := 0) rfl hx)) (ep_den (ep_var (i := 1) rfl hy)) (fit_mul hf.1.1 hf.2.2)) (ep_mul (ep_num (ep_var (i := 1) rfl hy)) (ep_den (ep_var (i := 0) rfl hx)) (fit_mul hf.2.1 hf.1.2)))
      (ep_mul (ep_den (ep_var (i := 0) rfl hx)) (ep_den (ep_var (i := 1) rfl hy)) (fit_mul hf.1.2 hf.2.2)) (den_ne a b)
    rw [q_add] at h
    exact es_ret h
theorem cal__law_less (D : Dd K mg "_law_less" st__law_less) (T : Txt P K mg base) (c1 : C8.Cal P w K mg base 34 "_law_low" (sp__law_low K) []) : C8.Cal P w K mg base 35 "_law_less" (sp__law_less K) [] :=
  cal2 D sc__law_less (fun _ _ _ _ _ _ us hl => match us, hl with | [_, _], _ => rfl) (ps__law_less T c1) fun G a b x y hx hy hf => by
    have h := ep_call2 (E := E0) (P1 := IsI) (P2 := IsI) (C := fun _ b => b ≠ 0) (B := fun a b => IsF K ((a : Rat) / (b : Rat))) _ _ (ep_sub (ep_mul (ep_num (ep_var (σ := start ["_law_one", "_law_two"] [x, y]) (i := 0) rfl hx)) (ep_den (ep_var (i := 1) rfl hy)) (fit_mul hf.1.1 hf.2.2)) (ep_mul (ep_num (ep_var (i := 1) rfl hy)) (ep_den (ep_var (i := 0) rfl hx)) (fit_mul hf.2.1 hf.1.2)))
      (ep_mul (ep_den (ep_var (i := 0) rfl hx)) (ep_den (ep_var (i := 1) rfl hy)) (fit_mul hf.1.2 hf.2.2)) (den_ne a b)
    rw [q_sub] at h
    exact es_ret h
theorem cal__law_mult (D : Dd K mg "_law_mult" st__law_mult) (T : Txt P K mg base) (c1 : C8.Cal P w K mg base 34 "_law_low" (sp__law_low K) []) : C8.Cal P w K mg base 35 "_law_mult" (sp__law_mult K) [] :=
  cal2 D sc__law_mult (fun _ _ _ _ _ _ us hl => match us, hl with | [_, _], _ => rfl) (ps__law_mult T c1) fun G a b x y hx hy hf => by
    have h := ep_call2 (E := E0) (P1 := IsI) (P2 := IsI) (C := fun _ b => b ≠ 0) (B := fun a b => IsF K ((a : Rat) / (b : Rat))) _ _ (ep_mul (ep_num (ep_var (σ := start ["_law_one", "_law_two"] [x, y]) (i := 0) rfl hx)) (ep_num (ep_var (i := 1) rfl hy)) (fit_mul hf.1.1 hf.2.1))
      (ep_mul (ep_den (ep_var (i := 0) rfl hx)) (ep_den (ep_var (i := 1) rfl hy)) (fit_mul hf.1.2 hf.2.2)) (den_ne a b)
    rw [q_mul] at h
    exact es_ret h
theorem take_snoc {α : Type} {xs : List α} {i : Nat} {y : α} (h : xs[i]? = some y) : xs.take (i + 1) = xs.take i ++ [y] := by
  rw [List.take_add_one, h]
  rfl
theorem cal__law_dot (D : Dd K mg "_law_dot" st__law_dot) (T : Txt P K mg base) (c1 : C8.Cal P w K mg base 35 "_law_plus" (sp__law_plus K) []) (c2 : C8.Cal P w K mg base 35 "_law_mult" (sp__law_mult K) []) : C8.Cal P w K mg base 36 "_law_dot" (sp__law_dot K) [] :=
  cal2 D sc__law_dot (fun _ _ _ _ _ _ us hl => match us, hl with | [_, _], _ => rfl) (ps__law_dot T c1 c2) fun G xs ys x y hx hy hf => by
    refine sq_asg (ep_frac (K := K) (q := 0) ep_c ep_c) fun v G2 e pv => ?_
    refine es_seq (N1 := fun σ G => ∃ v a b, σ = [some x, some y, some v, a, b] ∧ IsF K (gdot xs ys) v G) (es_for (it_zip (ep_var (i := 0) rfl (up e hx)) (ep_var (i := 1) rfl (up e hy))) (fun i σ G => ∃ v a b, σ = [some x, some y, some v, a, b] ∧ IsF K (qs ((prods xs ys).take i)) v G) ⟨v, none, none, rfl, pv⟩ (fun i σ G G' s ⟨v, a, b, h, p⟩ => ⟨v, a, b, h, up s p⟩) ?_ ?_) ?_
    · rintro i ⟨p, q⟩ v1 σ1 G1 hi s1 ⟨v, a, b, rfl, pv⟩ ⟨t, v2, v3, rfl, h1, h2, h3⟩
      have hz := List.getElem?_zip_eq_some.mp hi
      have fp := hf.1 p (List.mem_of_getElem? hz.1)
      have fq := hf.2.1 q (List.mem_of_getElem? hz.2)
      have hp : (prods xs ys)[i]? = some (p * q) := by
        unfold prods
        rw [List.getElem?_map, hi]
        rfl
      refine ⟨_, gb_pair h1, es_asg (ep_call2 (qs ((prods xs ys).take i)) (p * q) (ep_var (i := 2) rfl pv) (ep_call2 p q (ep_var (i := 3) rfl h2) (ep_var (i := 4) rfl h3) ⟨fp, fq⟩) ⟨hf.2.2.1.2 i, hf.2.2.1.1 _ (List.mem_of_getElem? hp)⟩) fun v4 G4 e4 p4 => ⟨v4, some v2, some v3, rfl, ?_⟩⟩
      rw [take_snoc hp, qs_snoc]
      exact p4
    · rintro σ1 G1 s1 ⟨v, a, b, rfl, p⟩
      rw [show (xs.zip ys).length = (prods xs ys).length by simp [prods], List.take_length] at p
      exact ⟨v, a, b, rfl, p⟩
    · rintro σ2 G3 s3 ⟨v, a, b, rfl, p⟩
      exact es_ret (ep_var (i := 2) rfl p)
end
end Bt
/-! ==== W7 ==== -/
set_option Elab.async false
set_option linter.all false
set_option maxRecDepth 100000
set_option maxHeartbeats 2000000
/-! Deep ==, isinstance, fields, properties, instances. -/
namespace Bt
open PySem PySem.Spec PyProof.Rows L2
/-! ### deep == -/
mutual
theorem Dp.up {K : PySem.W.Frag} {H H' : Hp} (e : Same H H') : ∀ (d : PyData) (v : V), Dp K H v d → Dp K H' v d
  | .none, _, h => by
    cases h
    exact .non
  | .bool b, _, h => by
    cases h
    exact .bl b
  | .int i, _, h => by
    cases h
    exact .int i
  | .str x, _, h => by
    cases h
    exact .str x
  | .list ds, _, h => by
    cases h with
    | lst hs ha => exact .lst (e.seq hs) (DpAll.up e ds _ ha)
  | .tuple ds, _, h => by
    cases h with
    | tup hs ha => exact .tup (Same.tup e hs) (DpAll.up e ds _ ha)
  | .dict _, _, h => by cases h
theorem DpAll.up {K : PySem.W.Frag} {H H' : Hp} (e : Same H H') : ∀ (ds : List PyData) (vs : List V), DpAll K H vs ds → DpAll K H' vs ds
  | [], _, h => by
    cases h
    exact .nil
  | d :: ds, _, h => by
    cases h with
    | cons h1 h2 => exact .cons (Dp.up e d _ h1) (DpAll.up e ds _ h2)
end
def IsD (K : PySem.W.Frag) (d : PyData) : VP := fun v H => Dp K H v d
instance (K : PySem.W.Frag) (d : PyData) : Stays (IsD K d) := ⟨fun v _ _ e h => Dp.up e d v h⟩
theorem dpAll_of {K : PySem.W.Frag} {α : Type} {F : α → VP} {g : α → PyData} {H : Hp} (h : ∀ x v, F x v H → Dp K H v (g x)) : ∀ {vs : List V} {xs : List α}, All2 F vs xs H → DpAll K H vs (xs.map g)
  | [], [], _ => .nil
  | _ :: _, _ :: _, ⟨h1, h2⟩ => .cons (h _ _ h1) (dpAll_of h h2)
  | [], _ :: _, z => z.elim
  | _ :: _, [], z => z.elim
/-- a fraction as data -/
def fD (q : Rat) : PyData := .tuple [.int q.num, .int q.den]
section
variable {K : PySem.W.Frag} {H : Hp} {v : V}
theorem d_int {i : Int} (h : IsI i v H) : Dp K H v (.int i) := by
  have h : v = .int i := h
  rw [h]
  exact .int i
theorem d_bl {b : Bool} (h : IsB b v H) : Dp K H v (.bool b) := by
  have h : v = .bl b := h
  rw [h]
  exact .bl b
theorem d_F {q : Rat} (h : IsF K q v H) : Dp K H v (fD q) := by
  obtain ⟨p, rfl, h⟩ := h
  exact .tup h (.cons (.int _) (.cons (.int _) .nil))
theorem d_L {α : Type} {F : α → VP} {g : α → PyData} {xs : List α} (hg : ∀ x v, F x v H → Dp K H v (g x)) (h : IsL F xs v H) : Dp K H v (.list (xs.map g)) := by
  obtain ⟨p, vs, rfl, h1, h2⟩ := h
  exact .lst (SqL.of h1) (dpAll_of hg h2)
theorem d_T {α : Type} {F : α → VP} {g : α → PyData} {xs : List α} (hg : ∀ x v, F x v H → Dp K H v (g x)) (h : IsT K F xs v H) : Dp K H v (.tuple (xs.map g)) := by
  obtain ⟨p, vs, rfl, h1, h2⟩ := h
  exact .tup h1 (dpAll_of hg h2)
end
section
variable {ta tb te : TE} {σ : L2.St} {G : Hp} {K : PySem.W.Frag}
theorem ep_eqD {d e : PyData} (ha : Ep ta σ G (IsD K d)) (hb : Ep tb σ G (IsD K e)) (hd : SeqAt.shaped d = true) (he : SeqAt.shaped e = true) : Ep (tOp (rEqD K) ta tb) σ G (IsB (PyData.eqv d e)) :=
  ep_bin ha hb fun v w G1 H1 Q _ s px py q => ⟨d, e, Dp.up s d v px, Dp.up s e w py, hd, he, q _ G1 H1 (To.refl s) rfl⟩
theorem ep_neD {d e : PyData} (ha : Ep ta σ G (IsD K d)) (hb : Ep tb σ G (IsD K e)) (hd : SeqAt.shaped d = true) (he : SeqAt.shaped e = true) : Ep (tOp (rNeD K) ta tb) σ G (IsB (!PyData.eqv d e)) :=
  ep_bin ha hb fun v w G1 H1 Q _ s px py q => ⟨d, e, Dp.up s d v px, Dp.up s e w py, hd, he, q _ G1 H1 (To.refl s) rfl⟩
theorem Ep.dI {i : Int} (h : Ep te σ G (IsI i)) : Ep te σ G (IsD K (.int i)) := h.to fun _ _ _ => d_int
theorem Ep.dB {b : Bool} (h : Ep te σ G (IsB b)) : Ep te σ G (IsD K (.bool b)) := h.to fun _ _ _ => d_bl
theorem Ep.dF {q : Rat} (h : Ep te σ G (IsF K q)) : Ep te σ G (IsD K (fD q)) := h.to fun _ _ _ => d_F
theorem Ep.dLI {xs : List Int} (h : Ep te σ G (IsL IsI xs)) : Ep te σ G (IsD K (.list (xs.map .int))) := h.to fun _ _ _ => d_L fun _ _ => d_int
theorem Ep.dTI {xs : List Int} (h : Ep te σ G (IsT K IsI xs)) : Ep te σ G (IsD K (.tuple (xs.map .int))) := h.to fun _ _ _ => d_T fun _ _ => d_int
theorem Ep.dLF {xs : List Rat} (h : Ep te σ G (IsL (IsF K) xs)) : Ep te σ G (IsD K (.list (xs.map fD))) := h.to fun _ _ _ => d_L fun _ _ => d_F
theorem Ep.dTF {xs : List Rat} (h : Ep te σ G (IsT K (IsF K) xs)) : Ep te σ G (IsD K (.tuple (xs.map fD))) := h.to fun _ _ _ => d_T fun _ _ => d_F
theorem ep_nilT {α : Type} {F : α → VP} : Ep (tTup tNil) σ G (IsT K F ([] : List α)) :=
  ep_tup1 ea_nil (fun vs H' h => by rw [h]; simp) fun p vs H' h np => by
    rw [h]
    exact ⟨p, [], rfl, SqT.of upd_same, trivial⟩
end
theorem eqvAll_int : ∀ xs ys : List Int, PyData.eqvAll (xs.map .int) (ys.map .int) = decide (xs = ys)
  | [], [] => by simp [PyData.eqvAll]
  | [], _ :: _ => by simp [PyData.eqvAll]
  | _ :: _, [] => by simp [PyData.eqvAll]
  | x :: xs, y :: ys => by
    simp only [List.map_cons, PyData.eqvAll, PyData.eqv, eqvAll_int xs ys]
    by_cases h : x = y <;> simp [h]
theorem eqv_fD (p q : Rat) : PyData.eqv (fD p) (fD q) = decide (p = q) := by
  simp only [fD, PyData.eqv, PyData.eqvAll, Bool.and_true]
  by_cases h : p = q
  · subst h
    simp
  · rw [decide_eq_false h]
    by_cases hn : p.num = q.num
    · have hd : p.den ≠ q.den := fun z => h (Rat.ext hn z)
      have : ¬ ((p.den : Int) = (q.den : Int)) := by omega
      simp [this]
    · simp [hn]
theorem eqvAll_F : ∀ xs ys : List Rat, PyData.eqvAll (xs.map fD) (ys.map fD) = decide (xs = ys)
  | [], [] => by simp [PyData.eqvAll]
  | [], _ :: _ => by simp [PyData.eqvAll]
  | _ :: _, [] => by simp [PyData.eqvAll]
  | x :: xs, y :: ys => by
    simp only [List.map_cons, PyData.eqvAll, eqv_fD, eqvAll_F xs ys]
    by_cases h : x = y <;> simp [h]
theorem canAll_int : ∀ xs : List Int, PyData.canLayAll0 (xs.map .int) = true
  | [] => by simp [PyData.canLayAll0]
  | x :: xs => by simp [PyData.canLayAll0, PyData.canLay0, canAll_int xs]
theorem depAll_int : ∀ xs : List Int, PyData.depthAll (xs.map .int) = 0
  | [] => by simp [PyData.depthAll]
  | x :: xs => by simp [PyData.depthAll, PyData.depth, depAll_int xs]
theorem sh_LI (xs : List Int) : SeqAt.shaped (.list (xs.map .int)) = true := by
  simp [SeqAt.shaped, PyData.canLay0, PyData.depth, canAll_int, depAll_int]
theorem sh_TI (xs : List Int) : SeqAt.shaped (.tuple (xs.map .int)) = true := by
  simp [SeqAt.shaped, PyData.canLay0, PyData.depth, canAll_int, depAll_int]
theorem sh_F (q : Rat) : SeqAt.shaped (fD q) = true := by
  simp [fD, SeqAt.shaped, PyData.canLay0, PyData.canLayAll0, PyData.depth, PyData.depthAll]
theorem canAll_F : ∀ xs : List Rat, PyData.canLayAll0 (xs.map fD) = true
  | [] => by simp [PyData.canLayAll0]
  | x :: xs => by simp [fD, PyData.canLayAll0, PyData.canLay0, canAll_F xs]
theorem depAll_F : ∀ xs : List Rat, PyData.depthAll (xs.map fD) ≤ 1
  | [] => by simp [PyData.depthAll]
  | x :: xs => by
    have := depAll_F xs
    simp only [List.map_cons, PyData.depthAll, fD, PyData.depth]
    omega
theorem sh_LF (xs : List Rat) : SeqAt.shaped (.list (xs.map fD)) = true := by
  have h := depAll_F xs
  simp only [SeqAt.shaped, PyData.canLay0, PyData.depth, canAll_F, Bool.true_and]
  exact decide_eq_true (by omega)
theorem sh_TF (xs : List Rat) : SeqAt.shaped (.tuple (xs.map fD)) = true := by
  have h := depAll_F xs
  simp only [SeqAt.shaped, PyData.canLay0, PyData.depth, canAll_F, Bool.true_and]
  exact decide_eq_true (by omega)
section
variable {ta tb te : TE} {σ : L2.St} {G : Hp} {K : PySem.W.Frag}
theorem ep_neLI {xs ys : List Int} (ha : Ep ta σ G (IsL IsI xs)) (hb : Ep tb σ G (IsL IsI ys)) : Ep (tOp (rNeD K) ta tb) σ G (IsB (!decide (xs = ys))) := by
  have h := ep_neD (K := K) ha.dLI hb.dLI (sh_LI xs) (sh_LI ys)
  rw [show PyData.eqv (.list (xs.map .int)) (.list (ys.map .int)) = decide (xs = ys) by simp only [PyData.eqv, eqvAll_int]] at h
  exact h
theorem ep_eqTI {xs ys : List Int} (ha : Ep ta σ G (IsT K IsI xs)) (hb : Ep tb σ G (IsT K IsI ys)) : Ep (tOp (rEqD K) ta tb) σ G (IsB (decide (xs = ys))) := by
  have h := ep_eqD (K := K) ha.dTI hb.dTI (sh_TI xs) (sh_TI ys)
  rw [show PyData.eqv (.tuple (xs.map .int)) (.tuple (ys.map .int)) = decide (xs = ys) by simp only [PyData.eqv, eqvAll_int]] at h
  exact h
theorem ep_neF {p q : Rat} (ha : Ep ta σ G (IsF K p)) (hb : Ep tb σ G (IsF K q)) : Ep (tOp (rNeD K) ta tb) σ G (IsB (!decide (p = q))) := by
  have h := ep_neD (K := K) ha.dF hb.dF (sh_F p) (sh_F q)
  rw [eqv_fD] at h
  exact h
theorem ep_eqF {p q : Rat} (ha : Ep ta σ G (IsF K p)) (hb : Ep tb σ G (IsF K q)) : Ep (tOp (rEqD K) ta tb) σ G (IsB (decide (p = q))) := by
  have h := ep_eqD (K := K) ha.dF hb.dF (sh_F p) (sh_F q)
  rw [eqv_fD] at h
  exact h
end
/-! ### isinstance -/
section
variable {ta tb te : TE} {σ : L2.St} {G : Hp} {K : PySem.W.Frag} {α : Type} {F : α → VP} {xs : List α}
theorem ep_isi {P : VP} {c : V} {t u : Value} {b : Bool} [Stays P] (ha : Ep ta σ G P) (hc : ClsV c u) (ht : ∀ v H, P v H → TyX K H v t) (hk : PySem.W.kitOne K t u = some b) : Ep (tCB (rIsi K) (tCons ta (tCons (tC c) tNil))) σ G (IsB b) :=
  ep_cb2 ha ep_c fun x y G1 H1 Q _ s p p' q => ⟨x, c, t, u, b, by rw [show y = c from p'], hc, ht x H1 (up s p), hk, q _ G1 H1 (To.refl s) rfl⟩
theorem ty_int {i : Int} {v : V} {H : Hp} (h : IsI i v H) : TyX K H v (.type "int") := by
  have h : v = .int i := h
  rw [h]
  exact .base (.int i)
theorem ty_sqT {p : Addr} {vs : List V} {H : Hp} (h : SqT K H p vs) : TyX K H (.ref p) (.type "tuple") := by
  rcases h with (h | ⟨o, h⟩) | ⟨o, its, n, h, c, _⟩
  · exact .base (.tup h)
  · exact .fTuple h
  · exact .kTuple h c
theorem ty_T {v : V} {H : Hp} (h : IsT K F xs v H) : TyX K H v (.type "tuple") := by
  obtain ⟨p, vs, rfl, h, _⟩ := h
  exact ty_sqT h
theorem ty_F {q : Rat} {v : V} {H : Hp} (h : IsF K q v H) : TyX K H v (.type "tuple") := by
  obtain ⟨p, rfl, h⟩ := h
  exact ty_sqT h
theorem kit_ii : PySem.W.kitOne K (.type "int") (.type "int") = some true := by rfl
theorem kit_ib : PySem.W.kitOne K (.type "int") (.type "bool") = some false := by rfl
theorem kit_tt : PySem.W.kitOne K (.type "tuple") (.type "tuple") = some true := by rfl
end
/-! ### fields, properties, instances -/
structure Prp (P : Program) (w : World) (K : PySem.W.Frag) (mg : Str → Option Value) (base : Heap) (k : Nat) (C : Addr) (f : Str) (sp : Sp) : Prop where
  ex : ∃ p g fd, Cls K C ∧ PropOf K C f p g ∧ FnOk P w K mg base CX0 k g fd ["self"] sp ∧ Binds K fd ["self"] []
theorem pe_prp {X : Cx} {k j : Nat} {C : Addr} {f : Str} {sp : Sp} {e : Expr} {pos : Pos} {ta : TE} (c : Prp X.prog X.w X.K X.mg X.base k C f sp) (hr : Room j X.A) (hk : k + 1 ≤ j) (he : PE X e ta) (hab : attributeBase e f X.env (eval e X.env) = eval e X.env) :
    PE X (.Attribute e f pos) (tProp C sp [] E0 ta) := by
  obtain ⟨p, g, fd, hc, hp, F, b⟩ := c.ex
  exact pe_prop he hc hp F (hr.mono hk) b .nil pass0 hab
section
variable {ta tb te : TE} {σ : L2.St} {G : Hp} {K : PySem.W.Frag} {α : Type} {P1 : α → VP} {E : XK}
theorem ep_prop {C : Addr} {Cc : α → Prop} {B : α → VP} (hP : ∀ a v G, P1 a v G → ∃ x dx fs, v = .ref x ∧ G x = some (.ins C dx fs)) (a : α) (h : Ep ta σ G (P1 a)) (hc : Cc a) : Ep (tProp C (sp1 P1 Cc B) [] E ta) σ G (B a) := fun G1 H1 e s Q q =>
  h G1 H1 e s _ fun v G2 H2 t p => by
    obtain ⟨x, dx, fs, rfl, hx⟩ := hP a v G2 p
    exact ⟨x, dx, fs, rfl, t.in_ _ _ hx, G2, a, .ref x, rfl, t.in_, p, hc, fun v G3 H3 t3 r => q v G3 H3 (t.trans t3) r⟩
/-- an instance of one field -/
def IsO (C : Addr) (f : Str) (P : VP) : VP := fun v H => ∃ a dx pv, v = .ref a ∧ H a = some (.ins C dx [(f, pv)]) ∧ P pv H
instance (C : Addr) (f : Str) (P : VP) [Stays P] : Stays (IsO C f P) := ⟨fun _ _ _ e ⟨a, dx, pv, h1, h2, h3⟩ => ⟨a, dx, pv, h1, e _ _ h2, up e h3⟩⟩
theorem ep_fld {C : Addr} {f : Str} {P : VP} (hc : Cls K C) (hn : NoAttr K C f) (h : Ep ta σ G (IsO C f P)) : Ep (tFld K ta f) σ G P := fun G1 H1 e s Q q =>
  h G1 H1 e s _ fun v G2 H2 t p => by
    obtain ⟨a, dx, pv, rfl, h1, h2⟩ := p
    exact ⟨a, C, dx, _, pv, rfl, t.in_ _ _ h1, hc, hn, by simp [List.lookup], q pv G2 H2 t h2⟩
theorem ep_ix0 {β γ : Type} {F1 : β → VP} {F2 : γ → VP} {x : β × γ} [∀ x, Stays (F1 x)] [∀ x, Stays (F2 x)] (h : Ep ta σ G (IsP K F1 F2 x)) : Ep (tOp (rIxT K) ta (tC (.int 0))) σ G (F1 x.1) :=
  ep_bin h ep_c fun v w G1 H1 Q _ s p py q => by
    obtain ⟨a, v1, v2, rfl, h1, h2, h3⟩ := p
    exact ⟨a, _, 0, v1, rfl, py, Same.tup s h1, rfl, q v1 G1 H1 (To.refl s) h2⟩
theorem ep_ix1 {β γ : Type} {F1 : β → VP} {F2 : γ → VP} {x : β × γ} [∀ x, Stays (F1 x)] [∀ x, Stays (F2 x)] (h : Ep ta σ G (IsP K F1 F2 x)) : Ep (tOp (rIxT K) ta (tC (.int 1))) σ G (F2 x.2) :=
  ep_bin h ep_c fun v w G1 H1 Q _ s p py q => by
    obtain ⟨a, v1, v2, rfl, h1, h2, h3⟩ := p
    exact ⟨a, _, 1, v2, rfl, py, Same.tup s h1, rfl, q v2 G1 H1 (To.refl s) h3⟩
/-- (a, b) -/
theorem ep_pair {β γ : Type} {F1 : β → VP} {F2 : γ → VP} {x : β × γ} [∀ x, Stays (F1 x)] [∀ x, Stays (F2 x)] (ha : Ep ta σ G (F1 x.1)) (hb : Ep tb σ G (F2 x.2)) : Ep (tTup (tCons ta (tCons tb tNil))) σ G (IsP K F1 F2 x) :=
  ep_tup1 (ea_cons ha (ea_cons hb ea_nil)) (fun vs H' ⟨_, _, h, _, _, _, h2, _, h3⟩ => by rw [h, h2, h3]; simp) fun p vs H' ⟨v, r, h, hv, w, r2, h2, hw, h3⟩ np => by
    rw [h, h2, h3]
    exact ⟨p, v, w, rfl, SqT.of upd_same, up (Same.new np) hv, up (Same.new np) hw⟩
/-- the promise of an __init__ of two parameters that stores one field -/
abbrev spI {α β : Type} (C : Addr) (f : Str) (P1 : α → VP) (P2 : β → VP) (Cc : α → β → Prop) (B : α → β → VP) : Sp := fun vs H Q _ => ∃ G a b p dx x y, vs = [.ref p, x, y] ∧ Same G H ∧ G p = none ∧ H p = some (.ins C dx []) ∧ (P1 a x G ∧ P2 b y G) ∧ Cc a b ∧
  ∀ pv G' H', To G H G' H' → B a b pv G' → G' p = none → Q .non (upd H' p (.ins C dx [(f, pv)]))
theorem ep_make2 {α β : Type} {C : Addr} {f : Str} {P1 : α → VP} {P2 : β → VP} {Cc : α → β → Prop} {B : α → β → VP} [∀ a, Stays (P1 a)] [∀ a b, Stays (B a b)] (a : α) (b : β) (ha : Ep ta σ G (P1 a)) (hb : Ep tb σ G (P2 b)) (hc : Cc a b) :
    Ep (tMake C (spI C f P1 P2 Cc B) [] E (tCons ta (tCons tb tNil))) σ G (IsO C f (B a b)) := fun G1 H1 e s Q q =>
  ha G1 H1 e s _ fun x G2 H2 t2 px => hb G2 H2 (e.trans t2.up) t2.in_ _ fun y G3 H3 t3 py => fun p dx np nd nx => by
    have s1 : Same H3 (upd H3 dx (.own p)) := Same.new nd
    have np1 : (upd H3 dx (.own p)) p = none := by
      rw [upd_ne (Ne.symm nx)]
      exact np
    have s2 : Same H3 (upd (upd H3 dx (.own p)) p (.ins C dx [])) := s1.trans (Same.new np1)
    have gp : G3 p = none := t3.in_.free np
    refine ⟨G3, a, b, p, dx, x, y, rfl, t3.in_.trans s2, gp, upd_same, ⟨up t3.up px, py⟩, hc, fun pv G' H' t4 hB g' => ⟨rfl, ?_⟩⟩
    have t := (t2.trans t3).trans (To.dull t3.in_ s2)
    refine q (.ref p) (upd G' p (.ins C dx [(f, pv)])) _ ⟨fun b o z => ?_, ((t2.trans t3).up.trans t4.up).trans (Same.new g'), fun b o z => ?_, fun b o z => ?_⟩ ⟨p, dx, pv, rfl, upd_same, up (Same.new g') hB⟩
    · have nb : b ≠ p := fun h => by
        subst h
        have := (t2.trans t3).big _ _ z
        rw [np] at this
        cases this
      rw [upd_ne nb]
      exact t4.big _ _ (s2 _ _ ((t2.trans t3).big _ _ z))
    · by_cases h : b = p
      · subst h
        rw [upd_same] at z ⊢
        exact z
      · rw [upd_ne h] at z ⊢
        exact t4.in_ _ _ z
    · by_cases h : b = p
      · subst h
        exact .inr ((t2.trans t3).big.free np)
      · rw [upd_ne h] at z
        rcases (t.trans t4).new b o z with r | r
        · exact .inl r
        · exact .inr r
end
end Bt
/-! ==== Z1 ==== -/
set_option Elab.async false
set_option linter.all false
set_option maxRecDepth 100000
set_option maxHeartbeats 2000000
/-! Sizes of fractions. -/
namespace Bt
open SW
/-- top and bottom below 2 ^ b -/
def Sz (b : Nat) (q : Rat) : Prop := q.num.natAbs < 2 ^ b ∧ q.den < 2 ^ b
theorem Sz.mono {a b : Nat} {q : Rat} (h : Sz a q) (e : a ≤ b) : Sz b q :=
  ⟨Nat.lt_of_lt_of_le h.1 (Nat.pow_le_pow_right (by decide) e), Nat.lt_of_lt_of_le h.2 (Nat.pow_le_pow_right (by decide) e)⟩
theorem Sz.fit {b : Nat} {q : Rat} (h : Sz b q) (e : b ≤ big) : FitF q := by
  have h := h.mono e
  exact ⟨h.1, by
    unfold Fit
    rw [Int.natAbs_natCast]
    exact h.2⟩
theorem fit_of {b : Nat} {i : Int} (h : i.natAbs < 2 ^ b) (e : b ≤ big) : Fit i := Nat.lt_of_lt_of_le h (Nat.pow_le_pow_right (by decide) e)
theorem sz_div {n : Nat} {a b : Int} (ha : a.natAbs < 2 ^ n) (hb : b.natAbs < 2 ^ n) (h0 : b ≠ 0) : Sz n ((a : Rat) / (b : Rat)) := by
  have key : ∀ a b : Int, a.natAbs < 2 ^ n → b.natAbs < 2 ^ n → 0 < b → Sz n ((a : Rat) / (b : Rat)) := fun a b ha hb h => by
    refine ⟨?_, ?_⟩
    · rw [low_num h]
      exact Nat.lt_of_le_of_lt (Int.natAbs_ediv_le_natAbs _ _) ha
    · have e := low_den (a := a) h
      have h1 : b / (Int.gcd a b : Int) ≤ b := Int.ediv_le_self _ (Int.le_of_lt h)
      omega
  rcases Int.lt_trichotomy b 0 with h | h | h
  · rw [← neg_div a b h0]
    exact key (-a) (-b) (by omega) (by omega) (by omega)
  · exact absurd h h0
  · exact key a b ha hb h
theorem mul_lt_pow {a b x y : Nat} (ha : a < 2 ^ x) (hb : b < 2 ^ y) : a * b < 2 ^ (x + y) := by
  rw [Nat.pow_add]
  exact Nat.mul_lt_mul'' ha hb
theorem Sz.mul {a b : Nat} {p q : Rat} (h : Sz a p) (k : Sz b q) : Sz (a + b) (p * q) := by
  rw [← q_mul]
  refine sz_div ?_ ?_ (den_ne p q)
  · rw [Int.natAbs_mul]
    exact mul_lt_pow h.1 k.1
  · rw [Int.natAbs_mul, Int.natAbs_natCast, Int.natAbs_natCast]
    exact mul_lt_pow h.2 k.2
theorem Sz.add {a b : Nat} {p q : Rat} (h : Sz a p) (k : Sz b q) : Sz (a + b + 1) (p + q) := by
  rw [← q_add]
  have e1 := mul_lt_pow h.1 k.2
  have e2 := mul_lt_pow k.1 h.2
  have e3 := mul_lt_pow h.2 k.2
  rw [Nat.add_comm b a] at e2
  refine sz_div ?_ ?_ (den_ne p q)
  · rw [Nat.pow_succ]
    refine Nat.lt_of_le_of_lt (Int.natAbs_add_le _ _) ?_
    rw [Int.natAbs_mul, Int.natAbs_mul, Int.natAbs_natCast, Int.natAbs_natCast]
    omega
  · rw [Int.natAbs_mul, Int.natAbs_natCast, Int.natAbs_natCast, Nat.pow_succ]
    omega
theorem sz_zero {b : Nat} (h : 1 ≤ b) : Sz b 0 := by
  have : (2 : Nat) ^ 1 ≤ 2 ^ b := Nat.pow_le_pow_right (by decide) h
  refine ⟨?_, ?_⟩
  · show (0 : Nat) < _
    omega
  · show (1 : Nat) < _
    omega
theorem sz_one {b : Nat} (h : 1 ≤ b) : Sz b 1 := by
  have : (2 : Nat) ^ 1 ≤ 2 ^ b := Nat.pow_le_pow_right (by decide) h
  refine ⟨?_, ?_⟩
  · show (1 : Nat) < _
    omega
  · show (1 : Nat) < _
    omega
/-- the bits of a hill's value -/
def bb : Nat → Nat
  | 0 => 1
  | g + 1 => 2 * (20 + bb g) + 1
theorem bb_pos : ∀ g, 1 ≤ bb g
  | 0 => Nat.le_refl _
  | g + 1 => by
    unfold bb
    omega
theorem sz_part {a b : Int} (h1 : -1000000 ≤ a) (h2 : a ≤ 1000000) (h3 : 0 < b) (h4 : b ≤ 1000000) : Sz 20 ((a : Rat) / (b : Rat)) :=
  sz_div (by omega) (by omega) (by omega)
/-- every knot, the place: between 0 and a million -/
def Lo (K : List Int) : Prop := ∀ k ∈ K, 0 ≤ k ∧ k ≤ 1000000
theorem kn_lo {K : List Int} (h : Lo K) (i : Nat) : 0 ≤ kn K i ∧ kn K i ≤ 1000000 := by
  unfold kn
  rw [List.getD_eq_getElem?_getD]
  cases e : K[i]? with
  | none => exact ⟨Int.le_refl _, by decide⟩
  | some k => exact h k (List.mem_of_getElem? e)
theorem bmp_sz {K : List Int} {x : Int} (hK : Lo K) (hx : 0 ≤ x ∧ x ≤ 1000000) : ∀ g i, Sz (bb g) (bmp K x g i)
  | 0, i => by
    unfold bmp
    split
    · exact sz_one (Nat.le_refl _)
    · exact sz_zero (Nat.le_refl _)
  | g + 1, i => by
    have a := kn_lo hK i
    have b := kn_lo hK (i + 1)
    have c := kn_lo hK (i + g + 1)
    have d := kn_lo hK (i + g + 2)
    have p := bb_pos g
    unfold bmp
    have e : bb (g + 1) = (20 + bb g) + (20 + bb g) + 1 := by
      show 2 * (20 + bb g) + 1 = _
      omega
    rw [e]
    refine Sz.add ?_ ?_
    · split
      · exact Sz.mul (sz_part (by omega) (by omega) (by omega) (by omega)) (bmp_sz hK hx g i)
      · exact sz_zero (by omega)
    · split
      · exact Sz.mul (sz_part (by omega) (by omega) (by omega) (by omega)) (bmp_sz hK hx g (i + 1))
      · exact sz_zero (by omega)
theorem bb_le {g : Nat} (h : g ≤ 4) : bb g ≤ 631 := by
  have : g = 0 ∨ g = 1 ∨ g = 2 ∨ g = 3 ∨ g = 4 := by omega
  rcases this with rfl | rfl | rfl | rfl | rfl <;> decide
theorem bmp_fit {K : List Int} {x : Int} (hK : Lo K) (hx : 0 ≤ x ∧ x ≤ 1000000) {g : Nat} (h : g ≤ 4) (i : Nat) : FitF (bmp K x g i) := (bmp_sz hK hx g i).fit (Nat.le_trans (bb_le h) (by decide))
end Bt
/-! ==== W8 ==== -/
set_option Elab.async false
set_option linter.all false
set_option maxRecDepth 100000
set_option maxHeartbeats 2000000
/-! Checks; frames and curves made and read. -/
namespace Bt
open PySem PySem.Spec PyProof.Rows L2
/-! ### what is valid -/
def inR (v a b : Int) : Bool := decide (a ≤ v) && decide (v ≤ b)
structure Places (xs : List Int) : Prop where
  ne : xs ≠ []
  len : xs.length ≤ 12
  up : xs.Pairwise (· < ·)
  lo : ∀ x ∈ xs, 0 ≤ x ∧ x ≤ 1000000
structure Heights (ys : List Int) (m : Int) : Prop where
  len : (ys.length : Int) = m
  most : ys.length ≤ 1000
  lo : ∀ y ∈ ys, -100000000000000000000 ≤ y ∧ y ≤ 100000000000000000000
/-- degree g, knots ks -/
structure Knots (g : Int) (ks : List Int) : Prop where
  g0 : 0 ≤ g
  g4 : g ≤ 4
  least : g + 2 ≤ ks.length
  most : (ks.length : Int) ≤ g + 11
  lo : ∀ k ∈ ks, 0 ≤ k ∧ k ≤ 1000000
  up : ∀ i a b, ks[i]? = some a → ks[i + 1]? = some b → a ≤ b
  wide : ∀ (i : Nat) (a b : Int), ks[i]? = some a → ks[i + g.toNat + 1]? = some b → a ≠ b
abbrev IsFr (K : PySem.W.Frag) (f : Int × List Int) : VP := IsO (He.ga K "Frame") "parts" (IsP K IsI (IsT K IsI) f)
/-- a curve over the frame that is the value fv -/
abbrev IsCv (K : PySem.W.Frag) (fv : V) (am : List Rat) : VP := IsO (He.ga K "Curve") "parts" (IsP K IsV (IsT K (IsF K)) (fv, am))
/-! ### promises -/
def sp_is_integer (K : PySem.W.Frag) : Sp := sp1 IsI (fun _ => True) fun _ => IsB true
def sp_is_between (K : PySem.W.Frag) : Sp := sp3 IsI IsI IsI (fun _ _ _ => True) fun v a b => IsB (inR v a b)
def sp_is_place (K : PySem.W.Frag) : Sp := sp1 IsI (fun _ => True) fun v => IsB (inR v 0 1000000)
def sp_is_height (K : PySem.W.Frag) : Sp := sp1 IsI (fun _ => True) fun v => IsB (inR v (-100000000000000000000) 100000000000000000000)
def sp_places_fault (K : PySem.W.Frag) : Sp := sp1 (IsT K IsI) Places fun _ => IsI (-1)
def sp_check_places (K : PySem.W.Frag) : Sp := sp1 (IsT K IsI) Places fun _ => IsV .non
def sp_heights_fault (K : PySem.W.Frag) : Sp := sp2 (IsT K IsI) IsI Heights fun _ _ => IsI (-1)
def sp_check_heights (K : PySem.W.Frag) : Sp := sp2 (IsT K IsI) IsI Heights fun _ _ => IsV .non
def sp_knots_fault (K : PySem.W.Frag) : Sp := sp2 IsI (IsT K IsI) Knots fun _ _ => IsI (-1)
def sp_Frame (K : PySem.W.Frag) : Sp := spI (He.ga K "Frame") "parts" IsI (IsT K IsI) Knots fun g ks => IsP K IsI (IsT K IsI) (g, ks)
def sp_Frame_degree (K : PySem.W.Frag) : Sp := sp1 (IsFr K) (fun _ => True) fun f => IsI f.1
def sp_Frame_knots (K : PySem.W.Frag) : Sp := sp1 (IsFr K) (fun _ => True) fun f => IsT K IsI f.2
def sp_Frame_hills (K : PySem.W.Frag) : Sp := sp1 (IsFr K) (fun _ => True) fun f => IsI ((f.2.length : Int) - f.1 - 1)
def sp_check_frame (K : PySem.W.Frag) : Sp := sp1 (IsFr K) (fun _ => True) fun _ => IsV .non
def sp_is_ratio (K : PySem.W.Frag) : Sp := sp1 (IsF K) (fun _ => True) fun _ => IsB true
def sp_amounts_fault (K : PySem.W.Frag) : Sp := sp2 (IsT K (IsF K)) IsI (fun am m => (am.length : Int) = m ∧ am.length ≤ 1000) fun _ _ => IsI (-1)
/-- the frame itself, and what it is -/
def IsFrV (K : PySem.W.Frag) (x : V × (Int × List Int)) : VP := fun v H => v = x.1 ∧ IsFr K x.2 v H
instance (K : PySem.W.Frag) (x : V × (Int × List Int)) : Stays (IsFrV K x) := ⟨fun _ _ _ e ⟨h1, h2⟩ => ⟨h1, up e h2⟩⟩
def sp_Curve (K : PySem.W.Frag) : Sp := spI (He.ga K "Curve") "parts" (IsFrV K) (IsT K (IsF K)) (fun x am => (am.length : Int) = (x.2.2.length : Int) - x.2.1 - 1 ∧ am.length ≤ 1000) fun x am => IsP K IsV (IsT K (IsF K)) (x.1, am)
def sp_Curve_frame (K : PySem.W.Frag) : Sp := sp1 (fun (x : V × List Rat) => IsCv K x.1 x.2) (fun _ => True) fun x => IsV x.1
def sp_Curve_amounts (K : PySem.W.Frag) : Sp := sp1 (fun (x : V × List Rat) => IsCv K x.1 x.2) (fun _ => True) fun x => IsT K (IsF K) x.2
abbrev st_is_integer := top 27
theorem sc_is_integer : FnScope ["value"] ["value"] (defScope st_is_integer) := ⟨rfl, rfl, rfl, by decide +kernel, rfl, by decide +kernel, by decide +kernel⟩
def t_is_integer (K : PySem.W.Frag) : TS := (tRet (tAndV (tCB (rIsi K) (tCons (tVar 0) (tCons (tC (.ty "int")) tNil))) (tNotV (tCB (rIsi K) (tCons (tVar 0) (tCons (tC (.ty "bool")) tNil))))))
theorem ps_is_integer {P : Program} {w : World} {K : PySem.W.Frag} {mg : Str → Option Value} {base : Heap} (T : Txt P K mg base) : Hps P w K mg base 0 "is_integer" st_is_integer ["value"] (t_is_integer K) := fun f cdv A outer s H E hr =>
  (pss_one (ps_ret (pe_and (pe_callB call_isi (by rfl) T.f_isinstance (by decide +kernel) (pa_cons (pv 0) (pa_cons (pe_bltn (v := .ty "int") (by rfl) T.f_int (by decide +kernel) rfl) pa_nil))) (pe_one (pe_not (pe_callB call_isi (by rfl) T.f_isinstance (by decide +kernel) (pa_cons (pv 0) (pa_cons (pe_bltn (v := .ty "bool") (by rfl) T.f_bool (by decide +kernel) rfl) pa_nil))))))))
abbrev st_is_between := top 28
theorem sc_is_between : FnScope ["value", "least", "most"] ["value", "least", "most"] (defScope st_is_between) := ⟨rfl, rfl, rfl, by decide +kernel, rfl, by decide +kernel, by decide +kernel⟩
def t_is_between (K : PySem.W.Frag) : TS := (tRet (tAndV (tCall (sp_is_integer K) [] E0 (tCons (tVar 0) tNil)) (tChain rLeI rLeI (tVar 1) (tVar 0) (tVar 2))))
theorem ps_is_between {P : Program} {w : World} {K : PySem.W.Frag} {mg : Str → Option Value} {base : Heap} (T : Txt P K mg base) (c_is_integer : C8.Cal P w K mg base 1 "is_integer" (sp_is_integer K) []) : Hps P w K mg base 1 "is_between" st_is_between ["value", "least", "most"] (t_is_between K) := fun f cdv A outer s H E hr =>
  (pss_one (ps_ret (pe_and (C8.pe_c c_is_integer hr (by decide) rfl (pa_cons (pv 0) pa_nil)) (pe_one (pe_chain op_le op_le (pv 1) (pv 0) (pv 2))))))
abbrev st_is_place := top 31
theorem sc_is_place : FnScope ["value"] ["value"] (defScope st_is_place) := ⟨rfl, rfl, rfl, by decide +kernel, rfl, by decide +kernel, by decide +kernel⟩
def t_is_place (K : PySem.W.Frag) : TS := (tRet (tCall (sp_is_between K) [] E0 (tCons (tVar 0) (tCons (tC (.int 0)) (tCons (tC (.int 1000000)) tNil)))))
theorem ps_is_place {P : Program} {w : World} {K : PySem.W.Frag} {mg : Str → Option Value} {base : Heap} (T : Txt P K mg base) (c_is_between : C8.Cal P w K mg base 2 "is_between" (sp_is_between K) []) : Hps P w K mg base 2 "is_place" st_is_place ["value"] (t_is_place K) := fun f cdv A outer s H E hr =>
  (pss_one (ps_ret (C8.pe_c c_is_between hr (by decide) rfl (pa_cons (pv 0) (pa_cons pe_int (pa_cons (C8.pe_gc rfl T.MOST_KNOT) pa_nil))))))
abbrev st_is_height := top 32
theorem sc_is_height : FnScope ["value"] ["value"] (defScope st_is_height) := ⟨rfl, rfl, rfl, by decide +kernel, rfl, by decide +kernel, by decide +kernel⟩
def t_is_height (K : PySem.W.Frag) : TS := (tRet (tCall (sp_is_between K) [] E0 (tCons (tVar 0) (tCons (tUn uNeg (tC (.int 100000000000000000000))) (tCons (tC (.int 100000000000000000000)) tNil)))))
theorem ps_is_height {P : Program} {w : World} {K : PySem.W.Frag} {mg : Str → Option Value} {base : Heap} (T : Txt P K mg base) (c_is_between : C8.Cal P w K mg base 2 "is_between" (sp_is_between K) []) : Hps P w K mg base 2 "is_height" st_is_height ["value"] (t_is_height K) := fun f cdv A outer s H E hr =>
  (pss_one (ps_ret (C8.pe_c c_is_between hr (by decide) rfl (pa_cons (pv 0) (pa_cons (pe_un un_neg (C8.pe_gc rfl T.MOST_HEIGHT)) (pa_cons (C8.pe_gc rfl T.MOST_HEIGHT) pa_nil))))))
abbrev st_places_fault := top 33
theorem sc_places_fault : FnScope ["value", "index", "place"] ["value"] (defScope st_places_fault) := ⟨rfl, rfl, rfl, by decide +kernel, rfl, by decide +kernel, by decide +kernel⟩
def t_places_fault (K : PySem.W.Frag) : TS := (tSeq (tIfS (tOr (tNot (tB (tCB (rIsi K) (tCons (tVar 0) (tCons (tC (.ty "tuple")) tNil))))) (tTest (tOp (rEqD K) (tVar 0) (tTup tNil)))) (tRet (tC .non)) tNext)
    (tSeq (tFor (iEnumX K (tCons (tVar 0) tNil)) (gTup K 2 (gCons (gName 1) (gCons (gName 2) gNil)))
    (tIfS (tOr (tTest (tOp rEq (tVar 1) (tC (.int 12)))) (tOr (tNot (tB (tCall (sp_is_place K) [] E0 (tCons (tVar 2) tNil)))) (tAnd (tTest (tOp rGtI (tVar 1) (tC (.int 0)))) (tTest (tOp rLeI (tVar 2) (tOp (rIxT K) (tVar 0) (tOp rSubI (tVar 1) (tC (.int 1))))))))) (tRet (tVar 1)) tNext))
    (tRet (tUn uNeg (tC (.int 1))))))
theorem ps_places_fault {P : Program} {w : World} {K : PySem.W.Frag} {mg : Str → Option Value} {base : Heap} (T : Txt P K mg base) (c_is_place : C8.Cal P w K mg base 3 "is_place" (sp_is_place K) []) : Hps P w K mg base 3 "places_fault" st_places_fault ["value", "index", "place"] (t_places_fault K) := fun f cdv A outer s H E hr =>
  (pss_cons (ps_if (PW.pt (pw_or (pt_not (pt_val (pe_callB call_isi (by rfl) T.f_isinstance (by decide +kernel) (pa_cons (pv 0) (pa_cons (pe_bltn (v := .ty "tuple") (by rfl) T.f_tuple (by decide +kernel) rfl) pa_nil))))) (pw_or1 (pt_cmpR (op_eqD hr.units) (pv 0) (pe_tup pa_nil) (nomark _))))) (pss_one (ps_ret pe_non)) pss_nil)
    (pss_cons (ps_for PassesOwn.never rfl (pi_enumX rfl T.f_enumerate (pa_cons (pv 0) pa_nil)) (pg_tup rfl (pgs_cons (pg_name (i := 1) sc_places_fault.nd rfl (Or.inl rfl)) (pgs_cons (pg_name (i := 2) sc_places_fault.nd rfl (Or.inl rfl)) pgs_nil)))
    (pss_one (ps_if (PW.pt (pw_or (pt_cmpR op_eq (pv 1) (C8.pe_gc rfl T.MOST_PLACES) (nomark _)) (pw_or (pt_not (pt_val (C8.pe_c c_is_place hr (by decide) rfl (pa_cons (pv 2) pa_nil)))) (pw_or1 (PW.pt (pw_and (pt_cmpR op_gt (pv 1) pe_int (nomark _)) (pw_and1 (pt_cmpR op_le (pv 2) (pe_ix ix_tup (pv 0) (pe_op op_sub (pv 1) pe_int) (fun _ _ => rfl)) (nomark _))))))))) (pss_one (ps_ret (pv 1))) pss_nil)))
    (pss_one (ps_ret (pe_un un_neg pe_int)))))
abbrev st_check_places := top 34
theorem sc_check_places : FnScope ["value"] ["value"] (defScope st_check_places) := ⟨rfl, rfl, rfl, by decide +kernel, rfl, by decide +kernel, by decide +kernel⟩
def t_check_places (K : PySem.W.Frag) : TS := (tIfS (tTest (tOp rNe (tCall (sp_places_fault K) [] E0 (tCons (tVar 0) tNil)) (tUn uNeg (tC (.int 1))))) tNever tNext)
theorem ps_check_places {P : Program} {w : World} {K : PySem.W.Frag} {mg : Str → Option Value} {base : Heap} (T : Txt P K mg base) (c_places_fault : C8.Cal P w K mg base 4 "places_fault" (sp_places_fault K) []) : Hps P w K mg base 4 "check_places" st_check_places ["value"] (t_check_places K) := fun f cdv A outer s H E hr =>
  (pss_one (ps_if (pt_cmpR op_ne (C8.pe_c c_places_fault hr (by decide) rfl (pa_cons (pv 0) pa_nil)) (pe_un un_neg pe_int) (nomark _)) (pss_one ps_never) pss_nil))
abbrev st_heights_fault := top 35
theorem sc_heights_fault : FnScope ["value", "many", "wrong", "index", "height"] ["value", "many"] (defScope st_heights_fault) := ⟨rfl, rfl, rfl, by decide +kernel, rfl, by decide +kernel, by decide +kernel⟩
def t_heights_fault (K : PySem.W.Frag) : TS := (tSeq (tIfS (tOr (tNot (tB (tCB (rIsi K) (tCons (tVar 0) (tCons (tC (.ty "tuple")) tNil))))) (tTest (tOp rNe (tCB (rLen K) (tCons (tVar 0) tNil)) (tVar 1)))) (tRet (tC .non)) tNext)
    (tSeq (tAsg (tLc (iEnumX K (tCons (tVar 0) tNil)) (gTup K 2 (gCons (gName 3) (gCons (gName 4) gNil))) (tNot (tB (tCall (sp_is_height K) [] E0 (tCons (tVar 4) tNil)))) (tVar 3) [3, 4]) (gName 2))
    (tRet (tIf (tTest (tOp (rNeD K) (tVar 2) (tLst tNil))) (tOp (rIxL K) (tVar 2) (tC (.int 0))) (tUn uNeg (tC (.int 1)))))))
theorem ps_heights_fault {P : Program} {w : World} {K : PySem.W.Frag} {mg : Str → Option Value} {base : Heap} (T : Txt P K mg base) (c_is_height : C8.Cal P w K mg base 3 "is_height" (sp_is_height K) []) : Hps P w K mg base 3 "heights_fault" st_heights_fault ["value", "many", "wrong", "index", "height"] (t_heights_fault K) := fun f cdv A outer s H E hr =>
  (pss_cons (ps_if (PW.pt (pw_or (pt_not (pt_val (pe_callB call_isi (by rfl) T.f_isinstance (by decide +kernel) (pa_cons (pv 0) (pa_cons (pe_bltn (v := .ty "tuple") (by rfl) T.f_tuple (by decide +kernel) rfl) pa_nil))))) (pw_or1 (pt_cmpR op_ne (pe_callB call_len (by rfl) T.f_len (by decide +kernel) (pa_cons (pv 0) pa_nil)) (pv 1) (nomark _))))) (pss_one (ps_ret pe_non)) pss_nil)
    (pss_cons (ps_setLc (i := 2) (own := [("index", 3), ("height", 4)]) (g := (gTup K 2 (gCons (gName 3) (gCons (gName 4) gNil)))) (tt := (tNot (tB (tCall (sp_is_height K) [] E0 (tCons (tVar 4) tNil))))) rfl sc_heights_fault.nd rfl rfl (sw_true rfl rfl rfl (by decide +kernel)) (pi_enumX rfl T.f_enumerate (pa_cons (pv 0) pa_nil)) (blkOk_by (by rfl)) (fun _ _ _ _ _ => (pg_tup rfl (pgs_cons (pg_name (i := 3) sc_heights_fault.nd rfl (Or.inl rfl)) (pgs_cons (pg_name (i := 4) sc_heights_fault.nd rfl (Or.inl rfl)) pgs_nil)))) (fun _ _ _ _ _ => (pts_one (pt_not (pt_val (C8.pe_c c_is_height hr (by decide) rfl (pa_cons (pv 4) pa_nil)))))) (fun _ _ _ _ _ => (pv 3)))
    (pss_one (ps_ret (pe_ifExp (pt_cmpR (op_neD hr.units) (pv 2) (pe_lst pa_nil) (nomark _)) (pe_ix ix_list (pv 2) pe_int (fun _ _ => rfl)) (pe_un un_neg pe_int))))))
abbrev st_check_heights := top 36
theorem sc_check_heights : FnScope ["value", "many"] ["value", "many"] (defScope st_check_heights) := ⟨rfl, rfl, rfl, by decide +kernel, rfl, by decide +kernel, by decide +kernel⟩
def t_check_heights (K : PySem.W.Frag) : TS := (tIfS (tTest (tOp rNe (tCall (sp_heights_fault K) [] E0 (tCons (tVar 0) (tCons (tVar 1) tNil))) (tUn uNeg (tC (.int 1))))) tNever tNext)
theorem ps_check_heights {P : Program} {w : World} {K : PySem.W.Frag} {mg : Str → Option Value} {base : Heap} (T : Txt P K mg base) (c_heights_fault : C8.Cal P w K mg base 4 "heights_fault" (sp_heights_fault K) []) : Hps P w K mg base 4 "check_heights" st_check_heights ["value", "many"] (t_check_heights K) := fun f cdv A outer s H E hr =>
  (pss_one (ps_if (pt_cmpR op_ne (C8.pe_c c_heights_fault hr (by decide) rfl (pa_cons (pv 0) (pa_cons (pv 1) pa_nil))) (pe_un un_neg pe_int) (nomark _)) (pss_one ps_never) pss_nil))
abbrev st_knots_fault := top 39
theorem sc_knots_fault : FnScope ["degree", "value", "index", "knot"] ["degree", "value"] (defScope st_knots_fault) := ⟨rfl, rfl, rfl, by decide +kernel, rfl, by decide +kernel, by decide +kernel⟩
def t_knots_fault (K : PySem.W.Frag) : TS := (tSeq (tIfS (tOr (tNot (tB (tCB (rIsi K) (tCons (tVar 1) (tCons (tC (.ty "tuple")) tNil))))) (tTest (tOp rLtI (tCB (rLen K) (tCons (tVar 1) tNil)) (tOp rAddI (tVar 0) (tC (.int 2)))))) (tRet (tC .non)) tNext)
    (tSeq (tFor (iEnumX K (tCons (tVar 1) tNil)) (gTup K 2 (gCons (gName 2) (gCons (gName 3) gNil)))
    (tSeq (tIfS (tOr (tTest (tOp rEq (tVar 2) (tOp rAddI (tOp rAddI (tVar 0) (tC (.int 1))) (tC (.int 10))))) (tNot (tB (tCall (sp_is_between K) [] E0 (tCons (tVar 3) (tCons (tC (.int 0)) (tCons (tC (.int 1000000)) tNil))))))) (tRet (tVar 2)) tNext)
    (tSeq (tIfS (tAnd (tTest (tOp rGtI (tVar 2) (tC (.int 0)))) (tTest (tOp rLtI (tVar 3) (tOp (rIxT K) (tVar 1) (tOp rSubI (tVar 2) (tC (.int 1))))))) (tRet (tVar 2)) tNext)
    (tIfS (tAnd (tTest (tOp rGtI (tVar 2) (tVar 0))) (tTest (tOp rEq (tOp (rIxT K) (tVar 1) (tOp rSubI (tOp rSubI (tVar 2) (tVar 0)) (tC (.int 1)))) (tVar 3)))) (tRet (tVar 2)) tNext))))
    (tRet (tUn uNeg (tC (.int 1))))))
theorem ps_knots_fault {P : Program} {w : World} {K : PySem.W.Frag} {mg : Str → Option Value} {base : Heap} (T : Txt P K mg base) (c_is_between : C8.Cal P w K mg base 2 "is_between" (sp_is_between K) []) : Hps P w K mg base 2 "knots_fault" st_knots_fault ["degree", "value", "index", "knot"] (t_knots_fault K) := fun f cdv A outer s H E hr =>
  (pss_cons (ps_if (PW.pt (pw_or (pt_not (pt_val (pe_callB call_isi (by rfl) T.f_isinstance (by decide +kernel) (pa_cons (pv 1) (pa_cons (pe_bltn (v := .ty "tuple") (by rfl) T.f_tuple (by decide +kernel) rfl) pa_nil))))) (pw_or1 (pt_cmpR op_lt (pe_callB call_len (by rfl) T.f_len (by decide +kernel) (pa_cons (pv 1) pa_nil)) (pe_op op_add (pv 0) pe_int) (nomark _))))) (pss_one (ps_ret pe_non)) pss_nil)
    (pss_cons (ps_for PassesOwn.never rfl (pi_enumX rfl T.f_enumerate (pa_cons (pv 1) pa_nil)) (pg_tup rfl (pgs_cons (pg_name (i := 2) sc_knots_fault.nd rfl (Or.inl rfl)) (pgs_cons (pg_name (i := 3) sc_knots_fault.nd rfl (Or.inl rfl)) pgs_nil)))
    (pss_cons (ps_if (PW.pt (pw_or (pt_cmpR op_eq (pv 2) (pe_op op_add (pe_op op_add (pv 0) pe_int) (C8.pe_gc rfl T.MOST_HILLS)) (nomark _)) (pw_or1 (pt_not (pt_val (C8.pe_c c_is_between hr (by decide) rfl (pa_cons (pv 3) (pa_cons pe_int (pa_cons (C8.pe_gc rfl T.MOST_KNOT) pa_nil))))))))) (pss_one (ps_ret (pv 2))) pss_nil)
    (pss_cons (ps_if (PW.pt (pw_and (pt_cmpR op_gt (pv 2) pe_int (nomark _)) (pw_and1 (pt_cmpR op_lt (pv 3) (pe_ix ix_tup (pv 1) (pe_op op_sub (pv 2) pe_int) (fun _ _ => rfl)) (nomark _))))) (pss_one (ps_ret (pv 2))) pss_nil)
    (pss_one (ps_if (PW.pt (pw_and (pt_cmpR op_gt (pv 2) (pv 0) (nomark _)) (pw_and1 (pt_cmpR op_eq (pe_ix ix_tup (pv 1) (pe_op op_sub (pe_op op_sub (pv 2) (pv 0)) pe_int) (fun _ _ => rfl)) (pv 3) (nomark _))))) (pss_one (ps_ret (pv 2))) pss_nil)))))
    (pss_one (ps_ret (pe_un un_neg pe_int)))))
abbrev st_Frame___init__ := inClass (top 40) 0
theorem sc_Frame___init__ : FnScope ["self", "degree", "knots"] ["self", "degree", "knots"] (defScope st_Frame___init__) := ⟨rfl, rfl, rfl, by decide +kernel, rfl, by decide +kernel, by decide +kernel⟩
def t_Frame___init__ (K : PySem.W.Frag) : TS := (tSeq (tIfS (tNot (tB (tCall (sp_is_between K) [] E0 (tCons (tVar 1) (tCons (tC (.int 0)) (tCons (tC (.int 4)) tNil)))))) tNever tNext)
    (tSeq (tIfS (tTest (tOp rNe (tCall (sp_knots_fault K) [] E0 (tCons (tVar 1) (tCons (tVar 2) tNil))) (tUn uNeg (tC (.int 1))))) tNever tNext)
    (sFld K (tVar 0) (tTup (tCons (tVar 1) (tCons (tVar 2) tNil))) "parts")))
theorem ps_Frame___init__ {P : Program} {w : World} {K : PySem.W.Frag} {mg : Str → Option Value} {base : Heap} (T : Txt P K mg base) (c_is_between : C8.Cal P w K mg base 2 "is_between" (sp_is_between K) []) (c_knots_fault : C8.Cal P w K mg base 3 "knots_fault" (sp_knots_fault K) []) : Hps P w K mg base 3 "Frame.__init__" st_Frame___init__ ["self", "degree", "knots"] (t_Frame___init__ K) := fun f cdv A outer s H E hr =>
  (pss_cons (ps_if (pt_not (pt_val (C8.pe_c c_is_between hr (by decide) rfl (pa_cons (pv 1) (pa_cons pe_int (pa_cons (C8.pe_gc rfl T.MOST_DEGREE) pa_nil)))))) (pss_one ps_never) pss_nil)
    (pss_cons (ps_if (pt_cmpR op_ne (C8.pe_c c_knots_fault hr (by decide) rfl (pa_cons (pv 1) (pa_cons (pv 2) pa_nil))) (pe_un un_neg pe_int) (nomark _)) (pss_one ps_never) pss_nil)
    (pss_one (ps_fld (pv 0) (pe_tup (pa_cons (pv 1) (pa_cons (pv 2) pa_nil))) rfl))))
abbrev st_Frame_degree := inClass (top 40) 2
theorem sc_Frame_degree : FnScope ["self"] ["self"] (defScope st_Frame_degree) := ⟨rfl, rfl, rfl, by decide +kernel, rfl, by decide +kernel, by decide +kernel⟩
def t_Frame_degree (K : PySem.W.Frag) : TS := (tRet (tOp (rIxT K) (tFld K (tVar 0) "parts") (tC (.int 0))))
theorem ps_Frame_degree {P : Program} {w : World} {K : PySem.W.Frag} {mg : Str → Option Value} {base : Heap} (T : Txt P K mg base) : Hps P w K mg base 0 "Frame.degree" st_Frame_degree ["self"] (t_Frame_degree K) := fun f cdv A outer s H E hr =>
  (pss_one (ps_ret (pe_ix ix_tup (pe_fld (pv 0) rfl) pe_int (fun _ _ => rfl))))
abbrev st_Frame_knots := inClass (top 40) 3
theorem sc_Frame_knots : FnScope ["self"] ["self"] (defScope st_Frame_knots) := ⟨rfl, rfl, rfl, by decide +kernel, rfl, by decide +kernel, by decide +kernel⟩
def t_Frame_knots (K : PySem.W.Frag) : TS := (tRet (tOp (rIxT K) (tFld K (tVar 0) "parts") (tC (.int 1))))
theorem ps_Frame_knots {P : Program} {w : World} {K : PySem.W.Frag} {mg : Str → Option Value} {base : Heap} (T : Txt P K mg base) : Hps P w K mg base 0 "Frame.knots" st_Frame_knots ["self"] (t_Frame_knots K) := fun f cdv A outer s H E hr =>
  (pss_one (ps_ret (pe_ix ix_tup (pe_fld (pv 0) rfl) pe_int (fun _ _ => rfl))))
abbrev st_Frame_hills := inClass (top 40) 4
theorem sc_Frame_hills : FnScope ["self"] ["self"] (defScope st_Frame_hills) := ⟨rfl, rfl, rfl, by decide +kernel, rfl, by decide +kernel, by decide +kernel⟩
def t_Frame_hills (K : PySem.W.Frag) : TS := (tRet (tOp rSubI (tOp rSubI (tCB (rLen K) (tCons (tOp (rIxT K) (tFld K (tVar 0) "parts") (tC (.int 1))) tNil)) (tOp (rIxT K) (tFld K (tVar 0) "parts") (tC (.int 0)))) (tC (.int 1))))
theorem ps_Frame_hills {P : Program} {w : World} {K : PySem.W.Frag} {mg : Str → Option Value} {base : Heap} (T : Txt P K mg base) : Hps P w K mg base 0 "Frame.hills" st_Frame_hills ["self"] (t_Frame_hills K) := fun f cdv A outer s H E hr =>
  (pss_one (ps_ret (pe_op op_sub (pe_op op_sub (pe_callB call_len (by rfl) T.f_len (by decide +kernel) (pa_cons (pe_ix ix_tup (pe_fld (pv 0) rfl) pe_int (fun _ _ => rfl)) pa_nil)) (pe_ix ix_tup (pe_fld (pv 0) rfl) pe_int (fun _ _ => rfl))) pe_int)))
abbrev st_check_frame := top 41
theorem sc_check_frame : FnScope ["value"] ["value"] (defScope st_check_frame) := ⟨rfl, rfl, rfl, by decide +kernel, rfl, by decide +kernel, by decide +kernel⟩
def t_check_frame (K : PySem.W.Frag) : TS := (tIfS (tNot (tB (tCB (rIsi K) (tCons (tVar 0) (tCons (tC (.ref (He.ga K "Frame"))) tNil))))) tNever tNext)
theorem ps_check_frame {P : Program} {w : World} {K : PySem.W.Frag} {mg : Str → Option Value} {base : Heap} (T : Txt P K mg base) : Hps P w K mg base 0 "check_frame" st_check_frame ["value"] (t_check_frame K) := fun f cdv A outer s H E hr =>
  (pss_one (ps_if (pt_not (pt_val (pe_callB call_isi (by rfl) T.f_isinstance (by decide +kernel) (pa_cons (pv 0) (pa_cons (C8.pe_gc rfl T.c_Frame) pa_nil))))) (pss_one ps_never) pss_nil))
abbrev st_is_ratio := top 53
theorem sc_is_ratio : FnScope ["value"] ["value"] (defScope st_is_ratio) := ⟨rfl, rfl, rfl, by decide +kernel, rfl, by decide +kernel, by decide +kernel⟩
def t_is_ratio (K : PySem.W.Frag) : TS := (tSeq (tIfS (tOr (tNot (tB (tCB (rIsi K) (tCons (tVar 0) (tCons (tC (.ty "tuple")) tNil))))) (tOr (tTest (tOp rNe (tCB (rLen K) (tCons (tVar 0) tNil)) (tC (.int 2)))) (tOr (tNot (tB (tCall (sp_is_integer K) [] E0 (tCons (tOp (rIxT K) (tVar 0) (tC (.int 0))) tNil)))) (tNot (tB (tCall (sp_is_integer K) [] E0 (tCons (tOp (rIxT K) (tVar 0) (tC (.int 1))) tNil))))))) (tRet (tC (.bl false))) tNext)
    (tRet (tAndV (tOp rGtI (tOp (rIxT K) (tVar 0) (tC (.int 1))) (tC (.int 0))) (tOp rEq (tCall (sp_common K) [] E0 (tCons (tOp (rIxT K) (tVar 0) (tC (.int 0))) (tCons (tOp (rIxT K) (tVar 0) (tC (.int 1))) tNil))) (tC (.int 1))))))
theorem ps_is_ratio {P : Program} {w : World} {K : PySem.W.Frag} {mg : Str → Option Value} {base : Heap} (T : Txt P K mg base) (c_is_integer : C8.Cal P w K mg base 1 "is_integer" (sp_is_integer K) []) (c_common : C8.Cal P w K mg base 1 "common" (sp_common K) []) : Hps P w K mg base 1 "is_ratio" st_is_ratio ["value"] (t_is_ratio K) := fun f cdv A outer s H E hr =>
  (pss_cons (ps_if (PW.pt (pw_or (pt_not (pt_val (pe_callB call_isi (by rfl) T.f_isinstance (by decide +kernel) (pa_cons (pv 0) (pa_cons (pe_bltn (v := .ty "tuple") (by rfl) T.f_tuple (by decide +kernel) rfl) pa_nil))))) (pw_or (pt_cmpR op_ne (pe_callB call_len (by rfl) T.f_len (by decide +kernel) (pa_cons (pv 0) pa_nil)) pe_int (nomark _)) (pw_or (pt_not (pt_val (C8.pe_c c_is_integer hr (by decide) rfl (pa_cons (pe_ix ix_tup (pv 0) pe_int (fun _ _ => rfl)) pa_nil)))) (pw_or1 (pt_not (pt_val (C8.pe_c c_is_integer hr (by decide) rfl (pa_cons (pe_ix ix_tup (pv 0) pe_int (fun _ _ => rfl)) pa_nil))))))))) (pss_one (ps_ret pe_bl)) pss_nil)
    (pss_one (ps_ret (pe_and (pe_cmpR op_gt (pe_ix ix_tup (pv 0) pe_int (fun _ _ => rfl)) pe_int (nomark _)) (pe_one (pe_cmpR op_eq (C8.pe_c c_common hr (by decide) rfl (pa_cons (pe_ix ix_tup (pv 0) pe_int (fun _ _ => rfl)) (pa_cons (pe_ix ix_tup (pv 0) pe_int (fun _ _ => rfl)) pa_nil))) pe_int (nomark _)))))))
abbrev st_amounts_fault := top 59
theorem sc_amounts_fault : FnScope ["value", "many", "wrong", "index", "amount"] ["value", "many"] (defScope st_amounts_fault) := ⟨rfl, rfl, rfl, by decide +kernel, rfl, by decide +kernel, by decide +kernel⟩
def t_amounts_fault (K : PySem.W.Frag) : TS := (tSeq (tIfS (tOr (tNot (tB (tCB (rIsi K) (tCons (tVar 0) (tCons (tC (.ty "tuple")) tNil))))) (tTest (tOp rNe (tCB (rLen K) (tCons (tVar 0) tNil)) (tVar 1)))) (tRet (tC .non)) tNext)
    (tSeq (tAsg (tLc (iEnumX K (tCons (tVar 0) tNil)) (gTup K 2 (gCons (gName 3) (gCons (gName 4) gNil))) (tNot (tB (tCall (sp_is_ratio K) [] E0 (tCons (tVar 4) tNil)))) (tVar 3) [3, 4]) (gName 2))
    (tRet (tIf (tTest (tOp (rNeD K) (tVar 2) (tLst tNil))) (tOp (rIxL K) (tVar 2) (tC (.int 0))) (tUn uNeg (tC (.int 1)))))))
theorem ps_amounts_fault {P : Program} {w : World} {K : PySem.W.Frag} {mg : Str → Option Value} {base : Heap} (T : Txt P K mg base) (c_is_ratio : C8.Cal P w K mg base 2 "is_ratio" (sp_is_ratio K) []) : Hps P w K mg base 2 "amounts_fault" st_amounts_fault ["value", "many", "wrong", "index", "amount"] (t_amounts_fault K) := fun f cdv A outer s H E hr =>
  (pss_cons (ps_if (PW.pt (pw_or (pt_not (pt_val (pe_callB call_isi (by rfl) T.f_isinstance (by decide +kernel) (pa_cons (pv 0) (pa_cons (pe_bltn (v := .ty "tuple") (by rfl) T.f_tuple (by decide +kernel) rfl) pa_nil))))) (pw_or1 (pt_cmpR op_ne (pe_callB call_len (by rfl) T.f_len (by decide +kernel) (pa_cons (pv 0) pa_nil)) (pv 1) (nomark _))))) (pss_one (ps_ret pe_non)) pss_nil)
    (pss_cons (ps_setLc (i := 2) (own := [("index", 3), ("amount", 4)]) (g := (gTup K 2 (gCons (gName 3) (gCons (gName 4) gNil)))) (tt := (tNot (tB (tCall (sp_is_ratio K) [] E0 (tCons (tVar 4) tNil))))) rfl sc_amounts_fault.nd rfl rfl (sw_true rfl rfl rfl (by decide +kernel)) (pi_enumX rfl T.f_enumerate (pa_cons (pv 0) pa_nil)) (blkOk_by (by rfl)) (fun _ _ _ _ _ => (pg_tup rfl (pgs_cons (pg_name (i := 3) sc_amounts_fault.nd rfl (Or.inl rfl)) (pgs_cons (pg_name (i := 4) sc_amounts_fault.nd rfl (Or.inl rfl)) pgs_nil)))) (fun _ _ _ _ _ => (pts_one (pt_not (pt_val (C8.pe_c c_is_ratio hr (by decide) rfl (pa_cons (pv 4) pa_nil)))))) (fun _ _ _ _ _ => (pv 3)))
    (pss_one (ps_ret (pe_ifExp (pt_cmpR (op_neD hr.units) (pv 2) (pe_lst pa_nil) (nomark _)) (pe_ix ix_list (pv 2) pe_int (fun _ _ => rfl)) (pe_un un_neg pe_int))))))
abbrev st_Curve___init__ := inClass (top 60) 0
theorem sc_Curve___init__ : FnScope ["self", "frame", "amounts"] ["self", "frame", "amounts"] (defScope st_Curve___init__) := ⟨rfl, rfl, rfl, by decide +kernel, rfl, by decide +kernel, by decide +kernel⟩
def t_Curve___init__ (K : PySem.W.Frag) : TS := (tSeq (tDrop (tCall (sp_check_frame K) [] E0 (tCons (tVar 1) tNil)))
    (tSeq (tIfS (tTest (tOp rNe (tCall (sp_amounts_fault K) [] E0 (tCons (tVar 2) (tCons (tProp (He.ga K "Frame") (sp_Frame_hills K) [] E0 (tVar 1)) tNil))) (tUn uNeg (tC (.int 1))))) tNever tNext)
    (sFld K (tVar 0) (tTup (tCons (tVar 1) (tCons (tVar 2) tNil))) "parts")))
theorem ps_Curve___init__ {P : Program} {w : World} {K : PySem.W.Frag} {mg : Str → Option Value} {base : Heap} (T : Txt P K mg base) (c_check_frame : C8.Cal P w K mg base 1 "check_frame" (sp_check_frame K) []) (c_amounts_fault : C8.Cal P w K mg base 3 "amounts_fault" (sp_amounts_fault K) []) (p_Frame_hills : Prp P w K mg base 1 (He.ga K "Frame") "hills" (sp_Frame_hills K)) : Hps P w K mg base 4 "Curve.__init__" st_Curve___init__ ["self", "frame", "amounts"] (t_Curve___init__ K) := fun f cdv A outer s H E hr =>
  (pss_cons (ps_expr (C8.pe_c c_check_frame hr (by decide) rfl (pa_cons (pv 1) pa_nil)))
    (pss_cons (ps_if (pt_cmpR op_ne (C8.pe_c c_amounts_fault hr (by decide) rfl (pa_cons (pv 2) (pa_cons (pe_prp p_Frame_hills hr (by decide) (pv 1) rfl) pa_nil))) (pe_un un_neg pe_int) (nomark _)) (pss_one ps_never) pss_nil)
    (pss_one (ps_fld (pv 0) (pe_tup (pa_cons (pv 1) (pa_cons (pv 2) pa_nil))) rfl))))
abbrev st_Curve_frame := inClass (top 60) 1
theorem sc_Curve_frame : FnScope ["self"] ["self"] (defScope st_Curve_frame) := ⟨rfl, rfl, rfl, by decide +kernel, rfl, by decide +kernel, by decide +kernel⟩
def t_Curve_frame (K : PySem.W.Frag) : TS := (tRet (tOp (rIxT K) (tFld K (tVar 0) "parts") (tC (.int 0))))
theorem ps_Curve_frame {P : Program} {w : World} {K : PySem.W.Frag} {mg : Str → Option Value} {base : Heap} (T : Txt P K mg base) : Hps P w K mg base 0 "Curve.frame" st_Curve_frame ["self"] (t_Curve_frame K) := fun f cdv A outer s H E hr =>
  (pss_one (ps_ret (pe_ix ix_tup (pe_fld (pv 0) rfl) pe_int (fun _ _ => rfl))))
abbrev st_Curve_amounts := inClass (top 60) 2
theorem sc_Curve_amounts : FnScope ["self"] ["self"] (defScope st_Curve_amounts) := ⟨rfl, rfl, rfl, by decide +kernel, rfl, by decide +kernel, by decide +kernel⟩
def t_Curve_amounts (K : PySem.W.Frag) : TS := (tRet (tOp (rIxT K) (tFld K (tVar 0) "parts") (tC (.int 1))))
theorem ps_Curve_amounts {P : Program} {w : World} {K : PySem.W.Frag} {mg : Str → Option Value} {base : Heap} (T : Txt P K mg base) : Hps P w K mg base 0 "Curve.amounts" st_Curve_amounts ["self"] (t_Curve_amounts K) := fun f cdv A outer s H E hr =>
  (pss_one (ps_ret (pe_ix ix_tup (pe_fld (pv 0) rfl) pe_int (fun _ _ => rfl))))
section
variable {P : Program} {w : World} {K : PySem.W.Frag} {mg : Str → Option Value} {base : Heap}
theorem cal_is_integer (D : Dd K mg "is_integer" st_is_integer) (T : Txt P K mg base) : C8.Cal P w K mg base 1 "is_integer" (sp_is_integer K) [] :=
  cal1 D sc_is_integer (fun _ _ _ _ _ _ us hl => match us, hl with | [_], _ => rfl) (ps_is_integer T) fun G a x hx _ =>
    es_ret (ep_andV (ep_isi (ep_var (P := IsI a) rfl hx) (.ty "int") (fun _ _ => ty_int) kit_ii) fun _ => ep_notV (ep_isi (ep_var (P := IsI a) rfl hx) (.ty "bool") (fun _ _ => ty_int) kit_ib))
theorem cal_is_between (D : Dd K mg "is_between" st_is_between) (T : Txt P K mg base) (c : C8.Cal P w K mg base 1 "is_integer" (sp_is_integer K) []) : C8.Cal P w K mg base 2 "is_between" (sp_is_between K) [] :=
  cal3 D sc_is_between (fun _ _ _ _ _ _ us hl => match us, hl with | [_, _, _], _ => rfl) (ps_is_between T c) fun G v a b x y z hx hy hz _ =>
    es_ret ((ep_andV (ep_call1 v (ep_var rfl hx) trivial) fun _ => ep_chain (ep_var rfl hy) (ep_var rfl hx) rfl (fun _ => ep_var rfl hz) fun _ => rfl).is (by rw [Bool.true_and]; rfl))
theorem cal_is_place (D : Dd K mg "is_place" st_is_place) (T : Txt P K mg base) (c : C8.Cal P w K mg base 2 "is_between" (sp_is_between K) []) : C8.Cal P w K mg base 3 "is_place" (sp_is_place K) [] :=
  cal1 D sc_is_place (fun _ _ _ _ _ _ us hl => match us, hl with | [_], _ => rfl) (ps_is_place T c) fun G a x hx _ => es_ret (ep_call3 a 0 1000000 (ep_var rfl hx) ep_c ep_c trivial)
theorem cal_is_height (D : Dd K mg "is_height" st_is_height) (T : Txt P K mg base) (c : C8.Cal P w K mg base 2 "is_between" (sp_is_between K) []) : C8.Cal P w K mg base 3 "is_height" (sp_is_height K) [] :=
  cal1 D sc_is_height (fun _ _ _ _ _ _ us hl => match us, hl with | [_], _ => rfl) (ps_is_height T c) fun G a x hx _ => es_ret (ep_call3 a (-100000000000000000000) 100000000000000000000 (ep_var rfl hx) (ep_neg ep_c) ep_c trivial)
theorem inR_true {v a b : Int} (h : a ≤ v ∧ v ≤ b) : inR v a b = true := by simp [inR, h.1, h.2]
theorem enum_get {α : Type} {xs : List α} {i : Nat} {p : Int × α} (h : (enumI xs)[i]? = some p) : i < xs.length ∧ p.1 = (i : Nat) ∧ xs[i]? = some p.2 := by
  unfold enumI at h
  have hz := List.getElem?_zip_eq_some.mp h
  have hr := rng_get hz.1
  exact ⟨hr.1, by rw [hr.2, Int.zero_add], hz.2⟩
theorem enum_len {α : Type} {xs : List α} : (enumI xs).length = xs.length := by
  unfold enumI
  rw [List.length_zip, rng_len, Nat.min_self]
theorem cal_places_fault (D : Dd K mg "places_fault" st_places_fault) (T : Txt P K mg base) (c : C8.Cal P w K mg base 3 "is_place" (sp_is_place K) []) : C8.Cal P w K mg base 4 "places_fault" (sp_places_fault K) [] :=
  cal1 D sc_places_fault (fun _ _ _ _ _ _ us hl => match us, hl with | [_], _ => rfl) (ps_places_fault T c) fun G xs x hx hp => by
    refine sq_skip ((et_or (et_not (et_B (ep_isi (ep_var (P := IsT K IsI xs) rfl hx) (.ty "tuple") (fun _ _ => ty_T) kit_tt))) fun _ => et_test (ep_eqTI (ep_var (P := IsT K IsI xs) rfl hx) ep_nilT)).is (by simp [hp.ne])) ?_
    refine es_seq (N1 := fun _ _ => True) (es_for (it_enum (F := IsI) (xs := xs) (Ep.sT (ep_var rfl hx))) (fun i σ G => ∃ a b, σ = [some x, a, b]) ⟨none, none, rfl⟩ (fun _ _ _ _ _ h => h) ?_ fun _ _ _ _ => trivial) fun _ _ _ _ => es_ret (ep_neg ep_c)
    rintro i ⟨k, y⟩ v σ1 G1 hi s ⟨a, b, rfl⟩ ⟨t, v2, v3, rfl, h1, h2, h3⟩
    obtain ⟨hl, e, hy⟩ := enum_get hi
    have e : k = (i : Nat) := e
    subst e
    have hr := hp.lo y (List.mem_of_getElem? hy)
    refine ⟨_, gb_pair h1, es_if (b := false) ((et_or (et_test (ep_eqI (ep_var (P := IsI (i : Nat)) rfl h2) ep_c)) fun _ => et_or (et_not (et_B (ep_call1 y (ep_var rfl h3) trivial))) fun _ => et_and (et_test (ep_gt (ep_var (P := IsI (i : Nat)) rfl h2) ep_c)) fun h => et_test (ep_le (ep_var rfl h3) (ep_ixT (F := IsI) (i := i - 1) (x := xs.getD (i - 1) 0) (ep_var rfl (up s hx)) ((ep_sub (ep_var rfl h2) ep_c).is ?_) ?_))).is ?_) (fun z => nomatch z) fun _ => es_next fun _ _ => ⟨_, _, rfl⟩⟩
    · have h := of_decide_eq_true h
      congr 1
      omega
    · rw [List.getD_eq_getElem?_getD, List.getElem?_eq_getElem (by omega)]
      rfl
    · have hm := hp.len
      rw [inR_true hr]
      have h12 : ¬ ((i : Nat) : Int) = 12 := by omega
      simp only [h12, decide_false, Bool.not_true, Bool.false_or]
      rcases Nat.eq_zero_or_pos i with h0 | h0
      · subst h0
        rfl
      · have hlt : xs.getD (i - 1) 0 < y := by
          have hpw := List.pairwise_iff_getElem.mp hp.up (i - 1) i (by omega) hl (by omega)
          rw [List.getElem?_eq_getElem hl] at hy
          rw [List.getD_eq_getElem?_getD, List.getElem?_eq_getElem (by omega)]
          have e : xs[i] = y := Option.some.inj hy
          rw [← e]
          exact hpw
        rw [decide_eq_false (show ¬ y ≤ xs.getD (i - 1) 0 by omega), Bool.and_false]
theorem cal_check_places (D : Dd K mg "check_places" st_check_places) (T : Txt P K mg base) (c : C8.Cal P w K mg base 4 "places_fault" (sp_places_fault K) []) : C8.Cal P w K mg base 5 "check_places" (sp_check_places K) [] :=
  cal1 D sc_check_places (fun _ _ _ _ _ _ us hl => match us, hl with | [_], _ => rfl) (ps_check_places T c) fun G xs x hx hp =>
    es_if (b := false) ((et_test (ep_neI (b := -1) (ep_call1 xs (ep_var rfl hx) hp) (ep_neg ep_c))).is (by simp)) (fun z => nomatch z) fun _ => es_next fun _ _ => rfl
theorem cal_heights_fault (D : Dd K mg "heights_fault" st_heights_fault) (T : Txt P K mg base) (c : C8.Cal P w K mg base 3 "is_height" (sp_is_height K) []) : C8.Cal P w K mg base 4 "heights_fault" (sp_heights_fault K) [] :=
  cal2 D sc_heights_fault (fun _ _ _ _ _ _ us hl => match us, hl with | [_, _], _ => rfl) (ps_heights_fault T c) fun G ys m x y hx hy hp => by
    refine sq_skip ((et_or (et_not (et_B (ep_isi (ep_var (P := IsT K IsI ys) rfl hx) (.ty "tuple") (fun _ _ => ty_T) kit_tt))) fun _ => et_test (ep_neI (ep_len (Ep.sT (ep_var (P := IsT K IsI ys) rfl hx))) (ep_var (P := IsI m) rfl hy))).is (by simp [hp.len])) ?_
    refine sq_asg (P := IsL IsI []) ?_ fun v G2 e pv => ?_
    · have h := ep_lc (R := IsI) (te := tVar 3) (tt := tNot (tB (tCall (sp_is_height K) [] E0 (tCons (tVar 4) tNil)))) (g := gTup K 2 (gCons (gName 3) (gCons (gName 4) gNil))) (vs := [3, 4]) (fun p : Int × Int => !inR p.2 (-100000000000000000000) 100000000000000000000) (fun p => p.1) (it_enum (F := IsI) (xs := ys) (Ep.sT (ep_var (σ := start ["value", "many", "wrong", "index", "height"] [x, y]) (i := 0) rfl hx))) (by rw [enum_len]; exact hp.most) ?_
      · rw [List.filter_eq_nil_iff.mpr] at h
        · exact h
        · rintro ⟨a, b⟩ hm
          obtain ⟨i, hi⟩ := List.getElem?_of_mem hm
          have := hp.lo b (List.mem_of_getElem? (enum_get hi).2.2)
          simp [inR_true this]
      · rintro i ⟨a, b⟩ v G2 hi s ⟨t, v2, v3, rfl, h1, h2, h3⟩
        exact ⟨_, gb_pair h1, rfl, et_not (et_B (ep_call1 b (ep_var rfl h3) trivial)), fun _ => ep_var rfl h2⟩
    · exact es_ret (ep_if (c := false) ((et_test (ep_neLI (xs := []) (ys := []) (ep_var rfl pv) ep_nilL)).is (by simp)) (fun z => nomatch z) fun _ => ep_neg ep_c)
theorem cal_check_heights (D : Dd K mg "check_heights" st_check_heights) (T : Txt P K mg base) (c : C8.Cal P w K mg base 4 "heights_fault" (sp_heights_fault K) []) : C8.Cal P w K mg base 5 "check_heights" (sp_check_heights K) [] :=
  cal2 D sc_check_heights (fun _ _ _ _ _ _ us hl => match us, hl with | [_, _], _ => rfl) (ps_check_heights T c) fun G ys m x y hx hy hp =>
    es_if (b := false) ((et_test (ep_neI (b := -1) (ep_call2 ys m (ep_var rfl hx) (ep_var rfl hy) hp) (ep_neg ep_c))).is (by simp)) (fun z => nomatch z) fun _ => es_next fun _ _ => rfl
theorem cal_knots_fault (D : Dd K mg "knots_fault" st_knots_fault) (T : Txt P K mg base) (c : C8.Cal P w K mg base 2 "is_between" (sp_is_between K) []) : C8.Cal P w K mg base 3 "knots_fault" (sp_knots_fault K) [] :=
  cal2 D sc_knots_fault (fun _ _ _ _ _ _ us hl => match us, hl with | [_, _], _ => rfl) (ps_knots_fault T c) fun G g ks x y hx hy hp => by
    have hx' : x = .int g := hx
    subst hx'
    refine sq_skip ((et_or (et_not (et_B (ep_isi (ep_var (P := IsT K IsI ks) rfl hy) (.ty "tuple") (fun _ _ => ty_T) kit_tt))) fun _ => et_test (ep_lt (ep_len (Ep.sT (ep_var (P := IsT K IsI ks) rfl hy))) (ep_add (ep_v rfl) ep_c))).is ?_) ?_
    · have := hp.least
      rw [decide_eq_false (by omega)]
      rfl
    refine es_seq (N1 := fun _ _ => True) (es_for (it_enum (F := IsI) (xs := ks) (Ep.sT (ep_var rfl hy))) (fun i σ G => ∃ a b, σ = [some (.int g), some y, a, b]) ⟨none, none, rfl⟩ (fun _ _ _ _ _ h => h) ?_ fun _ _ _ _ => trivial) fun _ _ _ _ => es_ret (ep_neg ep_c)
    rintro i ⟨k, z⟩ v σ1 G1 hi s ⟨a, b, rfl⟩ ⟨t, v2, v3, rfl, h1, h2, h3⟩
    obtain ⟨hl, e, hz⟩ := enum_get hi
    have e : k = (i : Nat) := e
    subst e
    have h2 : v2 = .int (i : Nat) := h2
    have h3 : v3 = .int z := h3
    subst h2 h3
    have hr := hp.lo z (List.mem_of_getElem? hz)
    have g0 := hp.g0
    have hm := hp.most
    have hy1 := up s hy
    have hzi : ks[i] = z := by
      rw [List.getElem?_eq_getElem hl] at hz
      exact Option.some.inj hz
    refine ⟨_, gb_pair h1, ?_⟩
    refine sq_skip ((et_or (et_test (ep_eqI (ep_v rfl) (ep_add (ep_add (ep_v rfl) ep_c) ep_c))) fun _ => et_not (et_B (ep_call3 (P1 := IsI) (P2 := IsI) (P3 := IsI) z 0 1000000 (ep_v rfl) ep_c ep_c trivial))).is ?_) ?_
    · rw [inR_true hr, decide_eq_false (by omega)]
      rfl
    refine sq_skip ((et_and (et_test (ep_gt (ep_v rfl) ep_c)) fun h => et_test (ep_lt (ep_v rfl) (ep_ixT (F := IsI) (i := i - 1) (x := ks.getD (i - 1) 0) (ep_var rfl hy1) ((ep_sub (ep_v rfl) ep_c).is ?_) ?_))).is ?_) ?_
    · have h := of_decide_eq_true h
      congr 1
      omega
    · rw [List.getD_eq_getElem?_getD, List.getElem?_eq_getElem (by omega)]
      rfl
    · rcases Nat.eq_zero_or_pos i with h0 | h0
      · subst h0
        rfl
      · have hu := hp.up (i - 1) ks[i - 1] ks[i] (List.getElem?_eq_getElem _) (by
          rw [show i - 1 + 1 = i by omega]
          exact List.getElem?_eq_getElem _)
        rw [List.getD_eq_getElem?_getD, List.getElem?_eq_getElem (by omega)]
        show (_ && decide (z < ks[i - 1])) = false
        rw [decide_eq_false (show ¬ z < ks[i - 1] by omega), Bool.and_false]
    refine es_if (b := false) ((et_and (et_test (ep_gt (ep_v rfl) (ep_v rfl))) fun h => et_test (ep_eqI (ep_ixT (F := IsI) (i := i - g.toNat - 1) (x := ks.getD (i - g.toNat - 1) 0) (ep_var rfl hy1) ((ep_sub (ep_sub (ep_v rfl) (ep_v rfl)) ep_c).is ?_) ?_) (ep_v rfl))).is ?_) (fun z => nomatch z) fun _ => es_next fun _ _ => ⟨_, _, rfl⟩
    · have h := of_decide_eq_true h
      congr 1
      omega
    · rw [List.getD_eq_getElem?_getD, List.getElem?_eq_getElem (by omega)]
      rfl
    · by_cases h0 : g < (i : Nat)
      · have hw := hp.wide (i - g.toNat - 1) ks[i - g.toNat - 1] ks[i] (List.getElem?_eq_getElem _) (by
          rw [show i - g.toNat - 1 + g.toNat + 1 = i by omega]
          exact List.getElem?_eq_getElem _)
        rw [List.getD_eq_getElem?_getD, List.getElem?_eq_getElem (by omega)]
        rw [decide_eq_true h0, Bool.true_and]
        exact decide_eq_false (by rw [← hzi]; exact hw)
      · rw [decide_eq_false h0]
        rfl
/-! frames -/
structure Di (K : PySem.W.Frag) (mg : Str → Option Value) (x q : Str) (st : Stmt) : Prop where
  ex : ∃ f fd, FunD K "__init__" q (defArgs st) (defBody st) (defScope st) [] [] f fd ∧ Mk K (He.ga K x) f ∧ mg x = some (.ref (He.ga K x))
/-- a getter -/
structure Dg (K : PySem.W.Frag) (x a q : Str) (st : Stmt) : Prop where
  ex : ∃ p g fd, FunD K a q (defArgs st) (defBody st) (defScope st) [] [] g fd ∧ Cls K (He.ga K x) ∧ PropOf K (He.ga K x) a p g
theorem mak_of {x q : Str} {st : Stmt} {N : List Str} {p1 p2 p3 : Str} {k : Nat} {α β : Type} {f : Str} {P1 : α → VP} {P2 : β → VP} {Cc : α → β → Prop} {B : α → β → VP} {t : TS} (D : Di K mg x q st) (S : FnScope N [p1, p2, p3] (defScope st))
    (hb : ∀ (kV doc pm : Value) (an : Option Addr) (cdv ct : Value) (us : List Value), us.length = [p1, p2, p3].length → bindArgs (PySem.W.fnOf "__init__" q (defArgs st) (defBody st) (defScope st) .none kV doc pm an cdv ct) ⟨us, []⟩ = pure ([p1, p2, p3].zip us)) (hp : Hps P w K mg base k q st N t)
    (h : ∀ G H a b p dx x' y, P1 a x' G → P2 b y G → Cc a b → Same G H → G p = none → H p = some (.ins (He.ga K x) dx []) → ∀ D : Ends, (∀ pv G' H', To G H G' H' → B a b pv G' → G' p = none → ∀ σ, D.nx σ (upd H' p (.ins (He.ga K x) dx [(f, pv)]))) → t D (start N [.ref p, x', y]) H) :
    C8.Mak P w K mg base (k + 1) x (He.ga K x) (spI (He.ga K x) f P1 P2 Cc B) [] := by
  obtain ⟨fa, fd, F, M, hm⟩ := D.ex
  refine ⟨fa, fd, [p1, p2, p3], [], M, F.ok S (fun vs H Q E ⟨_, _, _, _, _, _, _, e, _⟩ => by rw [e]; rfl) fun cdv A outer s H vs Q E hr hs => ⟨t, (hp fa cdv A outer s H E hr).nox, ?_⟩, hm, F.bindsN hb, .nil⟩
  obtain ⟨G, a, b, p, dx, x', y, rfl, sG, gp, hp', ⟨h1, h2⟩, hc, q⟩ := hs
  exact h G H a b p dx x' y h1 h2 hc sG gp hp' _ fun pv G' H' t hB gp' σ => q pv G' H' t hB gp'
theorem prp_of {x a q : Str} {st : Stmt} {N : List Str} {k : Nat} {α : Type} {P1 : α → VP} {C : α → Prop} {B : α → VP} {t : TS} (D : Dg K x a q st) (S : FnScope N ["self"] (defScope st))
    (hb : ∀ (kV doc pm : Value) (an : Option Addr) (cdv ct : Value) (us : List Value), us.length = ["self"].length → bindArgs (PySem.W.fnOf a q (defArgs st) (defBody st) (defScope st) .none kV doc pm an cdv ct) ⟨us, []⟩ = pure ((["self"] : List Str).zip us)) (hp : Hps P w K mg base k q st N t)
    (h : ∀ G b v, P1 b v G → C b → Es t (start N [v]) G (B b) (fun _ G' => B b .non G')) : Prp P w K mg base (k + 1) (He.ga K x) a (sp1 P1 C B) := by
  obtain ⟨p, g, fd, F, hc, hpo⟩ := D.ex
  refine ⟨p, g, fd, hc, hpo, F.ok S (fun vs H Q E ⟨_, _, _, e, _⟩ => by rw [e]; rfl) fun cdv A outer s H vs Q E hr hs => ⟨t, (hp g cdv A outer s H E hr).nox, ?_⟩, F.bindsN hb⟩
  obtain ⟨G, b, v, rfl, s, p, c, q⟩ := hs
  exact h G b v p c G H _ (Same.refl G) s (fun v G2 H2 t r => q v G2 H2 t r) fun _ G2 H2 t r => q _ G2 H2 t r
theorem sFld_of {C p dx : Addr} {f : Str} {B : VP} {te : TE} {i : Nat} {σ : L2.St} {G H : Hp} {D : Ends} (hc : Cls K C) (hn : NoAttr K C f) (s : Same G H) (gp : G p = none) (hp : H p = some (.ins C dx [])) (hσ : σ[i]? = some (some (.ref p))) (he : Ep te σ G B)
    (k : ∀ pv G' H', To G H G' H' → B pv G' → G' p = none → ∀ σ, D.nx σ (upd H' p (.ins C dx [(f, pv)]))) : sFld K (tVar i) te f D σ H := by
  refine he G H (Same.refl G) s _ fun v G2 H2 t pv => ?_
  have g2 : G2 p = none := by
    cases z : G2 p with
    | none => rfl
    | some o =>
      rcases t.new p o z with z | z
      · rw [gp] at z
        cases z
      · rw [hp] at z
        cases z
  exact ⟨_, hσ, p, C, dx, [], rfl, t.big _ _ hp, hc, hn, by decide, k v G2 H2 t pv g2 σ⟩
theorem h_skip {c : TT} {t u : TS} {σ : L2.St} {G H : Hp} {D : Ends} (h : Et c σ G false) (s : Same G H) (k : ∀ G2 H2, To G H G2 H2 → u D σ H2) : tSeq (tIfS c t tNext) u D σ H := h G H (Same.refl G) s _ fun G2 H2 t2 => iteF (k G2 H2 t2)
theorem h_drop {te : TE} {P : VP} {u : TS} {σ : L2.St} {G H : Hp} {D : Ends} (h : Ep te σ G P) (s : Same G H) (k : ∀ G2 H2, To G H G2 H2 → u D σ H2) : tSeq (tDrop te) u D σ H := h G H (Same.refl G) s _ fun v G2 H2 t2 _ => k G2 H2 t2
theorem cal_Frame (D : Di K mg "Frame" "Frame.__init__" st_Frame___init__) (T : Txt P K mg base) (c1 : C8.Cal P w K mg base 2 "is_between" (sp_is_between K) []) (c2 : C8.Cal P w K mg base 3 "knots_fault" (sp_knots_fault K) []) : C8.Mak P w K mg base 4 "Frame" (He.ga K "Frame") (sp_Frame K) [] :=
  mak_of D sc_Frame___init__ (fun _ _ _ _ _ _ us hl => match us, hl with | [_, _, _], _ => rfl) (ps_Frame___init__ T c1 c2) fun G H g ks p dx x y hx hy hc s gp hp D k => by
    have hx' : x = .int g := hx
    subst hx'
    have a : Et (tNot (tB (tCall (sp_is_between K) [] E0 (tCons (tVar 1) (tCons (tC (.int 0)) (tCons (tC (.int 4)) tNil)))))) (start ["self", "degree", "knots"] [.ref p, .int g, y]) G false := (et_not (et_B (ep_call3 (P1 := IsI) (P2 := IsI) (P3 := IsI) g 0 4 (ep_v rfl) ep_c ep_c trivial))).is (by rw [inR_true ⟨hc.g0, hc.g4⟩]; rfl)
    refine h_skip a s fun G2 H2 t2 => ?_
    have b : Et (tTest (tOp rNe (tCall (sp_knots_fault K) [] E0 (tCons (tVar 1) (tCons (tVar 2) tNil))) (tUn uNeg (tC (.int 1))))) (start ["self", "degree", "knots"] [.ref p, .int g, y]) G false := (et_test (ep_neI (b := -1) (ep_call2 (P1 := IsI) g ks (ep_v rfl) (ep_var rfl hy) hc) (ep_neg ep_c))).is (by simp)
    refine h_skip (b.up t2.up) t2.in_ fun G3 H3 t3 => ?_
    have t := t2.trans t3
    have g3 : G3 p = none := by
      cases z : G3 p with
      | none => rfl
      | some o =>
        rcases t.new p o z with z | z
        · rw [gp] at z
          cases z
        · rw [hp] at z
          cases z
    exact sFld_of (p := p) T.oFrame.cl T.nFrame t.in_ g3 (t.big _ _ hp) rfl (ep_pair (F1 := IsI) (F2 := IsT K IsI) (x := (g, ks)) (ep_v rfl) (ep_var rfl (up t.up hy))) fun pv G' H' t' => k pv G' H' (t.trans t')
theorem prp_Frame_degree (D : Dg K "Frame" "degree" "Frame.degree" st_Frame_degree) (T : Txt P K mg base) : Prp P w K mg base 1 (He.ga K "Frame") "degree" (sp_Frame_degree K) :=
  prp_of D sc_Frame_degree (fun _ _ _ _ _ _ us hl => match us, hl with | [_], _ => rfl) (ps_Frame_degree T) fun G f v h _ => es_ret (ep_ix0 (ep_fld T.oFrame.cl T.nFrame (ep_var rfl h)))
theorem prp_Frame_knots (D : Dg K "Frame" "knots" "Frame.knots" st_Frame_knots) (T : Txt P K mg base) : Prp P w K mg base 1 (He.ga K "Frame") "knots" (sp_Frame_knots K) :=
  prp_of D sc_Frame_knots (fun _ _ _ _ _ _ us hl => match us, hl with | [_], _ => rfl) (ps_Frame_knots T) fun G f v h _ => es_ret (ep_ix1 (ep_fld T.oFrame.cl T.nFrame (ep_var rfl h)))
theorem prp_Frame_hills (D : Dg K "Frame" "hills" "Frame.hills" st_Frame_hills) (T : Txt P K mg base) : Prp P w K mg base 1 (He.ga K "Frame") "hills" (sp_Frame_hills K) :=
  prp_of D sc_Frame_hills (fun _ _ _ _ _ _ us hl => match us, hl with | [_], _ => rfl) (ps_Frame_hills T) fun G f v h _ => es_ret (ep_sub (ep_sub (ep_len (Ep.sT (ep_ix1 (F2 := IsT K IsI) (x := f) (ep_fld T.oFrame.cl T.nFrame (ep_var rfl h))))) (ep_ix0 (F1 := IsI) (x := f) (ep_fld T.oFrame.cl T.nFrame (ep_var rfl h)))) ep_c)
theorem ty_O {C : Addr} {f : Str} {B : VP} {v : V} {H : Hp} (c : C8.InsC K C) (h : IsO C f B v H) : TyX K H v (.ref C) := by
  obtain ⟨a, dx, pv, rfl, h1, _⟩ := h
  exact .base (.ins h1 c.cl c.ha c.hn c.htk c.hm)
theorem cal_check_frame (D : Dd K mg "check_frame" st_check_frame) (T : Txt P K mg base) : C8.Cal P w K mg base 1 "check_frame" (sp_check_frame K) [] :=
  cal1 D sc_check_frame (fun _ _ _ _ _ _ us hl => match us, hl with | [_], _ => rfl) (ps_check_frame T) fun G f v h _ =>
    es_if (b := false) ((et_not (et_B (ep_isi (ep_var (P := IsFr K f) rfl h) (.own _) (fun _ _ => ty_O T.oFrame) T.oFrame.me))).is rfl) (fun z => nomatch z) fun _ => es_next fun _ _ => rfl
/-! curves -/
theorem F_len {q : Rat} {ta : TE} {σ : L2.St} {G : Hp} (h : Ep ta σ G (IsF K q)) : Ep (tCB (rLen K) (tCons ta tNil)) σ G (IsI 2) := ep_cb1 h fun x G1 H1 Q _ s p r => by
  obtain ⟨a, rfl, h1⟩ := p
  exact ⟨_, 2, rfl, .inr ⟨_, Same.tup s h1, rfl⟩, r _ G1 H1 (To.refl s) rfl⟩
theorem gcd_low (q : Rat) : Int.gcd q.num q.den = 1 := by
  have := q.reduced
  unfold Nat.Coprime at this
  rw [Int.gcd_eq_natAbs_gcd_natAbs]
  exact this
theorem cal_is_ratio (D : Dd K mg "is_ratio" st_is_ratio) (T : Txt P K mg base) (c1 : C8.Cal P w K mg base 1 "is_integer" (sp_is_integer K) []) (c2 : C8.Cal P w K mg base 1 "common" (sp_common K) []) : C8.Cal P w K mg base 2 "is_ratio" (sp_is_ratio K) [] :=
  cal1 D sc_is_ratio (fun _ _ _ _ _ _ us hl => match us, hl with | [_], _ => rfl) (ps_is_ratio T c1 c2) fun G q x hx _ => by
    have hv : ∀ {i}, i = 0 → Ep (tVar i) (start ["value"] [x]) G (IsF K q) := fun h => by
      subst h
      exact ep_var rfl hx
    refine sq_skip ((et_or (et_not (et_B (ep_isi (hv rfl) (.ty "tuple") (fun _ _ => ty_F) kit_tt))) fun _ => et_or (et_test (ep_neI (F_len (hv rfl)) ep_c)) fun _ => et_or (et_not (et_B (ep_call1 (P1 := IsI) q.num (ep_num (hv rfl)) trivial))) fun _ => et_not (et_B (ep_call1 (P1 := IsI) (q.den : Int) (ep_den (hv rfl)) trivial))).is (by simp)) ?_
    refine es_ret ((ep_andV (ep_gt (ep_den (hv rfl)) ep_c) fun _ => ep_eqI (ep_call2 (P1 := IsI) (P2 := IsI) q.num (q.den : Int) (ep_num (hv rfl)) (ep_den (hv rfl)) trivial) ep_c).is ?_)
    have := q.den_pos
    rw [gcd_low, decide_eq_true (show (0 : Int) < q.den by omega)]
    rfl
theorem cal_amounts_fault (D : Dd K mg "amounts_fault" st_amounts_fault) (T : Txt P K mg base) (c : C8.Cal P w K mg base 2 "is_ratio" (sp_is_ratio K) []) : C8.Cal P w K mg base 3 "amounts_fault" (sp_amounts_fault K) [] :=
  cal2 D sc_amounts_fault (fun _ _ _ _ _ _ us hl => match us, hl with | [_, _], _ => rfl) (ps_amounts_fault T c) fun G ys m x y hx hy hp => by
    refine sq_skip ((et_or (et_not (et_B (ep_isi (ep_var (P := IsT K (IsF K) ys) rfl hx) (.ty "tuple") (fun _ _ => ty_T) kit_tt))) fun _ => et_test (ep_neI (ep_len (Ep.sT (ep_var (P := IsT K (IsF K) ys) rfl hx))) (ep_var (P := IsI m) rfl hy))).is (by simp [hp.1])) ?_
    refine sq_asg (P := IsL IsI []) ?_ fun v G2 e pv => ?_
    · have h := ep_lc (R := IsI) (te := tVar 3) (tt := tNot (tB (tCall (sp_is_ratio K) [] E0 (tCons (tVar 4) tNil)))) (g := gTup K 2 (gCons (gName 3) (gCons (gName 4) gNil))) (vs := [3, 4]) (fun p : Int × Rat => false) (fun p => p.1) (it_enum (F := IsF K) (xs := ys) (Ep.sT (ep_var (σ := start ["value", "many", "wrong", "index", "amount"] [x, y]) (i := 0) rfl hx))) (by rw [enum_len]; exact hp.2) ?_
      · rw [List.filter_eq_nil_iff.mpr (by simp)] at h
        exact h
      · rintro i ⟨a, b⟩ v G2 hi s ⟨t, v2, v3, rfl, h1, h2, h3⟩
        exact ⟨_, gb_pair h1, rfl, (et_not (et_B (ep_call1 b (ep_var rfl h3) trivial))).is rfl, fun z => nomatch z⟩
    · exact es_ret (ep_if (c := false) ((et_test (ep_neLI (xs := []) (ys := []) (ep_var rfl pv) ep_nilL)).is (by simp)) (fun z => nomatch z) fun _ => ep_neg ep_c)
theorem cal_Curve (D : Di K mg "Curve" "Curve.__init__" st_Curve___init__) (T : Txt P K mg base) (c1 : C8.Cal P w K mg base 1 "check_frame" (sp_check_frame K) []) (c2 : C8.Cal P w K mg base 3 "amounts_fault" (sp_amounts_fault K) []) (c3 : Prp P w K mg base 1 (He.ga K "Frame") "hills" (sp_Frame_hills K)) : C8.Mak P w K mg base 5 "Curve" (He.ga K "Curve") (sp_Curve K) [] :=
  mak_of D sc_Curve___init__ (fun _ _ _ _ _ _ us hl => match us, hl with | [_, _, _], _ => rfl) (ps_Curve___init__ T c1 c2 c3) fun G H fr am p dx x y hx hy hc s gp hp D k => by
    have a : Ep (tCall (sp_check_frame K) [] E0 (tCons (tVar 1) tNil)) (start ["self", "frame", "amounts"] [.ref p, x, y]) G (IsV .non) := ep_call1 fr.2 (ep_var rfl hx.2) trivial
    refine h_drop a s fun G2 H2 t2 => ?_
    have b : Et (tTest (tOp rNe (tCall (sp_amounts_fault K) [] E0 (tCons (tVar 2) (tCons (tProp (He.ga K "Frame") (sp_Frame_hills K) [] E0 (tVar 1)) tNil))) (tUn uNeg (tC (.int 1))))) (start ["self", "frame", "amounts"] [.ref p, x, y]) G false :=
      (et_test (ep_neI (b := -1) (ep_call2 (P2 := IsI) am ((fr.2.2.length : Int) - fr.2.1 - 1) (ep_var rfl hy) (ep_prop (fun a v G ⟨x, dx, pv, h1, h2, _⟩ => ⟨x, dx, _, h1, h2⟩) fr.2 (ep_var rfl hx.2) trivial) hc) (ep_neg ep_c))).is (by simp)
    refine h_skip (b.up t2.up) t2.in_ fun G3 H3 t3 => ?_
    have t := t2.trans t3
    have g3 : G3 p = none := by
      cases z : G3 p with
      | none => rfl
      | some o =>
        rcases t.new p o z with z | z
        · rw [gp] at z
          cases z
        · rw [hp] at z
          cases z
    exact sFld_of (p := p) T.oCurve.cl T.nCurve t.in_ g3 (t.big _ _ hp) rfl (ep_pair (F1 := IsV) (F2 := IsT K (IsF K)) (x := (fr.1, am)) (ep_var rfl hx.1) (ep_var rfl (up t.up hy))) fun pv G' H' t' => k pv G' H' (t.trans t')
theorem prp_Curve_frame (D : Dg K "Curve" "frame" "Curve.frame" st_Curve_frame) (T : Txt P K mg base) : Prp P w K mg base 1 (He.ga K "Curve") "frame" (sp_Curve_frame K) :=
  prp_of D sc_Curve_frame (fun _ _ _ _ _ _ us hl => match us, hl with | [_], _ => rfl) (ps_Curve_frame T) fun G f v h _ => es_ret (ep_ix0 (F1 := IsV) (F2 := IsT K (IsF K)) (x := f) (ep_fld T.oCurve.cl T.nCurve (ep_var rfl h)))
theorem prp_Curve_amounts (D : Dg K "Curve" "amounts" "Curve.amounts" st_Curve_amounts) (T : Txt P K mg base) : Prp P w K mg base 1 (He.ga K "Curve") "amounts" (sp_Curve_amounts K) :=
  prp_of D sc_Curve_amounts (fun _ _ _ _ _ _ us hl => match us, hl with | [_], _ => rfl) (ps_Curve_amounts T) fun G f v h _ => es_ret (ep_ix1 (F1 := IsV) (F2 := IsT K (IsF K)) (x := f) (ep_fld T.oCurve.cl T.nCurve (ep_var rfl h)))
end
end Bt
/-! ==== W9 ==== -/
set_option Elab.async false
set_option linter.all false
set_option maxRecDepth 100000
set_option maxHeartbeats 2000000
/-! Hills, rows, grids. -/
namespace Bt
open PySem PySem.Spec PyProof.Rows L2 SW
/-- what bump takes -/
structure BumpOk (ks : List Int) (i g x : Int) : Prop where
  i0 : 0 ≤ i
  g0 : 0 ≤ g
  g4 : g ≤ 4
  len : i + g + 1 < ks.length
  lo : Lo ks
  x0 : 0 ≤ x ∧ x ≤ 1000000
def nOf (f : Int × List Int) : Nat := f.2.length - f.1.toNat - 1
/-- a frame as it may be made -/
abbrev FrOk (f : Int × List Int) : Prop := Knots f.1 f.2
def rowOf (f : Int × List Int) (x : Int) : List Rat := (List.range (nOf f)).map fun i => bmp f.2 x f.1.toNat i
def gridF (f : Int × List Int) (xs : List Int) : List (List Rat) := xs.map (rowOf f)
def goalsF (ys : List Int) : List Rat := ys.map fun (y : Int) => (y : Rat)
def InR (xs : List Int) : Prop := ∀ x ∈ xs, 0 ≤ x ∧ x ≤ 1000000
def sp_bump (K : PySem.W.Frag) (d : Nat) : Sp := sp4 (IsT K IsI) IsI IsI IsI (fun ks i g x => BumpOk ks i g x ∧ g < d) fun ks i g x => IsF K (bmp ks x g.toNat i.toNat)
def sp_row_at (K : PySem.W.Frag) : Sp := sp2 (IsFr K) IsI (fun f x => FrOk f ∧ 0 ≤ x ∧ x ≤ 1000000) fun f x => IsL (IsF K) (rowOf f x)
def sp_is_up (K : PySem.W.Frag) : Sp := sp3 (IsFr K) IsI IsI (fun f i _ => FrOk f ∧ 0 ≤ i ∧ i < nOf f) fun f i x => IsB (isUp f.2 f.1.toNat i.toNat x)
def sp_grid_of (K : PySem.W.Frag) : Sp := sp2 (IsFr K) (IsT K IsI) (fun f xs => FrOk f ∧ InR xs ∧ xs.length ≤ 1000) fun f xs => IsL (IsL (IsF K)) (gridF f xs)
def sp_goals_of (K : PySem.W.Frag) : Sp := sp1 (IsT K IsI) (fun ys => ys.length ≤ 1000) fun ys => IsL (IsF K) (goalsF ys)
def sp_check_both (K : PySem.W.Frag) : Sp := sp2 (IsFr K) (IsT K IsI) (fun _ xs => Places xs) fun _ _ => IsV .non
def sp_check_points (K : PySem.W.Frag) : Sp := sp3 (IsFr K) (IsT K IsI) (IsT K IsI) (fun _ xs ys => Places xs ∧ Heights ys xs.length) fun _ _ _ => IsV .non
abbrev st_bump := top 55
theorem sc_bump : FnScope ["knots", "index", "degree", "place", "low", "high", "inside", "found", "rise", "fall", "part"] ["knots", "index", "degree", "place"] (defScope st_bump) := ⟨rfl, rfl, rfl, by decide +kernel, rfl, by decide +kernel, by decide +kernel⟩
def t_bump (K : PySem.W.Frag) (d : Nat) : TS := (tSeq (tIfS (tTest (tOp rEq (tVar 2) (tC (.int 0)))) (tSeq (tPar 4 5 (tCons (tOp (rIxT K) (tVar 0) (tVar 1)) (tCons (tOp (rIxT K) (tVar 0) (tOp rAddI (tVar 1) (tC (.int 1)))) tNil)))
    (tSeq (tAsg (tIf (tTest (tOp rEq (tVar 3) (tOp (rIxT K) (tVar 0) (tUn uNeg (tC (.int 1)))))) (tChain rLtI rLeI (tVar 4) (tVar 3) (tVar 5)) (tChain rLeI rLtI (tVar 4) (tVar 3) (tVar 5))) (gName 6))
    (tRet (tIf (tB (tVar 6)) (tC (.ref (He.ga K "ONE"))) (tC (.ref (He.ga K "NONE"))))))) tNext)
    (tSeq (tPar 7 8 (tCons (tC (.ref (He.ga K "NONE"))) (tCons (tOp rSubI (tOp (rIxT K) (tVar 0) (tOp rAddI (tVar 1) (tVar 2))) (tOp (rIxT K) (tVar 0) (tVar 1))) tNil)))
    (tSeq (tIfS (tTest (tOp rGtI (tVar 8) (tC (.int 0)))) (tAsg (tCall (sp_times K) [] E0 (tCons (tCall (sp_ratio K) [] E0 (tCons (tOp rSubI (tVar 3) (tOp (rIxT K) (tVar 0) (tVar 1))) (tCons (tVar 8) tNil))) (tCons (tCall (sp_bump K d) [] E0 (tCons (tVar 0) (tCons (tVar 1) (tCons (tOp rSubI (tVar 2) (tC (.int 1))) (tCons (tVar 3) tNil))))) tNil))) (gName 7)) tNext)
    (tSeq (tAsg (tOp rSubI (tOp (rIxT K) (tVar 0) (tOp rAddI (tOp rAddI (tVar 1) (tVar 2)) (tC (.int 1)))) (tOp (rIxT K) (tVar 0) (tOp rAddI (tVar 1) (tC (.int 1))))) (gName 9))
    (tSeq (tIfS (tTest (tOp rGtI (tVar 9) (tC (.int 0)))) (tSeq (tAsg (tCall (sp_ratio K) [] E0 (tCons (tOp rSubI (tOp (rIxT K) (tVar 0) (tOp rAddI (tOp rAddI (tVar 1) (tVar 2)) (tC (.int 1)))) (tVar 3)) (tCons (tVar 9) tNil))) (gName 10))
    (tAsg (tCall (sp_plus K) [] E0 (tCons (tVar 7) (tCons (tCall (sp_times K) [] E0 (tCons (tVar 10) (tCons (tCall (sp_bump K d) [] E0 (tCons (tVar 0) (tCons (tOp rAddI (tVar 1) (tC (.int 1))) (tCons (tOp rSubI (tVar 2) (tC (.int 1))) (tCons (tVar 3) tNil))))) tNil))) tNil))) (gName 7))) tNext)
    (tRet (tVar 7)))))))
theorem ps_bump {P : Program} {w : World} {K : PySem.W.Frag} {mg : Str → Option Value} {base : Heap} (T : Txt P K mg base) (c_times : C8.Cal P w K mg base 35 "times" (sp_times K) []) (d : Nat) (c_bump : C8.Cal P w K mg base (37 + d) "bump" (sp_bump K d) []) (c_ratio : C8.Cal P w K mg base 34 "ratio" (sp_ratio K) []) (c_plus : C8.Cal P w K mg base 35 "plus" (sp_plus K) []) : Hps P w K mg base (37 + d) "bump" st_bump ["knots", "index", "degree", "place", "low", "high", "inside", "found", "rise", "fall", "part"] (t_bump K d) := fun f cdv A outer s H E hr =>
  (pss_cons (ps_if (pt_cmpR op_eq (pv 2) pe_int (nomark _)) (pss_cons (ps_par (i := 4) (j := 5) rfl sc_bump.nd rfl rfl (by decide) rfl rfl (pa_cons (pe_ix ix_tup (pv 0) (pv 1) (fun _ _ => rfl)) (pa_cons (pe_ix ix_tup (pv 0) (pe_op op_add (pv 1) pe_int) (fun _ _ => rfl)) pa_nil)) (by rfl))
    (pss_cons (ps_set (i := 6) sc_bump.nd rfl (Or.inl rfl) (pe_ifExp (pt_cmpR op_eq (pv 3) (pe_ix ix_tup (pv 0) (pe_un un_neg pe_int) (fun _ _ => rfl)) (nomark _)) (pe_chain op_lt op_le (pv 4) (pv 3) (pv 5)) (pe_chain op_le op_lt (pv 4) (pv 3) (pv 5))))
    (pss_one (ps_ret (pe_ifExp (pt_val (pv 6)) (C8.pe_gc rfl T.ONE) (C8.pe_gc rfl T.NONE)))))) pss_nil)
    (pss_cons (ps_par (i := 7) (j := 8) rfl sc_bump.nd rfl rfl (by decide) rfl rfl (pa_cons (C8.pe_gc rfl T.NONE) (pa_cons (pe_op op_sub (pe_ix ix_tup (pv 0) (pe_op op_add (pv 1) (pv 2)) (fun _ _ => rfl)) (pe_ix ix_tup (pv 0) (pv 1) (fun _ _ => rfl))) pa_nil)) (by rfl))
    (pss_cons (ps_if (pt_cmpR op_gt (pv 8) pe_int (nomark _)) (pss_one (ps_set (i := 7) sc_bump.nd rfl (Or.inl rfl) (C8.pe_c c_times hr (by omega) rfl (pa_cons (C8.pe_c c_ratio hr (by omega) rfl (pa_cons (pe_op op_sub (pv 3) (pe_ix ix_tup (pv 0) (pv 1) (fun _ _ => rfl))) (pa_cons (pv 8) pa_nil))) (pa_cons (C8.pe_c c_bump hr (by omega) rfl (pa_cons (pv 0) (pa_cons (pv 1) (pa_cons (pe_op op_sub (pv 2) pe_int) (pa_cons (pv 3) pa_nil))))) pa_nil))))) pss_nil)
    (pss_cons (ps_set (i := 9) sc_bump.nd rfl (Or.inl rfl) (pe_op op_sub (pe_ix ix_tup (pv 0) (pe_op op_add (pe_op op_add (pv 1) (pv 2)) pe_int) (fun _ _ => rfl)) (pe_ix ix_tup (pv 0) (pe_op op_add (pv 1) pe_int) (fun _ _ => rfl))))
    (pss_cons (ps_if (pt_cmpR op_gt (pv 9) pe_int (nomark _)) (pss_cons (ps_set (i := 10) sc_bump.nd rfl (Or.inl rfl) (C8.pe_c c_ratio hr (by omega) rfl (pa_cons (pe_op op_sub (pe_ix ix_tup (pv 0) (pe_op op_add (pe_op op_add (pv 1) (pv 2)) pe_int) (fun _ _ => rfl)) (pv 3)) (pa_cons (pv 9) pa_nil))))
    (pss_one (ps_set (i := 7) sc_bump.nd rfl (Or.inl rfl) (C8.pe_c c_plus hr (by omega) rfl (pa_cons (pv 7) (pa_cons (C8.pe_c c_times hr (by omega) rfl (pa_cons (pv 10) (pa_cons (C8.pe_c c_bump hr (by omega) rfl (pa_cons (pv 0) (pa_cons (pe_op op_add (pv 1) pe_int) (pa_cons (pe_op op_sub (pv 2) pe_int) (pa_cons (pv 3) pa_nil))))) pa_nil))) pa_nil)))))) pss_nil)
    (pss_one (ps_ret (pv 7))))))))
abbrev st_row_at := top 57
theorem sc_row_at : FnScope ["frame", "place", "hill"] ["frame", "place"] (defScope st_row_at) := ⟨rfl, rfl, rfl, by decide +kernel, rfl, by decide +kernel, by decide +kernel⟩
def t_row_at (K : PySem.W.Frag) : TS := (tRet (tLc (iRng1 (tCons (tProp (He.ga K "Frame") (sp_Frame_hills K) [] E0 (tVar 0)) tNil)) (gName 2) tYes (tCall (sp_bump K 5) [] E0 (tCons (tProp (He.ga K "Frame") (sp_Frame_knots K) [] E0 (tVar 0)) (tCons (tVar 2) (tCons (tProp (He.ga K "Frame") (sp_Frame_degree K) [] E0 (tVar 0)) (tCons (tVar 1) tNil))))) [2]))
theorem ps_row_at {P : Program} {w : World} {K : PySem.W.Frag} {mg : Str → Option Value} {base : Heap} (T : Txt P K mg base) (c_bump : C8.Cal P w K mg base 42 "bump" (sp_bump K 5) []) (p_Frame_hills : Prp P w K mg base 1 (He.ga K "Frame") "hills" (sp_Frame_hills K)) (p_Frame_degree : Prp P w K mg base 1 (He.ga K "Frame") "degree" (sp_Frame_degree K)) (p_Frame_knots : Prp P w K mg base 1 (He.ga K "Frame") "knots" (sp_Frame_knots K)) : Hps P w K mg base 42 "row_at" st_row_at ["frame", "place", "hill"] (t_row_at K) := fun f cdv A outer s H E hr =>
  (pss_one (ps_ret (pe_lc (own := [("hill", 2)]) (g := (gName 2)) (tt := tYes) rfl sc_row_at.nd (pi_range1 rfl T.f_range (pa_cons (pe_prp p_Frame_hills hr (by decide) (pv 0) rfl) pa_nil)) (blkOk_by (by rfl)) (fun _ _ _ _ _ => (pg_name (i := 2) sc_row_at.nd rfl (Or.inl rfl))) (fun _ _ _ _ _ => pts_nil) (fun _ _ _ _ _ => (C8.pe_c c_bump hr (by decide) rfl (pa_cons (pe_prp p_Frame_knots hr (by decide) (pv 0) rfl) (pa_cons (pv 2) (pa_cons (pe_prp p_Frame_degree hr (by decide) (pv 0) rfl) (pa_cons (pv 1) pa_nil)))))))))
abbrev st_is_up := top 56
theorem sc_is_up : FnScope ["frame", "hill", "place", "knots", "degree"] ["frame", "hill", "place"] (defScope st_is_up) := ⟨rfl, rfl, rfl, by decide +kernel, rfl, by decide +kernel, by decide +kernel⟩
def t_is_up (K : PySem.W.Frag) : TS := (tSeq (tPar 3 4 (tCons (tProp (He.ga K "Frame") (sp_Frame_knots K) [] E0 (tVar 0)) (tCons (tProp (He.ga K "Frame") (sp_Frame_degree K) [] E0 (tVar 0)) tNil)))
    (tSeq (tIfS (tTest (tChain rLtI rLtI (tOp (rIxT K) (tVar 3) (tVar 1)) (tVar 2) (tOp (rIxT K) (tVar 3) (tOp rAddI (tOp rAddI (tVar 1) (tVar 4)) (tC (.int 1)))))) (tRet (tC (.bl true))) tNext)
    (tSeq (tIfS (tAnd (tTest (tOp rEq (tVar 2) (tOp (rIxT K) (tVar 3) (tVar 1)))) (tTest (tOp rEq (tVar 2) (tOp (rIxT K) (tVar 3) (tOp rAddI (tVar 1) (tVar 4)))))) (tRet (tC (.bl true))) tNext)
    (tRet (tAndV (tOp rEq (tVar 2) (tOp (rIxT K) (tVar 3) (tUn uNeg (tC (.int 1))))) (tOp rEq (tVar 2) (tOp (rIxT K) (tVar 3) (tOp rAddI (tVar 1) (tC (.int 1))))))))))
theorem ps_is_up {P : Program} {w : World} {K : PySem.W.Frag} {mg : Str → Option Value} {base : Heap} (T : Txt P K mg base) (p_Frame_degree : Prp P w K mg base 1 (He.ga K "Frame") "degree" (sp_Frame_degree K)) (p_Frame_knots : Prp P w K mg base 1 (He.ga K "Frame") "knots" (sp_Frame_knots K)) : Hps P w K mg base 2 "is_up" st_is_up ["frame", "hill", "place", "knots", "degree"] (t_is_up K) := fun f cdv A outer s H E hr =>
  (pss_cons (ps_par (i := 3) (j := 4) rfl sc_is_up.nd rfl rfl (by decide) rfl rfl (pa_cons (pe_prp p_Frame_knots hr (by decide) (pv 0) rfl) (pa_cons (pe_prp p_Frame_degree hr (by decide) (pv 0) rfl) pa_nil)) (by rfl))
    (pss_cons (ps_if (pt_chain op_lt op_lt (pe_ix ix_tup (pv 3) (pv 1) (fun _ _ => rfl)) (pv 2) (pe_ix ix_tup (pv 3) (pe_op op_add (pe_op op_add (pv 1) (pv 4)) pe_int) (fun _ _ => rfl))) (pss_one (ps_ret pe_bl)) pss_nil)
    (pss_cons (ps_if (PW.pt (pw_and (pt_cmpR op_eq (pv 2) (pe_ix ix_tup (pv 3) (pv 1) (fun _ _ => rfl)) (nomark _)) (pw_and1 (pt_cmpR op_eq (pv 2) (pe_ix ix_tup (pv 3) (pe_op op_add (pv 1) (pv 4)) (fun _ _ => rfl)) (nomark _))))) (pss_one (ps_ret pe_bl)) pss_nil)
    (pss_one (ps_ret (pe_and (pe_cmpR op_eq (pv 2) (pe_ix ix_tup (pv 3) (pe_un un_neg pe_int) (fun _ _ => rfl)) (nomark _)) (pe_one (pe_cmpR op_eq (pv 2) (pe_ix ix_tup (pv 3) (pe_op op_add (pv 1) pe_int) (fun _ _ => rfl)) (nomark _)))))))))
abbrev st_grid_of := top 71
theorem sc_grid_of : FnScope ["frame", "places", "place"] ["frame", "places"] (defScope st_grid_of) := ⟨rfl, rfl, rfl, by decide +kernel, rfl, by decide +kernel, by decide +kernel⟩
def t_grid_of (K : PySem.W.Frag) : TS := (tRet (tLc (iTup K (tVar 1)) (gName 2) tYes (tCall (sp_row_at K) [] E0 (tCons (tVar 0) (tCons (tVar 2) tNil))) [2]))
theorem ps_grid_of {P : Program} {w : World} {K : PySem.W.Frag} {mg : Str → Option Value} {base : Heap} (T : Txt P K mg base) (c_row_at : C8.Cal P w K mg base 43 "row_at" (sp_row_at K) []) : Hps P w K mg base 43 "grid_of" st_grid_of ["frame", "places", "place"] (t_grid_of K) := fun f cdv A outer s H E hr =>
  (pss_one (ps_ret (pe_lc (own := [("place", 2)]) (g := (gName 2)) (tt := tYes) rfl sc_grid_of.nd (pi_tup (pv 1)) (blkOk_by (by rfl)) (fun _ _ _ _ _ => (pg_name (i := 2) sc_grid_of.nd rfl (Or.inl rfl))) (fun _ _ _ _ _ => pts_nil) (fun _ _ _ _ _ => (C8.pe_c c_row_at hr (by decide) rfl (pa_cons (pv 0) (pa_cons (pv 2) pa_nil)))))))
abbrev st_goals_of := top 73
theorem sc_goals_of : FnScope ["heights", "height"] ["heights"] (defScope st_goals_of) := ⟨rfl, rfl, rfl, by decide +kernel, rfl, by decide +kernel, by decide +kernel⟩
def t_goals_of (K : PySem.W.Frag) : TS := (tRet (tLc (iTup K (tVar 0)) (gName 1) tYes (tCall (sp_ratio K) [] E0 (tCons (tVar 1) (tCons (tC (.int 1)) tNil))) [1]))
theorem ps_goals_of {P : Program} {w : World} {K : PySem.W.Frag} {mg : Str → Option Value} {base : Heap} (T : Txt P K mg base) (c_ratio : C8.Cal P w K mg base 34 "ratio" (sp_ratio K) []) : Hps P w K mg base 34 "goals_of" st_goals_of ["heights", "height"] (t_goals_of K) := fun f cdv A outer s H E hr =>
  (pss_one (ps_ret (pe_lc (own := [("height", 1)]) (g := (gName 1)) (tt := tYes) rfl sc_goals_of.nd (pi_tup (pv 0)) (blkOk_by (by rfl)) (fun _ _ _ _ _ => (pg_name (i := 1) sc_goals_of.nd rfl (Or.inl rfl))) (fun _ _ _ _ _ => pts_nil) (fun _ _ _ _ _ => (C8.pe_c c_ratio hr (by decide) rfl (pa_cons (pv 1) (pa_cons pe_int pa_nil)))))))
abbrev st_check_both := top 69
theorem sc_check_both : FnScope ["frame", "places"] ["frame", "places"] (defScope st_check_both) := ⟨rfl, rfl, rfl, by decide +kernel, rfl, by decide +kernel, by decide +kernel⟩
def t_check_both (K : PySem.W.Frag) : TS := (tSeq (tDrop (tCall (sp_check_frame K) [] E0 (tCons (tVar 0) tNil)))
    (tDrop (tCall (sp_check_places K) [] E0 (tCons (tVar 1) tNil))))
theorem ps_check_both {P : Program} {w : World} {K : PySem.W.Frag} {mg : Str → Option Value} {base : Heap} (T : Txt P K mg base) (c_check_frame : C8.Cal P w K mg base 1 "check_frame" (sp_check_frame K) []) (c_check_places : C8.Cal P w K mg base 5 "check_places" (sp_check_places K) []) : Hps P w K mg base 5 "check_both" st_check_both ["frame", "places"] (t_check_both K) := fun f cdv A outer s H E hr =>
  (pss_cons (ps_expr (C8.pe_c c_check_frame hr (by decide) rfl (pa_cons (pv 0) pa_nil)))
    (pss_one (ps_expr (C8.pe_c c_check_places hr (by decide) rfl (pa_cons (pv 1) pa_nil)))))
abbrev st_check_points := top 72
theorem sc_check_points : FnScope ["frame", "places", "heights"] ["frame", "places", "heights"] (defScope st_check_points) := ⟨rfl, rfl, rfl, by decide +kernel, rfl, by decide +kernel, by decide +kernel⟩
def t_check_points (K : PySem.W.Frag) : TS := (tSeq (tDrop (tCall (sp_check_both K) [] E0 (tCons (tVar 0) (tCons (tVar 1) tNil))))
    (tDrop (tCall (sp_check_heights K) [] E0 (tCons (tVar 2) (tCons (tCB (rLen K) (tCons (tVar 1) tNil)) tNil)))))
theorem ps_check_points {P : Program} {w : World} {K : PySem.W.Frag} {mg : Str → Option Value} {base : Heap} (T : Txt P K mg base) (c_check_both : C8.Cal P w K mg base 6 "check_both" (sp_check_both K) []) (c_check_heights : C8.Cal P w K mg base 5 "check_heights" (sp_check_heights K) []) : Hps P w K mg base 6 "check_points" st_check_points ["frame", "places", "heights"] (t_check_points K) := fun f cdv A outer s H E hr =>
  (pss_cons (ps_expr (C8.pe_c c_check_both hr (by decide) rfl (pa_cons (pv 0) (pa_cons (pv 1) pa_nil))))
    (pss_one (ps_expr (C8.pe_c c_check_heights hr (by decide) rfl (pa_cons (pv 2) (pa_cons (pe_callB call_len (by rfl) T.f_len (by decide +kernel) (pa_cons (pv 1) pa_nil)) pa_nil))))))
section
variable {P : Program} {w : World} {K : PySem.W.Frag} {mg : Str → Option Value} {base : Heap}
section
variable {ta tb : TE} {σ : L2.St} {G : Hp}
/-- knots[i] -/
theorem ep_kn {ks : List Int} {i : Int} {n : Nat} (ha : Ep ta σ G (IsT K IsI ks)) (hb : Ep tb σ G (IsI i)) (e : i = (n : Nat)) (h : n < ks.length) : Ep (tOp (rIxT K) ta tb) σ G (IsI (kn ks n)) := by
  subst e
  exact ep_ixT (F := IsI) ha hb (by unfold kn; rw [List.getD_eq_getElem?_getD, List.getElem?_eq_getElem h]; rfl)
/-- knots[-1] -/
theorem ep_last {ks : List Int} (ha : Ep ta σ G (IsT K IsI ks)) (h : 0 < ks.length) : Ep (tOp (rIxT K) ta (tUn uNeg (tC (.int 1)))) σ G (IsI (lastK ks)) :=
  ep_bin (P' := IsI (-1)) ha (ep_neg ep_c) fun v w G1 H1 Q _ s px py q => by
    obtain ⟨p, vs, h1, h2, h3⟩ := px
    obtain ⟨y, e1, e2⟩ := All2.get (i := ks.length - 1) (x := lastK ks) h3 (by unfold lastK; rw [List.getD_eq_getElem?_getD, List.getElem?_eq_getElem (by omega)]; rfl)
    refine ⟨p, vs, -1, y, h1, py, Same.tup s h2, ?_, q y G1 H1 (To.refl s) e2⟩
    have hl := h3.len
    unfold atI ixN
    rw [if_neg (by omega), if_pos (by omega)]
    show vs[(vs.length + -1 : Int).toNat]? = some y
    rw [show ((vs.length : Int) + -1).toNat = ks.length - 1 by omega]
    exact e1
end
theorem bump_none (D : Dd K mg "bump" st_bump) : C8.Cal P w K mg base 37 "bump" (sp_bump K 0) [] := by
  obtain ⟨f, fd, F, hm⟩ := D.ex
  refine ⟨f, fd, ["knots", "index", "degree", "place"], [], ⟨fun vs H Q E ⟨_, _, _, _, _, _, _, _, _, e, _⟩ => by rw [e]; rfl, fun A outer s H args us vs Q E hr e0 b v ⟨_, _, _, _, _, _, _, _, _, _, _, _, c, _⟩ => ?_⟩, hm, F.kp, F.bindsN (fun _ _ _ _ _ _ us hl => match us, hl with | [_, _, _, _], _ => rfl), .nil⟩
  have := c.1.g0
  have := c.2
  omega
theorem IsB.cases {b : Bool} {v : V} {H : Hp} (h : IsB b v H) : v = .bl b := h
theorem cal_bump (D : Dd K mg "bump" st_bump) (T : Txt P K mg base) (c1 : C8.Cal P w K mg base 35 "times" (sp_times K) []) (c2 : C8.Cal P w K mg base 34 "ratio" (sp_ratio K) []) (c3 : C8.Cal P w K mg base 35 "plus" (sp_plus K) []) : ∀ d, C8.Cal P w K mg base (37 + d) "bump" (sp_bump K d) []
  | 0 => bump_none D
  | d + 1 => cal4 D sc_bump (fun _ _ _ _ _ _ us hl => match us, hl with | [_, _, _, _], _ => rfl) (ps_bump T c1 d (cal_bump D T c1 c2 c3 d) c2 c3) fun G ks i g x v0 v1 v2 v3 h0 h1 h2 h3 hc => by
    have h1' : v1 = .int i := h1
    have h2' : v2 = .int g := h2
    have h3' : v3 = .int x := h3
    subst h1' h2' h3'
    obtain ⟨⟨i0, g0, g4, hl, lo, x0⟩, hd⟩ := hc
    obtain ⟨n, rfl⟩ := Int.eq_ofNat_of_zero_le i0
    obtain ⟨m, rfl⟩ := Int.eq_ofNat_of_zero_le g0
    show Es _ _ G (IsF K (bmp ks x m n)) _
    refine sq_if (et_test (ep_eqI (ep_v rfl) ep_c)) (fun h => ?_) fun h => sq_next ?_
    · have hm : m = 0 := by
        have := of_decide_eq_true h
        omega
      subst hm
      refine sq_retd ?_
      refine sq_par (P1 := IsI (kn ks n)) (P2 := IsI (kn ks (n + 1))) (ep_kn (n := n) (ep_var rfl h0) (ep_v rfl) rfl (by omega)) (ep_kn (n := n + 1) (ep_var rfl h0) (ep_add (ep_v rfl) ep_c) (by omega) (by omega)) fun v w G2 e pv pw => ?_
      have pv : v = .int _ := pv
      have pw : w = .int _ := pw
      subst pv pw
      have q := up e h0
      refine sq_asg (P := IsB (inside ks n x)) ?_ fun v G3 e3 pv => ?_
      · refine (ep_if (P := IsB (inside ks n x)) (et_test (ep_eqI (ep_v rfl) (ep_last (ep_var rfl q) (by omega)))) (fun h => ?_) fun h => ?_)
        · have h := of_decide_eq_true h
          unfold inside
          rw [if_pos h]
          exact ep_chain (ep_v rfl) (ep_v rfl) rfl (fun _ => ep_v rfl) fun _ => rfl
        · have h := of_decide_eq_false h
          unfold inside
          rw [if_neg h]
          exact ep_chain (ep_v rfl) (ep_v rfl) rfl (fun _ => ep_v rfl) fun _ => rfl
      · refine es_ret (ep_if (et_B (ep_var (P := IsB (inside ks n x)) rfl pv)) (fun h => ?_) fun h => ?_)
        · refine ep_cP (P := IsF K (bmp ks x 0 n)) ?_
          unfold bmp
          rw [if_pos h]
          exact isONE T
        · refine ep_cP (P := IsF K (bmp ks x 0 n)) ?_
          unfold bmp
          rw [if_neg (by rw [h]; exact Bool.false_ne_true)]
          exact isNONE T
    · obtain ⟨m, rfl⟩ : ∃ k, m = k + 1 := ⟨m - 1, by
        have := of_decide_eq_false h
        omega⟩
      have bx : ∀ j, FitF (bmp ks x m j) := bmp_fit lo x0 (by omega)
      have k0 := kn_lo lo n
      have k1 := kn_lo lo (n + 1)
      have k2 := kn_lo lo (n + m + 1)
      have k3 := kn_lo lo (n + m + 2)
      have fit20 : ∀ {b : Nat} {q : Rat}, Sz b q → b ≤ 2000 → FitF q := fun h e => h.fit (Nat.le_trans e (by decide))
      refine sq_par (P1 := IsF K 0) (P2 := IsI (kn ks (n + m + 1) - kn ks n)) (ep_cP (isNONE T)) (ep_sub (ep_kn (n := n + m + 1) (ep_var rfl h0) (ep_add (ep_v rfl) (ep_v rfl)) (by omega) (by omega)) (ep_kn (n := n) (ep_var rfl h0) (ep_v rfl) rfl (by omega))) fun v w G2 e pv pw => ?_
      have pw : w = .int _ := pw
      subst pw
      have q2 := up e h0
      -- the rising part
      refine es_seq (N1 := fun σ G => ∃ v, σ = [some v0, some (.int n), some (.int ((m + 1 : Nat) : Int)), some (.int x), none, none, none, some v, some (.int (kn ks (n + m + 1) - kn ks n)), none, none] ∧ IsF K (if 0 < kn ks (n + m + 1) - kn ks n then ((x - kn ks n : Int) : Rat) / ((kn ks (n + m + 1) - kn ks n : Int) : Rat) * bmp ks x m n else 0) v G) ?_ ?_
      · refine es_if (et_test (ep_gt (ep_v rfl) ep_c)) (fun h => ?_) fun h => ?_
        · have h := of_decide_eq_true h
          refine es_asg (ep_call2 _ _ (ep_call2 (P1 := IsI) (P2 := IsI) (x - kn ks n) (kn ks (n + m + 1) - kn ks n) (ep_sub (ep_v rfl) (ep_kn (n := n) (ep_var rfl q2) (ep_v rfl) rfl (by omega))) (ep_v rfl) (by omega)) (ep_call4 (P2 := IsI) (P3 := IsI) (P4 := IsI) ks (n : Int) (m : Int) x (ep_var rfl q2) (ep_v rfl) ((ep_sub (ep_v rfl) ep_c).is (by congr 1; omega)) (ep_v rfl) ⟨⟨i0, by omega, by omega, by omega, lo, x0⟩, by omega⟩) ⟨fit20 (sz_part (by omega) (by omega) h (by omega)) (by decide), bx n⟩) fun v G3 e3 pv => ⟨v, rfl, ?_⟩
          rw [if_pos h]
          exact pv
        · have h := of_decide_eq_false h
          refine es_next fun G3 e3 => ⟨v, rfl, ?_⟩
          rw [if_neg h]
          exact up e3 pv
      · rintro σ2 G3 e3 ⟨v, rfl, pv⟩
        have q3 := up e3 q2
        have fA : FitF (if 0 < kn ks (n + m + 1) - kn ks n then ((x - kn ks n : Int) : Rat) / ((kn ks (n + m + 1) - kn ks n : Int) : Rat) * bmp ks x m n else 0) := by
          split
          · rename_i h
            exact fit20 (Sz.mul (sz_part (by omega) (by omega) h (by omega)) (bmp_sz lo x0 m n)) (by have := bb_le (g := m) (by omega); omega)
          · exact fit20 (sz_zero (b := 1) (by decide)) (by decide)
        have eb : bmp ks x (m + 1) n = (if 0 < kn ks (n + m + 1) - kn ks n then ((x - kn ks n : Int) : Rat) / ((kn ks (n + m + 1) - kn ks n : Int) : Rat) * bmp ks x m n else 0) + (if 0 < kn ks (n + m + 2) - kn ks (n + 1) then ((kn ks (n + m + 2) - x : Int) : Rat) / ((kn ks (n + m + 2) - kn ks (n + 1) : Int) : Rat) * bmp ks x m (n + 1) else 0) := by
          rw [bmp]
        rw [eb]
        generalize (if 0 < kn ks (n + m + 1) - kn ks n then ((x - kn ks n : Int) : Rat) / ((kn ks (n + m + 1) - kn ks n : Int) : Rat) * bmp ks x m n else 0) = A at *
        refine sq_asg (P := IsI (kn ks (n + m + 2) - kn ks (n + 1))) (ep_sub (ep_kn (n := n + m + 2) (ep_var rfl q3) (ep_add (ep_add (ep_v rfl) (ep_v rfl)) ep_c) (by omega) (by omega)) (ep_kn (n := n + 1) (ep_var rfl q3) (ep_add (ep_v rfl) ep_c) (by omega) (by omega))) fun v4 G4 e4 pv4 => ?_
        have pv4 : v4 = .int _ := pv4
        subst pv4
        have q4 := up e4 q3
        have p4 := up e4 pv
        refine sq_if (et_test (ep_gt (ep_v rfl) ep_c)) (fun h => ?_) fun h => sq_next ?_
        · have h := of_decide_eq_true h
          rw [if_pos h]
          have szp := sz_part (a := kn ks (n + m + 2) - x) (b := kn ks (n + m + 2) - kn ks (n + 1)) (by omega) (by omega) h (by omega)
          refine es_seq (N1 := fun σ G => ∃ v, σ[7]? = some (some v) ∧ IsF K (A + ((kn ks (n + m + 2) - x : Int) : Rat) / ((kn ks (n + m + 2) - kn ks (n + 1) : Int) : Rat) * bmp ks x m (n + 1)) v G) ?_ ?_
          · refine sq_asg (ep_call2 (P1 := IsI) (P2 := IsI) (kn ks (n + m + 2) - x) (kn ks (n + m + 2) - kn ks (n + 1)) (ep_sub (ep_kn (n := n + m + 2) (ep_var rfl q4) (ep_add (ep_add (ep_v rfl) (ep_v rfl)) ep_c) (by omega) (by omega)) (ep_v rfl)) (ep_v rfl) (by omega)) fun v5 G5 e5 pv5 => ?_
            have q5 := up e5 q4
            have p5 := up e5 p4
            refine es_asg (ep_call2 _ _ (ep_var rfl p5) (ep_call2 _ _ (ep_var rfl pv5) (ep_call4 (P2 := IsI) (P3 := IsI) (P4 := IsI) ks ((n + 1 : Nat) : Int) (m : Int) x (ep_var rfl q5) ((ep_add (ep_v rfl) ep_c).is (by congr 1)) ((ep_sub (ep_v rfl) ep_c).is (by congr 1; omega)) (ep_v rfl) ⟨⟨by omega, by omega, by omega, by omega, lo, x0⟩, by omega⟩) ⟨fit20 szp (by decide), bx (n + 1)⟩) ⟨fA, fit20 (Sz.mul szp (bmp_sz lo x0 m (n + 1))) (by have := bb_le (g := m) (by omega); omega)⟩) fun v6 G6 e6 pv6 => ⟨v6, rfl, pv6⟩
          · rintro σ5 G5 e5 ⟨v5, h5, p5⟩
            exact es_ret (ep_var h5 p5)
        · have h := of_decide_eq_false h
          rw [if_neg h, Rat.add_zero]
          exact es_ret (ep_var rfl p4)
theorem isO_ins {C : Addr} {f : Str} {α : Type} {F : α → VP} : ∀ (a : α) (v : V) (G : Hp), IsO C f (F a) v G → ∃ x dx fs, v = .ref x ∧ G x = some (.ins C dx fs) := fun a v G ⟨x, dx, pv, h1, h2, _⟩ => ⟨x, dx, _, h1, h2⟩
section
variable {ta : TE} {σ : L2.St} {G : Hp} {f : Int × List Int}
theorem ep_degree (h : Ep ta σ G (IsFr K f)) : Ep (tProp (He.ga K "Frame") (sp_Frame_degree K) [] E0 ta) σ G (IsI f.1) := ep_prop isO_ins f h trivial
theorem ep_knots (h : Ep ta σ G (IsFr K f)) : Ep (tProp (He.ga K "Frame") (sp_Frame_knots K) [] E0 ta) σ G (IsT K IsI f.2) := ep_prop isO_ins f h trivial
theorem nOf_eq (hf : FrOk f) : (f.2.length : Int) - f.1 - 1 = (nOf f : Nat) := by
  have := hf.g0
  have := hf.least
  unfold nOf
  omega
theorem ep_hills (hf : FrOk f) (h : Ep ta σ G (IsFr K f)) : Ep (tProp (He.ga K "Frame") (sp_Frame_hills K) [] E0 ta) σ G (IsI (nOf f : Nat)) := by
  have q : Ep (tProp (He.ga K "Frame") (sp_Frame_hills K) [] E0 ta) σ G (IsI ((f.2.length : Int) - f.1 - 1)) := ep_prop isO_ins f h trivial
  rw [nOf_eq hf] at q
  exact q
end
theorem nOf_le {f : Int × List Int} (hf : FrOk f) : nOf f ≤ 10 := by
  have := hf.g0
  have := hf.most
  unfold nOf
  omega
theorem cal_row_at (D : Dd K mg "row_at" st_row_at) (T : Txt P K mg base) (c1 : C8.Cal P w K mg base 42 "bump" (sp_bump K 5) []) (p1 : Prp P w K mg base 1 (He.ga K "Frame") "hills" (sp_Frame_hills K)) (p2 : Prp P w K mg base 1 (He.ga K "Frame") "degree" (sp_Frame_degree K)) (p3 : Prp P w K mg base 1 (He.ga K "Frame") "knots" (sp_Frame_knots K)) : C8.Cal P w K mg base 43 "row_at" (sp_row_at K) [] :=
  cal2 D sc_row_at (fun _ _ _ _ _ _ us hl => match us, hl with | [_, _], _ => rfl) (ps_row_at T c1 p1 p2 p3) fun G f x v0 v1 h0 h1 hc => by
    have hn := nOf_le hc.1
    have hl := nOf_eq hc.1
    have hg := hc.1.g0
    have h := ep_lm (R := IsF K) (te := tCall (sp_bump K 5) [] E0 (tCons (tProp (He.ga K "Frame") (sp_Frame_knots K) [] E0 (tVar 0)) (tCons (tVar 2) (tCons (tProp (He.ga K "Frame") (sp_Frame_degree K) [] E0 (tVar 0)) (tCons (tVar 1) tNil))))) (g := gName 2) (vs := [2]) (σ := start ["frame", "place", "hill"] [v0, v1]) (fun i : Int => bmp f.2 x f.1.toNat i.toNat) (it_rng1 (ep_hills hc.1 (ep_var (i := 0) rfl h0)) (by omega) (by omega)) (by rw [rng_len]; omega) ?_
    · have e : (rng 0 (nOf f : Int).toNat).map (fun i : Int => bmp f.2 x f.1.toNat i.toNat) = rowOf f x := by
        unfold rng rowOf
        rw [List.map_map]
        refine List.map_congr_left fun i _ => ?_
        show bmp _ _ _ (0 + (i : Int)).toNat = _
        rw [Int.zero_add]
        rfl
      rw [e] at h
      exact es_ret h
    · rintro i y v G2 hi s hv
      obtain ⟨hi1, hi2⟩ := rng_get hi
      have e : y = (i : Nat) := by rw [hi2, Int.zero_add]
      subst e
      refine ⟨_, gb_name, rfl, ep_call4 (P2 := IsI) (P3 := IsI) (P4 := IsI) f.2 _ f.1 x (ep_knots (ep_var rfl (up s h0))) (ep_var rfl hv) (ep_degree (ep_var rfl (up s h0))) (ep_var rfl (up s h1)) ⟨⟨by omega, hg, hc.1.g4, by omega, hc.1.lo, hc.2⟩, by have := hc.1.g4; omega⟩⟩
theorem cal_is_up (D : Dd K mg "is_up" st_is_up) (T : Txt P K mg base) (p2 : Prp P w K mg base 1 (He.ga K "Frame") "degree" (sp_Frame_degree K)) (p3 : Prp P w K mg base 1 (He.ga K "Frame") "knots" (sp_Frame_knots K)) : C8.Cal P w K mg base 3 "is_up" (sp_is_up K) [] :=
  cal3 D sc_is_up (fun _ _ _ _ _ _ us hl => match us, hl with | [_, _, _], _ => rfl) (ps_is_up T p2 p3) fun G f i x v0 v1 v2 h0 h1 h2 hc => by
    have h1' : v1 = .int i := h1
    have h2' : v2 = .int x := h2
    subst h1' h2'
    obtain ⟨hf, i0, hi⟩ := hc
    obtain ⟨n, rfl⟩ := Int.eq_ofNat_of_zero_le i0
    obtain ⟨g, ks⟩ := f
    have g0 : 0 ≤ g := hf.g0
    obtain ⟨m, rfl⟩ := Int.eq_ofNat_of_zero_le g0
    have hl := nOf_eq hf
    have hl : (ks.length : Int) - (m : Int) - 1 = (nOf ((m : Int), ks) : Nat) := hl
    show Es _ _ G (IsB (isUp ks m n x)) _
    refine sq_par (P2 := IsI (m : Int)) (ep_knots (ep_var rfl h0)) (ep_degree (ep_var rfl h0)) fun v w G2 e pv pw => ?_
    have pw : w = .int (m : Int) := pw
    subst pw
    have pv : IsT K IsI ks v G2 := pv
    refine sq_if (b := decide (kn ks n < x) && decide (x < kn ks (n + m + 1))) (et_test (ep_chain (ep_kn (n := n) (ep_var rfl pv) (ep_v rfl) rfl (by omega)) (ep_v rfl) rfl (fun _ => ep_kn (n := n + m + 1) (ep_var rfl pv) (ep_add (ep_add (ep_v rfl) (ep_v rfl)) ep_c) (by omega) (by omega)) fun _ => rfl)) (fun h => ?_) fun h => sq_next ?_
    · refine sq_retd (es_ret (ep_c.is ?_))
      unfold isUp
      rw [h]
      rfl
    refine sq_if (b := decide (x = kn ks n) && decide (x = kn ks (n + m))) (et_and (et_test (ep_eqI (ep_v rfl) (ep_kn (n := n) (ep_var rfl pv) (ep_v rfl) rfl (by omega)))) fun _ => et_test (ep_eqI (ep_v rfl) (ep_kn (n := n + m) (ep_var rfl pv) (ep_add (ep_v rfl) (ep_v rfl)) (by omega) (by omega)))) (fun h' => ?_) fun h' => sq_next ?_
    · refine sq_retd (es_ret (ep_c.is ?_))
      unfold isUp
      rw [h, h']
      rfl
    refine es_ret ((ep_andV (ep_eqI (ep_v rfl) (ep_last (ep_var rfl pv) (by omega))) fun _ => ep_eqI (ep_v rfl) (ep_kn (n := n + 1) (ep_var rfl pv) (ep_add (ep_v rfl) ep_c) (by omega) (by omega))).is ?_)
    unfold isUp
    rw [h, h']
    rfl
theorem cal_grid_of (D : Dd K mg "grid_of" st_grid_of) (T : Txt P K mg base) (c1 : C8.Cal P w K mg base 43 "row_at" (sp_row_at K) []) : C8.Cal P w K mg base 44 "grid_of" (sp_grid_of K) [] :=
  cal2 D sc_grid_of (fun _ _ _ _ _ _ us hl => match us, hl with | [_, _], _ => rfl) (ps_grid_of T c1) fun G f xs v0 v1 h0 h1 hc =>
    es_ret (ep_lm (F := IsI) (rowOf f) (it_tup (ep_var rfl h1)) hc.2.2 fun i x v G2 hi s hv => ⟨_, gb_name, rfl, ep_call2 f x (ep_var rfl (up s h0)) (ep_var rfl hv) ⟨hc.1, hc.2.1 x (List.mem_of_getElem? hi)⟩⟩)
theorem cal_goals_of (D : Dd K mg "goals_of" st_goals_of) (T : Txt P K mg base) (c1 : C8.Cal P w K mg base 34 "ratio" (sp_ratio K) []) : C8.Cal P w K mg base 35 "goals_of" (sp_goals_of K) [] :=
  cal1 D sc_goals_of (fun _ _ _ _ _ _ us hl => match us, hl with | [_], _ => rfl) (ps_goals_of T c1) fun G ys v0 h0 hc =>
    es_ret (ep_lm (F := IsI) (R := IsF K) (fun y : Int => (y : Rat)) (it_tup (ep_var rfl h0)) hc fun i y v G2 hi s hv => ⟨_, gb_name, rfl, by
      have h := ep_call2 (E := E0) (P1 := IsI) (P2 := IsI) (C := fun _ b => b ≠ 0) (B := fun a b => IsF K ((a : Rat) / (b : Rat))) y 1 (ep_var (σ := [some v0, some v]) (i := 1) rfl hv) ep_c (by decide)
      rw [show ((y : Int) : Rat) / ((1 : Int) : Rat) = (y : Rat) by rw [Rat.intCast_one]; grind] at h
      exact h⟩)
theorem cal_check_both (D : Dd K mg "check_both" st_check_both) (T : Txt P K mg base) (c1 : C8.Cal P w K mg base 1 "check_frame" (sp_check_frame K) []) (c2 : C8.Cal P w K mg base 5 "check_places" (sp_check_places K) []) : C8.Cal P w K mg base 6 "check_both" (sp_check_both K) [] :=
  cal2 D sc_check_both (fun _ _ _ _ _ _ us hl => match us, hl with | [_, _], _ => rfl) (ps_check_both T c1 c2) fun G f xs v0 v1 h0 h1 hc =>
    sq_drop (ep_call1 f (ep_var rfl h0) trivial) (es_drop (ep_call1 xs (ep_var rfl h1) hc) fun _ _ => rfl)
theorem cal_check_points (D : Dd K mg "check_points" st_check_points) (T : Txt P K mg base) (c1 : C8.Cal P w K mg base 6 "check_both" (sp_check_both K) []) (c2 : C8.Cal P w K mg base 5 "check_heights" (sp_check_heights K) []) : C8.Cal P w K mg base 7 "check_points" (sp_check_points K) [] :=
  cal3 D sc_check_points (fun _ _ _ _ _ _ us hl => match us, hl with | [_, _, _], _ => rfl) (ps_check_points T c1 c2) fun G f xs ys v0 v1 v2 h0 h1 h2 hc =>
    sq_drop (ep_call2 f xs (ep_var rfl h0) (ep_var rfl h1) hc.1) (es_drop (ep_call2 ys (xs.length : Int) (ep_var rfl h2) (ep_len (Ep.sT (ep_var rfl h1))) hc.2) fun _ _ => rfl)
end
end Bt
/-! ==== Z2 ==== -/
set_option Elab.async false
set_option linter.all false
set_option maxRecDepth 100000
set_option maxHeartbeats 2000000
/-! The elimination column by column: what it comes to, how great its numbers get. -/
namespace Bt
open LS
/-- a matrix as a list of rows -/
def tab (R m : Nat) (e : Nat → Nat → Rat) : List (List Rat) := (List.range R).map fun i => (List.range m).map fun j => e i j
theorem tab_len {R m : Nat} {e : Nat → Nat → Rat} : (tab R m e).length = R := by simp [tab]
theorem tab_get {R m : Nat} {e : Nat → Nat → Rat} {i : Nat} (h : i < R) : (tab R m e)[i]? = some ((List.range m).map fun j => e i j) := by
  unfold tab
  rw [List.getElem?_map, List.getElem?_range h]
  rfl
theorem row_get {m : Nat} {f : Nat → Rat} {j : Nat} (h : j < m) : ((List.range m).map f)[j]? = some (f j) := by
  rw [List.getElem?_map, List.getElem?_range h]
  rfl
theorem range_set {α : Type} {R a : Nat} {f g : Nat → α} {x : α} (h : a < R) (hx : x = g a) (ho : ∀ i, i < R → i ≠ a → f i = g i) : ((List.range R).map f).set a x = (List.range R).map g := by
  refine List.ext_getElem? fun i => ?_
  rw [List.getElem?_set]
  by_cases hi : i < R
  · by_cases e : a = i
    · subst e
      rw [if_pos rfl, if_pos (by simpa using hi), List.getElem?_map, List.getElem?_range hi, hx]
      rfl
    · rw [if_neg e, List.getElem?_map, List.getElem?_map, List.getElem?_range hi]
      show some (f i) = some (g i)
      rw [ho i hi (Ne.symm e)]
  · by_cases e : a = i
    · omega
    · rw [if_neg e, List.getElem?_eq_none (by simpa using hi), List.getElem?_eq_none (by simpa using hi)]
/-- where the column has something but 0, from a on -/
def spotsF (R a c : Nat) (e : Nat → Nat → Rat) : List Nat := (List.range' a (R - a)).filter fun s => decide (e s c ≠ 0)
def nxt (R c : Nat) (p : (Nat → Nat → Rat) × List Nat) : (Nat → Nat → Rat) × List Nat := match spotsF R p.2.length c p.1 with
  | [] => p
  | s :: _ => (stF c p.2.length s p.1, p.2 ++ [c])
def red (R : Nat) (e : Nat → Nat → Rat) : Nat → (Nat → Nat → Rat) × List Nat
  | 0 => (e, [])
  | c + 1 => nxt R c (red R e c)
theorem spots_mem {R a c s : Nat} {e : Nat → Nat → Rat} : s ∈ spotsF R a c e ↔ (a ≤ s ∧ s < R) ∧ e s c ≠ 0 := by
  unfold spotsF
  rw [List.mem_filter, List.mem_range'_1, decide_eq_true_eq]
  constructor
  · rintro ⟨⟨h1, h2⟩, h3⟩
    exact ⟨⟨h1, by omega⟩, h3⟩
  · rintro ⟨⟨h1, h2⟩, h3⟩
    exact ⟨⟨h1, by omega⟩, h3⟩
theorem red_done (R : Nat) (e : Nat → Nat → Rat) : ∀ c, Done R c (red R e c).1 (red R e c).2
  | 0 => ⟨Nat.zero_le _, fun k (h : k ∈ ([] : List Nat)) => absurd h (by simp), List.Pairwise.nil, fun k j (h : ([] : List Nat)[k]? = some j) => absurd h (by simp), fun i _ _ j h => absurd h (Nat.not_lt_zero j)⟩
  | c + 1 => by
    have d := red_done R e c
    show Done R (c + 1) (nxt R c (red R e c)).1 (nxt R c (red R e c)).2
    unfold nxt
    cases q : spotsF R (red R e c).2.length c (red R e c).1 with
    | nil =>
      refine done_none d fun i h1 h2 => ?_
      by_cases z : (red R e c).1 i c = 0
      · exact z
      · have := spots_mem.mpr ⟨⟨h1, h2⟩, z⟩
        rw [q] at this
        cases this
    | cons s r =>
      have hs := spots_mem.mp (by rw [q]; exact List.mem_cons_self : s ∈ spotsF R (red R e c).2.length c (red R e c).1)
      exact done_some d hs.1.1 hs.1.2 hs.2
theorem red_sol (R n : Nat) (e : Nat → Nat → Rat) (v : Nat → Rat) : ∀ c, Sol R n (red R e c).1 v ↔ Sol R n e v
  | 0 => Iff.rfl
  | c + 1 => by
    show Sol R n (nxt R c (red R e c)).1 v ↔ _
    unfold nxt
    cases q : spotsF R (red R e c).2.length c (red R e c).1 with
    | nil => exact red_sol R n e v c
    | cons s r =>
      have hs := spots_mem.mp (by rw [q]; exact List.mem_cons_self : s ∈ spotsF R (red R e c).2.length c (red R e c).1)
      exact (st_sol (by have := hs.1; omega) hs.1.2 hs.2 v).trans (red_sol R n e v c)
theorem red_comb (R n : Nat) (e : Nat → Nat → Rat) : ∀ c, Comb R n e (red R e c).1
  | 0 => fun i hi => ⟨fun k => if k = i then 1 else 0, fun j _ => by
    show e i j = _
    rw [sum_single hi fun l hl hne => by
      show (if l = i then (1 : Rat) else 0) * e l j = 0
      rw [if_neg hne]
      grind]
    show e i j = (if i = i then (1 : Rat) else 0) * e i j
    rw [if_pos rfl]
    grind⟩
  | c + 1 => by
    show Comb R n e (nxt R c (red R e c)).1
    unfold nxt
    cases q : spotsF R (red R e c).2.length c (red R e c).1 with
    | nil => exact red_comb R n e c
    | cons s r =>
      have hs := spots_mem.mp (by rw [q]; exact List.mem_cons_self : s ∈ spotsF R (red R e c).2.length c (red R e c).1)
      exact st_comb (by have := hs.1; omega) hs.1.2 (red_comb R n e c)
theorem red_len (R : Nat) (e : Nat → Nat → Rat) (c : Nat) : (red R e c).2.length ≤ R := (red_done R e c).len
/-! ### sizes: each row over one denominator -/
def Rs (b m : Nat) (r : Nat → Rat) : Prop := ∃ (s : Int) (u : Nat → Int), s ≠ 0 ∧ s.natAbs < 2 ^ b ∧ ∀ j, j < m → r j = (u j : Rat) / (s : Rat) ∧ (u j).natAbs < 2 ^ b
theorem Rs.sz {b m : Nat} {r : Nat → Rat} (h : Rs b m r) {j : Nat} (hj : j < m) : Sz b (r j) := by
  obtain ⟨s, u, h0, hs, hu⟩ := h
  rw [(hu j hj).1]
  exact sz_div (hu j hj).2 hs h0
theorem Rs.mono {a b m : Nat} {r : Nat → Rat} (h : Rs a m r) (e : a ≤ b) : Rs b m r := by
  obtain ⟨s, u, h0, hs, hu⟩ := h
  have := Nat.pow_le_pow_right (n := 2) (by decide) e
  exact ⟨s, u, h0, by omega, fun j hj => ⟨(hu j hj).1, by have := (hu j hj).2; omega⟩⟩
theorem cast_ne {s : Int} (h : s ≠ 0) : (s : Rat) ≠ 0 := fun z => h (by exact_mod_cast z)
theorem Rs.quot {b m : Nat} {r : Nat → Rat} {c : Nat} (h : Rs b m r) (hc : c < m) (h0 : r c ≠ 0) : Rs b m fun j => r j / r c := by
  obtain ⟨s, u, hs0, hs, hu⟩ := h
  have uc : u c ≠ 0 := fun z => h0 (by rw [(hu c hc).1, z, Rat.intCast_zero]; grind)
  refine ⟨u c, u, uc, (hu c hc).2, fun j hj => ⟨?_, (hu j hj).2⟩⟩
  have e1 := (hu j hj).1
  have e2 := (hu c hc).1
  have n1 := cast_ne hs0
  have n2 := cast_ne uc
  show r j / r c = _
  rw [e1, e2]
  generalize ((u j : Int) : Rat) = x at *
  generalize ((u c : Int) : Rat) = y at *
  generalize ((s : Int) : Rat) = z at *
  grind
theorem Rs.clear {b m : Nat} {r l : Nat → Rat} {c : Nat} (h : Rs b m r) (k : Rs b m l) (hc : c < m) (h0 : l c ≠ 0) : Rs (2 * b + 1) m fun j => r j - r c * (l j / l c) := by
  obtain ⟨s, u, hs0, hs, hu⟩ := h
  obtain ⟨t, w, ht0, ht, hw⟩ := k
  have wc : w c ≠ 0 := fun z => h0 (by rw [(hw c hc).1, z, Rat.intCast_zero]; grind)
  have p : ∀ {x y : Nat}, x < 2 ^ b → y < 2 ^ b → x * y < 2 ^ (b + b) := fun hx hy => mul_lt_pow hx hy
  have e2 : (2 : Nat) ^ (2 * b + 1) = 2 ^ (b + b) * 2 := by rw [show 2 * b + 1 = (b + b) + 1 by omega, Nat.pow_succ]
  refine ⟨s * w c, fun j => u j * w c - u c * w j, fun z => ?_, ?_, fun j hj => ⟨?_, ?_⟩⟩
  · rcases Int.mul_eq_zero.mp z with z | z
    · exact hs0 z
    · exact wc z
  · rw [Int.natAbs_mul, e2]
    have := p hs (hw c hc).2
    omega
  · have a1 := (hu j hj).1
    have a2 := (hu c hc).1
    have a3 := (hw j hj).1
    have a4 := (hw c hc).1
    have n1 := cast_ne hs0
    have n2 := cast_ne wc
    have n3 := cast_ne ht0
    show r j - r c * (l j / l c) = ((u j * w c - u c * w j : Int) : Rat) / ((s * w c : Int) : Rat)
    rw [a1, a2, a3, a4, Rat.intCast_sub, Rat.intCast_mul, Rat.intCast_mul, Rat.intCast_mul]
    generalize ((u j : Int) : Rat) = x at *
    generalize ((u c : Int) : Rat) = y at *
    generalize ((w j : Int) : Rat) = x' at *
    generalize ((w c : Int) : Rat) = y' at *
    generalize ((s : Int) : Rat) = z at *
    generalize ((t : Int) : Rat) = z' at *
    grind
  · show (u j * w c - u c * w j).natAbs < _
    have a := p (hu j hj).2 (hw c hc).2
    have b := p (hu c hc).2 (hw j hj).2
    rw [e2]
    rw [← Int.natAbs_mul] at a b
    omega
def it : Nat → Nat → Nat
  | 0, b => b
  | c + 1, b => 2 * it c b + 1
theorem it_le (b : Nat) : ∀ c, it c b ≤ it (c + 1) b := fun c => by
  show it c b ≤ 2 * it c b + 1
  omega
theorem it_mono (b : Nat) {c d : Nat} (h : c ≤ d) : it c b ≤ it d b := by
  induction d with
  | zero =>
    have : c = 0 := by omega
    rw [this]
    exact Nat.le_refl _
  | succ d ih =>
    by_cases e : c = d + 1
    · rw [e]
      exact Nat.le_refl _
    · exact Nat.le_trans (ih (by omega)) (it_le b d)
theorem swp_lt {a s i R : Nat} (ha : a < R) (hs : s < R) (hi : i < R) : swp a s i < R := by
  unfold swp
  split
  · exact hs
  · split <;> omega
theorem red_rs {R m b : Nat} {e : Nat → Nat → Rat} (h : ∀ i, i < R → Rs b m (e i)) : ∀ c, c ≤ m → ∀ i, i < R → Rs (it c b) m ((red R e c).1 i)
  | 0, _, i, hi => h i hi
  | c + 1, hc, i, hi => by
    have ih := red_rs h c (by omega)
    show Rs (2 * it c b + 1) m ((nxt R c (red R e c)).1 i)
    unfold nxt
    cases q : spotsF R (red R e c).2.length c (red R e c).1 with
    | nil => exact (ih i hi).mono (by omega)
    | cons s r =>
      have hs := spots_mem.mp (by rw [q]; exact List.mem_cons_self : s ∈ spotsF R (red R e c).2.length c (red R e c).1)
      show Rs _ m (stF c (red R e c).2.length s (red R e c).1 i)
      by_cases k : i = (red R e c).2.length
      · have : stF c (red R e c).2.length s (red R e c).1 i = fun j => (red R e c).1 s j / (red R e c).1 s c := by
          funext j
          unfold stF
          rw [if_pos k]
        rw [this]
        exact ((ih s hs.1.2).quot (by omega) hs.2).mono (by omega)
      · have : stF c (red R e c).2.length s (red R e c).1 i = fun j => (red R e c).1 (swp (red R e c).2.length s i) j - (red R e c).1 (swp (red R e c).2.length s i) c * ((red R e c).1 s j / (red R e c).1 s c) := by
          funext j
          unfold stF
          rw [if_neg k]
        rw [this]
        exact Rs.clear (ih _ (swp_lt (by have := hs.1; omega) hs.1.2 hi)) (ih s hs.1.2) (by omega) hs.2
end Bt
/-! ==== W10 ==== -/
set_option Elab.async false
set_option linter.all false
set_option maxRecDepth 100000
set_option maxHeartbeats 2000000
/-! The elimination: cleared, reduced. -/
namespace Bt
open PySem PySem.Spec PyProof.Rows L2 LS
/-- a matrix -/
structure Mx where
  R : Nat
  m : Nat
  e : Nat → Nat → Rat
abbrev Mx.tab (x : Mx) : List (List Rat) := Bt.tab x.R x.m x.e
abbrev IsMx (K : PySem.W.Frag) (x : Mx) : VP := IsL (IsL (IsF K)) x.tab
/-- the numbers met in n columns are of fair size -/
structure MxOk (x : Mx) (n : Nat) (b : Nat) : Prop where
  rm : x.R ≤ 100 ∧ x.m ≤ 100
  nm : n ≤ x.m
  rs : ∀ i, i < x.R → Rs b x.m (x.e i)
  bits : 2 * it n b ≤ big
def stI (st : List Nat) : List Int := st.map fun (i : Nat) => (i : Int)
def sp_cleared (K : PySem.W.Frag) : Sp := sp3 (IsL (IsF K)) (IsL (IsF K)) (IsF K) (fun row lead p => row.length ≤ 1000 ∧ (∀ x ∈ row, FitF x) ∧ (∀ y ∈ lead, FitF y ∧ FitF (p * y)) ∧ FitF p) fun row lead p => IsL (IsF K) ((row.zip lead).map fun q => q.1 - p * q.2)
def sp_reduced (K : PySem.W.Frag) : Sp := sp2 (IsMx K) (fun n : Nat => IsI n) (fun x n => ∃ b, MxOk x n b) fun x n => IsP K (IsL (IsL (IsF K))) (IsL IsI) (tab x.R x.m (red x.R x.e n).1, stI (red x.R x.e n).2)
abbrev st_cleared := top 63
theorem sc_cleared : FnScope ["row", "lead", "part", "one", "other"] ["row", "lead", "part"] (defScope st_cleared) := ⟨rfl, rfl, rfl, by decide +kernel, rfl, by decide +kernel, by decide +kernel⟩
def t_cleared (K : PySem.W.Frag) : TS := (tRet (tLc (iZipX K (tCons (tVar 0) (tCons (tVar 1) tNil))) (gTup K 2 (gCons (gName 3) (gCons (gName 4) gNil))) tYes (tCall (sp_minus K) [] E0 (tCons (tVar 3) (tCons (tCall (sp_times K) [] E0 (tCons (tVar 2) (tCons (tVar 4) tNil))) tNil))) [3, 4]))
theorem ps_cleared {P : Program} {w : World} {K : PySem.W.Frag} {mg : Str → Option Value} {base : Heap} (T : Txt P K mg base) (c_minus : C8.Cal P w K mg base 35 "minus" (sp_minus K) []) (c_times : C8.Cal P w K mg base 35 "times" (sp_times K) []) : Hps P w K mg base 35 "cleared" st_cleared ["row", "lead", "part", "one", "other"] (t_cleared K) := fun f cdv A outer s H E hr =>
  (pss_one (ps_ret (pe_lc (own := [("one", 3), ("other", 4)]) (g := (gTup K 2 (gCons (gName 3) (gCons (gName 4) gNil)))) (tt := tYes) rfl sc_cleared.nd (pi_zipX rfl T.f_zip (pa_cons (pv 0) (pa_cons (pv 1) pa_nil))) (blkOk_by (by rfl)) (fun _ _ _ _ _ => (pg_tup rfl (pgs_cons (pg_name (i := 3) sc_cleared.nd rfl (Or.inl rfl)) (pgs_cons (pg_name (i := 4) sc_cleared.nd rfl (Or.inl rfl)) pgs_nil)))) (fun _ _ _ _ _ => pts_nil) (fun _ _ _ _ _ => (C8.pe_c c_minus hr (by decide) rfl (pa_cons (pv 3) (pa_cons (C8.pe_c c_times hr (by decide) rfl (pa_cons (pv 2) (pa_cons (pv 4) pa_nil))) pa_nil)))))))
abbrev st_reduced := top 62
theorem sc_reduced : FnScope ["rows", "many", "steps", "column", "at", "spot", "spots", "row", "part"] ["rows", "many"] (defScope st_reduced) := ⟨rfl, rfl, rfl, by decide +kernel, rfl, by decide +kernel, by decide +kernel⟩
def t_reduced (K : PySem.W.Frag) : TS := (tSeq (tAsg (tTup (tCons (tLc (iList K (tVar 0)) (gName 7) tYes (tCB (rListOf K) (tCons (tVar 7) tNil)) [7]) (tCons (tLst tNil) tNil))) (gTup K 2 (gCons (gName 0) (gCons (gName 2) gNil))))
    (tSeq (tFor (iRng1 (tCons (tVar 1) tNil)) (gName 3)
    (tSeq (tAsg (tCB (rLen K) (tCons (tVar 2) tNil)) (gName 4))
    (tSeq (tAsg (tLc (iRng2 (tCons (tVar 4) (tCons (tCB (rLen K) (tCons (tVar 0) tNil)) tNil))) (gName 5) (tTest (tOp (rNeD K) (tOp (rIxL K) (tOp (rIxL K) (tVar 0) (tVar 5)) (tVar 3)) (tC (.ref (He.ga K "NONE"))))) (tVar 5) [5]) (gName 6))
    (tIfS (tTest (tOp (rNeD K) (tVar 6) (tLst tNil))) (tSeq (tAsg (tTup (tCons (tOp (rIxL K) (tVar 0) (tOp (rIxL K) (tVar 6) (tC (.int 0)))) (tCons (tOp (rIxL K) (tVar 0) (tVar 4)) tNil))) (gTup K 2 (gCons (gSub (tVar 0) (tVar 4) rSetL) (gCons (gSub (tVar 0) (tOp (rIxL K) (tVar 6) (tC (.int 0))) rSetL) gNil))))
    (tSeq (tAsg (tLc (iList K (tOp (rIxL K) (tVar 0) (tVar 4))) (gName 8) tYes (tCall (sp_over K) [] E0 (tCons (tVar 8) (tCons (tOp (rIxL K) (tOp (rIxL K) (tVar 0) (tVar 4)) (tVar 3)) tNil))) [8]) (gSub (tVar 0) (tVar 4) rSetL))
    (tSeq (tFor (iRng1 (tCons (tCB (rLen K) (tCons (tVar 0) tNil)) tNil)) (gName 5)
    (tIfS (tAnd (tTest (tOp rNe (tVar 5) (tVar 4))) (tTest (tOp (rNeD K) (tOp (rIxL K) (tOp (rIxL K) (tVar 0) (tVar 5)) (tVar 3)) (tC (.ref (He.ga K "NONE")))))) (tAsg (tCall (sp_cleared K) [] E0 (tCons (tOp (rIxL K) (tVar 0) (tVar 5)) (tCons (tOp (rIxL K) (tVar 0) (tVar 4)) (tCons (tOp (rIxL K) (tOp (rIxL K) (tVar 0) (tVar 5)) (tVar 3)) tNil)))) (gSub (tVar 0) (tVar 5) rSetL)) tNext))
    (tDrop (tBM K "list" rAppend (tVar 2) (tCons (tVar 3) tNil)))))) tNext))))
    (tRet (tTup (tCons (tVar 0) (tCons (tVar 2) tNil))))))
theorem ps_reduced {P : Program} {w : World} {K : PySem.W.Frag} {mg : Str → Option Value} {base : Heap} (T : Txt P K mg base) (c_over : C8.Cal P w K mg base 35 "over" (sp_over K) []) (c_cleared : C8.Cal P w K mg base 36 "cleared" (sp_cleared K) []) : Hps P w K mg base 36 "reduced" st_reduced ["rows", "many", "steps", "column", "at", "spot", "spots", "row", "part"] (t_reduced K) := fun f cdv A outer s H E hr =>
  (pss_cons (ps_asg (pe_tup (pa_cons (pe_lc (own := [("row", 7)]) (g := (gName 7)) (tt := tYes) rfl sc_reduced.nd (pi_list (pv 0)) (blkOk_by (by rfl)) (fun _ _ _ _ _ => (pg_name (i := 7) sc_reduced.nd rfl (Or.inl rfl))) (fun _ _ _ _ _ => pts_nil) (fun _ _ _ _ _ => (pe_callTy call_list_of (by rfl) T.f_list (by decide +kernel) (pa_cons (pv 7) pa_nil)))) (pa_cons (pe_lst pa_nil) pa_nil))) (pg_tup rfl (pgs_cons (pg_name (i := 0) sc_reduced.nd rfl (Or.inr rfl)) (pgs_cons (pg_name (i := 2) sc_reduced.nd rfl (Or.inl rfl)) pgs_nil))))
    (pss_cons (ps_for PassesOwn.never rfl (pi_range1 rfl T.f_range (pa_cons (pv 1) pa_nil)) (pg_name (i := 3) sc_reduced.nd rfl (Or.inr rfl))
    (pss_cons (ps_set (i := 4) sc_reduced.nd rfl (Or.inr rfl) (pe_callB call_len (by rfl) T.f_len (by decide +kernel) (pa_cons (pv 2) pa_nil)))
    (pss_cons (ps_setLc (i := 6) (own := [("spot", 5)]) (g := (gName 5)) (tt := (tTest (tOp (rNeD K) (tOp (rIxL K) (tOp (rIxL K) (tVar 0) (tVar 5)) (tVar 3)) (tC (.ref (He.ga K "NONE")))))) rfl sc_reduced.nd rfl rfl (sw_true rfl rfl rfl (by decide +kernel)) (pi_range2 rfl T.f_range (pa_cons (pv 4) (pa_cons (pe_callB call_len (by rfl) T.f_len (by decide +kernel) (pa_cons (pv 0) pa_nil)) pa_nil))) (blkOk_by (by rfl)) (fun _ _ _ _ _ => (pg_name (i := 5) sc_reduced.nd rfl (Or.inl rfl))) (fun _ _ _ _ _ => (pts_one (pt_cmpR (op_neD hr.units) (pe_ix ix_list (pe_ix ix_list (pv 0) (pv 5) (fun _ _ => rfl)) (pv 3) (fun _ _ => rfl)) (C8.pe_gc rfl T.NONE) (nomark _)))) (fun _ _ _ _ _ => (pv 5)))
    (pss_one (ps_if (pt_cmpR (op_neD hr.units) (pv 6) (pe_lst pa_nil) (nomark _)) (pss_cons (ps_asg (pe_tup (pa_cons (pe_ix ix_list (pv 0) (pe_ix ix_list (pv 6) pe_int (fun _ _ => rfl)) (fun _ _ => rfl)) (pa_cons (pe_ix ix_list (pv 0) (pv 4) (fun _ _ => rfl)) pa_nil))) (pg_tup rfl (pgs_cons (pg_sub (pv 0) (pv 4) set_list) (pgs_cons (pg_sub (pv 0) (pe_ix ix_list (pv 6) pe_int (fun _ _ => rfl)) set_list) pgs_nil))))
    (pss_cons (ps_asg (pe_lc (own := [("part", 8)]) (g := (gName 8)) (tt := tYes) rfl sc_reduced.nd (pi_list (pe_ix ix_list (pv 0) (pv 4) (fun _ _ => rfl))) (blkOk_by (by rfl)) (fun _ _ _ _ _ => (pg_name (i := 8) sc_reduced.nd rfl (Or.inl rfl))) (fun _ _ _ _ _ => pts_nil) (fun _ _ _ _ _ => (C8.pe_c c_over hr (by decide) rfl (pa_cons (pv 8) (pa_cons (pe_ix ix_list (pe_ix ix_list (pv 0) (pv 4) (fun _ _ => rfl)) (pv 3) (fun _ _ => rfl)) pa_nil))))) (pg_sub (pv 0) (pv 4) set_list))
    (pss_cons (ps_for PassesOwn.never rfl (pi_range1 rfl T.f_range (pa_cons (pe_callB call_len (by rfl) T.f_len (by decide +kernel) (pa_cons (pv 0) pa_nil)) pa_nil)) (pg_name (i := 5) sc_reduced.nd rfl (Or.inl rfl))
    (pss_one (ps_if (PW.pt (pw_and (pt_cmpR op_ne (pv 5) (pv 4) (nomark _)) (pw_and1 (pt_cmpR (op_neD hr.units) (pe_ix ix_list (pe_ix ix_list (pv 0) (pv 5) (fun _ _ => rfl)) (pv 3) (fun _ _ => rfl)) (C8.pe_gc rfl T.NONE) (nomark _))))) (pss_one (ps_asg (C8.pe_c c_cleared hr (by decide) rfl (pa_cons (pe_ix ix_list (pv 0) (pv 5) (fun _ _ => rfl)) (pa_cons (pe_ix ix_list (pv 0) (pv 4) (fun _ _ => rfl)) (pa_cons (pe_ix ix_list (pe_ix ix_list (pv 0) (pv 5) (fun _ _ => rfl)) (pv 3) (fun _ _ => rfl)) pa_nil)))) (pg_sub (pv 0) (pv 5) set_list))) pss_nil)))
    (pss_one (ps_expr (pe_bm PySem.F.plainAttrs_list PySem.F.slot_list_append PySem.F.type_list_append mt_append (pv 2) (pa_cons (pv 3) pa_nil))))))) pss_nil)))))
    (pss_one (ps_ret (pe_tup (pa_cons (pv 0) (pa_cons (pv 2) pa_nil)))))))
section
variable {P : Program} {w : World} {K : PySem.W.Frag} {mg : Str → Option Value} {base : Heap}
theorem cal_cleared (D : Dd K mg "cleared" st_cleared) (T : Txt P K mg base) (c1 : C8.Cal P w K mg base 35 "minus" (sp_minus K) []) (c2 : C8.Cal P w K mg base 35 "times" (sp_times K) []) : C8.Cal P w K mg base 36 "cleared" (sp_cleared K) [] :=
  cal3 D sc_cleared (fun _ _ _ _ _ _ us hl => match us, hl with | [_, _, _], _ => rfl) (ps_cleared T c1 c2) fun G row lead p v0 v1 v2 h0 h1 h2 hc =>
    es_ret (ep_lm (fun q : Rat × Rat => q.1 - p * q.2) (it_zip (Ep.sL (ep_var rfl h0)) (Ep.sL (ep_var rfl h1))) (by rw [List.length_zip]; exact Nat.le_trans (Nat.min_le_left _ _) hc.1) fun i ⟨a, b⟩ v G2 hi s ⟨t, x, y, e, k1, k2, k3⟩ => by
      subst e
      have hz := List.getElem?_zip_eq_some.mp hi
      have ha := hc.2.1 a (List.mem_of_getElem? hz.1)
      have hb := hc.2.2.1 b (List.mem_of_getElem? hz.2)
      exact ⟨_, gb_pair k1, rfl, ep_call2 a (p * b) (ep_var rfl k2) (ep_call2 p b (ep_var rfl (up s h2)) (ep_var rfl k3) ⟨hc.2.2.2, hb.1⟩) ⟨ha, hb.2⟩⟩)
/-! ### two lists of our own -/
structure Ow (K : PySem.W.Frag) (G0 H0 : Hp) (p q : Addr) (M : List (List Rat)) (st : List Nat) (G H : Hp) : Prop where
  t : To G0 H0 G H
  rows : ∃ vs, H p = some (.lst vs) ∧ All2 (IsL (IsF K)) vs M G
  steps : H q = some (.lst ((stI st).map V.int))
  gp : G p = none
  gq : G q = none
  hp : H0 p = none
  hq : H0 q = none
  pq : p ≠ q
theorem To.none {G H G2 H2 : Hp} {p : Addr} {o : HO} (t : To G H G2 H2) (g : G p = none) (h : H p = some o) : G2 p = none := by
  cases z : G2 p with
  | none => rfl
  | some u =>
    rcases t.new p u z with z | z
    · rw [g] at z
      cases z
    · rw [h] at z
      cases z
section
variable {G0 H0 G H G2 H2 : Hp} {p q : Addr} {M : List (List Rat)} {st : List Nat}
theorem Ow.grow (o : Ow K G0 H0 p q M st G H) (t : To G H G2 H2) : Ow K G0 H0 p q M st G2 H2 := by
  obtain ⟨vs, h1, h2⟩ := o.rows
  exact ⟨o.t.trans t, ⟨vs, t.big _ _ h1, All2.up t.up h2⟩, t.big _ _ o.steps, t.none o.gp h1, t.none o.gq o.steps, o.hp, o.hq, o.pq⟩
theorem To.upd {G0 H0 G H : Hp} {p : Addr} {o : HO} (t : To G0 H0 G H) (hp : H0 p = .none) (gp : G p = .none) : To G0 H0 G (upd H p o) :=
  ⟨fun b u e => by
    rw [upd_ne (ne_of_none e hp)]
    exact t.big b u e, t.up, fun b u e => by
    rw [upd_ne (ne_of_none e gp)]
    exact t.in_ b u e, t.new⟩
theorem Ow.set {vs : List V} {M' : List (List Rat)} (o : Ow K G0 H0 p q M st G H) (h : All2 (IsL (IsF K)) vs M' G) : Ow K G0 H0 p q M' st G (upd H p (.lst vs)) :=
  ⟨o.t.upd o.hp o.gp, ⟨vs, upd_same, h⟩, by rw [upd_ne (Ne.symm o.pq)]; exact o.steps, o.gp, o.gq, o.hp, o.hq, o.pq⟩
theorem Ow.push (o : Ow K G0 H0 p q M st G H) (c : Nat) : Ow K G0 H0 p q M (st ++ [c]) G (upd H q (.lst ((stI st).map V.int ++ [V.int c]))) := by
  obtain ⟨vs, h1, h2⟩ := o.rows
  refine ⟨o.t.upd o.hq o.gq, ⟨vs, by rw [upd_ne o.pq]; exact h1, h2⟩, ?_, o.gp, o.gq, o.hp, o.hq, o.pq⟩
  rw [upd_same]
  simp [stI]
/-- the rows told for a while -/
theorem Ow.rowsL (o : Ow K G0 H0 p q M st G H) {vs : List V} (h1 : H p = some (.lst vs)) (h2 : All2 (IsL (IsF K)) vs M G) : IsL (IsL (IsF K)) M (.ref p) (L2.upd G p (.lst vs)) :=
  ⟨p, vs, rfl, upd_same, All2.up (Same.new o.gp) h2⟩
end
theorem all2_get {α : Type} {R : α → VP} {H : Hp} {vs : List V} {xs : List α} (h : All2 R vs xs H) {i : Nat} (hi : i < xs.length) : ∃ v, vs[i]? = some v ∧ R xs[i] v H := h.get (List.getElem?_eq_getElem hi)
theorem ixN_nat {n i : Nat} (h : i < n) : ixN n ((i : Nat) : Int) = some i := by
  unfold ixN
  rw [if_pos (by omega), if_pos (by omega)]
  rfl
theorem h_asg {te : TE} {P' : VP} {u : TS} {D : Ends} {σ : L2.St} {G H : Hp} {g : TG} (h : Ep te σ G P') (s : Same G H) (k : ∀ v G2 H2, To G H G2 H2 → P' v G2 → g v σ H2 (u D)) : tSeq (tAsg te g) u D σ H := h G H (Same.refl G) s _ k
theorem h_seq {t u : TS} {D : Ends} {σ : L2.St} {H : Hp} (h : t { D with nx := u D } σ H) : tSeq t u D σ H := h
theorem h_two {te : TE} {P' : VP} {u : TS} {D : Ends} {σ : L2.St} {G H : Hp} {g : TG} (h : Ep te σ G P') (s : Same G H) (k : ∀ v G2 H2, To G H G2 H2 → P' v G2 → ∀ z, H2 z = none → ∀ r, (L2.upd H2 z (.lst [])) r = none → g (.ref r) σ (L2.upd (L2.upd H2 z (.lst [])) r (.tup [v, .ref z])) (u D)) :
    tSeq (tAsg (tTup (tCons te (tCons (tLst tNil) tNil))) g) u D σ H :=
  h G H (Same.refl G) s _ fun v G2 H2 t p => ⟨Nat.zero_le _, fun z nz => ⟨(by show 2 ≤ sizeLine; decide), fun r nr => k v G2 H2 t p z nz r nr⟩⟩
theorem h_asgN {te : TE} {P' : VP} {u : TS} {D : Ends} {σ : L2.St} {G H : Hp} {i : Nat} (h : Ep te σ G P') (s : Same G H) (k : ∀ v G2 H2, To G H G2 H2 → P' v G2 → u D (σ.set i (some v)) H2) : tSeq (tAsg te (gName i)) u D σ H := h G H (Same.refl G) s _ k
theorem h_len {u : TS} {D : Ends} {σ : L2.St} {H : Hp} {i j : Nat} {q : Addr} {xs : List V} (h : σ[j]? = some (some (.ref q))) (hq : H q = some (.lst xs)) (k : u D (σ.set i (some (.int xs.length))) H) : tSeq (tAsg (tCB (rLen K) (tCons (tVar j) tNil)) (gName i)) u D σ H :=
  ⟨_, h, _, xs.length, rfl, .inl ⟨xs, SqL.of hq, rfl⟩, k⟩
theorem h_if {c : TT} {t u : TS} {D : Ends} {σ : L2.St} {G H : Hp} {b : Bool} (h : Et c σ G b) (s : Same G H) (h1 : b = true → ∀ G2 H2, To G H G2 H2 → t D σ H2) (h2 : b = false → ∀ G2 H2, To G H G2 H2 → u D σ H2) : tIfS c t u D σ H := h G H (Same.refl G) s _ fun G2 H2 t2 => by
  cases b with
  | true => exact iteT (h1 rfl G2 H2 t2)
  | false => exact iteF (h2 rfl G2 H2 t2)
/-- for i in range(..): an invariant upon the heap itself -/
theorem h_rng {wi : TI} {lo : Int} {n s : Nat} {tb : TS} {D : Ends} {σ : L2.St} {H : Hp} (hi : ∀ R : L2.It → Hp → Prop, R (Itr lo n) H → wi σ H R) (I : Nat → NP) (h0 : I 0 σ H)
    (step : ∀ i σ1 H1, i < n → I i σ1 H1 → tb { D with nx := I (i + 1), ct := I (i + 1), bk := D.nx } (σ1.set s (some (.int (lo + (i : Nat))))) H1) (fin : ∀ σ1 H1, I n σ1 H1 → D.nx σ1 H1) : tFor wi (gName s) tb D σ H := by
  refine hi _ ⟨fun i m σ H => i ≤ n ∧ m = n - i ∧ I i σ H, ⟨_, Nat.zero_le _, rfl, h0⟩, fun i m σ H ⟨hi, hm, hI⟩ => ?_⟩
  rcases Nat.lt_or_ge i n with hl | hl
  · refine .inr ⟨hl, I (i + 1), fun σ' H' z => ⟨n - (i + 1), by omega, hl, rfl, z⟩, fun v H' y => ?_⟩
    obtain ⟨rfl, rfl⟩ := y
    exact step i σ _ hl hI
  · have : i = n := Nat.le_antisymm hi hl
    subst this
    exact .inl ⟨hl, fin σ H hI⟩
/-- behind the swap and the division, ahead of the clearing -/
def pre (c a s : Nat) (e : Nat → Nat → Rat) : Nat → Nat → Rat := fun i j => if i = a then e s j / e s c else e (swp a s i) j
def mid (c a s : Nat) (e : Nat → Nat → Rat) (k : Nat) : Nat → Nat → Rat := fun i j => if i < k then stF c a s e i j else pre c a s e i j
theorem mid_all {c a s R m : Nat} {e : Nat → Nat → Rat} : tab R m (mid c a s e R) = tab R m (stF c a s e) := by
  unfold tab
  refine List.map_congr_left fun i hi => ?_
  have : i < R := List.mem_range.mp hi
  refine List.map_congr_left fun j _ => ?_
  unfold mid
  rw [if_pos this]
theorem mid_none {c a s R m : Nat} {e : Nat → Nat → Rat} : tab R m (mid c a s e 0) = tab R m (pre c a s e) := by
  unfold tab mid
  simp
theorem tab_at {R m : Nat} {e : Nat → Nat → Rat} {i : Nat} (h : i < (tab R m e).length) : (tab R m e)[i] = (List.range m).map fun j => e i j := by
  have := tab_get (m := m) (e := e) (by rw [tab_len] at h; exact h : i < R)
  rw [List.getElem?_eq_getElem h] at this
  exact Option.some.inj this
theorem spots_list {R a c : Nat} {e : Nat → Nat → Rat} (h : a ≤ R) : ((rng a ((R : Int) - (a : Int)).toNat).filter fun i => !decide (e i.toNat c = 0)).map (fun i => i) = stI (spotsF R a c e) := by
  have e1 : ((R : Int) - (a : Int)).toNat = R - a := by omega
  rw [e1, List.map_id']
  unfold rng spotsF stI
  rw [List.range'_eq_map_range, List.filter_map, List.filter_map, List.map_map]
  have : List.filter ((fun i : Int => !decide (e i.toNat c = 0)) ∘ fun i : Nat => (a : Int) + (i : Nat)) (List.range (R - a)) = List.filter ((fun s => decide (e s c ≠ 0)) ∘ fun x => a + x) (List.range (R - a)) := by
    refine List.filter_congr fun i _ => ?_
    show (!decide (e ((a : Int) + (i : Nat)).toNat c = 0)) = decide (e (a + i) c ≠ 0)
    rw [show ((a : Int) + (i : Nat)).toNat = a + i by omega]
    by_cases h : e (a + i) c = 0 <;> simp [h]
  rw [this]
  refine List.map_congr_left fun i _ => ?_
  show (a : Int) + (i : Nat) = ((a + i : Nat) : Int)
  omega
/-- rows[spot][column] != NONE -/
theorem ep_cell (T : Txt P K mg base) {ta tb tc : TE} {σ : L2.St} {G : Hp} {R m : Nat} {e : Nat → Nat → Rat} {i j : Nat} (ha : Ep ta σ G (IsL (IsL (IsF K)) (tab R m e))) (hb : Ep tb σ G (IsI (i : Nat))) (hc : Ep tc σ G (IsI (j : Nat))) (hi : i < R) (hj : j < m) :
    Ep (tOp (rNeD K) (tOp (rIxL K) (tOp (rIxL K) ta tb) tc) (tC (.ref (He.ga K "NONE")))) σ G (IsB (!decide (e i j = 0))) :=
  ep_neF (ep_ixL (F := IsF K) (ep_ixL (F := IsL (IsF K)) ha hb (tab_get hi)) hc (row_get hj)) (ep_cP (isNONE T))
/-- what the loop over the columns keeps -/
def RdI (K : PySem.W.Frag) (G0 H0 : Hp) (p q : Addr) (x : Mx) (n : Nat) (c : Nat) : NP := fun σ H => ∃ G a3 a4 a5 a6 a7 a8, σ = [some (.ref p), some (.int n), some (.ref q), a3, a4, a5, a6, a7, a8] ∧ Ow K G0 H0 p q (tab x.R x.m (red x.R x.e c).1) (red x.R x.e c).2 G H
/-- what the clearing keeps -/
def ClI (K : PySem.W.Frag) (G0 H0 : Hp) (p q : Addr) (R m n c a s : Nat) (e : Nat → Nat → Rat) (st : List Nat) (k : Nat) : NP := fun σ H => ∃ G a5 a6 a7 a8, σ = [some (.ref p), some (.int n), some (.ref q), some (.int c), some (.int a), a5, a6, a7, a8] ∧ Ow K G0 H0 p q (tab R m (mid c a s e k)) st G H
theorem mid_row {c a s k i R m : Nat} {e : Nat → Nat → Rat} (h : k ≤ i) : ((List.range m).map fun j => mid c a s e k i j) = (List.range m).map fun j => pre c a s e i j := by
  refine List.map_congr_left fun j _ => ?_
  unfold mid
  rw [if_neg (by omega)]
theorem mid_lead {c a s k : Nat} {e : Nat → Nat → Rat} {j : Nat} : mid c a s e k a j = e s j / e s c := by
  unfold mid stF pre
  split <;> rw [if_pos rfl]
theorem st_pre {c a s i j : Nat} {e : Nat → Nat → Rat} (h : i ≠ a) : stF c a s e i j = pre c a s e i j - pre c a s e i c * (e s j / e s c) := by
  unfold stF pre
  rw [if_neg h, if_neg h, if_neg h]
theorem mid_set {c a s k R m : Nat} {e : Nat → Nat → Rat} (h : k < R) : (tab R m (mid c a s e k)).set k ((List.range m).map fun j => stF c a s e k j) = tab R m (mid c a s e (k + 1)) := by
  unfold tab
  refine range_set h ?_ fun i hi hne => ?_
  · refine List.map_congr_left fun j _ => ?_
    unfold mid
    rw [if_pos (by omega)]
  · refine List.map_congr_left fun j _ => ?_
    unfold mid
    by_cases h1 : i < k
    · rw [if_pos h1, if_pos (by omega)]
    · rw [if_neg h1, if_neg (by omega)]
theorem mid_skip {c a s k R m : Nat} {e : Nat → Nat → Rat} (h : k = a ∨ pre c a s e k c = 0) : tab R m (mid c a s e (k + 1)) = tab R m (mid c a s e k) := by
  unfold tab
  refine List.map_congr_left fun i _ => List.map_congr_left fun j _ => ?_
  unfold mid
  by_cases h1 : i < k
  · rw [if_pos (by omega), if_pos h1]
  · by_cases h2 : i = k
    · subst h2
      rw [if_pos (by omega), if_neg h1]
      by_cases h3 : i = a
      · unfold stF pre
        rw [if_pos h3, if_pos h3]
      · rcases h with h | h
        · exact absurd h h3
        · rw [st_pre h3, h]
          grind
    · rw [if_neg (by omega), if_neg h1]
theorem swap_set {R m a s c : Nat} {e : Nat → Nat → Rat} (ha : a < R) (hs : s < R) : ((tab R m e).set a ((List.range m).map fun j => e s j)).set s ((List.range m).map fun j => e a j) = tab R m fun i j => e (swp a s i) j := by
  have e1 : (tab R m e).set a ((List.range m).map fun j => e s j) = tab R m fun i j => e (if i = a then s else i) j := by
    unfold tab
    refine range_set ha (List.map_congr_left fun j _ => ?_) fun i hi hne => List.map_congr_left fun j _ => ?_
    · show e s j = e (if a = a then s else a) j
      rw [if_pos rfl]
    · show e i j = e (if i = a then s else i) j
      rw [if_neg hne]
  rw [e1]
  unfold tab
  refine range_set hs (List.map_congr_left fun j _ => ?_) fun i hi hne => List.map_congr_left fun j _ => ?_
  · show e a j = e (swp a s s) j
    unfold swp
    by_cases h : s = a
    · rw [if_pos h, h]
    · rw [if_neg h, if_pos rfl]
  · show e (if i = a then s else i) j = e (swp a s i) j
    unfold swp
    by_cases h : i = a
    · rw [if_pos h, if_pos h]
    · rw [if_neg h, if_neg h, if_neg hne]
theorem quot_set {R m a s c : Nat} {e : Nat → Nat → Rat} (ha : a < R) : (tab R m fun i j => e (swp a s i) j).set a ((List.range m).map fun j => e s j / e s c) = tab R m (pre c a s e) := by
  unfold tab
  refine range_set ha ?_ fun i hi hne => ?_
  · refine List.map_congr_left fun j _ => ?_
    unfold pre
    rw [if_pos rfl]
  · refine List.map_congr_left fun j _ => ?_
    unfold pre
    rw [if_neg hne]
theorem Rs.fit {b m : Nat} {r : Nat → Rat} (h : Rs b m r) (hb : b ≤ big) {j : Nat} (hj : j < m) : FitF (r j) := (h.sz hj).fit hb
/-- the clearing of one column -/
theorem h_clear (T : Txt P K mg base) {G0 H0 : Hp} {p q : Addr} {R m n c a s b : Nat} {e : Nat → Nat → Rat} {st : List Nat} {D : Ends} {σ : L2.St} {H : Hp} (hR : R ≤ 100 ∧ m ≤ 100) (hs : s < R) (ha : a < R) (hc : c < m) (h0 : e s c ≠ 0) (hrs : ∀ i, i < R → Rs b m (e i)) (hbits : 2 * (2 * b + 1) ≤ big)
    (hI : ClI K G0 H0 p q R m n c a s e st 0 σ H) (fin : ∀ σ1 H1, ClI K G0 H0 p q R m n c a s e st R σ1 H1 → D.nx σ1 H1) :
    tFor (iRng1 (tCons (tCB (rLen K) (tCons (tVar 0) tNil)) tNil)) (gName 5)
    (tIfS (tAnd (tTest (tOp rNe (tVar 5) (tVar 4))) (tTest (tOp (rNeD K) (tOp (rIxL K) (tOp (rIxL K) (tVar 0) (tVar 5)) (tVar 3)) (tC (.ref (He.ga K "NONE")))))) (tAsg (tCall (sp_cleared K) [] E0 (tCons (tOp (rIxL K) (tVar 0) (tVar 5)) (tCons (tOp (rIxL K) (tVar 0) (tVar 4)) (tCons (tOp (rIxL K) (tOp (rIxL K) (tVar 0) (tVar 5)) (tVar 3)) tNil)))) (gSub (tVar 0) (tVar 5) rSetL)) tNext) D σ H := by
  refine h_rng (lo := 0) (n := R) (fun Q hQ => ?_) (ClI K G0 H0 p q R m n c a s e st) hI (fun k σ1 H1 hk hI => ?_) fin
  · obtain ⟨G, a5, a6, a7, a8, rfl, o⟩ := hI
    obtain ⟨vs, h1, h2⟩ := o.rows
    have hl : vs.length = R := by rw [h2.len, tab_len]
    exact ⟨_, rfl, _, vs.length, rfl, .inl ⟨vs, SqL.of h1, rfl⟩, _, rfl, by omega, by omega, by rw [hl]; exact hQ⟩
  obtain ⟨G, a5, a6, a7, a8, rfl, o⟩ := hI
  obtain ⟨vs, h1, h2⟩ := o.rows
  have hl : vs.length = R := by rw [h2.len, tab_len]
  rw [Int.zero_add]
  have told := o.rowsL h1 h2
  have sG : Same (L2.upd G p (.lst vs)) H1 := Same.tell o.t.in_ h1
  have pk : mid c a s e k k c = pre c a s e k c := by
    unfold mid
    rw [if_neg (by omega)]
  have et : Et (tAnd (tTest (tOp rNe (tVar 5) (tVar 4))) (tTest (tOp (rNeD K) (tOp (rIxL K) (tOp (rIxL K) (tVar 0) (tVar 5)) (tVar 3)) (tC (.ref (He.ga K "NONE")))))) [some (.ref p), some (.int n), some (.ref q), some (.int c), some (.int a), some (.int (k : Nat)), a6, a7, a8] (L2.upd G p (.lst vs)) (!decide ((k : Int) = (a : Int)) && !decide (mid c a s e k k c = 0)) :=
    et_and (et_test (ep_neI (ep_v rfl) (ep_v rfl))) fun _ => et_test (ep_cell T (ep_var rfl told) (ep_v rfl) (ep_v rfl) hk hc)
  refine et _ _ (Same.refl _) sG _ fun G2 H2 t2 => ?_
  have t3 := To.lose o.gp h1 o.t.in_ t2
  have o2 := o.grow t3
  refine ite2 (fun hcond => ?_) fun hcond => ?_
  · rw [Bool.and_eq_true] at hcond
    have hka : k ≠ a := fun z => by
      have := hcond.1
      simp [z] at this
    have hp0 : pre c a s e k c ≠ 0 := fun z => by
      have := hcond.2
      rw [pk] at this
      simp [z] at this
    obtain ⟨vs', h1', h2'⟩ := o2.rows
    have evs : vs' = vs := by
      have := t3.big _ _ h1
      rw [h1'] at this
      cases this
      rfl
    subst evs
    obtain ⟨vk, ek, fk⟩ := h2'.get (tab_get hk)
    obtain ⟨va, ea, fa⟩ := h2'.get (tab_get ha)
    rw [mid_row (R := R) (Nat.le_refl k)] at fk
    have fa' : IsL (IsF K) ((List.range m).map fun j => e s j / e s c) va (wo p G2) := by
      have : ((List.range m).map fun j => mid c a s e k a j) = (List.range m).map fun j => e s j / e s c := List.map_congr_left fun j _ => mid_lead
      rw [this] at fa
      exact fa
    obtain ⟨pk', us, rfl, hu, au⟩ := id fk
    obtain ⟨u, eu, fu⟩ := au.get (row_get hc)
    -- the arguments
    refine ⟨.ref p, rfl, .int k, rfl, p, vs', k, .ref pk', rfl, rfl, SqL.of h1', atI_nat ek, ?_⟩
    refine ⟨.ref p, rfl, .int a, rfl, p, vs', a, va, rfl, rfl, SqL.of h1', atI_nat ea, ?_⟩
    refine ⟨.ref p, rfl, .int k, rfl, p, vs', k, .ref pk', rfl, rfl, SqL.of h1', atI_nat ek, .int c, rfl, pk', us, c, u, rfl, rfl, SqL.of (t3.in_ _ _ hu), atI_nat eu, ?_⟩
    -- the call
    have hswp : Rs b m (fun j => pre c a s e k j) := by
      have : (fun j => pre c a s e k j) = e (swp a s k) := by
        funext j
        unfold pre
        rw [if_neg hka]
      rw [this]
      exact hrs _ (swp_lt ha hs hk)
    have hlead : Rs b m (fun j => e s j / e s c) := (hrs s hs).quot hc h0
    refine ⟨wo p G2, _, _, _, _, _, _, rfl, t3.in_, ⟨fk, fa', fu⟩, ⟨by simp; omega, fun x hx => ?_, fun y hy => ?_, hswp.fit (by omega) hc⟩, fun v G4 H4 t4 pv => ?_⟩
    · obtain ⟨j, hj, rfl⟩ := List.mem_map.mp hx
      exact hswp.fit (by omega) (List.mem_range.mp hj)
    · obtain ⟨j, hj, rfl⟩ := List.mem_map.mp hy
      have hj := List.mem_range.mp hj
      exact ⟨hlead.fit (by omega) hj, ((hswp.sz hc).mul (hlead.sz hj)).fit (by omega)⟩
    have o4 := o2.grow t4
    obtain ⟨vs4, h14, h24⟩ := o4.rows
    have evs : vs4 = vs' := by
      have := t4.big _ _ h1'
      rw [h14] at this
      cases this
      rfl
    subst evs
    have hrow : ((((List.range m).map fun j => pre c a s e k j).zip ((List.range m).map fun j => e s j / e s c)).map fun z => z.1 - pre c a s e k c * z.2) = (List.range m).map fun j => stF c a s e k j := by
      rw [List.zip_map', List.map_map]
      refine List.map_congr_left fun j _ => ?_
      exact (st_pre hka).symm
    have pv : IsL (IsF K) _ v G4 := pv
    have pv2 : IsL (IsF K) ((List.range m).map fun j => stF c a s e k j) v G4 := by
      rw [← hrow]
      exact pv
    refine ⟨.ref p, rfl, .int k, rfl, p, vs4, k, k, rfl, rfl, h14, ixN_nat (by omega), ?_⟩
    refine ⟨G4, some (.int k), a6, a7, a8, rfl, ?_⟩
    rw [← mid_set hk]
    exact o4.set (All2.set h24 pv2)
  · have hskip : k = a ∨ pre c a s e k c = 0 := by
      rw [pk] at hcond
      by_cases z1 : k = a
      · exact .inl z1
      · refine .inr (Classical.byContradiction fun z2 => hcond ?_)
        have : ¬ ((k : Int) = (a : Int)) := by omega
        simp [this, z2]
    refine ⟨wo p G2, some (.int k), a6, a7, a8, rfl, ?_⟩
    rw [mid_skip hskip]
    exact o2
theorem all2_same {α : Type} {R : α → VP} {H H' : Hp} {vs : List V} {xs : List α} (e : Same H H') [∀ x, Stays (R x)] (h : All2 R vs xs H) : All2 R vs xs H' := All2.up e h
/-- the list told and lost again: a new list of fractions stays -/
theorem own_frac {G G2 : Hp} {p : Addr} {vs : List V} {v : V} {xs : List Rat} (h : OwL (L2.upd G p (.lst vs)) (IsF K) xs v G2) : IsL (IsF K) xs v (wo p G2) := by
  obtain ⟨d, us, G', rfl, rfl, nd, sg, ha⟩ := h
  have hp : G' p = some (.lst vs) := sg _ _ upd_same
  have dp : d ≠ p := fun z => by
    rw [z, hp] at nd
    cases nd
  refine ⟨d, us, rfl, by rw [wo_ne dp, upd_same], ?_⟩
  have h1 : All2 (IsF K) us xs (wo p G') := All2.imp (fun x v h => IsF.wo h hp) ha
  refine All2.up (fun b o e => ?_) h1
  by_cases h : b = p
  · rw [h, wo_same] at e
    cases e
  · rw [wo_ne h] at e ⊢
    rw [upd_ne (ne_of_none e nd)]
    exact e
theorem own_ints {G G2 : Hp} {p : Addr} {vs : List V} {v : V} {xs : List Int} (h : OwL (L2.upd G p (.lst vs)) IsI xs v G2) : IsL IsI xs v (wo p G2) := by
  obtain ⟨d, us, G', rfl, rfl, nd, sg, ha⟩ := h
  have hp : G' p = some (.lst vs) := sg _ _ upd_same
  have dp : d ≠ p := fun z => by
    rw [z, hp] at nd
    cases nd
  refine ⟨d, us, rfl, by rw [wo_ne dp, upd_same], ?_⟩
  rw [All2.ints ha]
  exact All2.of_ints _
theorem same_rows {G H : Hp} {p : Addr} {vs ws : List V} (h1 : H p = some (.lst vs)) (h2 : H p = some (.lst ws)) : ws = vs := by
  rw [h1] at h2
  cases h2
  rfl
def CoI (K : PySem.W.Frag) (G0 H0 : Hp) (p q : Addr) (R m n : Nat) (es : (Nat → Nat → Rat) × List Nat) : NP := fun σ H => ∃ G a3 a4 a5 a6 a7 a8, σ = [some (.ref p), some (.int (n : Nat)), some (.ref q), a3, a4, a5, a6, a7, a8] ∧ Ow K G0 H0 p q (tab R m es.1) es.2 G H
theorem h_col (T : Txt P K mg base) {G0 H0 : Hp} {p q : Addr} {R m n c b : Nat} {e : Nat → Nat → Rat} {st : List Nat} (hR : R ≤ 100 ∧ m ≤ 100) (hcm : c < m) (hrs : ∀ i, i < R → Rs b m (e i)) (hbits : 2 * (2 * b + 1) ≤ big) (hst : st.length ≤ R) {D : Ends} {σ : L2.St} {H : Hp} (hI : CoI K G0 H0 p q R m n (e, st) σ H)
    (k : ∀ σ1 H1, CoI K G0 H0 p q R m n (nxt R c (e, st)) σ1 H1 → D.nx σ1 H1) :
    tSeq (tAsg (tCB (rLen K) (tCons (tVar 2) tNil)) (gName 4))
    (tSeq (tAsg (tLc (iRng2 (tCons (tVar 4) (tCons (tCB (rLen K) (tCons (tVar 0) tNil)) tNil))) (gName 5) (tTest (tOp (rNeD K) (tOp (rIxL K) (tOp (rIxL K) (tVar 0) (tVar 5)) (tVar 3)) (tC (.ref (He.ga K "NONE"))))) (tVar 5) [5]) (gName 6))
    (tIfS (tTest (tOp (rNeD K) (tVar 6) (tLst tNil))) (tSeq (tAsg (tTup (tCons (tOp (rIxL K) (tVar 0) (tOp (rIxL K) (tVar 6) (tC (.int 0)))) (tCons (tOp (rIxL K) (tVar 0) (tVar 4)) tNil))) (gTup K 2 (gCons (gSub (tVar 0) (tVar 4) rSetL) (gCons (gSub (tVar 0) (tOp (rIxL K) (tVar 6) (tC (.int 0))) rSetL) gNil))))
    (tSeq (tAsg (tLc (iList K (tOp (rIxL K) (tVar 0) (tVar 4))) (gName 8) tYes (tCall (sp_over K) [] E0 (tCons (tVar 8) (tCons (tOp (rIxL K) (tOp (rIxL K) (tVar 0) (tVar 4)) (tVar 3)) tNil))) [8]) (gSub (tVar 0) (tVar 4) rSetL))
    (tSeq (tFor (iRng1 (tCons (tCB (rLen K) (tCons (tVar 0) tNil)) tNil)) (gName 5)
    (tIfS (tAnd (tTest (tOp rNe (tVar 5) (tVar 4))) (tTest (tOp (rNeD K) (tOp (rIxL K) (tOp (rIxL K) (tVar 0) (tVar 5)) (tVar 3)) (tC (.ref (He.ga K "NONE")))))) (tAsg (tCall (sp_cleared K) [] E0 (tCons (tOp (rIxL K) (tVar 0) (tVar 5)) (tCons (tOp (rIxL K) (tVar 0) (tVar 4)) (tCons (tOp (rIxL K) (tOp (rIxL K) (tVar 0) (tVar 5)) (tVar 3)) tNil)))) (gSub (tVar 0) (tVar 5) rSetL)) tNext))
    (tDrop (tBM K "list" rAppend (tVar 2) (tCons (tVar 3) tNil)))))) tNext)) D (σ.set 3 (some (.int c))) H := by
  obtain ⟨G, a3, a4, a5, a6, a7, a8, rfl, o⟩ := hI
  have o : Ow K G0 H0 p q (tab R m e) st G H := o
  -- at = len(steps)
  refine h_len (q := q) rfl o.steps ?_
  have el : ((stI st).map V.int).length = st.length := by simp [stI]
  rw [el]
  obtain ⟨vs, h1, h2⟩ := o.rows
  have hl : vs.length = R := by rw [h2.len, tab_len]
  have told := o.rowsL h1 h2
  have sG : Same (L2.upd G p (.lst vs)) H := Same.tell o.t.in_ h1
  -- spots
  have hsp := ep_lco (R := IsI) (te := tVar 5) (tt := tTest (tOp (rNeD K) (tOp (rIxL K) (tOp (rIxL K) (tVar 0) (tVar 5)) (tVar 3)) (tC (.ref (He.ga K "NONE"))))) (g := gName 5) (vs := [5]) (σ := [some (.ref p), some (.int n), some (.ref q), some (.int c), some (.int st.length), a5, a6, a7, a8]) (G := L2.upd G p (.lst vs))
    (fun i : Int => !decide (e i.toNat c = 0)) (fun i => i) (it_rng2 (m := (st.length : Int)) (n := (R : Int)) (ep_v (i := 4) rfl) ((ep_len (K := K) (F := IsL (IsF K)) (Ep.sL (ep_var (i := 0) rfl told))).is (by rw [tab_len])) (by omega)) (by rw [rng_len]; omega) (fun i y v G2 hi s hv => by
      obtain ⟨hi1, hi2⟩ := rng_get hi
      obtain ⟨j, rfl⟩ : ∃ j : Nat, y = j := ⟨st.length + i, by omega⟩
      have hv : v = .int (j : Nat) := hv
      subst hv
      exact ⟨_, gb_name, rfl, et_test (ep_cell T (ep_var (i := 0) rfl (up s told)) (ep_v (i := 5) rfl) (ep_v (i := 3) rfl) (by omega) hcm), fun _ => ep_v rfl⟩)
  rw [spots_list hst] at hsp
  refine h_asgN hsp sG fun v6 G2 H2 t2 pv6 => ?_
  have o2 := o.grow (To.lose o.gp h1 o.t.in_ t2)
  have pv6 := own_ints pv6
  generalize wo p G2 = G2' at *
  -- if spots != []
  have et : Et (tTest (tOp (rNeD K) (tVar 6) (tLst tNil))) [some (.ref p), some (.int n), some (.ref q), some (.int c), some (.int st.length), a5, some v6, a7, a8] G2' (!decide (stI (spotsF R st.length c e) = [])) := et_test (ep_neLI (ep_var (i := 6) rfl pv6) ep_nilL)
  cases hspots : spotsF R st.length c e with
  | nil =>
    refine h_if (et.is (b := false) (by rw [hspots]; rfl)) o2.t.in_ (fun z => nomatch z) fun _ G3 H3 t3 => ?_
    have o3 := o2.grow t3
    refine k _ _ ⟨G3, some (.int c), some (.int st.length), a5, some v6, a7, a8, rfl, ?_⟩
    have en : nxt R c (e, st) = (e, st) := by
      unfold nxt
      show (match spotsF R st.length c e with | [] => _ | s :: _ => _) = _
      rw [hspots]
    rw [en]
    exact o3
  | cons s rest =>
    refine h_if (et.is (b := true) (by rw [hspots]; rfl)) o2.t.in_ (fun _ G3 H3 t3 => ?_) fun z => nomatch z
    have o3 := o2.grow t3
    have pv6 := up t3.up pv6
    have en : nxt R c (e, st) = (stF c st.length s e, st ++ [c]) := by
      unfold nxt
      show (match spotsF R st.length c e with | [] => _ | s :: _ => _) = _
      rw [hspots]
    have hs := spots_mem.mp (by rw [hspots]; exact List.mem_cons_self : s ∈ spotsF R st.length c e)
    have ha : st.length < R := by have := hs.1; omega
    rw [hspots] at pv6
    obtain ⟨l6, us, rfl, hu, au⟩ := id pv6
    have us0 : us[0]? = some (.int (s : Nat)) := by
      rw [All2.ints au]
      rfl
    obtain ⟨vs3, h13, h23⟩ := o3.rows
    obtain ⟨xs, exs, fxs⟩ := h23.get (tab_get hs.1.2)
    obtain ⟨xa, exa, fxa⟩ := h23.get (tab_get ha)
    have hl3 : vs3.length = R := by rw [h23.len, tab_len]
    have hu3 := o3.t.in_ _ _ hu
    have l6p : l6 ≠ p := fun z => by
      rw [z, o3.gp] at hu
      cases hu
    -- the swap
    refine ⟨_, rfl, _, rfl, l6, us, 0, .int (s : Nat), rfl, rfl, SqL.of hu3, atI_nat (j := 0) us0, p, vs3, (s : Nat), xs, rfl, rfl, SqL.of h13, atI_nat exs, ?_⟩
    refine ⟨_, rfl, _, rfl, p, vs3, (st.length : Nat), xa, rfl, rfl, SqL.of h13, atI_nat exa, ?_⟩
    refine ⟨(by show 2 ≤ sizeLine; decide), fun r nr => ⟨r, [xs, xa], rfl, SqT.of upd_same, rfl, xs, _, rfl, ?_⟩⟩
    have rp : p ≠ r := fun z => by
      rw [z, nr] at h13
      cases h13
    have rl : l6 ≠ r := fun z => by
      rw [z, nr] at hu3
      cases hu3
    have o4 := o3.grow (To.dull o3.t.in_ (Same.new (o := .tup [xs, xa]) nr))
    have h14 : L2.upd H3 r (.tup [xs, xa]) p = some (.lst vs3) := by rw [upd_ne rp]; exact h13
    refine ⟨_, rfl, _, rfl, p, vs3, (st.length : Nat), st.length, rfl, rfl, h14, ixN_nat (by omega), xa, _, rfl, ?_⟩
    have o5 := o4.set (All2.set (i := st.length) h23 fxs)
    have hu5 : L2.upd (L2.upd H3 r (.tup [xs, xa])) p (.lst (vs3.set st.length xs)) l6 = some (.lst us) := by rw [upd_ne l6p, upd_ne rl]; exact hu3
    refine ⟨_, rfl, _, rfl, l6, us, 0, .int (s : Nat), rfl, rfl, SqL.of hu5, atI_nat (j := 0) us0, p, vs3.set st.length xs, (s : Nat), s, rfl, rfl, upd_same, ixN_nat (by rw [List.length_set]; omega), rfl, ?_⟩
    have o6 := o5.set (All2.set (i := s) (All2.set (i := st.length) h23 fxs) fxa)
    rw [swap_set (c := c) ha hs.1.2] at o6
    generalize L2.upd (L2.upd (L2.upd H3 r (.tup [xs, xa])) p (.lst (vs3.set st.length xs))) p (.lst ((vs3.set st.length xs).set s xa)) = H6 at *
    -- the division
    obtain ⟨vs6, h16, h26⟩ := o6.rows
    have hl6 : vs6.length = R := by rw [h26.len, tab_len]
    have told6 := o6.rowsL h16 h26
    have sw : swp st.length s st.length = s := by
      unfold swp
      rw [if_pos rfl]
    have hrow : (tab R m fun i j => e (swp st.length s i) j)[st.length]? = some ((List.range m).map fun j => e s j) := by
      rw [tab_get ha]
      show some ((List.range m).map fun j => e (swp st.length s st.length) j) = _
      rw [sw]
    have hq := ep_lmo (R := IsF K) (te := tCall (sp_over K) [] E0 (tCons (tVar 8) (tCons (tOp (rIxL K) (tOp (rIxL K) (tVar 0) (tVar 4)) (tVar 3)) tNil))) (g := gName 8) (vs := [8]) (σ := [some (.ref p), some (.int n), some (.ref q), some (.int c), some (.int st.length), a5, some (.ref l6), a7, a8]) (G := L2.upd G3 p (.lst vs6))
      (fun z : Rat => z / e s c) (it_list (K := K) (F := IsF K) (ep_ixL (K := K) (F := IsL (IsF K)) (ep_var (i := 0) rfl told6) (ep_v (i := 4) rfl) hrow)) (by simp; omega) (fun i y v G2 hi s' hv => by
        refine ⟨_, gb_name, rfl, ep_call2 y (e s c) (ep_var (i := 8) rfl hv) (ep_ixL (F := IsF K) (ep_ixL (F := IsL (IsF K)) (ep_var (i := 0) rfl (up s' told6)) (ep_v (i := 4) rfl) hrow) (ep_v (i := 3) rfl) (row_get hcm)) ⟨?_, (hrs s hs.1.2).fit (by omega) hcm, hs.2⟩⟩
        obtain ⟨j, hj, rfl⟩ := List.mem_map.mp (List.mem_of_getElem? hi)
        exact (hrs s hs.1.2).fit (by omega) (List.mem_range.mp hj))
    rw [List.map_map] at hq
    refine h_asg hq (Same.tell o6.t.in_ h16) fun v7 G7 H7 t7 pv7 => ?_
    have o7 := o6.grow (To.lose o6.gp h16 o6.t.in_ t7)
    have pv7 := own_frac pv7
    obtain ⟨vs7, h17, h27⟩ := o7.rows
    have hl7 : vs7.length = R := by rw [h27.len, tab_len]
    refine ⟨_, rfl, _, rfl, p, vs7, (st.length : Nat), st.length, rfl, rfl, h17, ixN_nat (by omega), ?_⟩
    have o8 := o7.set (All2.set (i := st.length) h27 pv7)
    have e8 : (tab R m fun i j => e (swp st.length s i) j).set st.length (List.map ((fun z => z / e s c) ∘ fun j => e s j) (List.range m)) = tab R m (pre c st.length s e) := quot_set (c := c) ha
    rw [e8, ← mid_none] at o8
    -- the clearing
    refine h_clear T hR hs.1.2 ha hcm hs.2 hrs hbits ⟨_, a5, some (.ref l6), a7, a8, rfl, o8⟩ fun σ9 H9 ⟨G9, b5, b6, b7, b8, e9, o9⟩ => ?_
    rw [mid_all] at o9
    rw [e9]
    -- steps.append(column)
    refine ⟨_, rfl, .inl ⟨rfl, _, SqL.of o9.steps⟩, _, rfl, q, _, .int c, rfl, rfl, o9.steps, ?_, ?_⟩
    · have : ((stI st).map V.int).length = st.length := by simp [stI]
      rw [this]
      exact small1000 (by omega)
    · refine k _ _ ⟨G9, some (.int c), some (.int st.length), b5, b6, b7, b8, rfl, ?_⟩
      rw [en]
      exact o9.push c
theorem cal_reduced (D : Dd K mg "reduced" st_reduced) (T : Txt P K mg base) (c1 : C8.Cal P w K mg base 35 "over" (sp_over K) []) (c2 : C8.Cal P w K mg base 36 "cleared" (sp_cleared K) []) : C8.Cal P w K mg base 37 "reduced" (sp_reduced K) [] :=
  cal_of D sc_reduced (fun _ _ _ _ _ _ us hl => match us, hl with | [_, _], _ => rfl) (fun vs H Q E ⟨_, _, _, _, _, e, _⟩ => by rw [e]; rfl) (ps_reduced T c1 c2) fun vs H Q E ⟨G, x, n, v0, v1, e, s, ⟨h0, h1⟩, ⟨b, hx⟩, q⟩ => by
    rw [e]
    have h1 : v1 = .int (n : Nat) := h1
    subst h1
    obtain ⟨R, m, e0⟩ := x
    have hR : R ≤ 100 ∧ m ≤ 100 := hx.rm
    have hnm : n ≤ m := hx.nm
    -- rows, steps = ([list(row) for row in rows], [])
    have hlc := ep_lmo (R := IsL (IsF K)) (te := tCB (rListOf K) (tCons (tVar 7) tNil)) (g := gName 7) (vs := [7]) (σ := start ["rows", "many", "steps", "column", "at", "spot", "spots", "row", "part"] [v0, .int n]) (G := G) (fun r : List Rat => r)
      (it_list (K := K) (F := IsL (IsF K)) (ep_var (i := 0) rfl h0)) (by rw [Mx.tab, tab_len]; show R ≤ 1000; omega) (fun i y v G2 hi s' hv => ⟨_, gb_name, rfl, ep_listOf (K := K) (Ep.sL (ep_var (i := 7) rfl hv))⟩)
    rw [List.map_id'] at hlc
    unfold t_reduced
    refine h_two hlc s fun v G2 H2 t2 ⟨p, ps, G', ev, eg, gp, sg, ha⟩ z nz r nr => ?_
    subst ev eg
    have hp0 : H p = none := by
      have gp0 : G p = none := by
        cases z : G p with
        | none => rfl
        | some o =>
          rw [sg p o z] at gp
          cases gp
      rcases t2.new p _ upd_same with z | z
      · rw [gp0] at z
        cases z
      · exact z
    have hp2 : H2 p = some (.lst ps) := t2.in_ _ _ upd_same
    have t2' : To G H G' H2 := ⟨t2.big, sg, (Same.new gp).trans t2.in_, fun c o z => t2.new c o (Same.new gp _ _ z)⟩
    refine ⟨r, [.ref p, .ref z], rfl, SqT.of upd_same, rfl, .ref p, _, rfl, .ref z, _, rfl, rfl, ?_⟩
    have pz : p ≠ z := fun h => by
      rw [h, nz] at hp2
      cases hp2
    have rz : z ≠ r := fun h => by
      rw [h, upd_same] at nr
      cases nr
    have rp : p ≠ r := fun h => by
      rw [← h, upd_ne pz, hp2] at nr
      cases nr
    have hz0 : H z = none := t2.big.free nz
    have gz : G' z = none := t2'.in_.free nz
    have o : Ow K G H p z (tab R m e0) [] G' (L2.upd (L2.upd H2 z (.lst [])) r (.tup [.ref p, .ref z])) := by
      refine ⟨?_, ⟨ps, by rw [upd_ne rp, upd_ne pz]; exact hp2, ha⟩, by rw [upd_ne rz, upd_same]; rfl, gp, gz, hp0, hz0, pz⟩
      exact (t2'.upd hz0 gz).trans (To.dull (t2'.upd hz0 gz).in_ (Same.new nr))
    generalize L2.upd (L2.upd H2 z (.lst [])) r (.tup [.ref p, .ref z]) = H4 at *
    refine h_seq (h_rng (lo := 0) (n := n) (fun Q hQ => ⟨_, rfl, _, rfl, by omega, by omega, hQ⟩) (fun c => CoI K G H p z R m n (red R e0 c)) ⟨G', _, _, _, _, _, _, rfl, o⟩ (fun c σ1 H1 hc hI => ?_) fun σ1 H1 hI => ?_)
    · rw [Int.zero_add]
      exact h_col T (b := it c b) hR (by omega) (red_rs hx.rs c (by show c ≤ m; omega)) (Nat.le_trans (Nat.mul_le_mul_left 2 (it_mono b (by omega : c + 1 ≤ n))) hx.bits) (red_len R e0 c) hI fun σ2 H2 h => h
    · obtain ⟨G5, a3, a4, a5, a6, a7, a8, rfl, o5⟩ := hI
      obtain ⟨vs5, h15, h25⟩ := o5.rows
      refine ⟨_, rfl, _, rfl, (by show 2 ≤ sizeLine; decide), fun r nr => q _ (L2.upd (L2.upd (L2.upd G5 p (.lst vs5)) z (.lst ((stI (red R e0 n).2).map V.int))) r (.tup [.ref p, .ref z])) _ ?_ ?_⟩
      · have s1 := Same.tell (Same.tell o5.t.in_ h15) o5.steps
        have tA : To G H (L2.upd (L2.upd G5 p (.lst vs5)) z (.lst ((stI (red R e0 n).2).map V.int))) H1 := ⟨o5.t.big, (o5.t.up.trans (Same.new o5.gp)).trans (Same.new (by rw [upd_ne (Ne.symm o5.pq)]; exact o5.gq)), s1, fun c o h => by
          by_cases hc : c = z
          · rw [hc]
            exact .inr o5.hq
          · rw [upd_ne hc] at h
            by_cases hc2 : c = p
            · rw [hc2]
              exact .inr o5.hp
            · rw [upd_ne hc2] at h
              exact o5.t.new c o h⟩
        exact tA.trans (To.alloc s1 nr)
      · have rp5 : r ≠ p := fun h => by
          rw [h, h15] at nr
          cases nr
        have rz5 : r ≠ z := fun h => by
          rw [h, o5.steps] at nr
          cases nr
        have gr : (L2.upd (L2.upd G5 p (.lst vs5)) z (.lst ((stI (red R e0 n).2).map V.int))) r = none := by
          rw [upd_ne rz5, upd_ne rp5]
          exact o5.t.in_.free nr
        have gz5 : (L2.upd G5 p (.lst vs5)) z = none := by
          rw [upd_ne (Ne.symm o5.pq)]
          exact o5.gq
        exact ⟨r, .ref p, .ref z, rfl, SqT.of upd_same, up (Same.new gr) (up (Same.new gz5) (o5.rowsL h15 h25)), ⟨z, _, rfl, by rw [upd_ne (Ne.symm rz5), upd_same], All2.of_ints _⟩⟩
end
end Bt
/-! ==== W11 ==== -/
set_option Elab.async false
set_option linter.all false
set_option maxRecDepth 100000
set_option maxHeartbeats 2000000
/-! solved, turned. -/
namespace Bt
open PySem PySem.Spec PyProof.Rows L2 LS
/-- the rows, each with its goal -/
def ext (x : Mx) (gs : List Rat) : Nat → Nat → Rat := fun i j => if j < x.m then x.e i j else gs.getD i 0
/-- the answer behind k rows -/
def ansR (e : Nat → Nat → Rat) (st : List Nat) (n : Nat) : Nat → Nat → Rat
  | 0 => fun _ => 0
  | k + 1 => fun j => if st[k]? = some j then e k n else ansR e st n k j
def barred (R n : Nat) (e : Nat → Nat → Rat) (st : List Nat) : Bool := (List.range' st.length (R - st.length)).any fun i => !decide (e i n = 0)
/-- what solved hands back -/
def solF (x : Mx) (gs : List Rat) : Option (List Rat) :=
  if barred x.R x.m (red x.R (ext x gs) x.m).1 (red x.R (ext x gs) x.m).2 then none
  else some ((List.range x.m).map (ansR (red x.R (ext x gs) x.m).1 (red x.R (ext x gs) x.m).2 x.m (red x.R (ext x gs) x.m).2.length))
def IsOpt (K : PySem.W.Frag) (r : Option (List Rat)) : VP := fun v G => match r with
  | none => v = .non
  | some xs => IsL (IsF K) xs v G
instance (K : PySem.W.Frag) (r : Option (List Rat)) : Stays (IsOpt K r) := ⟨fun v H H' e h => by
  cases r with
  | none => exact h
  | some xs => exact (up e (show IsL (IsF K) xs v H from h) : IsL (IsF K) xs v H')⟩
structure SolOk (x : Mx) (gs : List Rat) (n : Nat) : Prop where
  nm : n = x.m
  len : gs.length = x.R
  ok : ∃ b, MxOk ⟨x.R, x.m + 1, ext x gs⟩ x.m b
/-- turned over: R rows, m columns -/
def turnM (x : Mx) : Mx := ⟨x.m, x.R, fun i j => x.e j i⟩
def sp_solved (K : PySem.W.Frag) : Sp := sp3 (IsMx K) (IsL (IsF K)) (fun n : Nat => IsI n) SolOk fun x gs _ => IsOpt K (solF x gs)
def sp_turned (K : PySem.W.Frag) : Sp := sp2 (IsMx K) (fun n : Nat => IsI n) (fun x n => n = x.m ∧ x.R ≤ 1000 ∧ x.m ≤ 1000) fun x _ => IsMx K (turnM x)
abbrev st_solved := top 64
theorem sc_solved : FnScope ["rows", "goals", "many", "row", "found", "steps", "column", "answer", "goal"] ["rows", "goals", "many"] (defScope st_solved) := ⟨rfl, rfl, rfl, by decide +kernel, rfl, by decide +kernel, by decide +kernel⟩
def t_solved (K : PySem.W.Frag) : TS := (tSeq (tAsg (tCall (sp_reduced K) [] E0 (tCons (tLc (iZipX K (tCons (tVar 0) (tCons (tVar 1) tNil))) (gTup K 2 (gCons (gName 3) (gCons (gName 8) gNil))) tYes (tLst (StX.tStar K (tVar 3) (tCons (tVar 8) tNil))) [3, 8]) (tCons (tVar 2) tNil))) (gTup K 2 (gCons (gName 4) (gCons (gName 5) gNil))))
    (tSeq (tIfS (tB (tCB (rAny K) (tCons (tLc (iList K (tSl (rSlL K) (tVar 4) (tPart (tCB (rLen K) (tCons (tVar 5) tNil))) tNoPart)) (gName 3) tYes (tOp (rNeD K) (tOp (rIxL K) (tVar 3) (tVar 2)) (tC (.ref (He.ga K "NONE")))) [3]) tNil))) (tRet (tC .non)) tNext)
    (tSeq (tAsg (tLc (iRng1 (tCons (tVar 2) tNil)) (gName 6) tYes (tC (.ref (He.ga K "NONE"))) [6]) (gName 7))
    (tSeq (tFor (iZipX K (tCons (tVar 4) (tCons (tVar 5) tNil))) (gTup K 2 (gCons (gName 3) (gCons (gName 6) gNil)))
    (tAsg (tOp (rIxL K) (tVar 3) (tVar 2)) (gSub (tVar 7) (tVar 6) rSetL)))
    (tRet (tVar 7))))))
theorem ps_solved {P : Program} {w : World} {K : PySem.W.Frag} {mg : Str → Option Value} {base : Heap} (T : Txt P K mg base) (c_reduced : C8.Cal P w K mg base 37 "reduced" (sp_reduced K) []) : Hps P w K mg base 37 "solved" st_solved ["rows", "goals", "many", "row", "found", "steps", "column", "answer", "goal"] (t_solved K) := fun f cdv A outer s H E hr =>
  (pss_cons (ps_asg (C8.pe_c c_reduced hr (by decide) rfl (pa_cons (pe_lc (own := [("row", 3), ("goal", 8)]) (g := (gTup K 2 (gCons (gName 3) (gCons (gName 8) gNil)))) (tt := tYes) rfl sc_solved.nd (pi_zipX rfl T.f_zip (pa_cons (pv 0) (pa_cons (pv 1) pa_nil))) (blkOk_by (by rfl)) (fun _ _ _ _ _ => (pg_tup rfl (pgs_cons (pg_name (i := 3) sc_solved.nd rfl (Or.inl rfl)) (pgs_cons (pg_name (i := 8) sc_solved.nd rfl (Or.inl rfl)) pgs_nil)))) (fun _ _ _ _ _ => pts_nil) (fun _ _ _ _ _ => (pe_lst (StX.pa_star (pv 3) (pa_cons (pv 8) pa_nil))))) (pa_cons (pv 2) pa_nil))) (pg_tup rfl (pgs_cons (pg_name (i := 4) sc_solved.nd rfl (Or.inl rfl)) (pgs_cons (pg_name (i := 5) sc_solved.nd rfl (Or.inl rfl)) pgs_nil))))
    (pss_cons (ps_if (pt_val (pe_callB (cr_any rfl) (by rfl) T.f_any (by decide +kernel) (pa_cons (pe_lc (own := [("row", 3)]) (g := (gName 3)) (tt := tYes) rfl sc_solved.nd (pi_list (pe_slice sl_list (pv 4) (po_some (pe_callB call_len (by rfl) T.f_len (by decide +kernel) (pa_cons (pv 5) pa_nil))) po_none)) (blkOk_by (by rfl)) (fun _ _ _ _ _ => (pg_name (i := 3) sc_solved.nd rfl (Or.inl rfl))) (fun _ _ _ _ _ => pts_nil) (fun _ _ _ _ _ => (pe_cmpR (op_neD hr.units) (pe_ix ix_list (pv 3) (pv 2) (fun _ _ => rfl)) (C8.pe_gc rfl T.NONE) (nomark _)))) pa_nil))) (pss_one (ps_ret pe_non)) pss_nil)
    (pss_cons (ps_setLc (i := 7) (own := [("column", 6)]) (g := (gName 6)) (tt := tYes) rfl sc_solved.nd rfl rfl (sw_true rfl rfl rfl (by decide +kernel)) (pi_range1 rfl T.f_range (pa_cons (pv 2) pa_nil)) (blkOk_by (by rfl)) (fun _ _ _ _ _ => (pg_name (i := 6) sc_solved.nd rfl (Or.inl rfl))) (fun _ _ _ _ _ => pts_nil) (fun _ _ _ _ _ => (C8.pe_gc rfl T.NONE)))
    (pss_cons (ps_for PassesOwn.never rfl (pi_zipX rfl T.f_zip (pa_cons (pv 4) (pa_cons (pv 5) pa_nil))) (pg_tup rfl (pgs_cons (pg_name (i := 3) sc_solved.nd rfl (Or.inl rfl)) (pgs_cons (pg_name (i := 6) sc_solved.nd rfl (Or.inl rfl)) pgs_nil)))
    (pss_one (ps_asg (pe_ix ix_list (pv 3) (pv 2) (fun _ _ => rfl)) (pg_sub (pv 7) (pv 6) set_list))))
    (pss_one (ps_ret (pv 7)))))))
abbrev st_turned := top 65
theorem sc_turned : FnScope ["rows", "many", "row", "column"] ["rows", "many"] (defScope st_turned) := ⟨rfl, rfl, rfl, by decide +kernel, rfl, by decide +kernel, by decide +kernel⟩
def t_turned (K : PySem.W.Frag) : TS := (tRet (tLc (iRng1 (tCons (tVar 1) tNil)) (gName 3) tYes (tLc (iList K (tVar 0)) (gName 2) tYes (tOp (rIxL K) (tVar 2) (tVar 3)) [2]) [3]))
theorem ps_turned {P : Program} {w : World} {K : PySem.W.Frag} {mg : Str → Option Value} {base : Heap} (T : Txt P K mg base) : Hps P w K mg base 0 "turned" st_turned ["rows", "many", "row", "column"] (t_turned K) := fun f cdv A outer s H E hr =>
  (pss_one (ps_ret (pe_lc (own := [("column", 3)]) (g := (gName 3)) (tt := tYes) rfl sc_turned.nd (pi_range1 rfl T.f_range (pa_cons (pv 1) pa_nil)) (blkOk_by (by rfl)) (fun _ _ _ _ _ => (pg_name (i := 3) sc_turned.nd rfl (Or.inr rfl))) (fun _ _ _ _ _ => pts_nil) (fun _ _ _ _ _ => (pe_lc (own := [("row", 2)]) (g := (gName 2)) (tt := tYes) rfl sc_turned.nd (pi_list (pv 0)) (blkOk_by (by rfl)) (fun _ _ _ _ _ => (pg_name (i := 2) sc_turned.nd rfl (Or.inl rfl))) (fun _ _ _ _ _ => pts_nil) (fun _ _ _ _ _ => (pe_ix ix_list (pv 2) (pv 3) (fun _ _ => rfl))))))))
section
variable {P : Program} {w : World} {K : PySem.W.Frag} {mg : Str → Option Value} {base : Heap}
section
variable {ta tb te : TE} {σ : L2.St} {G : Hp} {α : Type} {F : α → VP} {xs : List α} {R' : VP} {N : NP} {u : TS}
theorem sq_asgG {P' : VP} {g : TG} (h : Ep te σ G P') (k : ∀ v G2, Same G G2 → P' v G2 → ∃ σ2, Gb g v σ G2 σ2 ∧ Es u σ2 G2 R' N) : Es (tSeq (tAsg te g) u) σ G R' N := fun G1 H1 D e s r n =>
  h G1 H1 e s _ fun v G2 H2 t p => by
    obtain ⟨σ2, gb, es⟩ := k v G2 (e.trans t.up) p
    exact gb H2 t.in_ _ (es G2 H2 D (Same.refl _) t.in_ (fun v G3 H3 t3 => r v G3 H3 (t.trans t3)) fun σ3 G3 H3 t3 => n σ3 G3 H3 (t.trans t3))
theorem ep_star [∀ x, Stays (F x)] {y : α} (ha : Ep ta σ G (IsL F xs)) (hb : Ep tb σ G (F y)) (hl : xs.length ≤ 900) : Ep (tLst (StX.tStar K ta (tCons tb tNil))) σ G (IsL F (xs ++ [y])) := fun G1 H1 e s Q q =>
  ha G1 H1 e s _ fun v G2 H2 t2 pv => by
    obtain ⟨p, vs, rfl, h1, h2⟩ := id pv
    refine ⟨p, vs, rfl, .inr (SqL.of (t2.in_ _ _ h1)), hb G2 H2 (e.trans t2.up) t2.in_ _ fun w G3 H3 t3 pw => ?_⟩
    have hv := h2.len
    refine ⟨small1000' (by rw [List.length_append]; show vs.length + 1 ≤ 1000; omega), fun r nr => q _ _ _ ((t2.trans t3).trans (To.alloc t3.in_ nr)) ⟨r, vs ++ [w], rfl, upd_same, ?_⟩⟩
    exact All2.up (Same.new (t3.in_.free nr)) (All2.snoc (All2.up t3.up h2) pw)
where small1000' {n : Nat} (h : n ≤ 1000) : n ≤ sizeLine := Nat.le_trans h (by decide)
theorem All2.bls {H : Hp} : ∀ {vs : List V} {bs : List Bool}, All2 IsB vs bs H → vs = bs.map V.bl
  | [], [], _ => rfl
  | v :: vs, b :: bs, ⟨h1, h2⟩ => by
    have h1 : v = .bl b := h1
    rw [h1, All2.bls h2]
    rfl
  | [], _ :: _, h => h.elim
  | _ :: _, [], h => h.elim
theorem ep_any {bs : List Bool} (h : Ep ta σ G (IsL IsB bs)) : Ep (tCB (rAny K) (tCons ta tNil)) σ G (IsB (bs.any id)) := ep_cb1 h fun x G1 H1 Q _ s p q => by
  obtain ⟨a, vs, rfl, h1, h2⟩ := p
  rw [All2.bls h2] at h1
  exact ⟨a, bs, rfl, SqL.of (s _ _ h1), q _ G1 H1 (To.refl s) rfl⟩
theorem ep_all {bs : List Bool} (h : Ep ta σ G (IsL IsB bs)) : Ep (tCB (rAll K) (tCons ta tNil)) σ G (IsB (bs.all id)) := ep_cb1 h fun x G1 H1 Q _ s p q => by
  obtain ⟨a, vs, rfl, h1, h2⟩ := p
  rw [All2.bls h2] at h1
  exact ⟨a, bs, rfl, SqL.of (s _ _ h1), q _ G1 H1 (To.refl s) rfl⟩
theorem cut_from (vs : List V) (k : Nat) (h : k ≤ vs.length) : cutV vs (some (k : Int)) none = vs.drop k := by
  unfold cutV
  rw [HT.sIx_nat, HT.sIx_none, Nat.min_eq_left h]
  exact List.take_of_length_le (by rw [List.length_drop]; omega)
/-- xs[k:] -/
theorem ep_from [∀ x, Stays (F x)] {k : Nat} (ha : Ep ta σ G (IsL F xs)) (hb : Ep tb σ G (IsI (k : Nat))) (h : k ≤ xs.length) : Ep (tSl (rSlL K) ta (tPart tb) tNoPart) σ G (IsL F (xs.drop k)) := fun G1 H1 e s Q q =>
  ha G1 H1 e s _ fun v G2 H2 t2 pv => hb G2 H2 (e.trans t2.up) t2.in_ _ fun w G3 H3 t3 pw => by
    have pw : w = .int (k : Nat) := pw
    subst pw
    obtain ⟨p, vs, rfl, h1, h2⟩ := up t3.up pv
    refine ⟨k, rfl, p, vs, rfl, SqL.of (t3.in_ _ _ h1), fun r nr => q _ _ _ ((t2.trans t3).trans (To.alloc t3.in_ nr)) ⟨r, _, rfl, upd_same, ?_⟩⟩
    rw [cut_from vs k (by rw [h2.len]; exact h)]
    exact All2.up (Same.new (t3.in_.free nr)) (h2.drop k)
/-- a for over things told, the heap's other parts changing -/
theorem h_for {wi : TI} {g : TG} {tb : TS} {D : Ends} {H : Hp} (hi : Wi wi σ G F xs) (s : Same G H) (I : Nat → L2.St → Hp → Hp → Prop) (h0 : ∀ G2 H2, To G H G2 H2 → I 0 σ G2 H2) (hsub : ∀ i σ1 G1 H1, I i σ1 G1 H1 → Same G1 H1)
    (step : ∀ i x v σ1 G1 H1 G2 H2, xs[i]? = some x → I i σ1 G1 H1 → To G1 H1 G2 H2 → F x v G2 → g v σ1 H2 fun σ2 H3 => tb { D with nx := fun σ4 H4 => ∃ G4, Same G1 G4 ∧ I (i + 1) σ4 G4 H4, ct := fun σ4 H4 => ∃ G4, Same G1 G4 ∧ I (i + 1) σ4 G4 H4, bk := D.nx } σ2 H3)
    (fin : ∀ σ1 G1 H1, I xs.length σ1 G1 H1 → D.nx σ1 H1) : tFor wi g tb D σ H := by
  refine hi G H (Same.refl G) s _ fun J G2 H2 t2 wk => ?_
  refine ⟨fun i m σ H => i ≤ xs.length ∧ m = xs.length - i ∧ ∃ G', Same G2 G' ∧ I i σ G' H, ⟨_, Nat.zero_le _, rfl, G2, Same.refl _, h0 G2 H2 t2⟩, fun i m σ H ⟨hi, hm, G', s2, iv⟩ => ?_⟩
  obtain ⟨hs, hg⟩ := wk G' H s2 (hsub _ _ _ _ iv)
  rcases Nat.lt_or_ge i xs.length with hl | hl
  · obtain ⟨go, hy⟩ := hg i xs[i] (List.getElem?_eq_getElem hl)
    refine .inr ⟨go, fun σ' H' => ∃ G'', Same G' G'' ∧ I (i + 1) σ' G'' H', fun σ' H' ⟨G'', a, b⟩ => ⟨xs.length - (i + 1), by omega, hl, rfl, G'', s2.trans a, b⟩, fun v H'' y => ?_⟩
    obtain ⟨G'', t3, f⟩ := hy v H'' y
    exact step i xs[i] v σ G' H G'' H'' (List.getElem?_eq_getElem hl) iv t3 f
  · have : i = xs.length := Nat.le_antisymm hi hl
    subst this
    exact .inl ⟨hs, fin σ G' H iv⟩
end
/-! ### one list of our own -/
structure Ow1 {α : Type} (R' : α → VP) (G0 H0 : Hp) (p : Addr) (M : List α) (G H : Hp) : Prop where
  t : To G0 H0 G H
  items : ∃ vs, H p = some (.lst vs) ∧ All2 R' vs M G
  gp : G p = none
  hp : H0 p = none
section
variable {α : Type} {R' : α → VP} [∀ x, Stays (R' x)] {G0 H0 G H G2 H2 : Hp} {p : Addr} {M M' : List α}
theorem Ow1.grow (o : Ow1 R' G0 H0 p M G H) (t : To G H G2 H2) : Ow1 R' G0 H0 p M G2 H2 := by
  obtain ⟨vs, h1, h2⟩ := o.items
  exact ⟨o.t.trans t, ⟨vs, t.big _ _ h1, All2.up t.up h2⟩, t.none o.gp h1, o.hp⟩
omit [∀ x, Stays (R' x)] in
theorem Ow1.set {vs : List V} (o : Ow1 R' G0 H0 p M G H) (h : All2 R' vs M' G) : Ow1 R' G0 H0 p M' G (L2.upd H p (.lst vs)) :=
  ⟨o.t.upd o.hp o.gp, ⟨vs, upd_same, h⟩, o.gp, o.hp⟩
omit [∀ x, Stays (R' x)] in
theorem OwL.own {v : V} (t : To G H G2 H2) (h : OwL G R' M v G2) : ∃ p G', v = .ref p ∧ Ow1 R' G H p M G' H2 := by
  obtain ⟨p, vs, G', rfl, rfl, gp, sg, ha⟩ := h
  refine ⟨p, G', rfl, ⟨t.big, sg, (Same.new gp).trans t.in_, fun c o z => t.new c o (Same.new gp _ _ z)⟩, ⟨vs, t.in_ _ _ upd_same, ha⟩, gp, ?_⟩
  rcases t.new p _ upd_same with z | z
  · rw [sg p _ z] at gp
    cases gp
  · exact z
/-- .. and told in the end -/
theorem Ow1.tell (o : Ow1 R' G0 H0 p M G H) : ∃ G', To G0 H0 G' H ∧ IsL R' M (.ref p) G' := by
  obtain ⟨vs, h1, h2⟩ := o.items
  refine ⟨L2.upd G p (.lst vs), ⟨o.t.big, o.t.up.trans (Same.new o.gp), Same.tell o.t.in_ h1, fun b u e => ?_⟩, p, vs, rfl, upd_same, All2.up (Same.new o.gp) h2⟩
  by_cases h : b = p
  · rw [h]
    exact .inr o.hp
  · rw [upd_ne h] at e
    exact o.t.new b u e
end
theorem ext_rows {x : Mx} {gs : List Rat} (h : gs.length = x.R) : (x.tab.zip gs).map (fun p => p.1 ++ [p.2]) = tab x.R (x.m + 1) (ext x gs) := by
  refine List.ext_getElem? fun i => ?_
  rw [List.getElem?_map]
  by_cases hi : i < x.R
  · have h1 : (x.tab.zip gs)[i]? = some ((List.range x.m).map fun j => x.e i j, gs[i]) := by
      rw [List.getElem?_zip_eq_some]
      exact ⟨tab_get hi, List.getElem?_eq_getElem _⟩
    rw [h1, tab_get hi, List.range_succ, List.map_append]
    show some (((List.range x.m).map fun j => x.e i j) ++ [gs[i]]) = some (((List.range x.m).map fun j => ext x gs i j) ++ [ext x gs i x.m])
    have e1 : ((List.range x.m).map fun j => ext x gs i j) = (List.range x.m).map fun j => x.e i j := List.map_congr_left fun j hj => by
      unfold ext
      rw [if_pos (List.mem_range.mp hj)]
    have e2 : ext x gs i x.m = gs[i] := by
      unfold ext
      rw [if_neg (by omega), List.getD_eq_getElem?_getD, List.getElem?_eq_getElem (by omega)]
      rfl
    rw [e1, e2]
  · rw [List.getElem?_eq_none (by rw [List.length_zip]; show min (tab x.R x.m x.e).length gs.length ≤ i; rw [tab_len]; omega), List.getElem?_eq_none (by rw [tab_len]; omega)]
    rfl
theorem ans_set {e : Nat → Nat → Rat} {st : List Nat} {n k j : Nat} (hk : st[k]? = some j) (hj : j < n) : ((List.range n).map (ansR e st n k)).set j (e k n) = (List.range n).map (ansR e st n (k + 1)) := by
  refine range_set hj ?_ fun i hi hne => ?_
  · show e k n = if st[k]? = some j then e k n else _
    rw [if_pos hk]
  · show ansR e st n k i = if st[k]? = some i then e k n else ansR e st n k i
    rw [if_neg fun z => hne ?_]
    rw [hk] at z
    exact (Option.some.inj z).symm
theorem tab_drop {R m k : Nat} {e : Nat → Nat → Rat} : (tab R m e).drop k = (List.range' k (R - k)).map fun i => (List.range m).map fun j => e i j := by
  unfold tab
  rw [← List.map_drop]
  congr 1
  rw [List.range_eq_range', List.drop_range', Nat.mul_one, Nat.zero_add]
theorem cal_solved (D : Dd K mg "solved" st_solved) (T : Txt P K mg base) (c1 : C8.Cal P w K mg base 37 "reduced" (sp_reduced K) []) : C8.Cal P w K mg base 38 "solved" (sp_solved K) [] :=
  cal3 D sc_solved (fun _ _ _ _ _ _ us hl => match us, hl with | [_, _, _], _ => rfl) (ps_solved T c1) fun G x gs n v0 v1 v2 h0 h1 h2 hc => by
    have h2 : v2 = .int (n : Nat) := h2
    subst h2
    obtain ⟨b, hx⟩ := hc.ok
    have hR : x.R ≤ 100 ∧ x.m + 1 ≤ 100 := hx.rm
    have hn := hc.nm
    subst hn
    unfold t_solved
    refine sq_asgG (ep_call2 (P1 := IsMx K) (⟨x.R, x.m + 1, ext x gs⟩ : Mx) x.m ?_ (ep_v rfl) ⟨b, hx⟩) fun v G2 s2 pv => ?_
    · have h := ep_lm (R := IsL (IsF K)) (te := tLst (StX.tStar K (tVar 3) (tCons (tVar 8) tNil))) (g := gTup K 2 (gCons (gName 3) (gCons (gName 8) gNil))) (vs := [3, 8]) (σ := start ["rows", "goals", "many", "row", "found", "steps", "column", "answer", "goal"] [v0, v1, .int x.m]) (G := G) (fun p : List Rat × Rat => p.1 ++ [p.2])
        (it_zip (K := K) (F := IsL (IsF K)) (F2 := IsF K) (Ep.sL (ep_var (i := 0) rfl h0)) (Ep.sL (ep_var (i := 1) rfl h1))) (by rw [List.length_zip, Mx.tab, tab_len]; omega) (fun i ⟨r, y⟩ v G2 hi s' ⟨t, a, b', e, k1, k2, k3⟩ => by
          subst e
          refine ⟨_, gb_pair k1, rfl, ep_star (ep_var rfl k2) (ep_var rfl k3) ?_⟩
          have hz := List.getElem?_zip_eq_some.mp hi
          obtain ⟨i', hi', e⟩ := List.getElem_of_mem (List.mem_of_getElem? hz.1)
          have e2 : r.length = x.m := by
            have e : (tab x.R x.m x.e)[i'] = r := e
            rw [← e, tab_at]
            simp
          show r.length ≤ 900
          omega)
      rw [ext_rows hc.len] at h
      exact h
    obtain ⟨t, vf, vt, rfl, k1, k2', k3'⟩ := pv
    refine ⟨_, gb_pair k1, ?_⟩
    have k2 : IsL (IsL (IsF K)) (tab x.R (x.m + 1) (red x.R (ext x gs) x.m).1) vf G2 := k2'
    have k3 : IsL IsI (stI (red x.R (ext x gs) x.m).2) vt G2 := k3'
    clear k2' k3'
    have hd := red_done x.R (ext x gs) x.m
    have B : ∀ r, solF x gs = r → IsOpt K (solF x gs) = IsOpt K r := fun r h => by rw [h]
    unfold solF at B
    unfold solF
    generalize (red x.R (ext x gs) x.m).1 = e at *
    generalize (red x.R (ext x gs) x.m).2 = st at *
    have sl : (stI st).length = st.length := by simp [stI]
    refine sq_if (b := barred x.R x.m e st) ?_ (fun hb => ?_) fun hb => sq_next ?_
    · have h := ep_lm (R := IsB) (te := tOp (rNeD K) (tOp (rIxL K) (tVar 3) (tVar 2)) (tC (.ref (He.ga K "NONE")))) (g := gName 3) (vs := [3]) (σ := [some v0, some v1, some (.int x.m), none, some vf, some vt, none, none, none]) (G := G2) (fun r : List Rat => !decide (r.getD x.m 0 = 0))
        (it_list (K := K) (F := IsL (IsF K)) (ep_from (K := K) (tb := tCB (rLen K) (tCons (tVar 5) tNil)) (k := st.length) (ep_var (i := 4) rfl k2) ((ep_len (Ep.sL (ep_var (i := 5) rfl k3))).is (by rw [sl])) (by rw [tab_len]; exact hd.len))) (by rw [List.length_drop, tab_len]; omega) (fun i r v G3 hi s' hv => by
          rw [tab_drop, List.getElem?_map] at hi
          obtain ⟨i', hi', er⟩ := Option.map_eq_some_iff.mp hi
          subst er
          refine ⟨_, gb_name, rfl, ?_⟩
          have q := ep_neF (K := K) (p := e i' x.m) (q := 0) (ep_ixL (K := K) (F := IsF K) (ep_var (σ := [some v0, some v1, some (.int x.m), some v, some vf, some vt, none, none, none]) (i := 3) rfl hv) (ep_v (i := 2) rfl) (row_get (by omega))) (ep_cP (isNONE T))
          have e2 : ((List.range (x.m + 1)).map fun j => e i' j).getD x.m 0 = e i' x.m := by
            rw [List.getD_eq_getElem?_getD, row_get (by omega)]
            rfl
          show Ep _ _ _ (IsB (!decide (((List.range (x.m + 1)).map fun j => e i' j).getD x.m 0 = 0)))
          rw [e2]
          exact q)
      refine (et_B (ep_any h)).is ?_
      rw [tab_drop, List.map_map, List.any_map]
      unfold barred
      congr 1
      funext i
      show (!decide (((List.range (x.m + 1)).map fun j => e i j).getD x.m 0 = 0)) = _
      rw [List.getD_eq_getElem?_getD, row_get (by omega)]
      rfl
    · rw [if_pos hb]
      exact sq_retd (es_ret (ep_c (v := .non)))
    rw [if_neg (by rw [hb]; exact Bool.false_ne_true)]
    -- answer = [NONE for column in range(many)]
    intro G3 H3 D s3 sg3 hr hnx
    have ha := ep_lmo (R := IsF K) (te := tC (.ref (He.ga K "NONE"))) (g := gName 6) (vs := [6]) (σ := [some v0, some v1, some (.int x.m), none, some vf, some vt, none, none, none]) (G := G3) (fun i : Int => (0 : Rat)) (it_rng1 (n := (x.m : Int)) (ep_v (i := 2) rfl) (by omega) (by omega)) (by rw [rng_len]; omega) fun i y v G4 hi s' hv => ⟨_, gb_name, rfl, ep_cP (isNONE T)⟩
    refine h_asgN ha sg3 fun v7 G4 H4 t4 p4 => ?_
    obtain ⟨p, G5, rfl, o⟩ := OwL.own t4 p4
    have e0 : (rng 0 (x.m : Int).toNat).map (fun _ => (0 : Rat)) = (List.range x.m).map (ansR e st x.m 0) := by
      unfold rng
      rw [List.map_map]
      rfl
    rw [e0] at o
    have f5 := up (s3.trans o.t.up) k2
    have s5 := up (s3.trans o.t.up) k3
    refine h_seq (h_for (it_zip (K := K) (F := IsL (IsF K)) (F2 := IsI) (Ep.sL (ep_var (i := 4) rfl f5)) (Ep.sL (ep_var (i := 5) rfl s5))) o.t.in_ (fun k σ G H => ∃ a3 a6, σ = [some v0, some v1, some (.int x.m), a3, some vf, some vt, a6, some (.ref p), none] ∧ Ow1 (IsF K) G3 H3 p ((List.range x.m).map (ansR e st x.m k)) G H) (fun G6 H6 t6 => ⟨none, none, rfl, o.grow t6⟩) (fun i σ1 G1 H1 ⟨_, _, _, o1⟩ => o1.t.in_) ?_ ?_)
    · rintro k ⟨r, c⟩ v σ1 G6 H6 G7 H7 hk ⟨a3, a6, rfl, o6⟩ t7 ⟨t, va, vb, rfl, q1, q2, q3⟩
      have hz := List.getElem?_zip_eq_some.mp hk
      have hkl : k < x.R := by
        have := (List.getElem?_eq_some_iff.mp hz.1).1
        rw [tab_len] at this
        exact this
      have er := hz.1
      rw [tab_get hkl] at er
      have er := Option.some.inj er
      have hst : ∃ j : Nat, st[k]? = some j ∧ c = (j : Nat) := by
        have := hz.2
        unfold stI at this
        rw [List.getElem?_map] at this
        obtain ⟨j, hj, ej⟩ := Option.map_eq_some_iff.mp this
        exact ⟨j, hj, ej.symm⟩
      obtain ⟨j, hj, rfl⟩ := hst
      have hjm : j < x.m := hd.lt j (List.mem_of_getElem? hj)
      have q3 : vb = .int (j : Nat) := q3
      subst q3
      have o7 := o6.grow t7
      have q2 : IsL (IsF K) ((List.range (x.m + 1)).map fun j => e k j) va G7 := by
        rw [er]
        exact q2
      obtain ⟨ra, us, rfl, hu, au⟩ := q2
      obtain ⟨u, eu, fu⟩ := au.get (row_get (Nat.lt_succ_self x.m))
      obtain ⟨ws, hw, aw⟩ := o7.items
      have hwl : ws.length = x.m := by rw [aw.len]; simp
      refine gb_pair q1 H7 o7.t.in_ _ ?_
      refine ⟨_, rfl, _, rfl, ra, us, (x.m : Nat), u, rfl, rfl, SqL.of (t7.in_ _ _ hu), atI_nat eu, _, rfl, _, rfl, p, ws, (j : Nat), j, rfl, rfl, hw, ixN_nat (by omega), G7, t7.up, _, _, rfl, ?_⟩
      rw [← ans_set hj hjm]
      exact o7.set (All2.set aw fu)
    · rintro σ1 G6 H6 ⟨a3, a6, rfl, o6⟩
      have hl : ((tab x.R (x.m + 1) e).zip (stI st)).length = st.length := by
        rw [List.length_zip, tab_len, sl]
        have := hd.len
        omega
      rw [hl] at o6
      obtain ⟨G', t', pv⟩ := o6.tell
      exact ⟨_, rfl, hr _ G' H6 t' pv⟩
theorem turn_rows {x : Mx} : (rng 0 (x.m : Int).toNat).map (fun c : Int => x.tab.map fun r => r.getD c.toNat 0) = (turnM x).tab := by
  unfold rng turnM Mx.tab tab
  rw [List.map_map]
  refine List.map_congr_left fun j hj => ?_
  show ((List.range x.R).map fun i => (List.range x.m).map fun j => x.e i j).map (fun r : List Rat => r.getD (0 + (j : Int)).toNat 0) = _
  rw [List.map_map]
  refine List.map_congr_left fun i _ => ?_
  show ((List.range x.m).map fun j => x.e i j).getD (0 + (j : Int)).toNat 0 = x.e i j
  have hj : j < x.m := by simpa using hj
  rw [Int.zero_add, Int.toNat_natCast, List.getD_eq_getElem?_getD, row_get hj]
  rfl
theorem cal_turned (D : Dd K mg "turned" st_turned) (T : Txt P K mg base) : C8.Cal P w K mg base 1 "turned" (sp_turned K) [] :=
  cal2 D sc_turned (fun _ _ _ _ _ _ us hl => match us, hl with | [_, _], _ => rfl) (ps_turned T) fun G x n v0 v1 h0 h1 hc => by
    have h1 : v1 = .int (n : Nat) := h1
    subst h1
    obtain ⟨rfl, hR, hm⟩ := hc
    have h := ep_lm (R := IsL (IsF K)) (te := tLc (iList K (tVar 0)) (gName 2) tYes (tOp (rIxL K) (tVar 2) (tVar 3)) [2]) (g := gName 3) (vs := [3]) (σ := start ["rows", "many", "row", "column"] [v0, .int x.m]) (G := G) (fun c : Int => x.tab.map fun r => r.getD c.toNat 0) (it_rng1 (n := (x.m : Int)) (ep_v (i := 1) rfl) (by omega) (by omega)) (by rw [rng_len]; omega) (fun i y v G2 hi s hv => by
      obtain ⟨hi1, hi2⟩ := rng_get hi
      have ey : y = (i : Nat) := by rw [hi2, Int.zero_add]
      subst ey
      have hv : v = .int (i : Nat) := hv
      subst hv
      refine ⟨_, gb_name, rfl, ep_lm (R := IsF K) (fun r : List Rat => r.getD i 0) (it_list (K := K) (F := IsL (IsF K)) (ep_var (i := 0) rfl (up s h0))) (by rw [Mx.tab, tab_len]; exact hR) fun k r u G3 hk s3 hu => ⟨_, gb_name, rfl, ep_ixL (F := IsF K) (ep_var (i := 2) rfl hu) (ep_v (i := 3) rfl) ?_⟩⟩
      obtain ⟨k', hk', er⟩ := List.getElem_of_mem (List.mem_of_getElem? hk)
      have er2 : r = (List.range x.m).map fun j => x.e k' j := by
        have er : (tab x.R x.m x.e)[k'] = r := er
        rw [← er, tab_at]
      have hi' : i < x.m := by omega
      rw [er2, List.getD_eq_getElem?_getD, row_get hi']
      rfl)
    rw [turn_rows] at h
    exact es_ret h
end
end Bt
/-! ==== W12 ==== -/
set_option Elab.async false
set_option linter.all false
set_option maxRecDepth 100000
set_option maxHeartbeats 2000000
/-! The table of matchings: lengths_from, rank_of. -/
namespace Bt
open PySem PySem.Spec PyProof.Rows L2 SW
/-- a table of ints -/
def tabI (n m : Nat) (f : Nat → Nat → Nat) : List (List Int) := (List.range n).map fun h => (List.range m).map fun k => ((f h k : Nat) : Int)
theorem tabI_len {n m : Nat} {f : Nat → Nat → Nat} : (tabI n m f).length = n := by simp [tabI]
theorem tabI_get {n m : Nat} {f : Nat → Nat → Nat} {i : Nat} (h : i < n) : (tabI n m f)[i]? = some ((List.range m).map fun k => ((f i k : Nat) : Int)) := by
  unfold tabI
  rw [List.getElem?_map, List.getElem?_range h]
  rfl
theorem rowI_get {m : Nat} {f : Nat → Nat} {j : Nat} (h : j < m) : ((List.range m).map fun k => ((f k : Nat) : Int))[j]? = some ((f j : Nat) : Int) := by
  rw [List.getElem?_map, List.getElem?_range h]
  rfl
/-- the longest matching of hills from h on and places from k on -/
def lnF (f : Int × List Int) (xs : List Int) (h k : Nat) : Nat := lng (fun i x => isUp f.2 f.1.toNat i x) (nOf f) (nOf f - h) (xs.drop k)
/-- i rows and j cells of the next one are done -/
def lnD (f : Int × List Int) (xs : List Int) (i j h k : Nat) : Nat := if nOf f ≤ h + i ∨ (h + i + 1 = nOf f ∧ xs.length ≤ k + j) then lnF f xs h k else 0
def rankF (f : Int × List Int) (xs : List Int) : Nat := lng (fun i x => isUp f.2 f.1.toNat i x) (nOf f) (nOf f) xs
abbrev LenOk (f : Int × List Int) (xs : List Int) : Prop := FrOk f ∧ xs.length ≤ 100
def sp_lengths_from (K : PySem.W.Frag) : Sp := sp2 (IsFr K) (IsT K IsI) LenOk fun f xs => IsL (IsL IsI) (tabI (nOf f + 1) (xs.length + 1) (lnF f xs))
def sp_rank_of (K : PySem.W.Frag) : Sp := sp2 (IsFr K) (IsT K IsI) LenOk fun f xs => IsI (rankF f xs : Nat)
abbrev st_lengths_from := top 67
theorem sc_lengths_from : FnScope ["frame", "places", "hills", "many", "hill", "index", "found", "best"] ["frame", "places"] (defScope st_lengths_from) := ⟨rfl, rfl, rfl, by decide +kernel, rfl, by decide +kernel, by decide +kernel⟩
def t_lengths_from (K : PySem.W.Frag) : TS := (tSeq (tAsg (tTup (tCons (tProp (He.ga K "Frame") (sp_Frame_hills K) [] E0 (tVar 0)) (tCons (tCB (rLen K) (tCons (tVar 1) tNil)) tNil))) (gTup K 2 (gCons (gName 2) (gCons (gName 3) gNil))))
    (tSeq (tAsg (tLc (iRng1 (tCons (tOp rAddI (tVar 2) (tC (.int 1))) tNil)) (gName 4) tYes (tLc (iRng1 (tCons (tOp rAddI (tVar 3) (tC (.int 1))) tNil)) (gName 5) tYes (tC (.int 0)) [5]) [4]) (gName 6))
    (tSeq (tFor (iRng3 (tCons (tOp rSubI (tVar 2) (tC (.int 1))) (tCons (tUn uNeg (tC (.int 1))) (tCons (tUn uNeg (tC (.int 1))) tNil)))) (gName 4)
    (tFor (iRng3 (tCons (tOp rSubI (tVar 3) (tC (.int 1))) (tCons (tUn uNeg (tC (.int 1))) (tCons (tUn uNeg (tC (.int 1))) tNil)))) (gName 5)
    (tSeq (tAsg (tCB rMax2 (tCons (tOp (rIxL K) (tOp (rIxL K) (tVar 6) (tOp rAddI (tVar 4) (tC (.int 1)))) (tVar 5)) (tCons (tOp (rIxL K) (tOp (rIxL K) (tVar 6) (tVar 4)) (tOp rAddI (tVar 5) (tC (.int 1)))) tNil))) (gName 7))
    (tSeq (tIfS (tB (tCall (sp_is_up K) [] E0 (tCons (tVar 0) (tCons (tVar 4) (tCons (tOp (rIxT K) (tVar 1) (tVar 5)) tNil))))) (tAsg (tCB rMax2 (tCons (tVar 7) (tCons (tOp rAddI (tOp (rIxL K) (tOp (rIxL K) (tVar 6) (tOp rAddI (tVar 4) (tC (.int 1)))) (tOp rAddI (tVar 5) (tC (.int 1)))) (tC (.int 1))) tNil))) (gName 7)) tNext)
    (tAsg (tVar 7) (gSub (tOp (rIxL K) (tVar 6) (tVar 4)) (tVar 5) rSetL))))))
    (tRet (tVar 6)))))
theorem ps_lengths_from {P : Program} {w : World} {K : PySem.W.Frag} {mg : Str → Option Value} {base : Heap} (T : Txt P K mg base) (c_is_up : C8.Cal P w K mg base 3 "is_up" (sp_is_up K) []) (p_Frame_hills : Prp P w K mg base 1 (He.ga K "Frame") "hills" (sp_Frame_hills K)) : Hps P w K mg base 3 "lengths_from" st_lengths_from ["frame", "places", "hills", "many", "hill", "index", "found", "best"] (t_lengths_from K) := fun f cdv A outer s H E hr =>
  (pss_cons (ps_asg (pe_tup (pa_cons (pe_prp p_Frame_hills hr (by decide) (pv 0) rfl) (pa_cons (pe_callB call_len (by rfl) T.f_len (by decide +kernel) (pa_cons (pv 1) pa_nil)) pa_nil))) (pg_tup rfl (pgs_cons (pg_name (i := 2) sc_lengths_from.nd rfl (Or.inl rfl)) (pgs_cons (pg_name (i := 3) sc_lengths_from.nd rfl (Or.inr rfl)) pgs_nil))))
    (pss_cons (ps_setLc (i := 6) (own := [("hill", 4)]) (g := (gName 4)) (tt := tYes) rfl sc_lengths_from.nd rfl rfl (sw_true rfl rfl rfl (by decide +kernel)) (pi_range1 rfl T.f_range (pa_cons (pe_op op_add (pv 2) pe_int) pa_nil)) (blkOk_by (by rfl)) (fun _ _ _ _ _ => (pg_name (i := 4) sc_lengths_from.nd rfl (Or.inl rfl))) (fun _ _ _ _ _ => pts_nil) (fun _ _ _ _ _ => (pe_lc (own := [("index", 5)]) (g := (gName 5)) (tt := tYes) rfl sc_lengths_from.nd (pi_range1 rfl T.f_range (pa_cons (pe_op op_add (pv 3) pe_int) pa_nil)) (blkOk_by (by rfl)) (fun _ _ _ _ _ => (pg_name (i := 5) sc_lengths_from.nd rfl (Or.inl rfl))) (fun _ _ _ _ _ => pts_nil) (fun _ _ _ _ _ => pe_int))))
    (pss_cons (ps_for PassesOwn.never rfl (pi_range3 rfl T.f_range (pa_cons (pe_op op_sub (pv 2) pe_int) (pa_cons (pe_un un_neg pe_int) (pa_cons (pe_un un_neg pe_int) pa_nil)))) (pg_name (i := 4) sc_lengths_from.nd rfl (Or.inl rfl))
    (pss_one (ps_for PassesOwn.never rfl (pi_range3 rfl T.f_range (pa_cons (pe_op op_sub (pv 3) pe_int) (pa_cons (pe_un un_neg pe_int) (pa_cons (pe_un un_neg pe_int) pa_nil)))) (pg_name (i := 5) sc_lengths_from.nd rfl (Or.inl rfl))
    (pss_cons (ps_set (i := 7) sc_lengths_from.nd rfl (Or.inl rfl) (pe_callB (call_max2 rfl) (by rfl) T.f_max (by decide +kernel) (pa_cons (pe_ix ix_list (pe_ix ix_list (pv 6) (pe_op op_add (pv 4) pe_int) (fun _ _ => rfl)) (pv 5) (fun _ _ => rfl)) (pa_cons (pe_ix ix_list (pe_ix ix_list (pv 6) (pv 4) (fun _ _ => rfl)) (pe_op op_add (pv 5) pe_int) (fun _ _ => rfl)) pa_nil))))
    (pss_cons (ps_if (pt_val (C8.pe_c c_is_up hr (by decide) rfl (pa_cons (pv 0) (pa_cons (pv 4) (pa_cons (pe_ix ix_tup (pv 1) (pv 5) (fun _ _ => rfl)) pa_nil))))) (pss_one (ps_set (i := 7) sc_lengths_from.nd rfl (Or.inl rfl) (pe_callB (call_max2 rfl) (by rfl) T.f_max (by decide +kernel) (pa_cons (pv 7) (pa_cons (pe_op op_add (pe_ix ix_list (pe_ix ix_list (pv 6) (pe_op op_add (pv 4) pe_int) (fun _ _ => rfl)) (pe_op op_add (pv 5) pe_int) (fun _ _ => rfl)) pe_int) pa_nil))))) pss_nil)
    (pss_one (ps_asg (pv 7) (pg_sub (pe_ix ix_list (pv 6) (pv 4) (fun _ _ => rfl)) (pv 5) set_list))))))))
    (pss_one (ps_ret (pv 6))))))
abbrev st_rank_of := top 68
theorem sc_rank_of : FnScope ["frame", "places"] ["frame", "places"] (defScope st_rank_of) := ⟨rfl, rfl, rfl, by decide +kernel, rfl, by decide +kernel, by decide +kernel⟩
def t_rank_of (K : PySem.W.Frag) : TS := (tRet (tOp (rIxL K) (tOp (rIxL K) (tCall (sp_lengths_from K) [] E0 (tCons (tVar 0) (tCons (tVar 1) tNil))) (tC (.int 0))) (tC (.int 0))))
theorem ps_rank_of {P : Program} {w : World} {K : PySem.W.Frag} {mg : Str → Option Value} {base : Heap} (T : Txt P K mg base) (c_lengths_from : C8.Cal P w K mg base 4 "lengths_from" (sp_lengths_from K) []) : Hps P w K mg base 4 "rank_of" st_rank_of ["frame", "places"] (t_rank_of K) := fun f cdv A outer s H E hr =>
  (pss_one (ps_ret (pe_ix ix_list (pe_ix ix_list (C8.pe_c c_lengths_from hr (by decide) rfl (pa_cons (pv 0) (pa_cons (pv 1) pa_nil))) pe_int (fun _ _ => rfl)) pe_int (fun _ _ => rfl))))
section
variable {P : Program} {w : World} {K : PySem.W.Frag} {mg : Str → Option Value} {base : Heap}
/-- a table of our own: each of its rows changes -/
structure Tb (G0 H0 : Hp) (p : Addr) (qs : List Addr) (M : List (List Int)) (G H : Hp) : Prop where
  t : To G0 H0 G H
  top : H p = some (.lst (qs.map V.ref))
  len : qs.length = M.length
  rows : ∀ (k : Nat) (a : Addr) (r : List Int), qs[k]? = some a → M[k]? = some r → H a = some (.lst (r.map V.int))
  gp : G p = none
  hp : H0 p = none
  gq : ∀ a ∈ qs, G a = none ∧ H0 a = none ∧ a ≠ p
  nd : qs.Nodup
section
variable {G0 H0 G H G2 H2 : Hp} {p : Addr} {qs : List Addr} {M : List (List Int)}
theorem Tb.at_ (b : Tb G0 H0 p qs M G H) {a : Addr} (h : a ∈ qs) : ∃ r : List Int, H a = some (.lst (r.map V.int)) := by
  obtain ⟨k, hk⟩ := List.getElem?_of_mem h
  have hl : k < M.length := by
    have := (List.getElem?_eq_some_iff.mp hk).1
    rw [b.len] at this
    exact this
  exact ⟨M[k], b.rows k a _ hk (List.getElem?_eq_getElem hl)⟩
theorem Tb.grow (b : Tb G0 H0 p qs M G H) (t : To G H G2 H2) : Tb G0 H0 p qs M G2 H2 :=
  ⟨b.t.trans t, t.big _ _ b.top, b.len, fun k a r h1 h2 => t.big _ _ (b.rows k a r h1 h2), t.none b.gp b.top, b.hp, fun a ha => by
    obtain ⟨r, hr⟩ := b.at_ ha
    exact ⟨t.none (b.gq a ha).1 hr, (b.gq a ha).2⟩, b.nd⟩
theorem all2_rows {H : Hp} : ∀ {qs : List Addr} {M : List (List Int)}, qs.length = M.length → (∀ (k : Nat) (a : Addr) (r : List Int), qs[k]? = some a → M[k]? = some r → H a = some (.lst (r.map V.int))) → All2 (IsL IsI) (qs.map V.ref) M H
  | [], [], _, _ => trivial
  | a :: qs, r :: M, hl, h => ⟨⟨a, _, rfl, h 0 a r rfl rfl, All2.of_ints r⟩, all2_rows (Nat.succ.inj hl) fun k a r h1 h2 => h (k + 1) a r (by simpa using h1) (by simpa using h2)⟩
  | [], _ :: _, hl, _ => by cases hl
  | _ :: _, [], hl, _ => by cases hl
theorem Tb.told (b : Tb G0 H0 p qs M G H) : IsL (IsL IsI) M (.ref p) H := ⟨p, _, rfl, b.top, all2_rows b.len b.rows⟩
theorem Tb.set (b : Tb G0 H0 p qs M G H) {k : Nat} {a : Addr} {r : List Int} (hk : qs[k]? = some a) : Tb G0 H0 p qs (M.set k r) G (L2.upd H a (.lst (r.map V.int))) := by
  have ha := List.mem_of_getElem? hk
  obtain ⟨g1, g2, g3⟩ := b.gq a ha
  refine ⟨b.t.upd g2 g1, by rw [upd_ne (Ne.symm g3)]; exact b.top, by rw [List.length_set]; exact b.len, fun j c s h1 h2 => ?_, b.gp, b.hp, b.gq, b.nd⟩
  by_cases hj : k = j
  · subst hj
    rw [hk] at h1
    cases h1
    have hl : k < M.length := by
      have := (List.getElem?_eq_some_iff.mp hk).1
      rw [b.len] at this
      exact this
    rw [List.getElem?_set_self hl] at h2
    cases h2
    exact upd_same
  · rw [List.getElem?_set_ne hj] at h2
    have hne : c ≠ a := fun z => by
      subst z
      obtain ⟨l1, e1⟩ := List.getElem?_eq_some_iff.mp hk
      obtain ⟨l2, e2⟩ := List.getElem?_eq_some_iff.mp h1
      exact hj ((List.getElem_inj b.nd).mp (e1.trans e2.symm))
    rw [upd_ne hne]
    exact b.rows j c s h1 h2
/-- told in the end -/
theorem Tb.tell (b : Tb G0 H0 p qs M G H) : ∃ G', To G0 H0 G' H ∧ IsL (IsL IsI) M (.ref p) G' := by
  refine ⟨fun c => if c = p ∨ c ∈ qs then H c else G c, ⟨b.t.big, fun c o e => ?_, fun c o e => ?_, fun c o e => ?_⟩, p, _, rfl, (if_pos (.inl rfl)).trans b.top, all2_rows b.len fun k a r h1 h2 => (if_pos (.inr (List.mem_of_getElem? h1))).trans (b.rows k a r h1 h2)⟩
  · have e2 := b.t.up c o e
    show (if c = p ∨ c ∈ qs then H c else G c) = some o
    split
    · exact b.t.in_ c o e2
    · exact e2
  · have e : (if c = p ∨ c ∈ qs then H c else G c) = some o := e
    split at e
    · exact e
    · exact b.t.in_ c o e
  · have e : (if c = p ∨ c ∈ qs then H c else G c) = some o := e
    split at e
    · rename_i h
      rcases h with h | h
      · rw [h]
        exact .inr b.hp
      · exact .inr (b.gq c h).2.1
    · exact b.t.new c o e
end
/-- [[..] for i in range(n)]: the table is our own -/
theorem h_table {wi : TI} {te : TE} {vs : List Nat} {s n : Nat} {row : List Int} {σ : L2.St} {G H : Hp} {Q : VK} (hn : n ≤ 1000) (hi : ∀ R : L2.It → Hp → Prop, R (Itr 0 n) H → wi σ H R) (sg : Same G H) (hw : ∀ v : V, wipe ((wipe σ vs).set s (some v)) vs = wipe σ vs)
    (he : ∀ (i : Nat) (G2 : Hp), Ep te ((wipe σ vs).set s (some (.int (i : Nat)))) G2 (OwL G2 IsI row)) (k : ∀ p qs G2 H2, Tb G H p qs (List.replicate n row) G2 H2 → Q (.ref p) H2) : tLc wi (gName s) tYes te vs σ H Q := by
  refine hi _ fun D nD => ?_
  refine ⟨fun i m H1 => i ≤ n ∧ m = n - i ∧ ∃ qs G', Tb G H D qs (List.replicate i row) G' H1, ⟨_, Nat.zero_le _, rfl, [], G, ⟨To.dull sg (Same.new nD), upd_same, rfl, fun k a r h => absurd h (by simp), sg.free nD, nD, fun a h => absurd h (by simp), List.nodup_nil⟩⟩, fun i m H1 ⟨hi, hm, qs, G', b⟩ => ?_⟩
  rcases Nat.lt_or_ge i n with hl | hl
  · refine .inr ⟨hl, fun H' => ∃ qs G'', Tb G H D qs (List.replicate (i + 1) row) G'' H', fun H' ⟨qs, G'', z⟩ => ⟨n - (i + 1), by omega, hl, rfl, qs, G'', z⟩, fun v H'' y => ?_⟩
    obtain ⟨rfl, rfl⟩ := y
    refine ⟨hw _, ?_⟩
    have e0 : (0 : Int) + (i : Nat) = (i : Nat) := Int.zero_add _
    rw [e0]
    show te _ H'' _
    refine he i H'' H'' H'' (Same.refl _) (Same.refl _) _ fun u G3 H3 t3 pu => ?_
    obtain ⟨a, us, G4, rfl, eg, ga, s4, ha⟩ := pu
    have eu := All2.ints ha
    subst eu
    have hD : H'' D = some (.lst (qs.map V.ref)) := b.top
    have na : H'' a = none := by
      cases z : H'' a with
      | none => rfl
      | some o =>
        rw [s4 a o z] at ga
        cases ga
    have h3a : H3 a = some (.lst (row.map V.int)) := t3.in_ _ _ (by rw [eg]; exact upd_same)
    have h3D := t3.big _ _ hD
    have aD : a ≠ D := fun z => by
      rw [z, hD] at na
      cases na
    have aq : a ∉ qs := fun z => by
      obtain ⟨r, hr⟩ := b.at_ z
      rw [hr] at na
      cases na
    have b3 := b.grow (To.dull b.t.in_ t3.big)
    have h0a : H a = none := b.t.big.free na
    have g0a : G' a = none := b.t.in_.free na
    have lq : qs.length = i := by rw [b.len, List.length_replicate]
    refine ⟨qs.map V.ref, h3D, small1000 (by rw [List.length_map]; omega), qs ++ [a], G', ⟨b3.t.upd b3.hp b3.gp, ?_, ?_, fun j c r h1 h2 => ?_, b3.gp, b3.hp, fun c hc => ?_, ?_⟩⟩
    · rw [upd_same, List.map_append]
      rfl
    · simp [lq]
    · have hr : r = row := by
        have := List.mem_of_getElem? h2
        exact (List.mem_replicate.mp this).2
      subst hr
      have hk : j < qs.length + 1 := by
        have := (List.getElem?_eq_some_iff.mp h1).1
        simpa using this
      have cD : c ≠ D := by
        by_cases hk2 : j < qs.length
        · rw [List.getElem?_append_left hk2] at h1
          exact (b.gq c (List.mem_of_getElem? h1)).2.2
        · rw [List.getElem?_append_right (by omega)] at h1
          rw [show j - qs.length = 0 by omega] at h1
          cases h1
          exact aD
      rw [upd_ne cD]
      by_cases hk2 : j < qs.length
      · rw [List.getElem?_append_left hk2] at h1
        refine b3.rows j c r h1 ?_
        rw [List.getElem?_replicate, if_pos (by omega)]
      · rw [List.getElem?_append_right (by omega)] at h1
        rw [show j - qs.length = 0 by omega] at h1
        cases h1
        exact h3a
    · rcases List.mem_append.mp hc with h | h
      · exact b3.gq c h
      · rw [List.mem_singleton.mp h]
        exact ⟨g0a, h0a, aD⟩
    · refine List.nodup_append.mpr ⟨b.nd, by simp, fun x hx y hy => ?_⟩
      rw [List.mem_singleton.mp hy]
      exact fun z => aq (z ▸ hx)
  · have : i = n := Nat.le_antisymm hi hl
    subst this
    exact .inl ⟨hl, k D qs G' H1 b⟩
theorem h_raw {te : TE} {u : TS} {D : Ends} {σ : L2.St} {H : Hp} {i : Nat} (h : te σ H fun v H2 => u D (σ.set i (some v)) H2) : tSeq (tAsg te (gName i)) u D σ H := h
/-- for i in range(.., .., -1) -/
theorem h_rngC {wi : TI} {lo c : Int} {n s : Nat} {tb : TS} {D : Ends} {σ : L2.St} {H : Hp} (hi : ∀ R : L2.It → Hp → Prop, R (Itc lo c n) H → wi σ H R) (I : Nat → NP) (h0 : I 0 σ H)
    (step : ∀ i σ1 H1, i < n → I i σ1 H1 → tb { D with nx := I (i + 1), ct := I (i + 1), bk := D.nx } (σ1.set s (some (.int (lo + (i : Nat) * c)))) H1) (fin : ∀ σ1 H1, I n σ1 H1 → D.nx σ1 H1) : tFor wi (gName s) tb D σ H := by
  refine hi _ ⟨fun i m σ H => i ≤ n ∧ m = n - i ∧ I i σ H, ⟨_, Nat.zero_le _, rfl, h0⟩, fun i m σ H ⟨hi, hm, hI⟩ => ?_⟩
  rcases Nat.lt_or_ge i n with hl | hl
  · refine .inr ⟨hl, I (i + 1), fun σ' H' z => ⟨n - (i + 1), by omega, hl, rfl, z⟩, fun v H' y => ?_⟩
    obtain ⟨rfl, rfl⟩ := y
    exact step i σ _ hl hI
  · have : i = n := Nat.le_antisymm hi hl
    subst this
    exact .inl ⟨hl, fin σ H hI⟩
theorem lng_nil' {U : Nat → Int → Bool} {n : Nat} : ∀ d, lng U n d ([] : List Int) = 0
  | 0 => by simp [lng]
  | d + 1 => by simp [lng]
theorem lng_zero' {U : Nat → Int → Bool} {n : Nat} (rs : List Int) : lng U n 0 rs = 0 := by
  cases rs <;> simp [lng]
variable {f : Int × List Int} {xs : List Int}
theorem lnD_start : tabI (nOf f + 1) (xs.length + 1) (lnD f xs 0 0) = List.replicate (nOf f + 1) (List.replicate (xs.length + 1) 0) := by
  have h : ∀ h k, h < nOf f + 1 → k < xs.length + 1 → lnD f xs 0 0 h k = 0 := fun h k h1 h2 => by
    unfold lnD
    split
    · rename_i c
      unfold lnF
      rcases c with c | c
      · rw [show nOf f - h = 0 by omega, lng_zero']
      · rw [List.drop_eq_nil_of_le (by omega), lng_nil']
    · rfl
  unfold tabI
  refine List.ext_getElem (by simp) fun i h1 h2 => ?_
  rw [List.getElem_map, List.getElem_range, List.getElem_replicate]
  refine List.ext_getElem (by simp) fun j h3 h4 => ?_
  rw [List.getElem_map, List.getElem_range, List.getElem_replicate, h i j (by simpa using h1) (by simpa using h3)]
  rfl
theorem lnD_next {i : Nat} : tabI (nOf f + 1) (xs.length + 1) (lnD f xs i xs.length) = tabI (nOf f + 1) (xs.length + 1) (lnD f xs (i + 1) 0) := by
  unfold tabI
  refine List.map_congr_left fun h hh => List.map_congr_left fun k hk => ?_
  have h1 := List.mem_range.mp hh
  have h2 := List.mem_range.mp hk
  congr 1
  unfold lnD
  by_cases c1 : nOf f ≤ h + i ∨ (h + i + 1 = nOf f ∧ xs.length ≤ k + xs.length)
  · rw [if_pos c1, if_pos (by omega)]
  · rw [if_neg c1]
    by_cases c2 : nOf f ≤ h + (i + 1) ∨ (h + (i + 1) + 1 = nOf f ∧ xs.length ≤ k + 0)
    · rw [if_pos c2]
      unfold lnF
      rw [List.drop_eq_nil_of_le (by omega), lng_nil']
    · rw [if_neg c2]
theorem lnD_end : tabI (nOf f + 1) (xs.length + 1) (lnD f xs (nOf f) 0) = tabI (nOf f + 1) (xs.length + 1) (lnF f xs) := by
  unfold tabI
  refine List.map_congr_left fun h hh => List.map_congr_left fun k hk => ?_
  congr 1
  unfold lnD
  rw [if_pos (by omega)]
theorem lnD_set {i j : Nat} (hi : i < nOf f) (hj : j < xs.length) : (tabI (nOf f + 1) (xs.length + 1) (lnD f xs i j)).set (nOf f - (i + 1)) (((List.range (xs.length + 1)).map fun k => ((lnD f xs i j (nOf f - (i + 1)) k : Nat) : Int)).set (xs.length - (j + 1)) ((lnF f xs (nOf f - (i + 1)) (xs.length - (j + 1)) : Nat) : Int)) = tabI (nOf f + 1) (xs.length + 1) (lnD f xs i (j + 1)) := by
  unfold tabI
  refine range_set (by omega) ?_ fun h hh hne => ?_
  · refine range_set (by omega) ?_ fun k hk hne => ?_
    · unfold lnD
      rw [if_pos (by omega)]
    · unfold lnD
      by_cases c : nOf f ≤ nOf f - (i + 1) + i ∨ (nOf f - (i + 1) + i + 1 = nOf f ∧ xs.length ≤ k + j)
      · rw [if_pos c, if_pos (by omega)]
      · rw [if_neg c, if_neg (by omega)]
  · refine List.map_congr_left fun k hk => ?_
    unfold lnD
    by_cases c : nOf f ≤ h + i ∨ (h + i + 1 = nOf f ∧ xs.length ≤ k + j)
    · rw [if_pos c, if_pos (by omega)]
    · rw [if_neg c, if_neg (by omega)]
theorem lnF_step {a b : Nat} (ha : a < nOf f) (hb : b < xs.length) : lnF f xs a b = max (max (lnF f xs (a + 1) b) (lnF f xs a (b + 1))) (if isUp f.2 f.1.toNat a xs[b] then lnF f xs (a + 1) (b + 1) + 1 else 0) := by
  unfold lnF
  obtain ⟨d, hd⟩ : ∃ d, nOf f - a = d + 1 := ⟨nOf f - a - 1, by omega⟩
  rw [show nOf f - (a + 1) = d by omega, hd, List.drop_eq_getElem_cons hb, lng.eq_3]
  rw [show nOf f - (d + 1) = a by omega]
theorem lnD_at {i j h k : Nat} (c : nOf f ≤ h + i ∨ (h + i + 1 = nOf f ∧ xs.length ≤ k + j)) : lnD f xs i j h k = lnF f xs h k := by
  unfold lnD
  rw [if_pos c]
/-- one cell -/
theorem h_cell (T : Txt P K mg base) {G0 H0 : Hp} {p : Addr} {i j : Nat} {v0 v1 : V} {b5 b7 : Option V} {D : Ends} {H G : Hp} {qs : List Addr} (hf : FrOk f) (hi : i < nOf f) (hj : j < xs.length) (h0 : IsFr K f v0 G0) (h1 : IsT K IsI xs v1 G0) (b : Tb G0 H0 p qs (tabI (nOf f + 1) (xs.length + 1) (lnD f xs i j)) G H)
    (k : ∀ (c7 : Option V) (G2 H2 : Hp), Tb G0 H0 p qs (tabI (nOf f + 1) (xs.length + 1) (lnD f xs i (j + 1))) G2 H2 → D.nx [some v0, some v1, some (.int (nOf f : Nat)), some (.int xs.length), some (.int ((nOf f : Int) - 1 + (i : Nat) * -1)), some (.int ((xs.length : Int) - 1 + (j : Nat) * -1)), some (.ref p), c7] H2) :
    tSeq (tAsg (tCB rMax2 (tCons (tOp (rIxL K) (tOp (rIxL K) (tVar 6) (tOp rAddI (tVar 4) (tC (.int 1)))) (tVar 5)) (tCons (tOp (rIxL K) (tOp (rIxL K) (tVar 6) (tVar 4)) (tOp rAddI (tVar 5) (tC (.int 1)))) tNil))) (gName 7))
    (tSeq (tIfS (tB (tCall (sp_is_up K) [] E0 (tCons (tVar 0) (tCons (tVar 4) (tCons (tOp (rIxT K) (tVar 1) (tVar 5)) tNil))))) (tAsg (tCB rMax2 (tCons (tVar 7) (tCons (tOp rAddI (tOp (rIxL K) (tOp (rIxL K) (tVar 6) (tOp rAddI (tVar 4) (tC (.int 1)))) (tOp rAddI (tVar 5) (tC (.int 1)))) (tC (.int 1))) tNil))) (gName 7)) tNext)
    (tAsg (tVar 7) (gSub (tOp (rIxL K) (tVar 6) (tVar 4)) (tVar 5) rSetL))) D [some v0, some v1, some (.int (nOf f : Nat)), some (.int xs.length), some (.int ((nOf f : Int) - 1 + (i : Nat) * -1)), some (.int ((xs.length : Int) - 1 + (j : Nat) * -1)), some (.ref p), b7] H := by
  rw [show (nOf f : Int) - 1 + (i : Nat) * -1 = ((nOf f - (i + 1) : Nat) : Int) by omega, show (xs.length : Int) - 1 + (j : Nat) * -1 = ((xs.length - (j + 1) : Nat) : Int) by omega] at *
  generalize hA : nOf f - (i + 1) = A at *
  generalize hB : xs.length - (j + 1) = B at *
  have told := b.told
  have f0 := up (b.t.up.trans b.t.in_) h0
  have f1 := up (b.t.up.trans b.t.in_) h1
  have eR : ∀ {h : Nat}, h < nOf f + 1 → (tabI (nOf f + 1) (xs.length + 1) (lnD f xs i j))[h]? = some ((List.range (xs.length + 1)).map fun k => ((lnD f xs i j h k : Nat) : Int)) := fun h => tabI_get h
  -- best = max(..)
  have hbest : Ep (tCB rMax2 (tCons (tOp (rIxL K) (tOp (rIxL K) (tVar 6) (tOp rAddI (tVar 4) (tC (.int 1)))) (tVar 5)) (tCons (tOp (rIxL K) (tOp (rIxL K) (tVar 6) (tVar 4)) (tOp rAddI (tVar 5) (tC (.int 1)))) tNil))) [some v0, some v1, some (.int (nOf f : Nat)), some (.int xs.length), some (.int (A : Nat)), some (.int (B : Nat)), some (.ref p), b7] H (IsI ((max (lnF f xs (A + 1) B) (lnF f xs A (B + 1)) : Nat) : Int)) := by
    have e1 := ep_ixL (K := K) (F := IsI) (ep_ixL (K := K) (F := IsL IsI) (σ := [some v0, some v1, some (.int (nOf f : Nat)), some (.int xs.length), some (.int (A : Nat)), some (.int (B : Nat)), some (.ref p), b7]) (ep_var (i := 6) rfl told) ((ep_add (ep_v (i := 4) rfl) (ep_c (v := .int 1))).is (by rfl) : Ep _ _ _ (IsI ((A + 1 : Nat) : Int))) (eR (by omega))) (ep_v (i := 5) rfl) (rowI_get (by omega))
    have e2 := ep_ixL (K := K) (F := IsI) (ep_ixL (K := K) (F := IsL IsI) (σ := [some v0, some v1, some (.int (nOf f : Nat)), some (.int xs.length), some (.int (A : Nat)), some (.int (B : Nat)), some (.ref p), b7]) (ep_var (i := 6) rfl told) (ep_v (i := 4) rfl) (eR (by omega))) ((ep_add (ep_v (i := 5) rfl) (ep_c (v := .int 1))).is (by rfl) : Ep _ _ _ (IsI ((B + 1 : Nat) : Int))) (rowI_get (by omega))
    rw [lnD_at (by omega)] at e1 e2
    exact (ep_max e1 e2).is (by congr 1; omega)
  refine h_asgN hbest (Same.refl H) fun v G2 H2 t2 pv => ?_
  have pv : v = .int _ := pv
  subst pv
  have b2 := b.grow (To.dull b.t.in_ t2.big)
  have told2 := b2.told
  have f02 := up t2.big f0
  have f12 := up t2.big f1
  have hx : xs[B]? = some xs[B] := List.getElem?_eq_getElem (by omega)
  have hup : Et (tB (tCall (sp_is_up K) [] E0 (tCons (tVar 0) (tCons (tVar 4) (tCons (tOp (rIxT K) (tVar 1) (tVar 5)) tNil))))) [some v0, some v1, some (.int (nOf f : Nat)), some (.int xs.length), some (.int (A : Nat)), some (.int (B : Nat)), some (.ref p), some (.int ((max (lnF f xs (A + 1) B) (lnF f xs A (B + 1)) : Nat) : Int))] H2 (isUp f.2 f.1.toNat A xs[B]) :=
    et_B (ep_call3 (P2 := IsI) (P3 := IsI) f (A : Int) xs[B] (ep_var (i := 0) rfl f02) (ep_v (i := 4) rfl) (ep_ixT (F := IsI) (ep_var (i := 1) rfl f12) (ep_v (i := 5) rfl) hx) ⟨hf, by omega, by omega⟩)
  have key : ∀ (c : Int) (G3 H3 : Hp), To G0 H0 G3 H3 → c = ((lnF f xs A B : Nat) : Int) → Tb G0 H0 p qs (tabI (nOf f + 1) (xs.length + 1) (lnD f xs i j)) G3 H3 → tAsg (tVar 7) (gSub (tOp (rIxL K) (tVar 6) (tVar 4)) (tVar 5) rSetL) D [some v0, some v1, some (.int (nOf f : Nat)), some (.int xs.length), some (.int (A : Nat)), some (.int (B : Nat)), some (.ref p), some (.int c)] H3 := by
    rintro c G3 H3 t rfl b3
    have hqA : A < qs.length := by
      rw [b3.len, tabI_len]
      omega
    have hq := List.getElem?_eq_getElem hqA
    have hr := b3.rows A qs[A] _ hq (eR (by omega))
    refine ⟨_, rfl, _, rfl, _, rfl, p, _, (A : Nat), .ref qs[A], rfl, rfl, SqL.of b3.top, atI_nat (by rw [List.getElem?_map, hq]; rfl), _, rfl, qs[A], _, (B : Nat), B, rfl, rfl, hr, ixN_nat (by simp; omega), ?_⟩
    have b4 := b3.set (r := ((List.range (xs.length + 1)).map fun k => ((lnD f xs i j A k : Nat) : Int)).set B ((lnF f xs A B : Nat) : Int)) hq
    have es := lnD_set (f := f) (xs := xs) hi hj
    rw [hA, hB] at es
    rw [es, List.map_set] at b4
    exact k _ G3 _ b4
  have hst := lnF_step (f := f) (xs := xs) (a := A) (b := B) (by omega) (by omega)
  refine h_seq (h_if hup (Same.refl H2) (fun hu G3 H3 t3 => ?_) fun hu G3 H3 t3 => ?_)
  · have b3 := b2.grow (To.dull b2.t.in_ t3.big)
    have hm : Ep (tCB rMax2 (tCons (tVar 7) (tCons (tOp rAddI (tOp (rIxL K) (tOp (rIxL K) (tVar 6) (tOp rAddI (tVar 4) (tC (.int 1)))) (tOp rAddI (tVar 5) (tC (.int 1)))) (tC (.int 1))) tNil))) [some v0, some v1, some (.int (nOf f : Nat)), some (.int xs.length), some (.int (A : Nat)), some (.int (B : Nat)), some (.ref p), some (.int ((max (lnF f xs (A + 1) B) (lnF f xs A (B + 1)) : Nat) : Int))] H3 (IsI ((lnF f xs A B : Nat) : Int)) := by
      have e1 := ep_ixL (K := K) (F := IsI) (ep_ixL (K := K) (F := IsL IsI) (σ := [some v0, some v1, some (.int (nOf f : Nat)), some (.int xs.length), some (.int (A : Nat)), some (.int (B : Nat)), some (.ref p), some (.int ((max (lnF f xs (A + 1) B) (lnF f xs A (B + 1)) : Nat) : Int))]) (ep_var (i := 6) rfl b3.told) ((ep_add (ep_v (i := 4) rfl) (ep_c (v := .int 1))).is (by rfl) : Ep _ _ _ (IsI ((A + 1 : Nat) : Int))) (eR (by omega))) ((ep_add (ep_v (i := 5) rfl) (ep_c (v := .int 1))).is (by rfl) : Ep _ _ _ (IsI ((B + 1 : Nat) : Int))) (rowI_get (by omega))
      rw [lnD_at (by omega)] at e1
      refine (ep_max (ep_v (i := 7) rfl) (ep_add e1 (ep_c (v := .int 1)))).is ?_
      rw [hst, if_pos hu]
      congr 1
      omega
    refine hm H3 H3 (Same.refl _) (Same.refl _) _ fun v G4 H4 t4 pv => ?_
    have pv : v = .int _ := pv
    subst pv
    have b4 := b3.grow (To.dull b3.t.in_ t4.big)
    exact key _ _ H4 b4.t rfl b4
  · have b3 := b2.grow (To.dull b2.t.in_ t3.big)
    refine key _ _ H3 b3.t ?_ b3
    rw [hst, if_neg (by rw [hu]; exact Bool.false_ne_true)]
    congr 1
    omega
theorem cal_lengths_from (D : Dd K mg "lengths_from" st_lengths_from) (T : Txt P K mg base) (c1 : C8.Cal P w K mg base 3 "is_up" (sp_is_up K) []) (p1 : Prp P w K mg base 1 (He.ga K "Frame") "hills" (sp_Frame_hills K)) : C8.Cal P w K mg base 4 "lengths_from" (sp_lengths_from K) [] :=
  cal2 D sc_lengths_from (fun _ _ _ _ _ _ us hl => match us, hl with | [_, _], _ => rfl) (ps_lengths_from T c1 p1) fun G f xs v0 v1 h0 h1 hc => by
    have hn := nOf_le hc.1
    have hx := hc.2
    unfold t_lengths_from
    refine sq_asgG (ep_pair (K := K) (F1 := IsI) (F2 := IsI) (x := ((nOf f : Int), (xs.length : Int))) (ep_hills hc.1 (ep_var rfl h0)) (ep_len (Ep.sT (ep_var (P := IsT K IsI xs) rfl h1)))) fun v G2 s2 ⟨t, va, vb, ev, k1, k2, k3⟩ => ?_
    subst ev
    have k2 : va = .int (nOf f : Nat) := k2
    have k3 : vb = .int xs.length := k3
    subst k2 k3
    refine ⟨_, gb_pair k1, ?_⟩
    intro G3 H3 D s3 sg3 hr hnx
    have g0 := up (s2.trans s3) h0
    have g1 := up (s2.trans s3) h1
    refine h_raw (h_table (n := nOf f + 1) (row := List.replicate (xs.length + 1) 0) (by omega) (fun R hR => ⟨_, rfl, _, _, rfl, rfl, (nOf f : Int) + 1, rfl, by omega, by omega, by rw [show ((nOf f : Int) + 1).toNat = nOf f + 1 by omega]; exact hR⟩) sg3 (fun _ => rfl) (fun i G5 => ?_) fun p qs G4 H4 b => ?_)
    · have h := ep_lmo (R := IsI) (te := tC (.int 0)) (g := gName 5) (vs := [5]) (σ := [some v0, some v1, some (.int (nOf f : Nat)), some (.int xs.length), some (.int i), none, none, none]) (G := G5) (fun _ : Int => (0 : Int)) (it_rng1 (n := (xs.length : Int) + 1) (ep_add (ep_v (i := 3) rfl) ep_c) (by omega) (by omega)) (by rw [rng_len]; omega) fun i y v G2 hi s hv => ⟨_, gb_name, rfl, ep_c⟩
      have e : (rng 0 ((xs.length : Int) + 1).toNat).map (fun _ => (0 : Int)) = List.replicate (xs.length + 1) 0 := by
        rw [show ((xs.length : Int) + 1).toNat = xs.length + 1 by omega]
        refine List.eq_replicate_iff.mpr ⟨by simp [rng], fun b hb => ?_⟩
        obtain ⟨_, _, rfl⟩ := List.mem_map.mp hb
        rfl
      rw [e] at h
      exact h
    · rw [← lnD_start] at b
      refine h_seq (h_rngC (lo := (nOf f : Int) - 1) (c := -1) (n := nOf f) (fun R hR => ⟨_, rfl, _, _, rfl, rfl, _, rfl, _, rfl, _, _, _, _, rfl, RgC.neg (by omega) (by omega) (by omega) (by omega), by rw [show ((nOf f : Int) - 1 - -1).toNat = nOf f by omega]; exact hR⟩)
        (fun i σ H => ∃ (a4 a5 a7 : Option V) (G : Hp), σ = [some v0, some v1, some (.int (nOf f : Nat)), some (.int xs.length), a4, a5, some (.ref p), a7] ∧ Tb G3 H3 p qs (tabI (nOf f + 1) (xs.length + 1) (lnD f xs i 0)) G H) ⟨none, none, none, G4, rfl, b⟩ (fun i σ1 H1 hi ⟨a4, a5, a7, G5, e, b5⟩ => ?_) fun σ1 H1 ⟨a4, a5, a7, G5, e, b5⟩ => ?_)
      · subst e
        refine h_rngC (lo := (xs.length : Int) - 1) (c := -1) (n := xs.length) (fun R hR => ⟨_, rfl, _, _, rfl, rfl, _, rfl, _, rfl, _, _, _, _, rfl, RgC.neg (by omega) (by omega) (by omega) (by omega), by rw [show ((xs.length : Int) - 1 - -1).toNat = xs.length by omega]; exact hR⟩)
          (fun j σ H => ∃ (a5 a7 : Option V) (G : Hp), σ = [some v0, some v1, some (.int (nOf f : Nat)), some (.int xs.length), some (.int ((nOf f : Int) - 1 + (i : Nat) * -1)), a5, some (.ref p), a7] ∧ Tb G3 H3 p qs (tabI (nOf f + 1) (xs.length + 1) (lnD f xs i j)) G H) ⟨a5, a7, G5, rfl, b5⟩ (fun j σ2 H2 hj ⟨b5', b7, G6, e, b6⟩ => ?_) fun σ2 H2 ⟨b5', b7, G6, e, b6⟩ => ?_
        · subst e
          exact h_cell T (b5 := b5') hc.1 hi hj g0 g1 b6 fun c7 G7 H7 b7' => ⟨_, c7, G7, rfl, b7'⟩
        · subst e
          rw [lnD_next] at b6
          exact ⟨_, b5', b7, G6, rfl, b6⟩
      · subst e
        rw [lnD_end] at b5
        obtain ⟨G', t', pv⟩ := b5.tell
        exact ⟨_, rfl, hr _ G' H1 t' pv⟩
theorem cal_rank_of (D : Dd K mg "rank_of" st_rank_of) (T : Txt P K mg base) (c1 : C8.Cal P w K mg base 4 "lengths_from" (sp_lengths_from K) []) : C8.Cal P w K mg base 5 "rank_of" (sp_rank_of K) [] :=
  cal2 D sc_rank_of (fun _ _ _ _ _ _ us hl => match us, hl with | [_, _], _ => rfl) (ps_rank_of T c1) fun G f xs v0 v1 h0 h1 hc => by
    have h := ep_ixL (K := K) (F := IsI) (i := 0) (ep_ixL (K := K) (F := IsL IsI) (i := 0) (ep_call2 (E := E0) (P1 := IsFr K) (P2 := IsT K IsI) (C := LenOk) (B := fun f xs => IsL (IsL IsI) (tabI (nOf f + 1) (xs.length + 1) (lnF f xs))) f xs (ep_var (σ := start ["frame", "places"] [v0, v1]) (i := 0) rfl h0) (ep_var (i := 1) rfl h1) hc) (ep_c (v := .int 0)) (tabI_get (by omega))) (ep_c (v := .int 0)) (rowI_get (by omega))
    have e : lnF f xs 0 0 = rankF f xs := rfl
    rw [e] at h
    exact es_ret h
end
end Bt
/-! ==== W13 ==== -/
set_option Elab.async false
set_option linter.all false
set_option maxRecDepth 100000
set_option maxHeartbeats 2000000
/-! Nearest curves: nearest_amounts, nearest, miss, curve_through. -/
namespace Bt
open PySem PySem.Spec PyProof.Rows L2 SW
/-! ### what they come to -/
def gMx (f : Int × List Int) (xs : List Int) : Mx := ⟨xs.length, nOf f, fun p j => bmp f.2 (xs.getD p 0) f.1.toNat j⟩
theorem grid_tab {f : Int × List Int} {xs : List Int} : gridF f xs = (gMx f xs).tab := by
  show _ = (List.range xs.length).map fun p => (List.range (nOf f)).map fun j => bmp f.2 (xs.getD p 0) f.1.toNat j
  unfold gridF rowOf
  refine List.ext_getElem (by simp) fun i h1 h2 => ?_
  have hi : i < xs.length := by simpa using h1
  rw [List.getElem_map, List.getElem_map, List.getElem_range, List.getD_eq_getElem?_getD, List.getElem?_eq_getElem hi]
  rfl
/-- the values of one hill at the places -/
def colF (f : Int × List Int) (xs : List Int) (i : Nat) : List Rat := (List.range xs.length).map fun p => bmp f.2 (xs.getD p 0) f.1.toNat i
def nMx (f : Int × List Int) (xs : List Int) : Mx := ⟨nOf f, nOf f, fun i j => gdot (colF f xs i) (colF f xs j)⟩
def rhsF (f : Int × List Int) (xs ys : List Int) : List Rat := (List.range (nOf f)).map fun i => gdot (colF f xs i) (goalsF ys)
def amF (f : Int × List Int) (xs ys : List Int) : Option (List Rat) := solF (nMx f xs) (rhsF f xs ys)
def thrF (f : Int × List Int) (xs ys : List Int) : Option (List Rat) := solF (gMx f xs) (goalsF ys)
def gapsF (f : Int × List Int) (xs ys : List Int) (c : List Rat) : List Rat := ((gridF f xs).zip (goalsF ys)).map fun p => gdot c p.1 - p.2
def sqsF (gs : List Rat) : List Rat := gs.map fun g => g * g
def missF (f : Int × List Int) (xs ys : List Int) (c : List Rat) : Rat := qs (sqsF (gapsF f xs ys c))
structure NaOk (f : Int × List Int) (xs ys : List Int) : Prop where
  fr : FrOk f
  inr : InR xs
  len : xs.length ≤ 100
  same : ys.length = xs.length
  gram : ∀ i j, i < nOf f → j < nOf f → FitD (colF f xs i) (colF f xs j)
  rhs : ∀ i, i < nOf f → FitD (colF f xs i) (goalsF ys)
  sol : SolOk (nMx f xs) (rhsF f xs ys) (nOf f)
structure PtOk (f : Int × List Int) (xs ys : List Int) : Prop where
  na : NaOk f xs ys
  pl : Places xs
  ht : Heights ys xs.length
structure MiOk (f : Int × List Int) (xs ys : List Int) (c : List Rat) : Prop where
  pt : PtOk f xs ys
  am : amF f xs ys = some c
  dot : ∀ r ∈ gridF f xs, FitD c r ∧ FitF (gdot c r)
  goal : ∀ y ∈ goalsF ys, FitF y
  gap : ∀ g ∈ gapsF f xs ys c, FitF g
  sq : FitS (sqsF (gapsF f xs ys c))
def sp_nearest_amounts (K : PySem.W.Frag) : Sp := sp3 (IsFr K) (IsT K IsI) (IsT K IsI) NaOk fun f xs ys => IsOpt K (amF f xs ys)
def sp_nearest (K : PySem.W.Frag) : Sp := sp3 (IsFrV K) (IsT K IsI) (IsT K IsI) (fun x xs ys => PtOk x.2 xs ys ∧ rankF x.2 xs = nOf x.2 ∧ ∃ c, amF x.2 xs ys = some c) fun x xs ys => IsCv K x.1 ((amF x.2 xs ys).getD [])
def sp_miss (K : PySem.W.Frag) : Sp := sp3 (IsFr K) (IsT K IsI) (IsT K IsI) (fun f xs ys => ∃ c, MiOk f xs ys c) fun f xs ys => IsF K (missF f xs ys ((amF f xs ys).getD []))
def IsThr (K : PySem.W.Frag) (fv : V) (r : Option (List Rat)) : VP := fun v G => match r with
  | none => v = .non
  | some c => IsCv K fv c v G
instance (K : PySem.W.Frag) (fv : V) (r : Option (List Rat)) : Stays (IsThr K fv r) := ⟨fun v H H' e h => by
  cases r with
  | none => exact h
  | some c => exact (up e (show IsCv K fv c v H from h) : IsCv K fv c v H')⟩
def sp_curve_through (K : PySem.W.Frag) : Sp := sp3 (IsFrV K) (IsT K IsI) (IsT K IsI) (fun x xs ys => PtOk x.2 xs ys ∧ SolOk (gMx x.2 xs) (goalsF ys) (nOf x.2)) fun x xs ys => IsThr K x.1 (thrF x.2 xs ys)
abbrev rIsNo : R2 := fun x y H Q => y = .non ∧ Q (.bl (decide (x = .non))) H
abbrev rNotNo : R2 := fun x y H Q => y = .non ∧ Q (.bl (!decide (x = .non))) H
section
variable {ta : TE} {σ : L2.St} {G : Hp} {P' : VP}
theorem isNo_non (h : Ep ta σ G (IsV .non)) : Ep (tOp rIsNo ta (tC .non)) σ G (IsB true) := ep_bin h ep_c fun x y G1 H1 Q _ s px py q => ⟨py, by
  have px : x = .non := px
  subst px
  exact q _ G1 H1 (To.refl s) rfl⟩
theorem isNo_ref [Stays P'] (h : Ep ta σ G P') (hr : ∀ v G, P' v G → ∃ p, v = .ref p) : Ep (tOp rIsNo ta (tC .non)) σ G (IsB false) := ep_bin h ep_c fun x y G1 H1 Q _ s px py q => ⟨py, by
  obtain ⟨p, rfl⟩ := hr x G1 px
  exact q _ G1 H1 (To.refl s) (by rw [decide_eq_false (fun z => nomatch z)]; rfl)⟩
theorem notNo_non (h : Ep ta σ G (IsV .non)) : Ep (tOp rNotNo ta (tC .non)) σ G (IsB false) := ep_bin h ep_c fun x y G1 H1 Q _ s px py q => ⟨py, by
  have px : x = .non := px
  subst px
  exact q _ G1 H1 (To.refl s) rfl⟩
theorem notNo_ref [Stays P'] (h : Ep ta σ G P') (hr : ∀ v G, P' v G → ∃ p, v = .ref p) : Ep (tOp rNotNo ta (tC .non)) σ G (IsB true) := ep_bin h ep_c fun x y G1 H1 Q _ s px py q => ⟨py, by
  obtain ⟨p, rfl⟩ := hr x G1 px
  exact q _ G1 H1 (To.refl s) (by rw [decide_eq_false (fun z => nomatch z)]; rfl)⟩
end
abbrev st_nearest_amounts := top 76
theorem sc_nearest_amounts : FnScope ["frame", "places", "heights", "columns", "goals", "rows", "other", "column"] ["frame", "places", "heights"] (defScope st_nearest_amounts) := ⟨rfl, rfl, rfl, by decide +kernel, rfl, by decide +kernel, by decide +kernel⟩
def t_nearest_amounts (K : PySem.W.Frag) : TS := (tSeq (tAsg (tTup (tCons (tCall (sp_turned K) [] E0 (tCons (tCall (sp_grid_of K) [] E0 (tCons (tVar 0) (tCons (tVar 1) tNil))) (tCons (tProp (He.ga K "Frame") (sp_Frame_hills K) [] E0 (tVar 0)) tNil))) (tCons (tCall (sp_goals_of K) [] E0 (tCons (tVar 2) tNil)) tNil))) (gTup K 2 (gCons (gName 3) (gCons (gName 4) gNil))))
    (tSeq (tAsg (tLc (iList K (tVar 3)) (gName 7) tYes (tLc (iList K (tVar 3)) (gName 6) tYes (tCall (sp_joined K) [] E0 (tCons (tVar 7) (tCons (tVar 6) tNil))) [6]) [7]) (gName 5))
    (tRet (tCall (sp_solved K) [] E0 (tCons (tVar 5) (tCons (tLc (iList K (tVar 3)) (gName 7) tYes (tCall (sp_joined K) [] E0 (tCons (tVar 7) (tCons (tVar 4) tNil))) [7]) (tCons (tProp (He.ga K "Frame") (sp_Frame_hills K) [] E0 (tVar 0)) tNil)))))))
theorem ps_nearest_amounts {P : Program} {w : World} {K : PySem.W.Frag} {mg : Str → Option Value} {base : Heap} (T : Txt P K mg base) (c_goals_of : C8.Cal P w K mg base 35 "goals_of" (sp_goals_of K) []) (c_turned : C8.Cal P w K mg base 1 "turned" (sp_turned K) []) (c_grid_of : C8.Cal P w K mg base 44 "grid_of" (sp_grid_of K) []) (c_joined : C8.Cal P w K mg base 37 "joined" (sp_joined K) []) (c_solved : C8.Cal P w K mg base 38 "solved" (sp_solved K) []) (p_Frame_hills : Prp P w K mg base 1 (He.ga K "Frame") "hills" (sp_Frame_hills K)) : Hps P w K mg base 44 "nearest_amounts" st_nearest_amounts ["frame", "places", "heights", "columns", "goals", "rows", "other", "column"] (t_nearest_amounts K) := fun f cdv A outer s H E hr =>
  (pss_cons (ps_asg (pe_tup (pa_cons (C8.pe_c c_turned hr (by decide) rfl (pa_cons (C8.pe_c c_grid_of hr (by decide) rfl (pa_cons (pv 0) (pa_cons (pv 1) pa_nil))) (pa_cons (pe_prp p_Frame_hills hr (by decide) (pv 0) rfl) pa_nil))) (pa_cons (C8.pe_c c_goals_of hr (by decide) rfl (pa_cons (pv 2) pa_nil)) pa_nil))) (pg_tup rfl (pgs_cons (pg_name (i := 3) sc_nearest_amounts.nd rfl (Or.inr rfl)) (pgs_cons (pg_name (i := 4) sc_nearest_amounts.nd rfl (Or.inr rfl)) pgs_nil))))
    (pss_cons (ps_setLc (i := 5) (own := [("column", 7)]) (g := (gName 7)) (tt := tYes) rfl sc_nearest_amounts.nd rfl rfl (sw_true rfl rfl rfl (by decide +kernel)) (pi_list (pv 3)) (blkOk_by (by rfl)) (fun _ _ _ _ _ => (pg_name (i := 7) sc_nearest_amounts.nd rfl (Or.inr rfl))) (fun _ _ _ _ _ => pts_nil) (fun _ _ _ _ _ => (pe_lc (own := [("other", 6)]) (g := (gName 6)) (tt := tYes) rfl sc_nearest_amounts.nd (pi_list (pv 3)) (blkOk_by (by rfl)) (fun _ _ _ _ _ => (pg_name (i := 6) sc_nearest_amounts.nd rfl (Or.inl rfl))) (fun _ _ _ _ _ => pts_nil) (fun _ _ _ _ _ => (C8.pe_c c_joined hr (by decide) rfl (pa_cons (pv 7) (pa_cons (pv 6) pa_nil)))))))
    (pss_one (ps_ret (C8.pe_c c_solved hr (by decide) rfl (pa_cons (pv 5) (pa_cons (pe_lc (own := [("column", 7)]) (g := (gName 7)) (tt := tYes) rfl sc_nearest_amounts.nd (pi_list (pv 3)) (blkOk_by (by rfl)) (fun _ _ _ _ _ => (pg_name (i := 7) sc_nearest_amounts.nd rfl (Or.inl rfl))) (fun _ _ _ _ _ => pts_nil) (fun _ _ _ _ _ => (C8.pe_c c_joined hr (by decide) rfl (pa_cons (pv 7) (pa_cons (pv 4) pa_nil))))) (pa_cons (pe_prp p_Frame_hills hr (by decide) (pv 0) rfl) pa_nil))))))))
abbrev st_nearest := top 77
theorem sc_nearest : FnScope ["frame", "places", "heights", "found"] ["frame", "places", "heights"] (defScope st_nearest) := ⟨rfl, rfl, rfl, by decide +kernel, rfl, by decide +kernel, by decide +kernel⟩
def t_nearest (K : PySem.W.Frag) : TS := (tSeq (tDrop (tCall (sp_check_points K) [] E0 (tCons (tVar 0) (tCons (tVar 1) (tCons (tVar 2) tNil)))))
    (tSeq (tAsg (tCall (sp_rank_of K) [] E0 (tCons (tVar 0) (tCons (tVar 1) tNil))) (gName 3))
    (tSeq (tIfS (tTest (tOp rLtI (tVar 3) (tProp (He.ga K "Frame") (sp_Frame_hills K) [] E0 (tVar 0)))) tNever tNext)
    (tRet (tMake (He.ga K "Curve") (sp_Curve K) [] E0 (tCons (tVar 0) (tCons (tCB (rTupOf K) (tCons (tCall (sp_nearest_amounts K) [] E0 (tCons (tVar 0) (tCons (tVar 1) (tCons (tVar 2) tNil)))) tNil)) tNil)))))))
theorem ps_nearest {P : Program} {w : World} {K : PySem.W.Frag} {mg : Str → Option Value} {base : Heap} (T : Txt P K mg base) (c_check_points : C8.Cal P w K mg base 7 "check_points" (sp_check_points K) []) (c_rank_of : C8.Cal P w K mg base 5 "rank_of" (sp_rank_of K) []) (c_Curve : C8.Mak P w K mg base 5 "Curve" (He.ga K "Curve") (sp_Curve K) []) (c_nearest_amounts : C8.Cal P w K mg base 45 "nearest_amounts" (sp_nearest_amounts K) []) (p_Frame_hills : Prp P w K mg base 1 (He.ga K "Frame") "hills" (sp_Frame_hills K)) : Hps P w K mg base 45 "nearest" st_nearest ["frame", "places", "heights", "found"] (t_nearest K) := fun f cdv A outer s H E hr =>
  (pss_cons (ps_expr (C8.pe_c c_check_points hr (by decide) rfl (pa_cons (pv 0) (pa_cons (pv 1) (pa_cons (pv 2) pa_nil)))))
    (pss_cons (ps_set (i := 3) sc_nearest.nd rfl (Or.inl rfl) (C8.pe_c c_rank_of hr (by decide) rfl (pa_cons (pv 0) (pa_cons (pv 1) pa_nil))))
    (pss_cons (ps_if (pt_cmpR op_lt (pv 3) (pe_prp p_Frame_hills hr (by decide) (pv 0) rfl) (nomark _)) (pss_one ps_never) pss_nil)
    (pss_one (ps_ret (C8.pe_mk c_Curve hr (by decide) rfl (pa_cons (pv 0) (pa_cons (pe_callTy call_tuple_of (by rfl) T.f_tuple (by decide +kernel) (pa_cons (C8.pe_c c_nearest_amounts hr (by decide) rfl (pa_cons (pv 0) (pa_cons (pv 1) (pa_cons (pv 2) pa_nil)))) pa_nil)) pa_nil))))))))
abbrev st_miss := top 78
theorem sc_miss : FnScope ["frame", "places", "heights", "amounts", "gaps", "row", "goal", "gap"] ["frame", "places", "heights"] (defScope st_miss) := ⟨rfl, rfl, rfl, by decide +kernel, rfl, by decide +kernel, by decide +kernel⟩
def t_miss (K : PySem.W.Frag) : TS := (tSeq (tDrop (tCall (sp_check_points K) [] E0 (tCons (tVar 0) (tCons (tVar 1) (tCons (tVar 2) tNil)))))
    (tSeq (tAsg (tCall (sp_nearest_amounts K) [] E0 (tCons (tVar 0) (tCons (tVar 1) (tCons (tVar 2) tNil)))) (gName 3))
    (tSeq (tAsg (tLc (iZipX K (tCons (tCall (sp_grid_of K) [] E0 (tCons (tVar 0) (tCons (tVar 1) tNil))) (tCons (tCall (sp_goals_of K) [] E0 (tCons (tVar 2) tNil)) tNil))) (gTup K 2 (gCons (gName 5) (gCons (gName 6) gNil))) tYes (tCall (sp_minus K) [] E0 (tCons (tCall (sp_joined K) [] E0 (tCons (tVar 3) (tCons (tVar 5) tNil))) (tCons (tVar 6) tNil))) [5, 6]) (gName 4))
    (tRet (tCall (sp_total K) [] E0 (tCons (tLc (iList K (tVar 4)) (gName 7) tYes (tCall (sp_times K) [] E0 (tCons (tVar 7) (tCons (tVar 7) tNil))) [7]) tNil))))))
theorem ps_miss {P : Program} {w : World} {K : PySem.W.Frag} {mg : Str → Option Value} {base : Heap} (T : Txt P K mg base) (c_check_points : C8.Cal P w K mg base 7 "check_points" (sp_check_points K) []) (c_nearest_amounts : C8.Cal P w K mg base 45 "nearest_amounts" (sp_nearest_amounts K) []) (c_goals_of : C8.Cal P w K mg base 35 "goals_of" (sp_goals_of K) []) (c_grid_of : C8.Cal P w K mg base 44 "grid_of" (sp_grid_of K) []) (c_minus : C8.Cal P w K mg base 35 "minus" (sp_minus K) []) (c_joined : C8.Cal P w K mg base 37 "joined" (sp_joined K) []) (c_total : C8.Cal P w K mg base 36 "total" (sp_total K) []) (c_times : C8.Cal P w K mg base 35 "times" (sp_times K) []) : Hps P w K mg base 45 "miss" st_miss ["frame", "places", "heights", "amounts", "gaps", "row", "goal", "gap"] (t_miss K) := fun f cdv A outer s H E hr =>
  (pss_cons (ps_expr (C8.pe_c c_check_points hr (by decide) rfl (pa_cons (pv 0) (pa_cons (pv 1) (pa_cons (pv 2) pa_nil)))))
    (pss_cons (ps_set (i := 3) sc_miss.nd rfl (Or.inr rfl) (C8.pe_c c_nearest_amounts hr (by decide) rfl (pa_cons (pv 0) (pa_cons (pv 1) (pa_cons (pv 2) pa_nil)))))
    (pss_cons (ps_setLc (i := 4) (own := [("row", 5), ("goal", 6)]) (g := (gTup K 2 (gCons (gName 5) (gCons (gName 6) gNil)))) (tt := tYes) rfl sc_miss.nd rfl rfl (sw_true rfl rfl rfl (by decide +kernel)) (pi_zipX rfl T.f_zip (pa_cons (C8.pe_c c_grid_of hr (by decide) rfl (pa_cons (pv 0) (pa_cons (pv 1) pa_nil))) (pa_cons (C8.pe_c c_goals_of hr (by decide) rfl (pa_cons (pv 2) pa_nil)) pa_nil))) (blkOk_by (by rfl)) (fun _ _ _ _ _ => (pg_tup rfl (pgs_cons (pg_name (i := 5) sc_miss.nd rfl (Or.inl rfl)) (pgs_cons (pg_name (i := 6) sc_miss.nd rfl (Or.inl rfl)) pgs_nil)))) (fun _ _ _ _ _ => pts_nil) (fun _ _ _ _ _ => (C8.pe_c c_minus hr (by decide) rfl (pa_cons (C8.pe_c c_joined hr (by decide) rfl (pa_cons (pv 3) (pa_cons (pv 5) pa_nil))) (pa_cons (pv 6) pa_nil)))))
    (pss_one (ps_ret (C8.pe_c c_total hr (by decide) rfl (pa_cons (pe_lc (own := [("gap", 7)]) (g := (gName 7)) (tt := tYes) rfl sc_miss.nd (pi_list (pv 4)) (blkOk_by (by rfl)) (fun _ _ _ _ _ => (pg_name (i := 7) sc_miss.nd rfl (Or.inl rfl))) (fun _ _ _ _ _ => pts_nil) (fun _ _ _ _ _ => (C8.pe_c c_times hr (by decide) rfl (pa_cons (pv 7) (pa_cons (pv 7) pa_nil))))) pa_nil)))))))
abbrev st_curve_through := top 74
theorem sc_curve_through : FnScope ["frame", "places", "heights", "found"] ["frame", "places", "heights"] (defScope st_curve_through) := ⟨rfl, rfl, rfl, by decide +kernel, rfl, by decide +kernel, by decide +kernel⟩
def t_curve_through (K : PySem.W.Frag) : TS := (tSeq (tDrop (tCall (sp_check_points K) [] E0 (tCons (tVar 0) (tCons (tVar 1) (tCons (tVar 2) tNil)))))
    (tSeq (tAsg (tCall (sp_solved K) [] E0 (tCons (tCall (sp_grid_of K) [] E0 (tCons (tVar 0) (tCons (tVar 1) tNil))) (tCons (tCall (sp_goals_of K) [] E0 (tCons (tVar 2) tNil)) (tCons (tProp (He.ga K "Frame") (sp_Frame_hills K) [] E0 (tVar 0)) tNil)))) (gName 3))
    (tRet (tIf (tTest (tOp rIsNo (tVar 3) (tC .non))) (tC .non) (tMake (He.ga K "Curve") (sp_Curve K) [] E0 (tCons (tVar 0) (tCons (tCB (rTupOf K) (tCons (tVar 3) tNil)) tNil)))))))
theorem ps_curve_through {P : Program} {w : World} {K : PySem.W.Frag} {mg : Str → Option Value} {base : Heap} (T : Txt P K mg base) (c_check_points : C8.Cal P w K mg base 7 "check_points" (sp_check_points K) []) (c_solved : C8.Cal P w K mg base 38 "solved" (sp_solved K) []) (c_goals_of : C8.Cal P w K mg base 35 "goals_of" (sp_goals_of K) []) (c_grid_of : C8.Cal P w K mg base 44 "grid_of" (sp_grid_of K) []) (c_Curve : C8.Mak P w K mg base 5 "Curve" (He.ga K "Curve") (sp_Curve K) []) (p_Frame_hills : Prp P w K mg base 1 (He.ga K "Frame") "hills" (sp_Frame_hills K)) : Hps P w K mg base 44 "curve_through" st_curve_through ["frame", "places", "heights", "found"] (t_curve_through K) := fun f cdv A outer s H E hr =>
  (pss_cons (ps_expr (C8.pe_c c_check_points hr (by decide) rfl (pa_cons (pv 0) (pa_cons (pv 1) (pa_cons (pv 2) pa_nil)))))
    (pss_cons (ps_set (i := 3) sc_curve_through.nd rfl (Or.inl rfl) (C8.pe_c c_solved hr (by decide) rfl (pa_cons (C8.pe_c c_grid_of hr (by decide) rfl (pa_cons (pv 0) (pa_cons (pv 1) pa_nil))) (pa_cons (C8.pe_c c_goals_of hr (by decide) rfl (pa_cons (pv 2) pa_nil)) (pa_cons (pe_prp p_Frame_hills hr (by decide) (pv 0) rfl) pa_nil)))))
    (pss_one (ps_ret (pe_ifExp (pt_cmpR op_isN (pv 3) pe_non (nomark _)) pe_non (C8.pe_mk c_Curve hr (by decide) rfl (pa_cons (pv 0) (pa_cons (pe_callTy call_tuple_of (by rfl) T.f_tuple (by decide +kernel) (pa_cons (pv 3) pa_nil)) pa_nil))))))))
section
variable {P : Program} {w : World} {K : PySem.W.Frag} {mg : Str → Option Value} {base : Heap}
/-- a def's promise, beside how it stands -/
structure FnD (P : Program) (w : World) (K : PySem.W.Frag) (mg : Str → Option Value) (base : Heap) (k : Nat) (x : Str) (st : Stmt) (ps : List Str) (sp : Sp) : Prop where
  ex : ∃ f fd, FunD K x x (defArgs st) (defBody st) (defScope st) [] [] f fd ∧ mg x = some (.ref f) ∧ FnOk P w K mg base C8.CX0 k f fd ps sp
theorem FnD.cal {k : Nat} {x : Str} {st : Stmt} {ps : List Str} {sp : Sp} (h : FnD P w K mg base k x st ps sp) (hb : Hb x st ps) : C8.Cal P w K mg base k x sp [] := by
  obtain ⟨f, fd, F, hm, ok⟩ := h.ex
  exact ⟨f, fd, ps, [], ok, hm, F.kp, F.bindsN hb, .nil⟩
theorem fnd3 {α β γ : Type} {P1 : α → VP} {P2 : β → VP} {P3 : γ → VP} {x : Str} {st : Stmt} {N : List Str} {p1 p2 p3 : Str} {k : Nat} {C : α → β → γ → Prop} {B : α → β → γ → VP} {t : TS} (D : Dd K mg x st) (S : FnScope N [p1, p2, p3] (defScope st)) (hp : Hps P w K mg base k x st N t)
    (h : ∀ G a b c x y z, P1 a x G → P2 b y G → P3 c z G → C a b c → Es t (start N [x, y, z]) G (B a b c) (fun _ G' => B a b c .non G')) : FnD P w K mg base (k + 1) x st [p1, p2, p3] (sp3 P1 P2 P3 C B) := by
  obtain ⟨f, fd, F, hm⟩ := D.ex
  refine ⟨f, fd, F, hm, F.ok S (fun vs H Q E ⟨_, _, _, _, _, _, _, e, _⟩ => by rw [e]; rfl) fun cdv A outer s H vs Q E hr hs => ⟨t, (hp f cdv A outer s H E hr).nox, ?_⟩⟩
  obtain ⟨G, a, b, c, x, y, z, e, s, p, hc, q⟩ := hs
  rw [e]
  exact h G a b c x y z p.1 p.2.1 p.2.2 hc G H _ (Same.refl G) s (fun v G2 H2 t r => q v G2 H2 t r) fun _ G2 H2 t r => q _ G2 H2 t r
theorem solF_len {x : Mx} {gs c : List Rat} (h : solF x gs = some c) : c.length = x.m := by
  unfold solF at h
  split at h
  · cases h
  · cases h
    simp
theorem cal_nearest_amounts (D : Dd K mg "nearest_amounts" st_nearest_amounts) (T : Txt P K mg base) (c1 : C8.Cal P w K mg base 35 "goals_of" (sp_goals_of K) []) (c2 : C8.Cal P w K mg base 1 "turned" (sp_turned K) []) (c3 : C8.Cal P w K mg base 44 "grid_of" (sp_grid_of K) []) (c4 : C8.Cal P w K mg base 37 "joined" (sp_joined K) []) (c5 : C8.Cal P w K mg base 38 "solved" (sp_solved K) []) (p1 : Prp P w K mg base 1 (He.ga K "Frame") "hills" (sp_Frame_hills K)) : C8.Cal P w K mg base 45 "nearest_amounts" (sp_nearest_amounts K) [] :=
  cal3 D sc_nearest_amounts (fun _ _ _ _ _ _ us hl => match us, hl with | [_, _, _], _ => rfl) (ps_nearest_amounts T c1 c2 c3 c4 c5 p1) fun G f xs ys v0 v1 v2 h0 h1 h2 hc => by
    have hn := nOf_le hc.fr
    have hl := hc.len
    have hs := hc.same
    unfold t_nearest_amounts
    refine sq_asgG (ep_pair (K := K) (F1 := IsMx K) (F2 := IsL (IsF K)) (x := (turnM (gMx f xs), goalsF ys)) ?_ (ep_call1 ys (ep_var rfl h2) (by omega))) fun v G2 s2 ⟨t, va, vb, ev, k1, k2, k3⟩ => ?_
    · have hg := ep_call2 (E := E0) (P1 := IsFr K) (P2 := IsT K IsI) (C := fun f xs => FrOk f ∧ InR xs ∧ xs.length ≤ 1000) (B := fun f xs => IsL (IsL (IsF K)) (gridF f xs)) f xs (ep_var (σ := start ["frame", "places", "heights", "columns", "goals", "rows", "other", "column"] [v0, v1, v2]) (i := 0) rfl h0) (ep_var (i := 1) rfl h1) ⟨hc.fr, hc.inr, by omega⟩
      rw [grid_tab] at hg
      exact ep_call2 (gMx f xs) (nOf f) hg (ep_hills hc.fr (ep_var (i := 0) rfl h0)) ⟨rfl, (by show xs.length ≤ 1000; omega), (by show nOf f ≤ 1000; omega)⟩
    subst ev
    refine ⟨_, gb_pair k1, ?_⟩
    have ecol : (turnM (gMx f xs)).tab = (List.range (nOf f)).map (colF f xs) := rfl
    have hcols : IsL (IsL (IsF K)) ((List.range (nOf f)).map (colF f xs)) va G2 := by
      rw [← ecol]
      exact k2
    have k3 : IsL (IsF K) (goalsF ys) vb G2 := k3
    have hmem : ∀ {i : Nat} {c : List Rat}, ((List.range (nOf f)).map (colF f xs))[i]? = some c → ∃ j, j < nOf f ∧ c = colF f xs j := fun {i c} h => by
      obtain ⟨j, hj, e⟩ := List.mem_map.mp (List.mem_of_getElem? h)
      exact ⟨j, List.mem_range.mp hj, e.symm⟩
    refine sq_asg (P := IsMx K (nMx f xs)) ?_ fun v5 G3 s3 p5 => ?_
    · have h := ep_lm (R := IsL (IsF K)) (te := tLc (iList K (tVar 3)) (gName 6) tYes (tCall (sp_joined K) [] E0 (tCons (tVar 7) (tCons (tVar 6) tNil))) [6]) (g := gName 7) (vs := [7]) (σ := [some v0, some v1, some v2, some va, some vb, none, none, none]) (G := G2) (fun c : List Rat => ((List.range (nOf f)).map (colF f xs)).map fun d => gdot c d) (it_list (K := K) (F := IsL (IsF K)) (ep_var (i := 3) rfl hcols)) (by simp; omega) (fun i c v G4 hi s4 hv => by
        obtain ⟨j, hj, rfl⟩ := hmem hi
        refine ⟨_, gb_name, rfl, ep_lm (fun d : List Rat => gdot (colF f xs j) d) (it_list (K := K) (F := IsL (IsF K)) (ep_var (i := 3) rfl (up s4 hcols))) (by simp; omega) fun i2 d u G5 hi2 s5 hu => ?_⟩
        obtain ⟨j2, hj2, rfl⟩ := hmem hi2
        exact ⟨_, gb_name, rfl, ep_call2 (colF f xs j) (colF f xs j2) (Ep.sL (ep_var (i := 7) rfl (up s5 hv))) (Ep.sL (ep_var (i := 6) rfl hu)) (hc.gram j j2 hj hj2)⟩)
      have e : ((List.range (nOf f)).map (colF f xs)).map (fun c : List Rat => ((List.range (nOf f)).map (colF f xs)).map fun d => gdot c d) = (nMx f xs).tab := by
        show _ = (List.range (nOf f)).map fun i => (List.range (nOf f)).map fun j => gdot (colF f xs i) (colF f xs j)
        rw [List.map_map]
        refine List.map_congr_left fun i _ => ?_
        show ((List.range (nOf f)).map (colF f xs)).map (fun d => gdot (colF f xs i) d) = _
        rw [List.map_map]
        rfl
      rw [e] at h
      exact h
    · have hr := ep_lm (R := IsF K) (te := tCall (sp_joined K) [] E0 (tCons (tVar 7) (tCons (tVar 4) tNil))) (g := gName 7) (vs := [7]) (σ := [some v0, some v1, some v2, some va, some vb, some v5, none, none]) (G := G3) (fun c : List Rat => gdot c (goalsF ys)) (it_list (K := K) (F := IsL (IsF K)) (ep_var (i := 3) rfl (up s3 hcols))) (by simp; omega) (fun i c v G4 hi s4 hv => by
        obtain ⟨j, hj, rfl⟩ := hmem hi
        exact ⟨_, gb_name, rfl, ep_call2 (colF f xs j) (goalsF ys) (Ep.sL (ep_var (i := 7) rfl hv)) (Ep.sL (ep_var (i := 4) rfl (up (s3.trans s4) k3))) (hc.rhs j hj)⟩)
      have e : ((List.range (nOf f)).map (colF f xs)).map (fun c : List Rat => gdot c (goalsF ys)) = rhsF f xs ys := by
        unfold rhsF
        rw [List.map_map]
        rfl
      rw [e] at hr
      exact es_ret (ep_call3 (nMx f xs) (rhsF f xs ys) (nOf f) (ep_var (i := 5) rfl p5) hr (ep_hills hc.fr (ep_var (i := 0) rfl (up (s2.trans s3) h0))) hc.sol)
theorem opt_some {c : List Rat} {r : Option (List Rat)} {te : TE} {σ : L2.St} {G : Hp} (h : Ep te σ G (IsOpt K r)) (e : r = some c) : Ep te σ G (IsL (IsF K) c) := by
  subst e
  exact h
theorem fnd_nearest (D : Dd K mg "nearest" st_nearest) (T : Txt P K mg base) (c1 : C8.Cal P w K mg base 7 "check_points" (sp_check_points K) []) (c2 : C8.Cal P w K mg base 5 "rank_of" (sp_rank_of K) []) (c3 : C8.Mak P w K mg base 5 "Curve" (He.ga K "Curve") (sp_Curve K) []) (c4 : C8.Cal P w K mg base 45 "nearest_amounts" (sp_nearest_amounts K) []) (p1 : Prp P w K mg base 1 (He.ga K "Frame") "hills" (sp_Frame_hills K)) : FnD P w K mg base 46 "nearest" st_nearest ["frame", "places", "heights"] (sp_nearest K) :=
  fnd3 D sc_nearest (ps_nearest T c1 c2 c3 c4 p1) fun G x xs ys v0 v1 v2 h0 h1 h2 ⟨hc, hrk, c, ham⟩ => by
    have hl := hc.na.len
    unfold t_nearest
    refine sq_drop (ep_call3 x.2 xs ys (ep_var rfl h0.2) (ep_var rfl h1) (ep_var rfl h2) ⟨hc.pl, hc.ht⟩) ?_
    refine sq_asg (ep_call2 x.2 xs (ep_var rfl h0.2) (ep_var rfl h1) ⟨hc.na.fr, hl⟩) fun v3 G2 s2 p3 => ?_
    have p3 : v3 = .int (rankF x.2 xs : Nat) := p3
    subst p3
    refine sq_skip ((et_test (ep_lt (ep_v (i := 3) rfl) (ep_hills hc.na.fr (ep_var (i := 0) rfl (up s2 h0.2))))).is (by rw [hrk]; exact decide_eq_false (by omega))) ?_
    have hf := hc.na.fr
    have hlen := solF_len ham
    have hlen : c.length = nOf x.2 := hlen
    have q := ep_make2 (E := E0) (P1 := IsFrV K) (P2 := IsT K (IsF K)) (Cc := fun x am => (am.length : Int) = (x.2.2.length : Int) - x.2.1 - 1 ∧ am.length ≤ 1000) (B := fun x am => IsP K IsV (IsT K (IsF K)) (x.1, am)) (C := He.ga K "Curve") (f := "parts") x c (ep_var (σ := [some v0, some v1, some v2, some (.int (rankF x.2 xs : Nat))]) (i := 0) rfl (up s2 h0)) (ep_tupOf (K := K) (opt_some (ep_call3 (E := E0) (P1 := IsFr K) (P2 := IsT K IsI) (P3 := IsT K IsI) (C := NaOk) (B := fun f xs ys => IsOpt K (amF f xs ys)) x.2 xs ys (ep_var (i := 0) rfl (up s2 h0.2)) (ep_var (i := 1) rfl (up s2 h1)) (ep_var (i := 2) rfl (up s2 h2)) hc.na) ham)) ⟨by rw [hlen, nOf_eq hf], by have := nOf_le hf; omega⟩
    rw [ham]
    exact es_ret q
theorem cal_nearest (D : Dd K mg "nearest" st_nearest) (T : Txt P K mg base) (c1 : C8.Cal P w K mg base 7 "check_points" (sp_check_points K) []) (c2 : C8.Cal P w K mg base 5 "rank_of" (sp_rank_of K) []) (c3 : C8.Mak P w K mg base 5 "Curve" (He.ga K "Curve") (sp_Curve K) []) (c4 : C8.Cal P w K mg base 45 "nearest_amounts" (sp_nearest_amounts K) []) (p1 : Prp P w K mg base 1 (He.ga K "Frame") "hills" (sp_Frame_hills K)) : C8.Cal P w K mg base 46 "nearest" (sp_nearest K) [] := (fnd_nearest D T c1 c2 c3 c4 p1).cal (fun _ _ _ _ _ _ us hl => match us, hl with | [_, _, _], _ => rfl)
theorem fnd_miss (D : Dd K mg "miss" st_miss) (T : Txt P K mg base) (c1 : C8.Cal P w K mg base 7 "check_points" (sp_check_points K) []) (c2 : C8.Cal P w K mg base 45 "nearest_amounts" (sp_nearest_amounts K) []) (c3 : C8.Cal P w K mg base 44 "grid_of" (sp_grid_of K) []) (c4 : C8.Cal P w K mg base 35 "goals_of" (sp_goals_of K) []) (c5 : C8.Cal P w K mg base 35 "minus" (sp_minus K) []) (c6 : C8.Cal P w K mg base 37 "joined" (sp_joined K) []) (c7 : C8.Cal P w K mg base 36 "total" (sp_total K) []) (c8 : C8.Cal P w K mg base 35 "times" (sp_times K) []) : FnD P w K mg base 46 "miss" st_miss ["frame", "places", "heights"] (sp_miss K) :=
  fnd3 D sc_miss (ps_miss T c1 c2 c4 c3 c5 c6 c7 c8) fun G f xs ys v0 v1 v2 h0 h1 h2 ⟨c, hc⟩ => by
    have hl := hc.pt.na.len
    have hs := hc.pt.na.same
    unfold t_miss
    refine sq_drop (ep_call3 f xs ys (ep_var rfl h0) (ep_var rfl h1) (ep_var rfl h2) ⟨hc.pt.pl, hc.pt.ht⟩) ?_
    refine sq_asg (opt_some (ep_call3 (E := E0) (P1 := IsFr K) (P2 := IsT K IsI) (P3 := IsT K IsI) (C := NaOk) (B := fun f xs ys => IsOpt K (amF f xs ys)) f xs ys (ep_var (i := 0) rfl h0) (ep_var (i := 1) rfl h1) (ep_var (i := 2) rfl h2) hc.pt.na) hc.am) fun v3 G2 s2 p3 => ?_
    rw [hc.am]
    have gl : (gridF f xs).length = xs.length := by simp [gridF]
    refine sq_asg (P := IsL (IsF K) (gapsF f xs ys c)) (ep_lm (fun p : List Rat × Rat => gdot c p.1 - p.2) (it_zip (K := K) (F := IsL (IsF K)) (F2 := IsF K) (Ep.sL (ep_call2 f xs (ep_var (i := 0) rfl (up s2 h0)) (ep_var (i := 1) rfl (up s2 h1)) ⟨hc.pt.na.fr, hc.pt.na.inr, by omega⟩)) (Ep.sL (ep_call1 ys (ep_var (i := 2) rfl (up s2 h2)) (by omega)))) (by rw [List.length_zip, gl]; omega) fun i ⟨r, y⟩ v G4 hi s4 ⟨t, a, b, e, k1, k2, k3⟩ => ?_) fun v4 G3 s3 p4 => ?_
    · subst e
      have hz := List.getElem?_zip_eq_some.mp hi
      have hd := hc.dot r (List.mem_of_getElem? hz.1)
      exact ⟨_, gb_pair k1, rfl, ep_call2 (gdot c r) y (ep_call2 c r (Ep.sL (ep_var (i := 3) rfl (up s4 p3))) (Ep.sL (ep_var (i := 5) rfl k2)) hd.1) (ep_var (i := 6) rfl k3) ⟨hd.2, hc.goal y (List.mem_of_getElem? hz.2)⟩⟩
    · have gl2 : (gapsF f xs ys c).length ≤ 1000 := by
        unfold gapsF
        rw [List.length_map, List.length_zip, gl]
        omega
      exact es_ret (ep_call1 (sqsF (gapsF f xs ys c)) (ep_lm (fun g : Rat => g * g) (it_list (K := K) (F := IsF K) (ep_var (i := 4) rfl p4)) gl2 fun i g v G5 hi s5 hv => ⟨_, gb_name, rfl, ep_call2 g g (ep_var (i := 7) rfl hv) (ep_var (i := 7) rfl hv) ⟨hc.gap g (List.mem_of_getElem? hi), hc.gap g (List.mem_of_getElem? hi)⟩⟩) hc.sq)
theorem cal_miss (D : Dd K mg "miss" st_miss) (T : Txt P K mg base) (c1 : C8.Cal P w K mg base 7 "check_points" (sp_check_points K) []) (c2 : C8.Cal P w K mg base 45 "nearest_amounts" (sp_nearest_amounts K) []) (c3 : C8.Cal P w K mg base 44 "grid_of" (sp_grid_of K) []) (c4 : C8.Cal P w K mg base 35 "goals_of" (sp_goals_of K) []) (c5 : C8.Cal P w K mg base 35 "minus" (sp_minus K) []) (c6 : C8.Cal P w K mg base 37 "joined" (sp_joined K) []) (c7 : C8.Cal P w K mg base 36 "total" (sp_total K) []) (c8 : C8.Cal P w K mg base 35 "times" (sp_times K) []) : C8.Cal P w K mg base 46 "miss" (sp_miss K) [] := (fnd_miss D T c1 c2 c3 c4 c5 c6 c7 c8).cal (fun _ _ _ _ _ _ us hl => match us, hl with | [_, _, _], _ => rfl)
theorem cal_curve_through (D : Dd K mg "curve_through" st_curve_through) (T : Txt P K mg base) (c1 : C8.Cal P w K mg base 7 "check_points" (sp_check_points K) []) (c2 : C8.Cal P w K mg base 38 "solved" (sp_solved K) []) (c3 : C8.Cal P w K mg base 44 "grid_of" (sp_grid_of K) []) (c4 : C8.Cal P w K mg base 35 "goals_of" (sp_goals_of K) []) (c5 : C8.Mak P w K mg base 5 "Curve" (He.ga K "Curve") (sp_Curve K) []) (p1 : Prp P w K mg base 1 (He.ga K "Frame") "hills" (sp_Frame_hills K)) : C8.Cal P w K mg base 45 "curve_through" (sp_curve_through K) [] :=
  cal3 D sc_curve_through (fun _ _ _ _ _ _ us hl => match us, hl with | [_, _, _], _ => rfl) (ps_curve_through T c1 c2 c4 c3 c5 p1) fun G x xs ys v0 v1 v2 h0 h1 h2 ⟨hc, hsol⟩ => by
    have hl := hc.na.len
    have hs := hc.na.same
    unfold t_curve_through
    refine sq_drop (ep_call3 x.2 xs ys (ep_var rfl h0.2) (ep_var rfl h1) (ep_var rfl h2) ⟨hc.pl, hc.ht⟩) ?_
    have hg := ep_call2 (E := E0) (P1 := IsFr K) (P2 := IsT K IsI) (C := fun f xs => FrOk f ∧ InR xs ∧ xs.length ≤ 1000) (B := fun f xs => IsL (IsL (IsF K)) (gridF f xs)) x.2 xs (ep_var (σ := start ["frame", "places", "heights", "found"] [v0, v1, v2]) (i := 0) rfl h0.2) (ep_var (i := 1) rfl h1) ⟨hc.na.fr, hc.na.inr, by omega⟩
    rw [grid_tab] at hg
    refine sq_asg (P := IsOpt K (thrF x.2 xs ys)) (ep_call3 (gMx x.2 xs) (goalsF ys) (nOf x.2) hg (ep_call1 ys (ep_var (i := 2) rfl h2) (by omega)) (ep_hills hc.na.fr (ep_var (i := 0) rfl h0.2)) hsol) fun v3 G2 s2 p3 => ?_
    cases hq : thrF x.2 xs ys with
    | none =>
      rw [hq] at p3
      have p3 : v3 = .non := p3
      subst p3
      refine es_ret (ep_if (c := true) ?_ (fun _ => ep_cP (P := IsThr K x.1 none) rfl) fun z => nomatch z)
      exact et_test (isNo_non (ep_v (i := 3) rfl))
    | some c =>
      rw [hq] at p3
      have p3 : IsL (IsF K) c v3 G2 := p3
      have hf := hc.na.fr
      have hlen : c.length = nOf x.2 := solF_len hq
      refine es_ret (ep_if (c := false) (et_test (isNo_ref (ep_var (P := IsL (IsF K) c) (i := 3) rfl p3) fun v G ⟨p, vs, e, _⟩ => ⟨p, e⟩)) (fun z => nomatch z) fun _ => ?_)
      exact ep_make2 (E := E0) (P1 := IsFrV K) (P2 := IsT K (IsF K)) (Cc := fun x am => (am.length : Int) = (x.2.2.length : Int) - x.2.1 - 1 ∧ am.length ≤ 1000) (B := fun x am => IsP K IsV (IsT K (IsF K)) (x.1, am)) (C := He.ga K "Curve") (f := "parts") x c (ep_var (i := 0) rfl (up s2 h0)) (ep_tupOf (K := K) (ep_var (i := 3) rfl p3)) ⟨by rw [hlen, nOf_eq hf], by have := nOf_le hf; omega⟩
end
end Bt
/-! ==== W14 ==== -/
set_option Elab.async false
set_option linter.all false
set_option maxRecDepth 100000
set_option maxHeartbeats 2000000
/-! The law's own hills, grid, gaps. -/
namespace Bt
open PySem PySem.Spec PyProof.Rows L2 SW
/-- a drawn frame: [degree, knots] -/
def IsDr (K : PySem.W.Frag) (f : Int × List Int) : VP := fun v G => ∃ p tv, v = .ref p ∧ G p = some (.lst [.int f.1, tv]) ∧ IsT K IsI f.2 tv G
instance (K : PySem.W.Frag) (f : Int × List Int) : Stays (IsDr K f) := ⟨fun _ _ _ e ⟨p, tv, h1, h2, h3⟩ => ⟨p, tv, h1, e _ _ h2, up e h3⟩⟩
abbrev IsQ (K : PySem.W.Frag) (x : Int) : VP := IsF K (x : Rat)
def sp__law_bump (K : PySem.W.Frag) (d : Nat) : Sp := sp4 (IsT K IsI) IsI IsI (IsQ K) (fun ks i g x => BumpOk ks i g x ∧ g < d) fun ks i g x => IsF K (bmp ks x g.toNat i.toNat)
def sp__law_row (K : PySem.W.Frag) : Sp := sp3 IsI (IsT K IsI) (IsQ K) (fun g ks x => FrOk (g, ks) ∧ 0 ≤ x ∧ x ≤ 1000000) fun g ks x => IsL (IsF K) (rowOf (g, ks) x)
def sp__law_made (K : PySem.W.Frag) : Sp := sp1 (IsDr K) FrOk fun f => IsFr K f
def sp__law_hills (K : PySem.W.Frag) : Sp := sp1 (IsDr K) FrOk fun f => IsI (nOf f : Nat)
def sp__law_grid (K : PySem.W.Frag) : Sp := sp2 (IsDr K) (IsT K IsI) (fun f xs => FrOk f ∧ InR xs ∧ xs.length ≤ 1000) fun f xs => IsL (IsL (IsF K)) (gridF f xs)
def sp__law_spread (K : PySem.W.Frag) : Sp := sp2 (IsS K (IsF K)) (IsL (IsF K)) FitD fun c r => IsF K (gdot c r)
/-- the gaps of amounts by rows and levels -/
def gapsL (c : List Rat) (rows : List (List Rat)) (ys : List Int) : List Rat := (rows.zip (goalsF ys)).map fun p => gdot c p.1 - p.2
structure GapOk (c : List Rat) (rows : List (List Rat)) (ys : List Int) : Prop where
  len : rows.length ≤ 1000
  dot : ∀ r ∈ rows, FitD c r ∧ FitF (gdot c r)
  goal : ∀ y ∈ goalsF ys, FitF y
def sp__law_gaps (K : PySem.W.Frag) : Sp := sp3 (IsS K (IsF K)) (IsL (IsL (IsF K))) (IsT K IsI) GapOk fun c rows ys => IsL (IsF K) (gapsL c rows ys)
def sp__law_squares (K : PySem.W.Frag) : Sp := sp1 (IsL (IsF K)) (fun gs => FitD gs gs) fun gs => IsF K (gdot gs gs)
abbrev st__law_bump := top 89
theorem sc__law_bump : FnScope ["_law_bolts", "_law_k", "_law_grade", "_law_x", "_law_left", "_law_right_here", "_law_inside", "_law_found", "_law_rise", "_law_fall", "_law_part_here"] ["_law_bolts", "_law_k", "_law_grade", "_law_x"] (defScope st__law_bump) := ⟨rfl, rfl, rfl, by decide +kernel, rfl, by decide +kernel, by decide +kernel⟩
def t__law_bump (K : PySem.W.Frag) (d : Nat) : TS := (tSeq (tIfS (tTest (tOp rEq (tVar 2) (tC (.int 0)))) (tSeq (tPar 4 5 (tCons (tOp rMulI (tOp (rIxT K) (tVar 0) (tVar 1)) (tOp (rIxT K) (tVar 3) (tC (.int 1)))) (tCons (tOp rMulI (tOp (rIxT K) (tVar 0) (tOp rAddI (tVar 1) (tC (.int 1)))) (tOp (rIxT K) (tVar 3) (tC (.int 1)))) tNil)))
    (tSeq (tAsg (tIf (tTest (tOp rEq (tOp (rIxT K) (tVar 3) (tC (.int 0))) (tOp rMulI (tOp (rIxT K) (tVar 0) (tUn uNeg (tC (.int 1)))) (tOp (rIxT K) (tVar 3) (tC (.int 1)))))) (tChain rLtI rLeI (tVar 4) (tOp (rIxT K) (tVar 3) (tC (.int 0))) (tVar 5)) (tChain rLeI rLtI (tVar 4) (tOp (rIxT K) (tVar 3) (tC (.int 0))) (tVar 5))) (gName 6))
    (tRet (tIf (tB (tVar 6)) (tTup (tCons (tC (.int 1)) (tCons (tC (.int 1)) tNil))) (tTup (tCons (tC (.int 0)) (tCons (tC (.int 1)) tNil))))))) tNext)
    (tSeq (tPar3 7 8 9 (tCons (tTup (tCons (tC (.int 0)) (tCons (tC (.int 1)) tNil))) (tCons (tOp rSubI (tOp (rIxT K) (tVar 0) (tOp rAddI (tVar 1) (tVar 2))) (tOp (rIxT K) (tVar 0) (tVar 1))) (tCons (tOp rSubI (tOp (rIxT K) (tVar 0) (tOp rAddI (tOp rAddI (tVar 1) (tVar 2)) (tC (.int 1)))) (tOp (rIxT K) (tVar 0) (tOp rAddI (tVar 1) (tC (.int 1))))) tNil))))
    (tSeq (tIfS (tTest (tOp rGtI (tVar 8) (tC (.int 0)))) (tAsg (tCall (sp__law_mult K) [] E0 (tCons (tCall (sp__law_low K) [] E0 (tCons (tOp rSubI (tOp (rIxT K) (tVar 3) (tC (.int 0))) (tOp rMulI (tOp (rIxT K) (tVar 0) (tVar 1)) (tOp (rIxT K) (tVar 3) (tC (.int 1))))) (tCons (tOp rMulI (tVar 8) (tOp (rIxT K) (tVar 3) (tC (.int 1)))) tNil))) (tCons (tCall (sp__law_bump K d) [] E0 (tCons (tVar 0) (tCons (tVar 1) (tCons (tOp rSubI (tVar 2) (tC (.int 1))) (tCons (tVar 3) tNil))))) tNil))) (gName 7)) tNext)
    (tSeq (tIfS (tTest (tOp rGtI (tVar 9) (tC (.int 0)))) (tSeq (tAsg (tCall (sp__law_low K) [] E0 (tCons (tOp rSubI (tOp rMulI (tOp (rIxT K) (tVar 0) (tOp rAddI (tOp rAddI (tVar 1) (tVar 2)) (tC (.int 1)))) (tOp (rIxT K) (tVar 3) (tC (.int 1)))) (tOp (rIxT K) (tVar 3) (tC (.int 0)))) (tCons (tOp rMulI (tVar 9) (tOp (rIxT K) (tVar 3) (tC (.int 1)))) tNil))) (gName 10))
    (tAsg (tCall (sp__law_plus K) [] E0 (tCons (tVar 7) (tCons (tCall (sp__law_mult K) [] E0 (tCons (tVar 10) (tCons (tCall (sp__law_bump K d) [] E0 (tCons (tVar 0) (tCons (tOp rAddI (tVar 1) (tC (.int 1))) (tCons (tOp rSubI (tVar 2) (tC (.int 1))) (tCons (tVar 3) tNil))))) tNil))) tNil))) (gName 7))) tNext)
    (tRet (tVar 7))))))
theorem ps__law_bump {P : Program} {w : World} {K : PySem.W.Frag} {mg : Str → Option Value} {base : Heap} (T : Txt P K mg base) (c__law_mult : C8.Cal P w K mg base 35 "_law_mult" (sp__law_mult K) []) (d : Nat) (c__law_bump : C8.Cal P w K mg base (37 + d) "_law_bump" (sp__law_bump K d) []) (c__law_low : C8.Cal P w K mg base 34 "_law_low" (sp__law_low K) []) (c__law_plus : C8.Cal P w K mg base 35 "_law_plus" (sp__law_plus K) []) : Hps P w K mg base (37 + d) "_law_bump" st__law_bump ["_law_bolts", "_law_k", "_law_grade", "_law_x", "_law_left", "_law_right_here", "_law_inside", "_law_found", "_law_rise", "_law_fall", "_law_part_here"] (t__law_bump K d) := fun f cdv A outer s H E hr =>
  (pss_cons (ps_if (pt_cmpR op_eq (pv 2) pe_int (nomark _)) (pss_cons (ps_par (i := 4) (j := 5) rfl sc__law_bump.nd rfl rfl (by decide) rfl rfl (pa_cons (pe_op op_mulB (pe_ix ix_tup (pv 0) (pv 1) (fun _ _ => rfl)) (pe_ix ix_tup (pv 3) pe_int (fun _ _ => rfl))) (pa_cons (pe_op op_mulB (pe_ix ix_tup (pv 0) (pe_op op_add (pv 1) pe_int) (fun _ _ => rfl)) (pe_ix ix_tup (pv 3) pe_int (fun _ _ => rfl))) pa_nil)) (by rfl))
    (pss_cons (ps_set (i := 6) sc__law_bump.nd rfl (Or.inl rfl) (pe_ifExp (pt_cmpR op_eq (pe_ix ix_tup (pv 3) pe_int (fun _ _ => rfl)) (pe_op op_mulB (pe_ix ix_tup (pv 0) (pe_un un_neg pe_int) (fun _ _ => rfl)) (pe_ix ix_tup (pv 3) pe_int (fun _ _ => rfl))) (nomark _)) (pe_chain op_lt op_le (pv 4) (pe_ix ix_tup (pv 3) pe_int (fun _ _ => rfl)) (pv 5)) (pe_chain op_le op_lt (pv 4) (pe_ix ix_tup (pv 3) pe_int (fun _ _ => rfl)) (pv 5))))
    (pss_one (ps_ret (pe_ifExp (pt_val (pv 6)) (pe_tup (pa_cons pe_int (pa_cons pe_int pa_nil))) (pe_tup (pa_cons pe_int (pa_cons pe_int pa_nil)))))))) pss_nil)
    (pss_cons (ps_par3 (i := 7) (j := 8) (l := 9) rfl sc__law_bump.nd rfl rfl rfl (by decide) (by decide) (by decide) rfl rfl rfl (pa_cons (pe_tup (pa_cons pe_int (pa_cons pe_int pa_nil))) (pa_cons (pe_op op_sub (pe_ix ix_tup (pv 0) (pe_op op_add (pv 1) (pv 2)) (fun _ _ => rfl)) (pe_ix ix_tup (pv 0) (pv 1) (fun _ _ => rfl))) (pa_cons (pe_op op_sub (pe_ix ix_tup (pv 0) (pe_op op_add (pe_op op_add (pv 1) (pv 2)) pe_int) (fun _ _ => rfl)) (pe_ix ix_tup (pv 0) (pe_op op_add (pv 1) pe_int) (fun _ _ => rfl))) pa_nil))) (by rfl))
    (pss_cons (ps_if (pt_cmpR op_gt (pv 8) pe_int (nomark _)) (pss_one (ps_set (i := 7) sc__law_bump.nd rfl (Or.inl rfl) (C8.pe_c c__law_mult hr (by omega) rfl (pa_cons (C8.pe_c c__law_low hr (by omega) rfl (pa_cons (pe_op op_sub (pe_ix ix_tup (pv 3) pe_int (fun _ _ => rfl)) (pe_op op_mulB (pe_ix ix_tup (pv 0) (pv 1) (fun _ _ => rfl)) (pe_ix ix_tup (pv 3) pe_int (fun _ _ => rfl)))) (pa_cons (pe_op op_mulB (pv 8) (pe_ix ix_tup (pv 3) pe_int (fun _ _ => rfl))) pa_nil))) (pa_cons (C8.pe_c c__law_bump hr (by omega) rfl (pa_cons (pv 0) (pa_cons (pv 1) (pa_cons (pe_op op_sub (pv 2) pe_int) (pa_cons (pv 3) pa_nil))))) pa_nil))))) pss_nil)
    (pss_cons (ps_if (pt_cmpR op_gt (pv 9) pe_int (nomark _)) (pss_cons (ps_set (i := 10) sc__law_bump.nd rfl (Or.inl rfl) (C8.pe_c c__law_low hr (by omega) rfl (pa_cons (pe_op op_sub (pe_op op_mulB (pe_ix ix_tup (pv 0) (pe_op op_add (pe_op op_add (pv 1) (pv 2)) pe_int) (fun _ _ => rfl)) (pe_ix ix_tup (pv 3) pe_int (fun _ _ => rfl))) (pe_ix ix_tup (pv 3) pe_int (fun _ _ => rfl))) (pa_cons (pe_op op_mulB (pv 9) (pe_ix ix_tup (pv 3) pe_int (fun _ _ => rfl))) pa_nil))))
    (pss_one (ps_set (i := 7) sc__law_bump.nd rfl (Or.inl rfl) (C8.pe_c c__law_plus hr (by omega) rfl (pa_cons (pv 7) (pa_cons (C8.pe_c c__law_mult hr (by omega) rfl (pa_cons (pv 10) (pa_cons (C8.pe_c c__law_bump hr (by omega) rfl (pa_cons (pv 0) (pa_cons (pe_op op_add (pv 1) pe_int) (pa_cons (pe_op op_sub (pv 2) pe_int) (pa_cons (pv 3) pa_nil))))) pa_nil))) pa_nil)))))) pss_nil)
    (pss_one (ps_ret (pv 7)))))))
abbrev st__law_row := top 90
theorem sc__law_row : FnScope ["_law_grade", "_law_bolts", "_law_x", "_law_k"] ["_law_grade", "_law_bolts", "_law_x"] (defScope st__law_row) := ⟨rfl, rfl, rfl, by decide +kernel, rfl, by decide +kernel, by decide +kernel⟩
def t__law_row (K : PySem.W.Frag) : TS := (tRet (tLc (iRng1 (tCons (tOp rSubI (tOp rSubI (tCB (rLen K) (tCons (tVar 1) tNil)) (tVar 0)) (tC (.int 1))) tNil)) (gName 3) tYes (tCall (sp__law_bump K 5) [] E0 (tCons (tVar 1) (tCons (tVar 3) (tCons (tVar 0) (tCons (tVar 2) tNil))))) [3]))
theorem ps__law_row {P : Program} {w : World} {K : PySem.W.Frag} {mg : Str → Option Value} {base : Heap} (T : Txt P K mg base) (c__law_bump : C8.Cal P w K mg base 42 "_law_bump" (sp__law_bump K 5) []) : Hps P w K mg base 42 "_law_row" st__law_row ["_law_grade", "_law_bolts", "_law_x", "_law_k"] (t__law_row K) := fun f cdv A outer s H E hr =>
  (pss_one (ps_ret (pe_lc (own := [("_law_k", 3)]) (g := (gName 3)) (tt := tYes) rfl sc__law_row.nd (pi_range1 rfl T.f_range (pa_cons (pe_op op_sub (pe_op op_sub (pe_callB call_len (by rfl) T.f_len (by decide +kernel) (pa_cons (pv 1) pa_nil)) (pv 0)) pe_int) pa_nil)) (blkOk_by (by rfl)) (fun _ _ _ _ _ => (pg_name (i := 3) sc__law_row.nd rfl (Or.inl rfl))) (fun _ _ _ _ _ => pts_nil) (fun _ _ _ _ _ => (C8.pe_c c__law_bump hr (by decide) rfl (pa_cons (pv 1) (pa_cons (pv 3) (pa_cons (pv 0) (pa_cons (pv 2) pa_nil)))))))))
abbrev st__law_made := top 92
theorem sc__law_made : FnScope ["_law_draft_here"] ["_law_draft_here"] (defScope st__law_made) := ⟨rfl, rfl, rfl, by decide +kernel, rfl, by decide +kernel, by decide +kernel⟩
def t__law_made (K : PySem.W.Frag) : TS := (tRet (tMake (He.ga K "Frame") (sp_Frame K) [] E0 (tCons (tOp (rIxL K) (tVar 0) (tC (.int 0))) (tCons (tOp (rIxL K) (tVar 0) (tC (.int 1))) tNil))))
theorem ps__law_made {P : Program} {w : World} {K : PySem.W.Frag} {mg : Str → Option Value} {base : Heap} (T : Txt P K mg base) (c_Frame : C8.Mak P w K mg base 4 "Frame" (He.ga K "Frame") (sp_Frame K) []) : Hps P w K mg base 5 "_law_made" st__law_made ["_law_draft_here"] (t__law_made K) := fun f cdv A outer s H E hr =>
  (pss_one (ps_ret (C8.pe_mk c_Frame hr (by decide) rfl (pa_cons (pe_ix ix_list (pv 0) pe_int (fun _ _ => rfl)) (pa_cons (pe_ix ix_list (pv 0) pe_int (fun _ _ => rfl)) pa_nil)))))
abbrev st__law_hills := top 93
theorem sc__law_hills : FnScope ["_law_draft_here"] ["_law_draft_here"] (defScope st__law_hills) := ⟨rfl, rfl, rfl, by decide +kernel, rfl, by decide +kernel, by decide +kernel⟩
def t__law_hills (K : PySem.W.Frag) : TS := (tRet (tOp rSubI (tOp rSubI (tCB (rLen K) (tCons (tOp (rIxL K) (tVar 0) (tC (.int 1))) tNil)) (tOp (rIxL K) (tVar 0) (tC (.int 0)))) (tC (.int 1))))
theorem ps__law_hills {P : Program} {w : World} {K : PySem.W.Frag} {mg : Str → Option Value} {base : Heap} (T : Txt P K mg base) : Hps P w K mg base 0 "_law_hills" st__law_hills ["_law_draft_here"] (t__law_hills K) := fun f cdv A outer s H E hr =>
  (pss_one (ps_ret (pe_op op_sub (pe_op op_sub (pe_callB call_len (by rfl) T.f_len (by decide +kernel) (pa_cons (pe_ix ix_list (pv 0) pe_int (fun _ _ => rfl)) pa_nil)) (pe_ix ix_list (pv 0) pe_int (fun _ _ => rfl))) pe_int)))
abbrev st__law_grid := top 95
theorem sc__law_grid : FnScope ["_law_draft_here", "_law_sites_here", "_law_site"] ["_law_draft_here", "_law_sites_here"] (defScope st__law_grid) := ⟨rfl, rfl, rfl, by decide +kernel, rfl, by decide +kernel, by decide +kernel⟩
def t__law_grid (K : PySem.W.Frag) : TS := (tRet (tLc (iTup K (tVar 1)) (gName 2) tYes (tCall (sp__law_row K) [] E0 (tCons (tOp (rIxL K) (tVar 0) (tC (.int 0))) (tCons (tOp (rIxL K) (tVar 0) (tC (.int 1))) (tCons (tTup (tCons (tVar 2) (tCons (tC (.int 1)) tNil))) tNil)))) [2]))
theorem ps__law_grid {P : Program} {w : World} {K : PySem.W.Frag} {mg : Str → Option Value} {base : Heap} (T : Txt P K mg base) (c__law_row : C8.Cal P w K mg base 43 "_law_row" (sp__law_row K) []) : Hps P w K mg base 43 "_law_grid" st__law_grid ["_law_draft_here", "_law_sites_here", "_law_site"] (t__law_grid K) := fun f cdv A outer s H E hr =>
  (pss_one (ps_ret (pe_lc (own := [("_law_site", 2)]) (g := (gName 2)) (tt := tYes) rfl sc__law_grid.nd (pi_tup (pv 1)) (blkOk_by (by rfl)) (fun _ _ _ _ _ => (pg_name (i := 2) sc__law_grid.nd rfl (Or.inl rfl))) (fun _ _ _ _ _ => pts_nil) (fun _ _ _ _ _ => (C8.pe_c c__law_row hr (by decide) rfl (pa_cons (pe_ix ix_list (pv 0) pe_int (fun _ _ => rfl)) (pa_cons (pe_ix ix_list (pv 0) pe_int (fun _ _ => rfl)) (pa_cons (pe_tup (pa_cons (pv 2) (pa_cons pe_int pa_nil))) pa_nil))))))))
abbrev st__law_spread := top 103
theorem sc__law_spread : FnScope ["_law_amounts_here", "_law_row_here"] ["_law_amounts_here", "_law_row_here"] (defScope st__law_spread) := ⟨rfl, rfl, rfl, by decide +kernel, rfl, by decide +kernel, by decide +kernel⟩
def t__law_spread (K : PySem.W.Frag) : TS := (tRet (tCall (sp__law_dot K) [] E0 (tCons (tVar 0) (tCons (tVar 1) tNil))))
theorem ps__law_spread {P : Program} {w : World} {K : PySem.W.Frag} {mg : Str → Option Value} {base : Heap} (T : Txt P K mg base) (c__law_dot : C8.Cal P w K mg base 36 "_law_dot" (sp__law_dot K) []) : Hps P w K mg base 36 "_law_spread" st__law_spread ["_law_amounts_here", "_law_row_here"] (t__law_spread K) := fun f cdv A outer s H E hr =>
  (pss_one (ps_ret (C8.pe_c c__law_dot hr (by decide) rfl (pa_cons (pv 0) (pa_cons (pv 1) pa_nil)))))
abbrev st__law_gaps := top 105
theorem sc__law_gaps : FnScope ["_law_amounts_here", "_law_grid_here", "_law_levels_here", "_law_row_here", "_law_level"] ["_law_amounts_here", "_law_grid_here", "_law_levels_here"] (defScope st__law_gaps) := ⟨rfl, rfl, rfl, by decide +kernel, rfl, by decide +kernel, by decide +kernel⟩
def t__law_gaps (K : PySem.W.Frag) : TS := (tRet (tLc (iZipX K (tCons (tVar 1) (tCons (tVar 2) tNil))) (gTup K 2 (gCons (gName 3) (gCons (gName 4) gNil))) tYes (tCall (sp__law_less K) [] E0 (tCons (tCall (sp__law_spread K) [] E0 (tCons (tVar 0) (tCons (tVar 3) tNil))) (tCons (tTup (tCons (tVar 4) (tCons (tC (.int 1)) tNil))) tNil))) [3, 4]))
theorem ps__law_gaps {P : Program} {w : World} {K : PySem.W.Frag} {mg : Str → Option Value} {base : Heap} (T : Txt P K mg base) (c__law_less : C8.Cal P w K mg base 35 "_law_less" (sp__law_less K) []) (c__law_spread : C8.Cal P w K mg base 37 "_law_spread" (sp__law_spread K) []) : Hps P w K mg base 37 "_law_gaps" st__law_gaps ["_law_amounts_here", "_law_grid_here", "_law_levels_here", "_law_row_here", "_law_level"] (t__law_gaps K) := fun f cdv A outer s H E hr =>
  (pss_one (ps_ret (pe_lc (own := [("_law_row_here", 3), ("_law_level", 4)]) (g := (gTup K 2 (gCons (gName 3) (gCons (gName 4) gNil)))) (tt := tYes) rfl sc__law_gaps.nd (pi_zipX rfl T.f_zip (pa_cons (pv 1) (pa_cons (pv 2) pa_nil))) (blkOk_by (by rfl)) (fun _ _ _ _ _ => (pg_tup rfl (pgs_cons (pg_name (i := 3) sc__law_gaps.nd rfl (Or.inl rfl)) (pgs_cons (pg_name (i := 4) sc__law_gaps.nd rfl (Or.inl rfl)) pgs_nil)))) (fun _ _ _ _ _ => pts_nil) (fun _ _ _ _ _ => (C8.pe_c c__law_less hr (by decide) rfl (pa_cons (C8.pe_c c__law_spread hr (by decide) rfl (pa_cons (pv 0) (pa_cons (pv 3) pa_nil))) (pa_cons (pe_tup (pa_cons (pv 4) (pa_cons pe_int pa_nil))) pa_nil)))))))
abbrev st__law_squares := top 106
theorem sc__law_squares : FnScope ["_law_gaps_here"] ["_law_gaps_here"] (defScope st__law_squares) := ⟨rfl, rfl, rfl, by decide +kernel, rfl, by decide +kernel, by decide +kernel⟩
def t__law_squares (K : PySem.W.Frag) : TS := (tRet (tCall (sp__law_dot K) [] E0 (tCons (tVar 0) (tCons (tVar 0) tNil))))
theorem ps__law_squares {P : Program} {w : World} {K : PySem.W.Frag} {mg : Str → Option Value} {base : Heap} (T : Txt P K mg base) (c__law_dot : C8.Cal P w K mg base 36 "_law_dot" (sp__law_dot K) []) : Hps P w K mg base 36 "_law_squares" st__law_squares ["_law_gaps_here"] (t__law_squares K) := fun f cdv A outer s H E hr =>
  (pss_one (ps_ret (C8.pe_c c__law_dot hr (by decide) rfl (pa_cons (pv 0) (pa_cons (pv 0) pa_nil)))))
section
variable {P : Program} {w : World} {K : PySem.W.Frag} {mg : Str → Option Value} {base : Heap}
section
variable {ta tb tc td te : TE} {σ : L2.St} {G : Hp} {f : Int × List Int} {x : Int} {R' : VP} {N : NP} {u : TS}
theorem ep_dr0 (h : Ep ta σ G (IsDr K f)) : Ep (tOp (rIxL K) ta (tC (.int 0))) σ G (IsI f.1) :=
  ep_bin h ep_c fun v w G1 H1 Q _ s p py q => by
    obtain ⟨a, tv, rfl, h1, h2⟩ := p
    exact ⟨a, _, 0, _, rfl, py, SqL.of (s _ _ h1), rfl, q _ G1 H1 (To.refl s) rfl⟩
theorem ep_dr1 (h : Ep ta σ G (IsDr K f)) : Ep (tOp (rIxL K) ta (tC (.int 1))) σ G (IsT K IsI f.2) :=
  ep_bin h ep_c fun v w G1 H1 Q _ s p py q => by
    obtain ⟨a, tv, rfl, h1, h2⟩ := p
    exact ⟨a, _, 1, _, rfl, py, SqL.of (s _ _ h1), rfl, q _ G1 H1 (To.refl s) h2⟩
theorem ep_xn (h : Ep ta σ G (IsQ K x)) : Ep (tOp (rIxT K) ta (tC (.int 0))) σ G (IsI x) := (ep_num h).is (by simp)
theorem ep_xd (h : Ep ta σ G (IsQ K x)) : Ep (tOp (rIxT K) ta (tC (.int 1))) σ G (IsI 1) := (ep_den h).is (by simp)
theorem ep_mul1 {a : Int} (ha : Ep ta σ G (IsI a)) (hb : Ep tb σ G (IsI 1)) : Ep (tOp rMulI ta tb) σ G (IsI a) := (ep_mul ha hb (.of_right (by decide))).is (by rw [Int.mul_one])
/-- (x, 1) -/
theorem ep_int1q (h : Ep ta σ G (IsI x)) : Ep (tTup (tCons ta (tCons (tC (.int 1)) tNil))) σ G (IsQ K x) := ep_frac (h.is (by simp)) (ep_c.is (by simp))
theorem sq_par3 {i j l : Nat} {P1 P2 P3 : VP} [Stays P1] [Stays P2] (ha : Ep ta σ G P1) (hb : Ep tb σ G P2) (hc : Ep tc σ G P3) (k : ∀ a b c G2, Same G G2 → P1 a G2 → P2 b G2 → P3 c G2 → Es u (((σ.set i (some a)).set j (some b)).set l (some c)) G2 R' N) : Es (tSeq (tPar3 i j l (tCons ta (tCons tb (tCons tc tNil)))) u) σ G R' N := fun G1 H1 D g s r n =>
  ha G1 H1 g s _ fun a G2 H2 t2 p1 => hb G2 H2 (g.trans t2.up) t2.in_ _ fun b G3 H3 t3 p2 => hc G3 H3 ((g.trans t2.up).trans t3.up) t3.in_ _ fun c G4 H4 t4 p3 => ⟨a, b, c, rfl, k a b c G4 (((g.trans t2.up).trans t3.up).trans t4.up) (up (t3.up.trans t4.up) p1) (up t4.up p2) p3 G4 H4 D (Same.refl _) t4.in_
    (fun v G5 H5 t5 => r v G5 H5 (((t2.trans t3).trans t4).trans t5)) fun σ5 G5 H5 t5 => n σ5 G5 H5 (((t2.trans t3).trans t4).trans t5)⟩
end
theorem lbump_none (D : Dd K mg "_law_bump" st__law_bump) : C8.Cal P w K mg base 37 "_law_bump" (sp__law_bump K 0) [] := by
  obtain ⟨f, fd, F, hm⟩ := D.ex
  refine ⟨f, fd, ["_law_bolts", "_law_k", "_law_grade", "_law_x"], [], ⟨fun vs H Q E ⟨_, _, _, _, _, _, _, _, _, e, _⟩ => by rw [e]; rfl, fun A outer s H args us vs Q E hr e0 b v ⟨_, _, _, _, _, _, _, _, _, _, _, _, c, _⟩ => ?_⟩, hm, F.kp, F.bindsN (fun _ _ _ _ _ _ us hl => match us, hl with | [_, _, _, _], _ => rfl), .nil⟩
  have := c.1.g0
  have := c.2
  omega
theorem cal__law_bump (D : Dd K mg "_law_bump" st__law_bump) (T : Txt P K mg base) (c1 : C8.Cal P w K mg base 35 "_law_mult" (sp__law_mult K) []) (c2 : C8.Cal P w K mg base 34 "_law_low" (sp__law_low K) []) (c3 : C8.Cal P w K mg base 35 "_law_plus" (sp__law_plus K) []) : ∀ d, C8.Cal P w K mg base (37 + d) "_law_bump" (sp__law_bump K d) []
  | 0 => lbump_none D
  | d + 1 => cal4 D sc__law_bump (fun _ _ _ _ _ _ us hl => match us, hl with | [_, _, _, _], _ => rfl) (ps__law_bump T c1 d (cal__law_bump D T c1 c2 c3 d) c2 c3) fun G ks i g x v0 v1 v2 v3 h0 h1 h2 h3 hc => by
    have h1' : v1 = .int i := h1
    have h2' : v2 = .int g := h2
    subst h1' h2'
    obtain ⟨⟨i0, g0, g4, hl, lo, x0⟩, hd⟩ := hc
    obtain ⟨n, rfl⟩ := Int.eq_ofNat_of_zero_le i0
    obtain ⟨m, rfl⟩ := Int.eq_ofNat_of_zero_le g0
    show Es _ _ G (IsF K (bmp ks x m n)) _
    refine sq_if (et_test (ep_eqI (ep_v rfl) ep_c)) (fun h => ?_) fun h => sq_next ?_
    · have hm : m = 0 := by
        have := of_decide_eq_true h
        omega
      subst hm
      refine sq_retd ?_
      refine sq_par (P1 := IsI (kn ks n)) (P2 := IsI (kn ks (n + 1))) (ep_mul1 (ep_kn (n := n) (ep_var rfl h0) (ep_v rfl) rfl (by omega)) (ep_xd (ep_var rfl h3))) (ep_mul1 (ep_kn (n := n + 1) (ep_var rfl h0) (ep_add (ep_v rfl) ep_c) (by omega) (by omega)) (ep_xd (ep_var rfl h3))) fun v w G2 e pv pw => ?_
      have pv : v = .int _ := pv
      have pw : w = .int _ := pw
      subst pv pw
      have q := up e h0
      have q3 := up e h3
      refine sq_asg (P := IsB (inside ks n x)) ?_ fun v G3 e3 pv => ?_
      · refine (ep_if (P := IsB (inside ks n x)) (et_test (ep_eqI (ep_xn (ep_var rfl q3)) (ep_mul1 (ep_last (ep_var rfl q) (by omega)) (ep_xd (ep_var rfl q3))))) (fun h => ?_) fun h => ?_)
        · have h := of_decide_eq_true h
          unfold inside
          rw [if_pos h]
          exact ep_chain (ep_v rfl) (ep_xn (ep_var rfl q3)) rfl (fun _ => ep_v rfl) fun _ => rfl
        · have h := of_decide_eq_false h
          unfold inside
          rw [if_neg h]
          exact ep_chain (ep_v rfl) (ep_xn (ep_var rfl q3)) rfl (fun _ => ep_v rfl) fun _ => rfl
      · refine es_ret (ep_if (et_B (ep_var (P := IsB (inside ks n x)) rfl pv)) (fun h => ?_) fun h => ?_)
        · have e1 : bmp ks x 0 n = 1 := by
            unfold bmp
            rw [if_pos h]
          rw [e1]
          exact ep_frac (q := 1) ep_c ep_c
        · have e1 : bmp ks x 0 n = 0 := by
            unfold bmp
            rw [if_neg (by rw [h]; exact Bool.false_ne_true)]
          rw [e1]
          exact ep_frac (q := 0) ep_c ep_c
    · obtain ⟨m, rfl⟩ : ∃ k, m = k + 1 := ⟨m - 1, by
        have := of_decide_eq_false h
        omega⟩
      have bx : ∀ j, FitF (bmp ks x m j) := bmp_fit lo x0 (by omega)
      have k0 := kn_lo lo n
      have k1 := kn_lo lo (n + 1)
      have k2 := kn_lo lo (n + m + 1)
      have k3 := kn_lo lo (n + m + 2)
      have fit20 : ∀ {b : Nat} {q : Rat}, Sz b q → b ≤ 2000 → FitF q := fun h e => h.fit (Nat.le_trans e (by decide))
      refine sq_par3 (P1 := IsF K 0) (P2 := IsI (kn ks (n + m + 1) - kn ks n)) (P3 := IsI (kn ks (n + m + 2) - kn ks (n + 1))) (ep_frac (q := 0) ep_c ep_c) (ep_sub (ep_kn (n := n + m + 1) (ep_var rfl h0) (ep_add (ep_v rfl) (ep_v rfl)) (by omega) (by omega)) (ep_kn (n := n) (ep_var rfl h0) (ep_v rfl) rfl (by omega)))
        (ep_sub (ep_kn (n := n + m + 2) (ep_var rfl h0) (ep_add (ep_add (ep_v rfl) (ep_v rfl)) ep_c) (by omega) (by omega)) (ep_kn (n := n + 1) (ep_var rfl h0) (ep_add (ep_v rfl) ep_c) (by omega) (by omega))) fun v w u G2 e pv pw pu => ?_
      have pw : w = .int _ := pw
      have pu : u = .int _ := pu
      subst pw pu
      have q2 := up e h0
      have x2 := up e h3
      -- the rising part
      refine es_seq (N1 := fun σ G => ∃ v, σ = [some v0, some (.int n), some (.int ((m + 1 : Nat) : Int)), some v3, none, none, none, some v, some (.int (kn ks (n + m + 1) - kn ks n)), some (.int (kn ks (n + m + 2) - kn ks (n + 1))), none] ∧ IsF K (if 0 < kn ks (n + m + 1) - kn ks n then ((x - kn ks n : Int) : Rat) / ((kn ks (n + m + 1) - kn ks n : Int) : Rat) * bmp ks x m n else 0) v G) ?_ ?_
      · refine es_if (et_test (ep_gt (ep_v rfl) ep_c)) (fun h => ?_) fun h => ?_
        · have h := of_decide_eq_true h
          refine es_asg (ep_call2 _ _ (ep_call2 (P1 := IsI) (P2 := IsI) (x - kn ks n) (kn ks (n + m + 1) - kn ks n) (ep_sub (ep_xn (ep_var rfl x2)) (ep_mul1 (ep_kn (n := n) (ep_var rfl q2) (ep_v rfl) rfl (by omega)) (ep_xd (ep_var rfl x2)))) (ep_mul1 (ep_v rfl) (ep_xd (ep_var rfl x2))) (by omega)) (ep_call4 (P2 := IsI) (P3 := IsI) ks (n : Int) (m : Int) x (ep_var rfl q2) (ep_v rfl) ((ep_sub (ep_v rfl) ep_c).is (by congr 1; omega)) (ep_var rfl x2) ⟨⟨i0, by omega, by omega, by omega, lo, x0⟩, by omega⟩) ⟨fit20 (sz_part (by omega) (by omega) h (by omega)) (by decide), bx n⟩) fun v G3 e3 pv => ⟨v, rfl, ?_⟩
          rw [if_pos h]
          exact pv
        · have h := of_decide_eq_false h
          refine es_next fun G3 e3 => ⟨v, rfl, ?_⟩
          rw [if_neg h]
          exact up e3 pv
      · rintro σ2 G3 e3 ⟨v, rfl, pv⟩
        have q3 := up e3 q2
        have x3 := up e3 x2
        have fA : FitF (if 0 < kn ks (n + m + 1) - kn ks n then ((x - kn ks n : Int) : Rat) / ((kn ks (n + m + 1) - kn ks n : Int) : Rat) * bmp ks x m n else 0) := by
          split
          · rename_i h
            exact fit20 (Sz.mul (sz_part (by omega) (by omega) h (by omega)) (bmp_sz lo x0 m n)) (by have := bb_le (g := m) (by omega); omega)
          · exact fit20 (sz_zero (b := 1) (by decide)) (by decide)
        have eb : bmp ks x (m + 1) n = (if 0 < kn ks (n + m + 1) - kn ks n then ((x - kn ks n : Int) : Rat) / ((kn ks (n + m + 1) - kn ks n : Int) : Rat) * bmp ks x m n else 0) + (if 0 < kn ks (n + m + 2) - kn ks (n + 1) then ((kn ks (n + m + 2) - x : Int) : Rat) / ((kn ks (n + m + 2) - kn ks (n + 1) : Int) : Rat) * bmp ks x m (n + 1) else 0) := by
          rw [bmp]
        rw [eb]
        generalize (if 0 < kn ks (n + m + 1) - kn ks n then ((x - kn ks n : Int) : Rat) / ((kn ks (n + m + 1) - kn ks n : Int) : Rat) * bmp ks x m n else 0) = A at *
        refine sq_if (et_test (ep_gt (ep_v rfl) ep_c)) (fun h => ?_) fun h => sq_next ?_
        · have h := of_decide_eq_true h
          rw [if_pos h]
          have szp := sz_part (a := kn ks (n + m + 2) - x) (b := kn ks (n + m + 2) - kn ks (n + 1)) (by omega) (by omega) h (by omega)
          refine es_seq (N1 := fun σ G => ∃ v, σ[7]? = some (some v) ∧ IsF K (A + ((kn ks (n + m + 2) - x : Int) : Rat) / ((kn ks (n + m + 2) - kn ks (n + 1) : Int) : Rat) * bmp ks x m (n + 1)) v G) ?_ ?_
          · refine sq_asg (ep_call2 (P1 := IsI) (P2 := IsI) (kn ks (n + m + 2) - x) (kn ks (n + m + 2) - kn ks (n + 1)) (ep_sub (ep_mul1 (ep_kn (n := n + m + 2) (ep_var rfl q3) (ep_add (ep_add (ep_v rfl) (ep_v rfl)) ep_c) (by omega) (by omega)) (ep_xd (ep_var rfl x3))) (ep_xn (ep_var rfl x3))) (ep_mul1 (ep_v rfl) (ep_xd (ep_var rfl x3))) (by omega)) fun v5 G5 e5 pv5 => ?_
            have q5 := up e5 q3
            have x5 := up e5 x3
            have p5 := up e5 pv
            refine es_asg (ep_call2 _ _ (ep_var rfl p5) (ep_call2 _ _ (ep_var rfl pv5) (ep_call4 (P2 := IsI) (P3 := IsI) ks ((n + 1 : Nat) : Int) (m : Int) x (ep_var rfl q5) ((ep_add (ep_v rfl) ep_c).is (by congr 1)) ((ep_sub (ep_v rfl) ep_c).is (by congr 1; omega)) (ep_var rfl x5) ⟨⟨by omega, by omega, by omega, by omega, lo, x0⟩, by omega⟩) ⟨fit20 szp (by decide), bx (n + 1)⟩) ⟨fA, fit20 (Sz.mul szp (bmp_sz lo x0 m (n + 1))) (by have := bb_le (g := m) (by omega); omega)⟩) fun v6 G6 e6 pv6 => ⟨v6, rfl, pv6⟩
          · rintro σ5 G5 e5 ⟨v5, h5, p5⟩
            exact es_ret (ep_var h5 p5)
        · have h := of_decide_eq_false h
          rw [if_neg h, Rat.add_zero]
          exact es_ret (ep_var rfl pv)
theorem cal__law_row (D : Dd K mg "_law_row" st__law_row) (T : Txt P K mg base) (c1 : C8.Cal P w K mg base 42 "_law_bump" (sp__law_bump K 5) []) : C8.Cal P w K mg base 43 "_law_row" (sp__law_row K) [] :=
  cal3 D sc__law_row (fun _ _ _ _ _ _ us hl => match us, hl with | [_, _, _], _ => rfl) (ps__law_row T c1) fun G g ks x v0 v1 v2 h0 h1 h2 hc => by
    have h0' : v0 = .int g := h0
    subst h0'
    have hn := nOf_le hc.1
    have hl := nOf_eq hc.1
    have hg := hc.1.g0
    have hl : (ks.length : Int) - g - 1 = (nOf (g, ks) : Nat) := hl
    have hg : 0 ≤ g := hg
    have h := ep_lm (R := IsF K) (te := tCall (sp__law_bump K 5) [] E0 (tCons (tVar 1) (tCons (tVar 3) (tCons (tVar 0) (tCons (tVar 2) tNil))))) (g := gName 3) (vs := [3]) (σ := start ["_law_grade", "_law_bolts", "_law_x", "_law_k"] [.int g, v1, v2]) (fun i : Int => bmp ks x g.toNat i.toNat) (it_rng1 (n := (nOf (g, ks) : Nat)) ((ep_sub (ep_sub (ep_len (Ep.sT (ep_var (P := IsT K IsI ks) (i := 1) rfl h1))) (ep_v (i := 0) rfl)) ep_c).is (by rw [hl])) (by omega) (by omega)) (by rw [rng_len]; omega) ?_
    · have e : (rng 0 (nOf (g, ks) : Int).toNat).map (fun i : Int => bmp ks x g.toNat i.toNat) = rowOf (g, ks) x := by
        unfold rng rowOf
        rw [List.map_map]
        refine List.map_congr_left fun i _ => ?_
        show bmp _ _ _ (0 + (i : Int)).toNat = _
        rw [Int.zero_add]
        rfl
      rw [e] at h
      exact es_ret h
    · rintro i y v G2 hi s hv
      obtain ⟨hi1, hi2⟩ := rng_get hi
      have e : y = (i : Nat) := by rw [hi2, Int.zero_add]
      subst e
      have g4 : g ≤ 4 := hc.1.g4
      exact ⟨_, gb_name, rfl, ep_call4 (P2 := IsI) (P3 := IsI) ks _ g x (ep_var rfl (up s h1)) (ep_var rfl hv) (ep_v rfl) (ep_var rfl (up s h2)) ⟨⟨by omega, hg, g4, by omega, hc.1.lo, hc.2⟩, by omega⟩⟩
theorem cal__law_made (D : Dd K mg "_law_made" st__law_made) (T : Txt P K mg base) (c1 : C8.Mak P w K mg base 4 "Frame" (He.ga K "Frame") (sp_Frame K) []) : C8.Cal P w K mg base 6 "_law_made" (sp__law_made K) [] :=
  cal1 D sc__law_made (fun _ _ _ _ _ _ us hl => match us, hl with | [_], _ => rfl) (ps__law_made T c1) fun G f v0 h0 hc =>
    es_ret (ep_make2 (P1 := IsI) (P2 := IsT K IsI) (B := fun g ks => IsP K IsI (IsT K IsI) (g, ks)) f.1 f.2 (ep_dr0 (ep_var rfl h0)) (ep_dr1 (ep_var rfl h0)) hc)
theorem cal__law_hills (D : Dd K mg "_law_hills" st__law_hills) (T : Txt P K mg base) : C8.Cal P w K mg base 1 "_law_hills" (sp__law_hills K) [] :=
  cal1 D sc__law_hills (fun _ _ _ _ _ _ us hl => match us, hl with | [_], _ => rfl) (ps__law_hills T) fun G f v0 h0 hc =>
    es_ret ((ep_sub (ep_sub (ep_len (Ep.sT (ep_dr1 (ep_var rfl h0)))) (ep_dr0 (f := f) (ep_var rfl h0))) ep_c).is (by rw [nOf_eq hc]))
theorem cal__law_grid (D : Dd K mg "_law_grid" st__law_grid) (T : Txt P K mg base) (c1 : C8.Cal P w K mg base 43 "_law_row" (sp__law_row K) []) : C8.Cal P w K mg base 44 "_law_grid" (sp__law_grid K) [] :=
  cal2 D sc__law_grid (fun _ _ _ _ _ _ us hl => match us, hl with | [_, _], _ => rfl) (ps__law_grid T c1) fun G f xs v0 v1 h0 h1 hc =>
    es_ret (ep_lm (F := IsI) (rowOf f) (it_tup (ep_var rfl h1)) hc.2.2 fun i x v G2 hi s hv => ⟨_, gb_name, rfl, ep_call3 (P1 := IsI) f.1 f.2 x (ep_dr0 (ep_var rfl (up s h0))) (ep_dr1 (ep_var rfl (up s h0))) (ep_int1q (ep_var rfl hv)) ⟨hc.1, hc.2.1 x (List.mem_of_getElem? hi)⟩⟩)
theorem cal__law_spread (D : Dd K mg "_law_spread" st__law_spread) (T : Txt P K mg base) (c1 : C8.Cal P w K mg base 36 "_law_dot" (sp__law_dot K) []) : C8.Cal P w K mg base 37 "_law_spread" (sp__law_spread K) [] :=
  cal2 D sc__law_spread (fun _ _ _ _ _ _ us hl => match us, hl with | [_, _], _ => rfl) (ps__law_spread T c1) fun G c r v0 v1 h0 h1 hc => es_ret (ep_call2 c r (ep_var rfl h0) (Ep.sL (ep_var rfl h1)) hc)
theorem cal__law_gaps (D : Dd K mg "_law_gaps" st__law_gaps) (T : Txt P K mg base) (c1 : C8.Cal P w K mg base 35 "_law_less" (sp__law_less K) []) (c2 : C8.Cal P w K mg base 37 "_law_spread" (sp__law_spread K) []) : C8.Cal P w K mg base 38 "_law_gaps" (sp__law_gaps K) [] :=
  cal3 D sc__law_gaps (fun _ _ _ _ _ _ us hl => match us, hl with | [_, _, _], _ => rfl) (ps__law_gaps T c1 c2) fun G c rows ys v0 v1 v2 h0 h1 h2 hc => by
    have h := ep_lm (R := IsF K) (te := tCall (sp__law_less K) [] E0 (tCons (tCall (sp__law_spread K) [] E0 (tCons (tVar 0) (tCons (tVar 3) tNil))) (tCons (tTup (tCons (tVar 4) (tCons (tC (.int 1)) tNil))) tNil))) (g := gTup K 2 (gCons (gName 3) (gCons (gName 4) gNil))) (vs := [3, 4]) (σ := start ["_law_amounts_here", "_law_grid_here", "_law_levels_here", "_law_row_here", "_law_level"] [v0, v1, v2]) (G := G) (fun p : List Rat × Int => gdot c p.1 - (p.2 : Rat))
      (it_zip (K := K) (F := IsL (IsF K)) (F2 := IsI) (Ep.sL (ep_var (i := 1) rfl h1)) (Ep.sT (ep_var (i := 2) rfl h2))) (by rw [List.length_zip]; exact Nat.le_trans (Nat.min_le_left _ _) hc.len) fun i ⟨r, y⟩ v G4 hi s4 ⟨t, a, b, e, k1, k2, k3⟩ => by
        subst e
        have hz := List.getElem?_zip_eq_some.mp hi
        have hd := hc.dot r (List.mem_of_getElem? hz.1)
        have hy : FitF ((y : Int) : Rat) := hc.goal _ (by
          unfold goalsF
          exact List.mem_map.mpr ⟨y, List.mem_of_getElem? hz.2, rfl⟩)
        exact ⟨_, gb_pair k1, rfl, ep_call2 (gdot c r) ((y : Int) : Rat) (ep_call2 c r (ep_var (i := 0) rfl (up s4 h0)) (ep_var (i := 3) rfl k2) hd.1) (ep_int1q (ep_var (i := 4) rfl k3)) ⟨hd.2, hy⟩⟩
    have e : (rows.zip ys).map (fun p : List Rat × Int => gdot c p.1 - (p.2 : Rat)) = gapsL c rows ys := by
      unfold gapsL goalsF
      rw [List.zip_map_right, List.map_map]
      rfl
    rw [e] at h
    exact es_ret h
theorem cal__law_squares (D : Dd K mg "_law_squares" st__law_squares) (T : Txt P K mg base) (c1 : C8.Cal P w K mg base 36 "_law_dot" (sp__law_dot K) []) : C8.Cal P w K mg base 37 "_law_squares" (sp__law_squares K) [] :=
  cal1 D sc__law_squares (fun _ _ _ _ _ _ us hl => match us, hl with | [_], _ => rfl) (ps__law_squares T c1) fun G gs v0 h0 hc => es_ret (ep_call2 gs gs (Ep.sL (ep_var rfl h0)) (Ep.sL (ep_var rfl h0)) hc)
end
end Bt
/-! ==== W15 ==== -/
set_option Elab.async false
set_option linter.all false
set_option maxRecDepth 100000
set_option maxHeartbeats 2000000
/-! The law's own rank: scaled, rank. -/
namespace Bt
open PySem PySem.Spec PyProof.Rows L2 SW
structure ScOk (row : List Rat) : Prop where
  len : row.length ≤ 100
  fit : ∀ q ∈ row, FitF q
  lcm : ∀ k, Fit (lcmOf (row.take k) : Nat)
structure RkOk (L : List (List Int)) (n b : Nat) : Prop where
  rows : ∀ row ∈ L, row.length = n ∧ ∀ z ∈ row, z.natAbs < 2 ^ b
  bits : 2 * it L.length b ≤ big
  few : L.length ≤ 100 ∧ n ≤ 100
def sp__law_scaled (K : PySem.W.Frag) : Sp := sp1 (IsL (IsL (IsF K))) (fun rows => rows.length ≤ 100 ∧ ∀ row ∈ rows, ScOk row) fun rows => IsL (IsL IsI) (rows.map scaleOf)
def sp__law_rank (K : PySem.W.Frag) : Sp := sp1 (IsL (IsL (IsF K))) (fun rows => (rows.length ≤ 100 ∧ ∀ row ∈ rows, ScOk row) ∧ ∃ n b, RkOk (rows.map scaleOf) n b) fun rows => IsI (rankL (rows.map scaleOf) : Nat)
abbrev st__law_scaled := top 96
theorem sc__law_scaled : FnScope ["_law_rows", "_law_found", "_law_row_here", "_law_below", "_law_part_here"] ["_law_rows"] (defScope st__law_scaled) := ⟨rfl, rfl, rfl, by decide +kernel, rfl, by decide +kernel, by decide +kernel⟩
def t__law_scaled (K : PySem.W.Frag) : TS := (tSeq (tAsg (tLst tNil) (gName 1))
    (tSeq (tFor (iList K (tVar 0)) (gName 2)
    (tSeq (tAsg (tC (.int 1)) (gName 3))
    (tSeq (tFor (iList K (tVar 2)) (gName 4)
    (tAsg (tOp rMulI (tOp rDivP (tVar 3) (tCall (sp__law_gcd K) [] E0 (tCons (tVar 3) (tCons (tOp (rIxT K) (tVar 4) (tC (.int 1))) tNil)))) (tOp (rIxT K) (tVar 4) (tC (.int 1)))) (gName 3)))
    (tDrop (tBM K "list" rAppend (tVar 1) (tCons (tLc (iList K (tVar 2)) (gName 4) tYes (tOp rMulI (tOp (rIxT K) (tVar 4) (tC (.int 0))) (tOp rDivP (tVar 3) (tOp (rIxT K) (tVar 4) (tC (.int 1))))) [4]) tNil))))))
    (tRet (tVar 1))))
theorem ps__law_scaled {P : Program} {w : World} {K : PySem.W.Frag} {mg : Str → Option Value} {base : Heap} (T : Txt P K mg base) (c__law_gcd : C8.Cal P w K mg base 1 "_law_gcd" (sp__law_gcd K) []) : Hps P w K mg base 33 "_law_scaled" st__law_scaled ["_law_rows", "_law_found", "_law_row_here", "_law_below", "_law_part_here"] (t__law_scaled K) := fun f cdv A outer s H E hr =>
  (pss_cons (ps_set (i := 1) sc__law_scaled.nd rfl (Or.inl rfl) (pe_lst pa_nil))
    (pss_cons (ps_for PassesOwn.never rfl (pi_list (pv 0)) (pg_name (i := 2) sc__law_scaled.nd rfl (Or.inl rfl))
    (pss_cons (ps_set (i := 3) sc__law_scaled.nd rfl (Or.inr rfl) pe_int)
    (pss_cons (ps_for PassesOwn.never rfl (pi_list (pv 2)) (pg_name (i := 4) sc__law_scaled.nd rfl (Or.inl rfl))
    (pss_one (ps_set (i := 3) sc__law_scaled.nd rfl (Or.inr rfl) (pe_op op_mulB (pe_op (op_fdivP T.seer T.tree rfl rfl rfl rfl rfl (hr.mono (by decide))) (pv 3) (C8.pe_c c__law_gcd hr (by decide) rfl (pa_cons (pv 3) (pa_cons (pe_ix ix_tup (pv 4) pe_int (fun _ _ => rfl)) pa_nil)))) (pe_ix ix_tup (pv 4) pe_int (fun _ _ => rfl))))))
    (pss_one (ps_expr (pe_bm PySem.F.plainAttrs_list PySem.F.slot_list_append PySem.F.type_list_append mt_append (pv 1) (pa_cons (pe_lc (own := [("_law_part_here", 4)]) (g := (gName 4)) (tt := tYes) rfl sc__law_scaled.nd (pi_list (pv 2)) (blkOk_by (by rfl)) (fun _ _ _ _ _ => (pg_name (i := 4) sc__law_scaled.nd rfl (Or.inl rfl))) (fun _ _ _ _ _ => pts_nil) (fun _ _ _ _ _ => (pe_op op_mulB (pe_ix ix_tup (pv 4) pe_int (fun _ _ => rfl)) (pe_op (op_fdivP T.seer T.tree rfl rfl rfl rfl rfl (hr.mono (by decide))) (pv 3) (pe_ix ix_tup (pv 4) pe_int (fun _ _ => rfl)))))) pa_nil)))))))
    (pss_one (ps_ret (pv 1)))))
abbrev st__law_rank := top 97
theorem sc__law_rank : FnScope ["_law_rows", "_law_left", "_law_found", "_law_lead", "_law_spots", "_law_rest_here", "_law_at", "_law_fresh", "_law_row_here", "_law_line", "_law_same", "_law_number_here", "_law_k", "_law_a", "_law_b"] ["_law_rows"] (defScope st__law_rank) := ⟨rfl, rfl, rfl, by decide +kernel, rfl, by decide +kernel, by decide +kernel⟩
def t__law_rank (K : PySem.W.Frag) : TS := (tSeq (tPar 1 2 (tCons (tCall (sp__law_scaled K) [] E0 (tCons (tVar 0) tNil)) (tCons (tC (.int 0)) tNil)))
    (tSeq (tWhile (tTest (tOp (rNeD K) (tVar 1) (tLst tNil))) (tSeq (tAsg (tOp (rIxL K) (tVar 1) (tC (.int 0))) (gName 3))
    (tSeq (tAsg (tLc (iRng1 (tCons (tCB (rLen K) (tCons (tVar 3) tNil)) tNil)) (gName 12) (tTest (tOp rNe (tOp (rIxL K) (tVar 3) (tVar 12)) (tC (.int 0)))) (tVar 12) [12]) (gName 4))
    (tSeq (tAsg (tSl (rSlL K) (tVar 1) (tPart (tC (.int 1))) tNoPart) (gName 5))
    (tSeq (tIfS (tTest (tOp (rNeD K) (tVar 4) (tLst tNil))) (tSeq (tAsg (tTup (tCons (tOp rAddI (tVar 2) (tC (.int 1))) (tCons (tOp (rIxL K) (tVar 4) (tC (.int 0))) (tCons (tLst tNil) tNil)))) (gTup K 3 (gCons (gName 2) (gCons (gName 6) (gCons (gName 7) gNil)))))
    (tSeq (tFor (iList K (tVar 5)) (gName 8)
    (tSeq (tAsg (tLc (iZipX K (tCons (tVar 8) (tCons (tVar 3) tNil))) (gTup K 2 (gCons (gName 13) (gCons (gName 14) gNil))) tYes (tOp rSubI (tOp rMulI (tVar 13) (tOp (rIxL K) (tVar 3) (tVar 6))) (tOp rMulI (tVar 14) (tOp (rIxL K) (tVar 8) (tVar 6)))) [13, 14]) (gName 9))
    (tSeq (tAsg (tC (.int 0)) (gName 10))
    (tSeq (tFor (iList K (tVar 9)) (gName 11)
    (tAsg (tCall (sp__law_gcd K) [] E0 (tCons (tVar 10) (tCons (tVar 11) tNil))) (gName 10)))
    (tDrop (tBM K "list" rAppend (tVar 7) (tCons (tLc (iList K (tVar 9)) (gName 11) tYes (tOp rDivP (tVar 11) (tCB rMax2 (tCons (tC (.int 1)) (tCons (tVar 10) tNil)))) [11]) tNil)))))))
    (tAsg (tVar 7) (gName 5)))) tNext)
    (tAsg (tVar 5) (gName 1)))))))
    (tRet (tVar 2))))
theorem ps__law_rank {P : Program} {w : World} {K : PySem.W.Frag} {mg : Str → Option Value} {base : Heap} (T : Txt P K mg base) (c__law_scaled : C8.Cal P w K mg base 34 "_law_scaled" (sp__law_scaled K) []) (c__law_gcd : C8.Cal P w K mg base 1 "_law_gcd" (sp__law_gcd K) []) : Hps P w K mg base 34 "_law_rank" st__law_rank ["_law_rows", "_law_left", "_law_found", "_law_lead", "_law_spots", "_law_rest_here", "_law_at", "_law_fresh", "_law_row_here", "_law_line", "_law_same", "_law_number_here", "_law_k", "_law_a", "_law_b"] (t__law_rank K) := fun f cdv A outer s H E hr =>
  (pss_cons (ps_par (i := 1) (j := 2) rfl sc__law_rank.nd rfl rfl (by decide) rfl rfl (pa_cons (C8.pe_c c__law_scaled hr (by decide) rfl (pa_cons (pv 0) pa_nil)) (pa_cons pe_int pa_nil)) (by rfl))
    (pss_cons (ps_while PassesOwn.never (pt_cmpR (op_neD hr.units) (pv 1) (pe_lst pa_nil) (nomark _)) (pss_cons (ps_set (i := 3) sc__law_rank.nd rfl (Or.inr rfl) (pe_ix ix_list (pv 1) pe_int (fun _ _ => rfl)))
    (pss_cons (ps_setLc (i := 4) (own := [("_law_k", 12)]) (g := (gName 12)) (tt := (tTest (tOp rNe (tOp (rIxL K) (tVar 3) (tVar 12)) (tC (.int 0))))) rfl sc__law_rank.nd rfl rfl (sw_true rfl rfl rfl (by decide +kernel)) (pi_range1 rfl T.f_range (pa_cons (pe_callB call_len (by rfl) T.f_len (by decide +kernel) (pa_cons (pv 3) pa_nil)) pa_nil)) (blkOk_by (by rfl)) (fun _ _ _ _ _ => (pg_name (i := 12) sc__law_rank.nd rfl (Or.inl rfl))) (fun _ _ _ _ _ => (pts_one (pt_cmpR op_ne (pe_ix ix_list (pv 3) (pv 12) (fun _ _ => rfl)) pe_int (nomark _)))) (fun _ _ _ _ _ => (pv 12)))
    (pss_cons (ps_set (i := 5) sc__law_rank.nd rfl (Or.inl rfl) (pe_slice sl_list (pv 1) (po_some pe_int) po_none))
    (pss_cons (ps_if (pt_cmpR (op_neD hr.units) (pv 4) (pe_lst pa_nil) (nomark _)) (pss_cons (ps_asg (pe_tup (pa_cons (pe_op op_add (pv 2) pe_int) (pa_cons (pe_ix ix_list (pv 4) pe_int (fun _ _ => rfl)) (pa_cons (pe_lst pa_nil) pa_nil)))) (pg_tup rfl (pgs_cons (pg_name (i := 2) sc__law_rank.nd rfl (Or.inl rfl)) (pgs_cons (pg_name (i := 6) sc__law_rank.nd rfl (Or.inr rfl)) (pgs_cons (pg_name (i := 7) sc__law_rank.nd rfl (Or.inl rfl)) pgs_nil)))))
    (pss_cons (ps_for PassesOwn.never rfl (pi_list (pv 5)) (pg_name (i := 8) sc__law_rank.nd rfl (Or.inr rfl))
    (pss_cons (ps_setLc (i := 9) (own := [("_law_a", 13), ("_law_b", 14)]) (g := (gTup K 2 (gCons (gName 13) (gCons (gName 14) gNil)))) (tt := tYes) rfl sc__law_rank.nd rfl rfl (sw_true rfl rfl rfl (by decide +kernel)) (pi_zipX rfl T.f_zip (pa_cons (pv 8) (pa_cons (pv 3) pa_nil))) (blkOk_by (by rfl)) (fun _ _ _ _ _ => (pg_tup rfl (pgs_cons (pg_name (i := 13) sc__law_rank.nd rfl (Or.inl rfl)) (pgs_cons (pg_name (i := 14) sc__law_rank.nd rfl (Or.inl rfl)) pgs_nil)))) (fun _ _ _ _ _ => pts_nil) (fun _ _ _ _ _ => (pe_op op_sub (pe_op op_mulB (pv 13) (pe_ix ix_list (pv 3) (pv 6) (fun _ _ => rfl))) (pe_op op_mulB (pv 14) (pe_ix ix_list (pv 8) (pv 6) (fun _ _ => rfl))))))
    (pss_cons (ps_set (i := 10) sc__law_rank.nd rfl (Or.inr rfl) pe_int)
    (pss_cons (ps_for PassesOwn.never rfl (pi_list (pv 9)) (pg_name (i := 11) sc__law_rank.nd rfl (Or.inl rfl))
    (pss_one (ps_set (i := 10) sc__law_rank.nd rfl (Or.inr rfl) (C8.pe_c c__law_gcd hr (by decide) rfl (pa_cons (pv 10) (pa_cons (pv 11) pa_nil))))))
    (pss_one (ps_expr (pe_bm PySem.F.plainAttrs_list PySem.F.slot_list_append PySem.F.type_list_append mt_append (pv 7) (pa_cons (pe_lc (own := [("_law_number_here", 11)]) (g := (gName 11)) (tt := tYes) rfl sc__law_rank.nd (pi_list (pv 9)) (blkOk_by (by rfl)) (fun _ _ _ _ _ => (pg_name (i := 11) sc__law_rank.nd rfl (Or.inl rfl))) (fun _ _ _ _ _ => pts_nil) (fun _ _ _ _ _ => (pe_op (op_fdivP T.seer T.tree rfl rfl rfl rfl rfl (hr.mono (by decide))) (pv 11) (pe_callB (call_max2 rfl) (by rfl) T.f_max (by decide +kernel) (pa_cons pe_int (pa_cons (pv 10) pa_nil)))))) pa_nil))))))))
    (pss_one (ps_set (i := 5) sc__law_rank.nd rfl (Or.inl rfl) (pv 7))))) pss_nil)
    (pss_one (ps_set (i := 1) sc__law_rank.nd rfl (Or.inl rfl) (pv 5))))))))
    (pss_one (ps_ret (pv 2)))))
section
variable {P : Program} {w : World} {K : PySem.W.Frag} {mg : Str → Option Value} {base : Heap}
def NoV : VP := fun _ _ => False
theorem h_es {t u : TS} {D : Ends} {σ : L2.St} {G H : Hp} {R' : VP} {N : NP} (h : Es t σ G R' N) (s : Same G H) (hr : ∀ v G2 H2, To G H G2 H2 → R' v G2 → D.rt v H2) (k : ∀ σ2 G2 H2, To G H G2 H2 → N σ2 G2 → u D σ2 H2) : tSeq t u D σ H := h G H { D with nx := u D } (Same.refl G) s hr k
/-- our own list takes one more -/
theorem h_app {te : TE} {α : Type} {R' : α → VP} [∀ x, Stays (R' x)] {D : Ends} {σ : L2.St} {G0 H0 G H : Hp} {p : Addr} {M : List α} {y : α} {j : Nat} (o : Ow1 R' G0 H0 p M G H) (hσ : σ[j]? = some (some (.ref p))) (he : Ep te σ G (R' y)) (hl : M.length ≤ 900) (k : ∀ G2 H2, Same G G2 → Ow1 R' G0 H0 p (M ++ [y]) G2 H2 → D.nx σ H2) :
    tDrop (tBM K "list" rAppend (tVar j) (tCons te tNil)) D σ H := by
  obtain ⟨vs, h1, h2⟩ := o.items
  refine ⟨_, hσ, .inl ⟨rfl, _, SqL.of h1⟩, he G H (Same.refl _) o.t.in_ _ fun v G2 H2 t2 pv => ⟨p, vs, v, rfl, rfl, t2.big _ _ h1, small1000 (by rw [h2.len]; omega), ?_⟩⟩
  exact k G2 _ t2.up ((o.grow t2).set (All2.snoc (All2.up t2.up h2) pv))
theorem h_gn {i : Nat} {v : V} {σ : L2.St} {H : Hp} {Q : NP} (h : Q (σ.set i (some v)) H) : gName i v σ H Q := h
theorem lcm_snoc (l : List Rat) (q : Rat) : lcmOf (l ++ [q]) = lcmOf l / Nat.gcd (lcmOf l) q.den * q.den := by simp [lcmOf, List.foldl_append]
theorem fit_le {a b : Nat} (h : Fit (b : Nat)) (e : a ≤ b) : Fit (a : Nat) := by
  unfold Fit at *
  rw [Int.natAbs_natCast] at *
  omega
theorem cal__law_scaled (D : Dd K mg "_law_scaled" st__law_scaled) (T : Txt P K mg base) (c1 : C8.Cal P w K mg base 1 "_law_gcd" (sp__law_gcd K) []) : C8.Cal P w K mg base 34 "_law_scaled" (sp__law_scaled K) [] :=
  cal1 D sc__law_scaled (fun _ _ _ _ _ _ us hl => match us, hl with | [_], _ => rfl) (ps__law_scaled T c1) fun G rows v0 h0 hc => by
    intro G1 H1 D s sg hr hnx
    unfold t__law_scaled
    refine h_asgN (ep_nilo (R := IsL IsI) (G := G1)) sg fun v1 G2 H2 t2 p2 => ?_
    obtain ⟨p, G3, rfl, o⟩ := OwL.own t2 p2
    refine h_seq (h_for (it_list (K := K) (F := IsL (IsF K)) (ep_var (i := 0) rfl (up (s.trans o.t.up) h0))) o.t.in_ (fun k σ G H => ∃ a2 a3 a4, σ = [some v0, some (.ref p), a2, a3, a4] ∧ Ow1 (IsL IsI) G1 H1 p ((rows.take k).map scaleOf) G H) (fun G4 H4 t4 => ⟨none, none, none, rfl, o.grow t4⟩) (fun i σ1 G1 H1 ⟨_, _, _, _, o1⟩ => o1.t.in_) ?_ ?_)
    · rintro k row v σ1 G4 H4 G5 H5 hk ⟨a2, a3, a4, rfl, o4⟩ t5 hrow
      have hs := hc.2 row (List.mem_of_getElem? hk)
      have hkl : k < rows.length := (List.getElem?_eq_some_iff.mp hk).1
      have o5 := o4.grow t5
      refine h_gn ?_
      refine h_asgN (ep_c (v := .int 1)) o5.t.in_ fun v3 G5' H5' t5' p3 => ?_
      have p3 : v3 = .int 1 := p3
      subst p3
      have o5 := o5.grow t5'
      have hrow := up t5'.up hrow
      have t5 := t5.trans t5'
      show tSeq (tFor _ _ _) _ _ [some v0, some (.ref p), some v, some (.int 1), a4] H5'
      have hin : Es (tFor (iList K (tVar 2)) (gName 4) (tAsg (tOp rMulI (tOp rDivP (tVar 3) (tCall (sp__law_gcd K) [] E0 (tCons (tVar 3) (tCons (tOp (rIxT K) (tVar 4) (tC (.int 1))) tNil)))) (tOp (rIxT K) (tVar 4) (tC (.int 1)))) (gName 3))) [some v0, some (.ref p), some v, some (.int 1), a4] G5' NoV (fun σ _ => ∃ a4, σ = [some v0, some (.ref p), some v, some (.int (lcmOf row : Nat)), a4]) := by
        refine es_for (it_list (K := K) (F := IsF K) (ep_var (i := 2) rfl hrow)) (fun k σ _ => ∃ a4, σ = [some v0, some (.ref p), some v, some (.int (lcmOf (row.take k) : Nat)), a4]) ⟨a4, rfl⟩ (fun _ _ _ _ _ h => h) ?_ ?_
        · rintro j q u σ2 G6 hj s6 ⟨b4, rfl⟩ hq
          have fq := hs.fit q (List.mem_of_getElem? hj)
          have fl := hs.lcm j
          have dp := q.den_pos
          have gp : 0 < Nat.gcd (lcmOf (row.take j)) q.den := Nat.gcd_pos_of_pos_right _ dp
          refine ⟨_, gb_name, es_asg (P := IsI ((lcmOf (row.take (j + 1)) : Nat) : Int)) ?_ fun v3 G7 s7 p7 => ⟨some u, by
            have p7 : v3 = .int _ := p7
            rw [p7] <;> rfl⟩⟩
          have e := ep_mul (ep_divP (ep_v (σ := [some v0, some (.ref p), some v, some (.int (lcmOf (row.take j) : Nat)), some u]) (G := G6) (i := 3) rfl) (ep_call2 (E := E0) (P1 := IsI) (P2 := IsI) (C := fun _ _ => True) (B := fun a b => IsI (Int.gcd a b : Int)) ((lcmOf (row.take j) : Nat) : Int) (q.den : Int) (ep_v (i := 3) rfl) (ep_den (K := K) (ep_var (i := 4) rfl hq)) trivial) (by show (0 : Int) < ((Nat.gcd (lcmOf (row.take j)) q.den : Nat) : Int); omega)) (ep_den (K := K) (ep_var (i := 4) rfl hq)) (fit_mul (by
            show Fit (((lcmOf (row.take j) : Nat) : Int) / ((Nat.gcd (lcmOf (row.take j)) q.den : Nat) : Int))
            rw [← Int.natCast_ediv]
            exact fit_le fl (Nat.div_le_self _ _)) fq.2)
          refine e.is ?_
          rw [take_snoc hj, lcm_snoc]
          show V.int (((lcmOf (row.take j) : Nat) : Int) / ((Nat.gcd (lcmOf (row.take j)) q.den : Nat) : Int) * (q.den : Int)) = _
          rw [← Int.natCast_ediv, ← Int.natCast_mul]
        · rintro σ2 G6 s6 ⟨b4, rfl⟩
          rw [List.take_length]
          exact ⟨b4, rfl⟩
      refine h_es hin o5.t.in_ (fun _ _ _ _ z => z.elim) fun σ2 G6 H6 t6 ⟨b4, e6⟩ => ?_
      subst e6
      have o6 := o5.grow t6
      have hrow6 := up t6.up hrow
      refine h_app (K := K) (j := 1) o6 rfl (y := scaleOf row) (ep_lm (R := IsI) (fun q : Rat => q.num * (((lcmOf row) / q.den : Nat) : Int)) (it_list (K := K) (F := IsF K) (ep_var (i := 2) rfl hrow6)) (by have := hs.len; omega) fun j q u G7 hj s7 hu => ⟨_, gb_name, rfl, ?_⟩) (by rw [List.length_map, List.length_take]; have := hc.1; omega) fun G7 H7 s7 o7 => ⟨G7, (t5.up.trans t6.up).trans s7, some v, some (.int (lcmOf row : Nat)), b4, rfl, ?_⟩
      · have fq := hs.fit q (List.mem_of_getElem? hj)
        have fl : Fit (lcmOf row : Nat) := by
          have := hs.lcm row.length
          rw [List.take_length] at this
          exact this
        have dp := q.den_pos
        have e := ep_mul (ep_num (K := K) (ep_var (σ := [some v0, some (.ref p), some v, some (.int (lcmOf row : Nat)), some u]) (i := 4) rfl hu)) (ep_divP (ep_v (i := 3) rfl) (ep_den (K := K) (ep_var (i := 4) rfl hu)) (by omega)) (fit_mul fq.1 (by
          rw [← Int.natCast_ediv]
          exact fit_le fl (Nat.div_le_self _ _)))
        refine e.is ?_
        rw [← Int.natCast_ediv]
      · rw [take_snoc hk, List.map_append]
        exact o7
    · rintro σ1 G4 H4 ⟨a2, a3, a4, rfl, o4⟩
      rw [List.take_length] at o4
      obtain ⟨G', t', pv⟩ := o4.tell
      exact ⟨_, rfl, hr _ G' H4 t' pv⟩
theorem spots_head : ∀ l : List Int, ((List.range l.length).filter fun i => !decide (l.getD i 0 = 0)).head? = spotOf l
  | [] => rfl
  | a :: l => by
    rw [List.length_cons, List.range_succ_eq_map, List.filter_cons]
    unfold spotOf
    by_cases h : a = 0
    · subst h
      rw [if_neg (by simp), if_neg (by simp), List.filter_map, List.head?_map]
      have e : ((fun i => !decide (((0 : Int) :: l).getD i 0 = 0)) ∘ Nat.succ) = fun i => !decide (l.getD i 0 = 0) := by
        funext i
        simp
      rw [e, spots_head l]
    · rw [if_pos (by simp [h]), if_pos h]
      rfl
theorem spots_rng (l : List Int) : ((rng 0 l.length).filter fun i : Int => !decide (l.getD i.toNat 0 = 0)).map (fun i => i) = stI ((List.range l.length).filter fun i => !decide (l.getD i 0 = 0)) := by
  unfold rng stI
  rw [List.map_id', List.filter_map]
  have : ((fun i : Int => !decide (l.getD i.toNat 0 = 0)) ∘ fun i : Nat => (0 : Int) + (i : Nat)) = fun i : Nat => !decide (l.getD i 0 = 0) := by
    funext i
    show (!decide (l.getD ((0 : Int) + (i : Nat)).toNat 0 = 0)) = _
    rw [Int.zero_add]
    rfl
  rw [this]
  refine List.map_congr_left fun i _ => Int.zero_add _
theorem spot_mem {l : List Int} {k : Nat} (h : spotOf l = some k) : k < l.length := by
  rw [← spots_head] at h
  have := List.mem_of_mem_head? (by rw [h]; rfl : k ∈ ((List.range l.length).filter fun i => !decide (l.getD i 0 = 0)).head?)
  have := (List.mem_filter.mp this).1
  exact List.mem_range.mp this
theorem cont_snoc (l : List Int) (z : Int) : contOf (l ++ [z]) = Nat.gcd (contOf l) z.natAbs := by simp [contOf, List.foldl_append]
theorem line_len {k n : Nat} {lead row : List Int} (h1 : lead.length = n) (h2 : row.length = n) : (lineOf k lead row).length = n := by
  unfold lineOf
  rw [List.length_zipWith, h1, h2, Nat.min_self]
theorem lineOf_zip {k : Nat} {lead row : List Int} : (row.zip lead).map (fun p : Int × Int => p.1 * lead.getD k 0 - p.2 * row.getD k 0) = lineOf k lead row := by
  unfold lineOf
  rw [List.zip_eq_zipWith, List.map_zipWith]
theorem getD_lt {l : List Int} {b k : Nat} (h : ∀ z ∈ l, z.natAbs < 2 ^ b) : (l.getD k 0).natAbs < 2 ^ b := by
  rw [List.getD_eq_getElem?_getD]
  cases e : l[k]? with
  | none =>
    have : 0 < 2 ^ b := Nat.pow_pos (by decide)
    exact this
  | some z => exact h z (List.mem_of_getElem? e)
theorem line_lt {k b : Nat} {lead row : List Int} (h1 : ∀ z ∈ lead, z.natAbs < 2 ^ b) (h2 : ∀ z ∈ row, z.natAbs < 2 ^ b) : ∀ z ∈ lineOf k lead row, z.natAbs < 2 ^ (2 * b + 1) := by
  intro z hz
  rw [← lineOf_zip] at hz
  obtain ⟨⟨x, y⟩, hp, rfl⟩ := List.mem_map.mp hz
  have hx := h2 x (List.of_mem_zip hp).1
  have hy := h1 y (List.of_mem_zip hp).2
  have a := mul_lt_pow hx (getD_lt (k := k) h1)
  have c := mul_lt_pow hy (getD_lt (k := k) h2)
  rw [← Int.natAbs_mul] at a c
  rw [show 2 * b + 1 = (b + b) + 1 by omega, Nat.pow_succ]
  show (x * lead.getD k 0 - y * row.getD k 0).natAbs < _
  omega
theorem thin_lt {l : List Int} {b : Nat} (h : ∀ z ∈ l, z.natAbs < 2 ^ b) : ∀ z ∈ thinOf l, z.natAbs < 2 ^ b := by
  intro z hz
  obtain ⟨x, hx, rfl⟩ := List.mem_map.mp hz
  exact Nat.lt_of_le_of_lt (Int.natAbs_ediv_le_natAbs _ _) (h x hx)
theorem RkOk.next {lead : List Int} {rest : List (List Int)} {n b k : Nat} (h : RkOk (lead :: rest) n b) : RkOk (rest.map fun row => thinOf (lineOf k lead row)) n (2 * b + 1) := by
  obtain ⟨hr, hb, hf⟩ := h
  have hl := hr lead List.mem_cons_self
  refine ⟨fun row hrow => ?_, ?_, by rw [List.length_map]; exact ⟨by have := hf.1; simp at this; omega, hf.2⟩⟩
  · obtain ⟨r, hrm, rfl⟩ := List.mem_map.mp hrow
    have h2 := hr r (List.mem_cons_of_mem _ hrm)
    exact ⟨by unfold thinOf; rw [List.length_map, line_len hl.1 h2.1], thin_lt (line_lt hl.2 h2.2)⟩
  · rw [List.length_map]
    have e : it (rest.length + 1) b = it rest.length (2 * b + 1) := by
      have key : ∀ c b, it (c + 1) b = it c (2 * b + 1) := fun c => by
        induction c with
        | zero => intro b; rfl
        | succ c ih => intro b; show 2 * it (c + 1) b + 1 = 2 * it c (2 * b + 1) + 1; rw [ih b]
      exact key _ _
    rw [← e]
    exact hb
theorem RkOk.skip {lead : List Int} {rest : List (List Int)} {n b : Nat} (h : RkOk (lead :: rest) n b) : RkOk rest n b :=
  ⟨fun row hr => h.rows row (List.mem_cons_of_mem _ hr), Nat.le_trans (Nat.mul_le_mul_left 2 (it_le b _)) h.bits, by have := h.few.1; simp at this; exact ⟨by omega, h.few.2⟩⟩
theorem it_ge (b : Nat) : ∀ c, b ≤ it c b
  | 0 => Nat.le_refl _
  | c + 1 => Nat.le_trans (it_ge b c) (it_le b c)
/-- the rows that are left, each less the lead -/
theorem h_fresh (T : Txt P K mg base) {G0 H0 G H : Hp} {D : Ends} {p : Addr} {lead : List Int} {rest : List (List Int)} {n b k : Nat} {v0 v1 v3 v4 v5 : V} {a8 a9 a10 a11 a12 a13 a14 : Option V} {c : Int} (hk : RkOk (lead :: rest) n b) (hs : spotOf lead = some k)
    (o : Ow1 (IsL IsI) G0 H0 p ([] : List (List Int)) G H) (h3 : IsL IsI lead v3 G) (h5 : IsL (IsL IsI) rest v5 G)
    (kk : ∀ (a8 a9 a10 a11 : Option V) G2 H2, Same G G2 → Ow1 (IsL IsI) G0 H0 p (rest.map fun row => thinOf (lineOf k lead row)) G2 H2 → D.nx [some v0, some v1, some (.int c), some v3, some v4, some v5, some (.int (k : Nat)), some (.ref p), a8, a9, a10, a11, a12, a13, a14] H2) :
    tFor (iList K (tVar 5)) (gName 8)
    (tSeq (tAsg (tLc (iZipX K (tCons (tVar 8) (tCons (tVar 3) tNil))) (gTup K 2 (gCons (gName 13) (gCons (gName 14) gNil))) tYes (tOp rSubI (tOp rMulI (tVar 13) (tOp (rIxL K) (tVar 3) (tVar 6))) (tOp rMulI (tVar 14) (tOp (rIxL K) (tVar 8) (tVar 6)))) [13, 14]) (gName 9))
    (tSeq (tAsg (tC (.int 0)) (gName 10))
    (tSeq (tFor (iList K (tVar 9)) (gName 11)
    (tAsg (tCall (sp__law_gcd K) [] E0 (tCons (tVar 10) (tCons (tVar 11) tNil))) (gName 10)))
    (tDrop (tBM K "list" rAppend (tVar 7) (tCons (tLc (iList K (tVar 9)) (gName 11) tYes (tOp rDivP (tVar 11) (tCB rMax2 (tCons (tC (.int 1)) (tCons (tVar 10) tNil)))) [11]) tNil)))))) D [some v0, some v1, some (.int c), some v3, some v4, some v5, some (.int (k : Nat)), some (.ref p), a8, a9, a10, a11, a12, a13, a14] H := by
  have hlead := hk.rows lead List.mem_cons_self
  have hkl := spot_mem hs
  have hfew := hk.few
  have hbig : 2 * b + 1 ≤ big := by
    have h1 := hk.bits
    have h2 : b ≤ it rest.length b := it_ge b _
    have h3 : it (lead :: rest).length b = 2 * it rest.length b + 1 := rfl
    omega
  have fitb : ∀ {z : Int}, z.natAbs < 2 ^ b → Fit z := fun h => fit_of h (by omega)
  refine h_for (it_list (K := K) (F := IsL IsI) (ep_var (i := 5) rfl h5)) o.t.in_ (fun j σ G' H' => ∃ a8 a9 a10 a11, σ = [some v0, some v1, some (.int c), some v3, some v4, some v5, some (.int (k : Nat)), some (.ref p), a8, a9, a10, a11, a12, a13, a14] ∧ Same G G' ∧ Ow1 (IsL IsI) G0 H0 p ((rest.take j).map fun row => thinOf (lineOf k lead row)) G' H') (fun G2 H2 t2 => ⟨a8, a9, a10, a11, rfl, t2.up, o.grow t2⟩) (fun i σ1 G1 H1 ⟨_, _, _, _, _, _, o1⟩ => o1.t.in_) ?_ ?_
  · rintro j row v σ1 G1 H1 G2 H2 hj ⟨b8, b9, b10, b11, rfl, s1, o1⟩ t2 hrow
    have hr := hk.rows row (List.mem_cons_of_mem _ (List.mem_of_getElem? hj))
    have o2 := o1.grow t2
    have q3 := up (s1.trans t2.up) h3
    refine h_gn ?_
    -- line
    have hline := ep_lm (R := IsI) (te := tOp rSubI (tOp rMulI (tVar 13) (tOp (rIxL K) (tVar 3) (tVar 6))) (tOp rMulI (tVar 14) (tOp (rIxL K) (tVar 8) (tVar 6)))) (g := gTup K 2 (gCons (gName 13) (gCons (gName 14) gNil))) (vs := [13, 14]) (σ := [some v0, some v1, some (.int c), some v3, some v4, some v5, some (.int (k : Nat)), some (.ref p), some v, b9, b10, b11, a12, a13, a14]) (G := G2) (fun p : Int × Int => p.1 * lead.getD k 0 - p.2 * row.getD k 0)
      (it_zip (K := K) (F := IsI) (F2 := IsI) (Ep.sL (ep_var (i := 8) rfl hrow)) (Ep.sL (ep_var (i := 3) rfl q3))) (by rw [List.length_zip]; have := hr.1; omega) fun i ⟨x, y⟩ u G3 hi s3 ⟨t, va, vb, e, k1, k2, k3⟩ => by
        subst e
        have hz := List.getElem?_zip_eq_some.mp hi
        have hx := hr.2 x (List.mem_of_getElem? hz.1)
        have hy := hlead.2 y (List.mem_of_getElem? hz.2)
        have el : lead[k]? = some (lead.getD k 0) := by
          rw [List.getD_eq_getElem?_getD, List.getElem?_eq_getElem hkl]
          rfl
        have er : row[k]? = some (row.getD k 0) := by
          have : k < row.length := by
            have := hr.1
            have := hlead.1
            omega
          rw [List.getD_eq_getElem?_getD, List.getElem?_eq_getElem this]
          rfl
        exact ⟨_, gb_pair k1, rfl, ep_sub (ep_mul (ep_var (i := 13) rfl k2) (ep_ixL (F := IsI) (ep_var (i := 3) rfl (up s3 q3)) (ep_v (i := 6) rfl) el) (fit_mul (fitb hx) (fitb (getD_lt hlead.2)))) (ep_mul (ep_var (i := 14) rfl k3) (ep_ixL (F := IsI) (ep_var (i := 8) rfl (up s3 hrow)) (ep_v (i := 6) rfl) er) (fit_mul (fitb hy) (fitb (getD_lt hr.2))))⟩
    rw [lineOf_zip] at hline
    refine h_asgN hline o2.t.in_ fun v9 G3 H3 t3 p9 => ?_
    have o3 := o2.grow t3
    refine h_asgN (ep_c (v := .int 0)) o3.t.in_ fun v10 G4 H4 t4 p10 => ?_
    have p10 : v10 = .int 0 := p10
    subst p10
    have o4 := o3.grow t4
    have p9 := up t4.up p9
    have hll : (lineOf k lead row).length = n := line_len hlead.1 hr.1
    have hin : Es (tFor (iList K (tVar 9)) (gName 11) (tAsg (tCall (sp__law_gcd K) [] E0 (tCons (tVar 10) (tCons (tVar 11) tNil))) (gName 10))) [some v0, some v1, some (.int c), some v3, some v4, some v5, some (.int (k : Nat)), some (.ref p), some v, some v9, some (.int 0), b11, a12, a13, a14] G4 NoV (fun σ _ => ∃ a11, σ = [some v0, some v1, some (.int c), some v3, some v4, some v5, some (.int (k : Nat)), some (.ref p), some v, some v9, some (.int (contOf (lineOf k lead row) : Nat)), a11, a12, a13, a14]) := by
      refine es_for (it_list (K := K) (F := IsI) (ep_var (i := 9) rfl p9)) (fun j σ _ => ∃ a11, σ = [some v0, some v1, some (.int c), some v3, some v4, some v5, some (.int (k : Nat)), some (.ref p), some v, some v9, some (.int (contOf ((lineOf k lead row).take j) : Nat)), a11, a12, a13, a14]) ⟨b11, rfl⟩ (fun _ _ _ _ _ h => h) ?_ ?_
      · rintro i z u σ2 G6 hi s6 ⟨c11, rfl⟩ hq
        refine ⟨_, gb_name, es_asg (P := IsI ((contOf ((lineOf k lead row).take (i + 1)) : Nat) : Int)) ?_ fun v3 G7 s7 p7 => ⟨some u, by
          have p7 : v3 = .int _ := p7
          rw [p7] <;> rfl⟩⟩
        refine (ep_call2 (E := E0) (P1 := IsI) (P2 := IsI) (C := fun _ _ => True) (B := fun a b => IsI (Int.gcd a b : Int)) ((contOf ((lineOf k lead row).take i) : Nat) : Int) z (ep_v (i := 10) rfl) (ep_var (i := 11) rfl hq) trivial).is ?_
        rw [take_snoc hi, cont_snoc]
        rfl
      · rintro σ2 G6 s6 ⟨c11, rfl⟩
        rw [List.take_length]
        exact ⟨c11, rfl⟩
    refine h_es hin o4.t.in_ (fun _ _ _ _ z => z.elim) fun σ2 G5 H5 t5 ⟨c11, e5⟩ => ?_
    subst e5
    have o5 := o4.grow t5
    have p9 := up t5.up p9
    have hjl : j < rest.length := (List.getElem?_eq_some_iff.mp hj).1
    refine h_app (K := K) (j := 7) o5 rfl (y := thinOf (lineOf k lead row)) (ep_lm (R := IsI) (fun z : Int => z / ((max 1 (contOf (lineOf k lead row)) : Nat) : Int)) (it_list (K := K) (F := IsI) (ep_var (i := 9) rfl p9)) (by omega) fun i z u G6 hi s6 hu => ⟨_, gb_name, rfl, (ep_divP (ep_var (i := 11) rfl hu) (ep_max ep_c (ep_v (i := 10) rfl)) (by omega)).is (by rw [show ((max 1 (contOf (lineOf k lead row)) : Nat) : Int) = max 1 ((contOf (lineOf k lead row) : Nat) : Int) by omega])⟩) (by rw [List.length_map, List.length_take]; have := hfew.1; simp at this; omega) fun G6 H6 s6 o6 => ⟨G6, (((t2.up.trans t3.up).trans t4.up).trans t5.up).trans s6, some v, some v9, some (.int (contOf (lineOf k lead row) : Nat)), c11, rfl, (((s1.trans t2.up).trans t3.up).trans t4.up).trans (t5.up.trans s6), ?_⟩
    rw [take_snoc hj, List.map_append]
    exact o6
  · rintro σ1 G1 H1 ⟨b8, b9, b10, b11, rfl, s1, o1⟩
    rw [List.take_length] at o1
    exact kk b8 b9 b10 b11 G1 H1 s1 o1
/-- what the elimination's loop keeps -/
def RkI (v0 : V) (n tot : Nat) (m : Nat) : NP := fun σ G => ∃ (L : List (List Int)) (c : Nat) (lv : V) (b : Nat) (a3 a4 a5 a6 a7 a8 a9 a10 a11 a12 a13 a14 : Option V),
  σ = [some v0, some lv, some (.int (c : Nat)), a3, a4, a5, a6, a7, a8, a9, a10, a11, a12, a13, a14] ∧ IsL (IsL IsI) L lv G ∧ RkOk L n b ∧ c + rankL L = tot ∧ L.length = m
theorem rank_cons {lead : List Int} {rest : List (List Int)} : rankL (lead :: rest) = match spotOf lead with
    | none => rankL rest
    | some k => 1 + rankL (rest.map fun row => thinOf (lineOf k lead row)) := by
  rw [rankL] <;> (cases spotOf lead <;> rfl)
theorem dropE {α : Type} {F : α → VP} [∀ x, Stays (F x)] {xs : List α} {ta : TE} {σ : L2.St} {G : Hp} (h : Ep ta σ G (IsL F xs)) (hl : 1 ≤ xs.length) : Ep (tSl (rSlL K) ta (tPart (tC (.int 1))) tNoPart) σ G (IsL F (xs.drop 1)) := ep_from (k := 1) h ep_c hl
theorem ep_neLL {L : List (List Int)} {ta : TE} {σ : L2.St} {G : Hp} (h : Ep ta σ G (IsL (IsL IsI) L)) : Ep (tOp (rNeD K) ta (tLst tNil)) σ G (IsB (!L.isEmpty)) := by
  have h1 : Ep ta σ G (IsD K (.list (L.map fun r => .list (r.map .int)))) := h.to fun _ _ _ => d_L fun _ _ => d_L fun _ _ => d_int
  have h2 : Ep (tLst tNil) σ G (IsD K (.list [])) := (ep_nilL (F := IsI)).to fun _ _ _ => d_L (g := PyData.int) fun _ _ => d_int
  have can : ∀ L : List (List Int), PyData.canLayAll0 (L.map fun r => .list (r.map .int)) = true := fun L => by
    induction L with
    | nil => simp [PyData.canLayAll0]
    | cons r L ih => simp [PyData.canLayAll0, PyData.canLay0, canAll_int, ih]
  have dep : ∀ L : List (List Int), PyData.depthAll (L.map fun r => .list (r.map .int)) ≤ 1 := fun L => by
    induction L with
    | nil => simp [PyData.depthAll]
    | cons r L ih =>
      simp only [List.map_cons, PyData.depthAll, PyData.depth, depAll_int]
      omega
  have q := ep_neD (K := K) h1 h2 (by
    have := dep L
    simp only [SeqAt.shaped, PyData.canLay0, PyData.depth, can, Bool.true_and]
    exact decide_eq_true (by omega)) (by simp [SeqAt.shaped, PyData.canLay0, PyData.canLayAll0, PyData.depth, PyData.depthAll])
  refine q.is ?_
  cases L <;> simp [PyData.eqv, PyData.eqvAll]
theorem cal__law_rank (D : Dd K mg "_law_rank" st__law_rank) (T : Txt P K mg base) (c1 : C8.Cal P w K mg base 34 "_law_scaled" (sp__law_scaled K) []) (c2 : C8.Cal P w K mg base 1 "_law_gcd" (sp__law_gcd K) []) : C8.Cal P w K mg base 35 "_law_rank" (sp__law_rank K) [] :=
  cal1 D sc__law_rank (fun _ _ _ _ _ _ us hl => match us, hl with | [_], _ => rfl) (ps__law_rank T c1 c2) fun G rows v0 h0 ⟨hc, n, b0, hk⟩ => by
    unfold t__law_rank
    refine sq_par (P1 := IsL (IsL IsI) (rows.map scaleOf)) (P2 := IsI 0) (ep_call1 rows (ep_var rfl h0) hc) ep_c fun v w G2 s2 pv pw => ?_
    have pw : w = .int 0 := pw
    subst pw
    refine es_seq (N1 := fun σ _ => ∃ lv a3 a4 a5 a6 a7 a8 a9 a10 a11 a12 a13 a14, σ = [some v0, some lv, some (.int (rankL (rows.map scaleOf) : Nat)), a3, a4, a5, a6, a7, a8, a9, a10, a11, a12, a13, a14]) (es_while (RkI v0 n (rankL (rows.map scaleOf))) (m := (rows.map scaleOf).length) ⟨rows.map scaleOf, 0, v, b0, none, none, none, none, none, none, none, none, none, none, none, none, rfl, pv, hk, by omega, rfl⟩ (fun m σ G G' s ⟨L, c, lv, b, a3, a4, a5, a6, a7, a8, a9, a10, a11, a12, a13, a14, e, h, r⟩ => ⟨L, c, lv, b, a3, a4, a5, a6, a7, a8, a9, a10, a11, a12, a13, a14, e, up s h, r⟩) ?_) ?_
    · rintro m σ1 G1 ⟨L, c, lv, b, a3, a4, a5, a6, a7, a8, a9, a10, a11, a12, a13, a14, rfl, hL, hk, htot, rfl⟩
      refine ⟨!L.isEmpty, et_test (ep_neLL (ep_var (i := 1) rfl hL)), fun hne => ?_, fun he G3 s3 => ?_⟩
      · obtain ⟨lead, rest, rfl⟩ : ∃ lead rest, L = lead :: rest := by
          cases L with
          | nil => cases hne
          | cons a l => exact ⟨a, l, rfl⟩
        have hlead := hk.rows lead List.mem_cons_self
        have hfew := hk.few
        refine sq_asg (P := IsL IsI lead) (ep_ixL (K := K) (F := IsL IsI) (i := 0) (ep_var (i := 1) rfl hL) ep_c rfl) fun v3 G3 s3 p3 => ?_
        have hsp := ep_lc (R := IsI) (te := tVar 12) (tt := tTest (tOp rNe (tOp (rIxL K) (tVar 3) (tVar 12)) (tC (.int 0)))) (g := gName 12) (vs := [12]) (σ := [some v0, some lv, some (.int (c : Nat)), some v3, a4, a5, a6, a7, a8, a9, a10, a11, a12, a13, a14]) (G := G3)
          (fun i : Int => !decide (lead.getD i.toNat 0 = 0)) (fun i => i) (it_rng1 (n := (lead.length : Int)) (ep_len (K := K) (F := IsI) (Ep.sL (ep_var (i := 3) rfl p3))) (by omega) (by omega)) (by rw [rng_len]; omega) (fun i y v G2 hi s hv => by
            obtain ⟨hi1, hi2⟩ := rng_get hi
            have ey : y = (i : Nat) := by rw [hi2, Int.zero_add]
            subst ey
            have hv : v = .int (i : Nat) := hv
            subst hv
            have hil : i < lead.length := by omega
            exact ⟨_, gb_name, rfl, et_test (ep_neI (ep_ixL (F := IsI) (ep_var (i := 3) rfl (up s p3)) (ep_v (i := 12) rfl) (by rw [Int.toNat_natCast, List.getD_eq_getElem?_getD, List.getElem?_eq_getElem hil]; rfl)) ep_c), fun _ => ep_v rfl⟩)
        rw [show ((lead.length : Int)).toNat = lead.length from rfl, spots_rng] at hsp
        refine sq_asg hsp fun v4 G4 s4 p4 => ?_
        have hL4 := up (s3.trans s4) hL
        refine sq_asg (dropE (K := K) (ep_var (i := 1) rfl hL4) (by simp)) fun v5 G5 s5 p5 => ?_
        have p5 : IsL (IsL IsI) rest v5 G5 := p5
        have p4 := up s5 p4
        have p3 := up (s4.trans s5) p3
        have hhead := spots_head lead
        cases hs : spotOf lead with
        | none =>
          rw [hs] at hhead
          have e0 : (List.range lead.length).filter (fun i => !decide (lead.getD i 0 = 0)) = [] := List.head?_eq_none_iff.mp hhead
          rw [e0] at p4
          refine sq_skip ((et_test (ep_neLI (xs := []) (ys := []) (ep_var (i := 4) rfl p4) ep_nilL)).is (by simp)) ?_
          refine es_asg (P := IsL (IsL IsI) rest) (ep_var (i := 5) rfl p5) fun v1 G6 s6 p6 => ⟨rest.length, Nat.lt_succ_self _, rest, c, v1, b, some v3, some v4, some v5, a6, a7, a8, a9, a10, a11, a12, a13, a14, rfl, p6, hk.skip, ?_, rfl⟩
          rw [← htot, rank_cons, hs]
        | some k =>
          rw [hs] at hhead
          obtain ⟨tl, e0⟩ : ∃ tl, (List.range lead.length).filter (fun i => !decide (lead.getD i 0 = 0)) = k :: tl := by
            cases q : (List.range lead.length).filter (fun i => !decide (lead.getD i 0 = 0)) with
            | nil =>
              rw [q] at hhead
              cases hhead
            | cons a l =>
              rw [q] at hhead
              cases hhead
              exact ⟨l, rfl⟩
          rw [e0] at p4
          have hif : Es (tIfS (tTest (tOp (rNeD K) (tVar 4) (tLst tNil))) (tSeq (tAsg (tTup (tCons (tOp rAddI (tVar 2) (tC (.int 1))) (tCons (tOp (rIxL K) (tVar 4) (tC (.int 0))) (tCons (tLst tNil) tNil)))) (gTup K 3 (gCons (gName 2) (gCons (gName 6) (gCons (gName 7) gNil)))))
              (tSeq (tFor (iList K (tVar 5)) (gName 8)
              (tSeq (tAsg (tLc (iZipX K (tCons (tVar 8) (tCons (tVar 3) tNil))) (gTup K 2 (gCons (gName 13) (gCons (gName 14) gNil))) tYes (tOp rSubI (tOp rMulI (tVar 13) (tOp (rIxL K) (tVar 3) (tVar 6))) (tOp rMulI (tVar 14) (tOp (rIxL K) (tVar 8) (tVar 6)))) [13, 14]) (gName 9))
              (tSeq (tAsg (tC (.int 0)) (gName 10))
              (tSeq (tFor (iList K (tVar 9)) (gName 11)
              (tAsg (tCall (sp__law_gcd K) [] E0 (tCons (tVar 10) (tCons (tVar 11) tNil))) (gName 10)))
              (tDrop (tBM K "list" rAppend (tVar 7) (tCons (tLc (iList K (tVar 9)) (gName 11) tYes (tOp rDivP (tVar 11) (tCB rMax2 (tCons (tC (.int 1)) (tCons (tVar 10) tNil)))) [11]) tNil)))))))
              (tAsg (tVar 7) (gName 5)))) tNext) [some v0, some lv, some (.int (c : Nat)), some v3, some v4, some v5, a6, a7, a8, a9, a10, a11, a12, a13, a14] G5 (IsI (rankL (rows.map scaleOf) : Nat))
              (fun σ G => ∃ (v5 : V) (a6 a7 a8 a9 a10 a11 : Option V), σ = [some v0, some lv, some (.int ((c + 1 : Nat) : Int)), some v3, some v4, some v5, a6, a7, a8, a9, a10, a11, a12, a13, a14] ∧ IsL (IsL IsI) (rest.map fun row => thinOf (lineOf k lead row)) v5 G) := by
            refine es_if (b := true) ((et_test (ep_neLI (xs := stI (k :: tl)) (ys := []) (ep_var (i := 4) rfl p4) ep_nilL)).is (by simp [stI])) (fun _ => ?_) fun z => nomatch z
            intro G6 H6 D s6 sg6 hr hnx
            -- found, at, fresh = (found + 1, spots[0], [])
            obtain ⟨l4, us, rfl, hu, au⟩ := up s6 p4
            have us0 : us[0]? = some (.int (k : Nat)) := by
              rw [All2.ints au]
              rfl
            refine h_seq ⟨_, rfl, _, _, rfl, rfl, _, rfl, l4, us, 0, _, rfl, rfl, SqL.of (sg6 _ _ hu), atI_nat (j := 0) us0, Nat.zero_le _, fun q nq => ⟨(by show 3 ≤ sizeLine; decide), fun r nr => ⟨r, _, rfl, SqT.of upd_same, rfl, _, _, rfl, _, _, rfl, _, _, rfl, rfl, ?_⟩⟩⟩
            have qr : q ≠ r := fun z => by
              rw [← z, upd_same] at nr
              cases nr
            have gq : G6 q = none := sg6.free nq
            have o : Ow1 (IsL IsI) G6 H6 q ([] : List (List Int)) G6 (L2.upd (L2.upd H6 q (.lst [])) r (.tup [.int ((c : Nat) + 1), .int (k : Nat), .ref q])) := by
              refine ⟨To.dull sg6 ((Same.new nq).trans (Same.new nr)), ⟨[], by rw [upd_ne qr, upd_same], trivial⟩, gq, nq⟩
            refine h_seq (h_fresh T (G := G6) (p := q) (lead := lead) (rest := rest) (n := n) (b := b) (k := k) hk hs o (up s6 p3) (up s6 p5) fun a8 a9 a10 a11 G7 H7 s7 o7 => ?_)
            obtain ⟨G8, t8, p8⟩ := o7.tell
            exact ⟨_, rfl, hnx _ G8 H7 t8 ⟨.ref q, some (.int (k : Nat)), some (.ref q), a8, a9, a10, a11, rfl, p8⟩⟩
          refine es_seq hif fun σ2 G6 s6 ⟨v5', a6', a7', a8', a9', a10', a11', e6, p6⟩ => ?_
          subst e6
          refine es_asg (P := IsL (IsL IsI) (rest.map fun row => thinOf (lineOf k lead row))) (ep_var (i := 5) rfl p6) fun v1 G7 s7 p7 => ⟨rest.length, Nat.lt_succ_self _, rest.map fun row => thinOf (lineOf k lead row), c + 1, v1, 2 * b + 1, some v3, some v4, some v5', a6', a7', a8', a9', a10', a11', a12, a13, a14, rfl, p7, hk.next, ?_, by simp⟩
          rw [← htot, rank_cons, hs]
          show c + 1 + rankL _ = c + (1 + rankL _)
          omega
      · have : L = [] := by
          cases L with
          | nil => rfl
          | cons a l => cases he
        subst this
        refine ⟨lv, a3, a4, a5, a6, a7, a8, a9, a10, a11, a12, a13, a14, ?_⟩
        rw [← htot, rankL]
        rfl
    · rintro σ2 G3 s3 ⟨lv, a3, a4, a5, a6, a7, a8, a9, a10, a11, a12, a13, a14, rfl⟩
      exact es_ret (ep_v (i := 2) rfl)
end
end Bt
/-! ==== V2 ==== -/
set_option Elab.async false
set_option linter.all false
set_option maxRecDepth 100000
set_option maxHeartbeats 2000000
/-! Draws: the mug changes, all else is as before. -/
namespace Bt
open PySem PySem.Spec PyProof.Rows L2
def MugAt (m : Addr) (H : Hp) : Prop := ∃ a b c : Int, H m = some (.lst [.int a, .int b, .int c])
structure Td (m : Addr) (G H G2 H2 : Hp) : Prop where
  big : ∀ b o, b ≠ m → H b = some o → H2 b = some o
  up : Same G G2
  in_ : Same G2 H2
  gm : G2 m = none
  mug : MugAt m H2
  new : ∀ b o, G2 b = some o → G b = some o ∨ H b = none
/-- a mug beside what is told -/
structure St (m : Addr) (G H : Hp) : Prop where
  in_ : Same G H
  gm : G m = none
  mug : MugAt m H
section
variable {m : Addr} {G H G2 H2 G3 H3 : Hp}
theorem Td.st (t : Td m G H G2 H2) : St m G2 H2 := ⟨t.in_, t.gm, t.mug⟩
theorem Td.refl (s : St m G H) : Td m G H G H := ⟨fun _ _ _ e => e, Same.refl G, s.in_, s.gm, s.mug, fun _ _ e => .inl e⟩
theorem Td.free (t : Td m G H G2 H2) (s : MugAt m H) {b : Addr} (h : H2 b = none) : H b = none := by
  cases q : H b with
  | none => rfl
  | some o =>
    by_cases e : b = m
    · obtain ⟨x, y, z, hm⟩ := t.mug
      rw [e, hm] at h
      cases h
    · rw [t.big b o e q] at h
      cases h
theorem Td.trans (s : MugAt m H) (a : Td m G H G2 H2) (b : Td m G2 H2 G3 H3) : Td m G H G3 H3 := ⟨fun c o h e => b.big c o h (a.big c o h e), a.up.trans b.up, b.in_, b.gm, b.mug, fun c o e => by
  rcases b.new c o e with h | h
  · exact a.new c o h
  · exact .inr (a.free s h)⟩
theorem Td.of (s : St m G H) (t : To G H G2 H2) : Td m G H G2 H2 := by
  obtain ⟨x, y, z, hm⟩ := s.mug
  exact ⟨fun b o _ e => t.big b o e, t.up, t.in_, t.none s.gm hm, ⟨x, y, z, t.big _ _ hm⟩, t.new⟩
end
def Ed (m : Addr) (te : TE) (σ : L2.St) (G : Hp) (P : VP) : Prop := ∀ G1 H1, Same G G1 → St m G1 H1 → ∀ Q : VK, (∀ v G2 H2, Td m G1 H1 G2 H2 → P v G2 → Q v H2) → te σ H1 Q
def Eda (m : Addr) (ta : TA) (σ : L2.St) (G : Hp) (P : LP) : Prop := ∀ G1 H1, Same G G1 → St m G1 H1 → ∀ Q : List V → Hp → Prop, (∀ v G2 H2, Td m G1 H1 G2 H2 → P v G2 → Q v H2) → ta σ H1 Q
def Edt (m : Addr) (tt : TT) (σ : L2.St) (G : Hp) (P : Bool → Prop) : Prop := ∀ G1 H1, Same G G1 → St m G1 H1 → ∀ Q : Bool → Hp → Prop, (∀ b G2 H2, Td m G1 H1 G2 H2 → P b → Q b H2) → tt σ H1 Q
/-- some value of a set -/
def IsE {α : Type} (C : α → Prop) (P : α → VP) : VP := fun v G => ∃ x, C x ∧ P x v G
instance {α : Type} (C : α → Prop) (P : α → VP) [∀ x, Stays (P x)] : Stays (IsE C P) := ⟨fun _ _ _ e ⟨x, h1, h2⟩ => ⟨x, h1, up e h2⟩⟩
section
variable {m : Addr} {ta tb te : TE} {σ : L2.St} {G : Hp} {P P' R : VP}
theorem Ed.of (h : Ep te σ G P) : Ed m te σ G P := fun G1 H1 g s Q q => h G1 H1 g s.in_ Q fun v G2 H2 t p => q v G2 H2 (Td.of s t) p
theorem Ed.up {G' : Hp} (e : Same G G') (h : Ed m te σ G P) : Ed m te σ G' P := fun G1 H1 g => h G1 H1 (e.trans g)
theorem Ed.to (h : Ed m te σ G P) (f : ∀ v G', Same G G' → P v G' → R v G') : Ed m te σ G R := fun G1 H1 g s Q q => h G1 H1 g s Q fun v G2 H2 t p => q v G2 H2 t (f v G2 (g.trans t.up) p)
/-- a value is known once it is drawn -/
theorem ed_bin {r : R2} [Stays P] (ha : Ed m ta σ G P) (hb : Ed m tb σ G P') (hr : ∀ x y G1 H1 (Q : VK), Same G G1 → Same G1 H1 → P x G1 → P' y G1 → (∀ v G2 H2, To G1 H1 G2 H2 → R v G2 → Q v H2) → r x y H1 Q) : Ed m (tOp r ta tb) σ G R :=
  fun G1 H1 g s Q q => ha G1 H1 g s _ fun x G2 H2 t2 px => hb G2 H2 (g.trans t2.up) t2.st _ fun y G3 H3 t3 py => hr x y G3 H3 Q ((g.trans t2.up).trans t3.up) t3.in_ (Bt.up t3.up px) py fun v G4 H4 t4 p => q v G4 H4 ((t2.trans s.mug t3).trans s.mug (Td.of t3.st t4)) p
theorem ed_cb1 {r : List V → Hp → VK → Prop} (ha : Ed m ta σ G P) (hr : ∀ x G1 H1 (Q : VK), Same G G1 → Same G1 H1 → P x G1 → (∀ v G2 H2, To G1 H1 G2 H2 → R v G2 → Q v H2) → r [x] H1 Q) : Ed m (tCB r (tCons ta tNil)) σ G R := fun G1 H1 g s Q q =>
  ha G1 H1 g s _ fun x G2 H2 t2 px => hr x G2 H2 Q (g.trans t2.up) t2.in_ px fun v G3 H3 t3 p => q v G3 H3 (t2.trans s.mug (Td.of t2.st t3)) p
/-- ints, some of a set -/
theorem ed_op {C1 C2 : Int → Prop} {f : Int → Int → Int} {C : Int → Prop} (ha : Ed m ta σ G (IsE C1 IsI)) (hb : Ed m tb σ G (IsE C2 IsI)) (hf : ∀ a b, C1 a → C2 b → C (f a b)) : Ed m (tOp (rI0 fun i j => .int (f i j)) ta tb) σ G (IsE C IsI) :=
  ed_bin ha hb fun x y G1 H1 Q _ s ⟨a, c1, px⟩ ⟨b, c2, py⟩ q => ⟨a, b, px, py, q _ G1 H1 (To.refl s) ⟨f a b, hf a b c1 c2, rfl⟩⟩
theorem Ed.one {a : Int} {C : Int → Prop} (h : Ed m te σ G (IsI a)) (c : C a) : Ed m te σ G (IsE C IsI) := h.to fun v _ _ p => ⟨a, c, p⟩
theorem eda_nil : Eda m tNil σ G (fun vs _ => vs = []) := fun G1 H1 g s _ q => q [] G1 H1 (Td.refl s) rfl
theorem eda_cons {tr : TA} {L : LP} [Stays P] (h : Ed m ta σ G P) (hr : Eda m tr σ G L) : Eda m (tCons ta tr) σ G (fun vs G' => ∃ v r, vs = v :: r ∧ P v G' ∧ L r G') := fun G1 H1 g s _ q =>
  h G1 H1 g s _ fun v G2 H2 t2 p => hr G2 H2 (g.trans t2.up) t2.st _ fun r G3 H3 t3 l => q (v :: r) G3 H3 (t2.trans s.mug t3) ⟨v, r, rfl, Bt.up t3.up p, l⟩
/-- a list of ints, drawn item by item -/
theorem ed_lst {t : TA} {C : List Int → Prop} (h : Eda m t σ G fun vs _ => ∃ ns, C ns ∧ ns.length ≤ 1000 ∧ vs = ns.map V.int) : Ed m (tLst t) σ G (IsE C (IsL IsI)) := fun G1 H1 g s Q q =>
  h G1 H1 g s _ fun vs G2 H2 t2 ⟨ns, hc, hl, e⟩ => by
    subst e
    exact ⟨Nat.le_trans (by rw [List.length_map]; exact hl) (by decide), fun p np => q _ _ _ (t2.trans s.mug (Td.of t2.st (To.alloc t2.in_ np))) ⟨ns, hc, p, _, rfl, upd_same, All2.of_ints ns⟩⟩
/-- calls of defs that only make new things, of drawn arguments -/
theorem ed_call2 {α β : Type} {P1 : α → VP} {P2 : β → VP} {C1 : α → Prop} {C2 : β → Prop} {C : α → β → Prop} {B : α → β → VP} {E : XK} [∀ a, Stays (P1 a)] {R : VP} (ha : Ed m ta σ G (IsE C1 P1)) (hb : Ed m tb σ G (IsE C2 P2)) (hc : ∀ a b, C1 a → C2 b → C a b) (hR : ∀ a b v G', C1 a → C2 b → B a b v G' → R v G') : Ed m (tCall (sp2 P1 P2 C B) [] E (tCons ta (tCons tb tNil))) σ G R := fun G1 H1 g s Q q =>
  ha G1 H1 g s _ fun x G2 H2 t2 ⟨a, ca, px⟩ => hb G2 H2 (g.trans t2.up) t2.st _ fun y G3 H3 t3 ⟨b, cb, py⟩ => ⟨G3, a, b, x, y, rfl, t3.in_, ⟨up t3.up px, py⟩, hc a b ca cb, fun v G4 H4 t4 p => q v G4 H4 ((t2.trans s.mug t3).trans s.mug (Td.of t3.st t4)) (hR a b v G4 ca cb p)⟩
end
/-- a draw's promise: the mug first -/
abbrev spD {β : Type} (P2 : β → VP) (C : β → Prop) (B : β → VP) : Sp := fun vs H Q _ => ∃ G m b y, vs = [.ref m, y] ∧ St m G H ∧ P2 b y G ∧ C b ∧ ∀ v G' H', Td m G H G' H' → B b v G' → Q v H'
section
variable {m : Addr} {ta tb te : TE} {σ : L2.St} {G : Hp} {P P' R : VP} {β : Type} {P2 : β → VP} {E : XK}
theorem ed_draw {C : β → Prop} {C2 : β → Prop} {B : β → VP} {R : VP} {i : Nat} (hm : σ[i]? = some (some (.ref m))) (hb : Ed m tb σ G (IsE C2 P2)) (hc : ∀ b, C2 b → C b) (hR : ∀ b v G', C2 b → B b v G' → R v G') : Ed m (tCall (spD P2 C B) [] E (tCons (tVar i) (tCons tb tNil))) σ G R := fun G1 H1 g s Q q =>
  ⟨_, hm, hb G1 H1 g s _ fun y G2 H2 t2 ⟨b, cb, py⟩ => ⟨G2, m, b, y, rfl, t2.st, py, hc b cb, fun v G3 H3 t3 p => q v G3 H3 (t2.trans s.mug t3) (hR b v G3 cb p)⟩⟩
/-- [e for i in range(n)], e drawn -/
theorem ed_lm {wi : TI} {s : Nat} {vs : List Nat} {C : Nat → Prop} {α : Type} {R : α → VP} {Ce : α → Prop} [∀ x, Stays (R x)] (hn : ∀ n, C n → n ≤ 900) (hi : ∀ G1 H1, Same G G1 → St m G1 H1 → ∀ Rr : L2.It → Hp → Prop, (∀ n G2 H2, Td m G1 H1 G2 H2 → C n → Rr (Itr 0 n) H2) → wi σ H1 Rr) (hw : ∀ v : V, wipe ((wipe σ vs).set s (some v)) vs = wipe σ vs)
    (he : ∀ (i : Nat) (G2 : Hp), Same G G2 → Ed m te ((wipe σ vs).set s (some (.int (i : Nat)))) G2 (IsE Ce R)) : Ed m (tLc wi (gName s) tYes te vs) σ G (IsE (fun xs : List α => (∀ x ∈ xs, Ce x) ∧ C xs.length) (IsL R)) := fun G1 H1 g st Q q => by
  refine hi G1 H1 g st _ fun n G2 H2 t2 hC => ?_
  intro D nD
  have nD1 : H1 D = none := t2.free st.mug nD
  have hn := hn n hC
  have mD : m ≠ D := fun z => by
    obtain ⟨x, y, w', hm⟩ := t2.mug
    rw [← z, hm] at nD
    cases nD
  refine ⟨fun i k H => i ≤ n ∧ k = n - i ∧ ∃ G' acc xs, Same G2 G' ∧ Td m G1 H1 G' H ∧ G' D = none ∧ H D = some (.lst acc) ∧ All2 R acc xs G' ∧ xs.length = i ∧ ∀ x ∈ xs, Ce x, ⟨_, Nat.zero_le _, rfl, G2, [], [], Same.refl _, ?_, t2.in_.free nD, upd_same, trivial, rfl, by simp⟩, fun i k H ⟨hi', hk, G', acc, xs, s2, t', gD, hD, ha, hx, hc⟩ => ?_⟩
  · exact t2.trans st.mug (Td.of t2.st (To.dull t2.in_ (Same.new nD)))
  have keepD : ∀ {Ga Ha Gb Hb : Hp}, Td m Ga Ha Gb Hb → Ga D = none → Ha D = some (.lst acc) → Gb D = none := fun {Ga Ha Gb Hb} t n h => by
    cases z : Gb D with
    | none => rfl
    | some o =>
      rcases t.new D o z with z | z
      · rw [n] at z
        cases z
      · rw [h] at z
        cases z
  rcases Nat.lt_or_ge i n with hl | hl
  · refine .inr ⟨hl, fun H' => ∃ G'' acc xs, Same G2 G'' ∧ Td m G1 H1 G'' H' ∧ G'' D = none ∧ H' D = some (.lst acc) ∧ All2 R acc xs G'' ∧ xs.length = i + 1 ∧ ∀ x ∈ xs, Ce x, fun H' ⟨G'', acc, xs, z⟩ => ⟨n - (i + 1), by omega, hl, rfl, G'', acc, xs, z⟩, fun v H'' y => ?_⟩
    obtain ⟨rfl, rfl⟩ := y
    refine ⟨hw _, ?_⟩
    rw [show (0 : Int) + (i : Nat) = (i : Nat) from Int.zero_add _]
    show te _ H'' _
    refine he i G' ((g.trans t'.up)) G' H'' (Same.refl _) t'.st _ fun u G5 H5 t5 ⟨x, cx, ru⟩ => ?_
    have d5 := keepD t5 gD hD
    have h5 := t5.big _ _ (Ne.symm mD) hD
    have lenA : acc.length ≤ i := by
      rw [ha.len]
      omega
    have tt' := t'.trans st.mug t5
    refine ⟨acc, h5, small1000 (by omega), G5, acc ++ [u], xs ++ [x], s2.trans t5.up, ⟨fun b o hb z => ?_, tt'.up, fun b o z => ?_, tt'.gm, ?_, tt'.new⟩, d5, upd_same, All2.snoc (All2.up t5.up ha) ru, by simp [hx], fun z hz => ?_⟩
    · rw [upd_ne (ne_of_none z nD1)]
      exact tt'.big b o hb z
    · rw [upd_ne (ne_of_none z d5)]
      exact tt'.in_ b o z
    · obtain ⟨x1, y1, z1, hm⟩ := tt'.mug
      exact ⟨x1, y1, z1, by rw [upd_ne mD]; exact hm⟩
    · rcases List.mem_append.mp hz with h | h
      · exact hc z h
      · rw [List.mem_singleton.mp h]
        exact cx
  · have : i = n := Nat.le_antisymm hi' hl
    subst this
    refine .inl ⟨hl, q _ (upd G' D (.lst acc)) H ⟨t'.big, t'.up.trans (Same.new gD), fun b o z => ?_, by rw [upd_ne mD]; exact t'.gm, t'.mug, fun b o z => ?_⟩ ⟨xs, ⟨hc, by rw [hx]; exact hC⟩, D, acc, rfl, upd_same, All2.up (Same.new gD) ha⟩⟩
    · by_cases hb' : b = D
      · subst hb'
        rw [upd_same] at z
        cases z
        exact hD
      · rw [upd_ne hb'] at z
        exact t'.in_ b o z
    · by_cases hb' : b = D
      · subst hb'
        exact .inr nD1
      · rw [upd_ne hb'] at z
        exact t'.new b o z
end
end Bt
/-! ==== W16 ==== -/
set_option Elab.async false
set_option linter.all false
set_option maxRecDepth 100000
set_option maxHeartbeats 2000000
/-! The mug, sips, picks, amounts, levels. -/
namespace Bt
open PySem PySem.Spec PyProof.Rows L2
abbrev rPowI : R2 := rI CPow fun i j => .int (i ^ j.toNat)
/-- the script -/
def IsSc (K : PySem.W.Frag) (ns : List Int) : VP := fun v G => ∃ a, v = .ref a ∧ SqL K G a (ns.map V.int)
instance (K : PySem.W.Frag) (ns : List Int) : Stays (IsSc K ns) := ⟨fun _ _ _ e ⟨a, h1, h2⟩ => ⟨a, h1, e.seq h2⟩⟩
def sp__law_mug (K : PySem.W.Frag) : Sp := fun vs H Q _ => ∃ (ns : List Int) (v : V) (t : Nat), vs = [v, .int t] ∧ IsSc K ns v H ∧ ∀ m H', Same H H' → H m = none → MugAt m H' → Q (.ref m) H'
def sp__law_sip (K : PySem.W.Frag) : Sp := spD IsI (fun t => 0 < t) fun t => IsE (fun r => 0 ≤ r ∧ r < t) IsI
def sp__law_pick (K : PySem.W.Frag) : Sp := spD (IsL IsI) (fun ns => ns ≠ [] ∧ ns.length ≤ 1000) fun ns => IsE (fun r => r ∈ ns) IsI
def AmOk (c : Rat) : Prop := Sz 4 c
def sp__law_amounts (K : PySem.W.Frag) : Sp := spD (fun n : Nat => IsI n) (fun n => n ≤ 100) fun n => IsE (fun c => (∀ q ∈ c, AmOk q) ∧ c.length = n) (IsT K (IsF K))
def LvOk (y : Int) : Prop := -100000000000000000000 ≤ y ∧ y ≤ 100000000000000000000
def sp__law_levels (K : PySem.W.Frag) : Sp := spD (fun n : Nat => IsI n) (fun n => n ≤ 100) fun n => IsE (fun c => (∀ q ∈ c, LvOk q) ∧ c.length = n) (IsT K IsI)
abbrev st__law_mug := top 80
theorem sc__law_mug : FnScope ["_law_script", "_law_turn", "_law_entry", "_law_stirred", "_law_each"] ["_law_script", "_law_turn"] (defScope st__law_mug) := ⟨rfl, rfl, rfl, by decide +kernel, rfl, by decide +kernel, by decide +kernel⟩
def t__law_mug (K : PySem.W.Frag) : TS := (tSeq (tAsg (tIf (tTest (tOp rLtI (tVar 1) (tCB (rLen K) (tCons (tVar 0) tNil)))) (tCB rInt1 (tCons (tOp (rIxL K) (tVar 0) (tVar 1)) tNil)) (tOp rAddI (tOp rMulI (tC (.int 59)) (tVar 1)) (tC (.int 13)))) (gName 2))
    (tSeq (tAsg (tOp rAddI (tC (.int 30011)) (tOp rMulI (tC (.int 811)) (tVar 1))) (gName 3))
    (tSeq (tFor (iList K (tSl (rSlL K) (tVar 0) tNoPart (tPart (tC (.int 8))))) (gName 4)
    (tAsg (tOp rModI (tCB rInt1 (tCons (tOp rAddI (tOp rAddI (tOp rMulI (tVar 3) (tC (.int 39373))) (tOp rModI (tCB rInt1 (tCons (tVar 4) tNil)) (tC (.int 999959)))) (tVar 1)) tNil)) (tC (.int 2147483563))) (gName 3)))
    (tSeq (tAsg (tOp rModI (tCB rInt1 (tCons (tOp rAddI (tOp rMulI (tVar 3) (tC (.int 39373))) (tOp rModI (tCB rInt1 (tCons (tVar 2) tNil)) (tC (.int 999959)))) tNil)) (tC (.int 2147483563))) (gName 3))
    (tRet (tLst (tCons (tIf (tTest (tOp rGeI (tCB rAbs (tCons (tVar 2) tNil)) (tOp rPowI (tC (.int 10)) (tC (.int 18))))) (tCB rAbs (tCons (tVar 2) tNil)) (tC (.int 0))) (tCons (tVar 3) (tCons (tC (.int 0)) tNil)))))))))
theorem ps__law_mug {P : Program} {w : World} {K : PySem.W.Frag} {mg : Str → Option Value} {base : Heap} (T : Txt P K mg base) : Hps P w K mg base 33 "_law_mug" st__law_mug ["_law_script", "_law_turn", "_law_entry", "_law_stirred", "_law_each"] (t__law_mug K) := fun f cdv A outer s H E hr =>
  (pss_cons (ps_set (i := 2) sc__law_mug.nd rfl (Or.inl rfl) (pe_ifExp (pt_cmpR op_lt (pv 1) (pe_callB call_len (by rfl) T.f_len (by decide +kernel) (pa_cons (pv 0) pa_nil)) (nomark _)) (pe_callTy call_int1 (by rfl) T.f_int (by decide +kernel) (pa_cons (pe_ix ix_list (pv 0) (pv 1) (fun _ _ => rfl)) pa_nil)) (pe_op op_add (pe_op op_mulB pe_int (pv 1)) pe_int)))
    (pss_cons (ps_set (i := 3) sc__law_mug.nd rfl (Or.inl rfl) (pe_op op_add pe_int (pe_op op_mulB pe_int (pv 1))))
    (pss_cons (ps_for PassesOwn.never rfl (pi_list (pe_slice sl_list (pv 0) po_none (po_some pe_int))) (pg_name (i := 4) sc__law_mug.nd rfl (Or.inl rfl))
    (pss_one (ps_set (i := 3) sc__law_mug.nd rfl (Or.inl rfl) (pe_op op_mod (pe_callTy call_int1 (by rfl) T.f_int (by decide +kernel) (pa_cons (pe_op op_add (pe_op op_add (pe_op op_mulB (pv 3) pe_int) (pe_op op_mod (pe_callTy call_int1 (by rfl) T.f_int (by decide +kernel) (pa_cons (pv 4) pa_nil)) pe_int)) (pv 1)) pa_nil)) pe_int))))
    (pss_cons (ps_set (i := 3) sc__law_mug.nd rfl (Or.inl rfl) (pe_op op_mod (pe_callTy call_int1 (by rfl) T.f_int (by decide +kernel) (pa_cons (pe_op op_add (pe_op op_mulB (pv 3) pe_int) (pe_op op_mod (pe_callTy call_int1 (by rfl) T.f_int (by decide +kernel) (pa_cons (pv 2) pa_nil)) pe_int)) pa_nil)) pe_int))
    (pss_one (ps_ret (pe_lst (pa_cons (pe_ifExp (pt_cmpR op_ge (pe_callB call_abs (by rfl) T.f_abs (by decide +kernel) (pa_cons (pv 2) pa_nil)) (pe_op op_pow pe_int pe_int) (nomark _)) (pe_callB call_abs (by rfl) T.f_abs (by decide +kernel) (pa_cons (pv 2) pa_nil)) pe_int) (pa_cons (pv 3) (pa_cons pe_int pa_nil))))))))))
abbrev st__law_sip := top 81
theorem sc__law_sip : FnScope ["_law_mug_here", "_law_top", "_law_digit"] ["_law_mug_here", "_law_top"] (defScope st__law_sip) := ⟨rfl, rfl, rfl, by decide +kernel, rfl, by decide +kernel, by decide +kernel⟩
def t__law_sip (K : PySem.W.Frag) : TS := (tSeq (tAsg (tOp rAddI (tOp (rIxL K) (tVar 0) (tC (.int 2))) (tC (.int 1))) (gSub (tVar 0) (tC (.int 2)) rSetL))
    (tSeq (tIfS (tTest (tOp rGtI (tOp (rIxL K) (tVar 0) (tC (.int 0))) (tC (.int 0)))) (tSeq (tAsg (tOp rModI (tCB rInt1 (tCons (tOp (rIxL K) (tVar 0) (tC (.int 0))) tNil)) (tVar 1)) (gName 2))
    (tSeq (tAsg (tOp rDivP (tCB rInt1 (tCons (tOp (rIxL K) (tVar 0) (tC (.int 0))) tNil)) (tVar 1)) (gSub (tVar 0) (tC (.int 0)) rSetL))
    (tRet (tVar 2)))) tNext)
    (tSeq (tAsg (tOp rModI (tCB rInt1 (tCons (tOp rAddI (tOp rAddI (tOp rMulI (tOp (rIxL K) (tVar 0) (tC (.int 1))) (tC (.int 39373))) (tOp rMulI (tC (.int 2003)) (tOp (rIxL K) (tVar 0) (tC (.int 2))))) (tC (.int 31))) tNil)) (tC (.int 2147483563))) (gSub (tVar 0) (tC (.int 1)) rSetL))
    (tRet (tOp rModI (tCB rInt1 (tCons (tOp rDivP (tOp (rIxL K) (tVar 0) (tC (.int 1))) (tC (.int 128))) tNil)) (tVar 1))))))
theorem ps__law_sip {P : Program} {w : World} {K : PySem.W.Frag} {mg : Str → Option Value} {base : Heap} (T : Txt P K mg base) : Hps P w K mg base 33 "_law_sip" st__law_sip ["_law_mug_here", "_law_top", "_law_digit"] (t__law_sip K) := fun f cdv A outer s H E hr =>
  (pss_cons (ps_asg (pe_op op_add (pe_ix ix_list (pv 0) pe_int (fun _ _ => rfl)) pe_int) (pg_sub (pv 0) pe_int set_list))
    (pss_cons (ps_if (pt_cmpR op_gt (pe_ix ix_list (pv 0) pe_int (fun _ _ => rfl)) pe_int (nomark _)) (pss_cons (ps_set (i := 2) sc__law_sip.nd rfl (Or.inl rfl) (pe_op op_mod (pe_callTy call_int1 (by rfl) T.f_int (by decide +kernel) (pa_cons (pe_ix ix_list (pv 0) pe_int (fun _ _ => rfl)) pa_nil)) (pv 1)))
    (pss_cons (ps_asg (pe_op (op_fdivP T.seer T.tree rfl rfl rfl rfl rfl (hr.mono (by decide))) (pe_callTy call_int1 (by rfl) T.f_int (by decide +kernel) (pa_cons (pe_ix ix_list (pv 0) pe_int (fun _ _ => rfl)) pa_nil)) (pv 1)) (pg_sub (pv 0) pe_int set_list))
    (pss_one (ps_ret (pv 2))))) pss_nil)
    (pss_cons (ps_asg (pe_op op_mod (pe_callTy call_int1 (by rfl) T.f_int (by decide +kernel) (pa_cons (pe_op op_add (pe_op op_add (pe_op op_mulB (pe_ix ix_list (pv 0) pe_int (fun _ _ => rfl)) pe_int) (pe_op op_mulB pe_int (pe_ix ix_list (pv 0) pe_int (fun _ _ => rfl)))) pe_int) pa_nil)) pe_int) (pg_sub (pv 0) pe_int set_list))
    (pss_one (ps_ret (pe_op op_mod (pe_callTy call_int1 (by rfl) T.f_int (by decide +kernel) (pa_cons (pe_op (op_fdivP T.seer T.tree rfl rfl rfl rfl rfl (hr.mono (by decide))) (pe_ix ix_list (pv 0) pe_int (fun _ _ => rfl)) pe_int) pa_nil)) (pv 1)))))))
abbrev st__law_pick := top 82
theorem sc__law_pick : FnScope ["_law_mug_here", "_law_menu"] ["_law_mug_here", "_law_menu"] (defScope st__law_pick) := ⟨rfl, rfl, rfl, by decide +kernel, rfl, by decide +kernel, by decide +kernel⟩
def t__law_pick (K : PySem.W.Frag) : TS := (tRet (tOp (rIxL K) (tVar 1) (tCall (sp__law_sip K) [] E0 (tCons (tVar 0) (tCons (tCB (rLen K) (tCons (tVar 1) tNil)) tNil)))))
theorem ps__law_pick {P : Program} {w : World} {K : PySem.W.Frag} {mg : Str → Option Value} {base : Heap} (T : Txt P K mg base) (c__law_sip : C8.Cal P w K mg base 34 "_law_sip" (sp__law_sip K) []) : Hps P w K mg base 34 "_law_pick" st__law_pick ["_law_mug_here", "_law_menu"] (t__law_pick K) := fun f cdv A outer s H E hr =>
  (pss_one (ps_ret (pe_ix ix_list (pv 1) (C8.pe_c c__law_sip hr (by decide) rfl (pa_cons (pv 0) (pa_cons (pe_callB call_len (by rfl) T.f_len (by decide +kernel) (pa_cons (pv 1) pa_nil)) pa_nil))) (fun _ _ => rfl))))
abbrev st__law_amounts := top 98
theorem sc__law_amounts : FnScope ["_law_mug_here", "_law_many", "_law_k"] ["_law_mug_here", "_law_many"] (defScope st__law_amounts) := ⟨rfl, rfl, rfl, by decide +kernel, rfl, by decide +kernel, by decide +kernel⟩
def t__law_amounts (K : PySem.W.Frag) : TS := (tRet (tCB (rTupOf K) (tCons (tLc (iRng1 (tCons (tVar 1) tNil)) (gName 2) tYes (tCall (sp__law_low K) [] E0 (tCons (tOp rSubI (tCall (sp__law_sip K) [] E0 (tCons (tVar 0) (tCons (tC (.int 19)) tNil))) (tC (.int 9))) (tCons (tCall (sp__law_pick K) [] E0 (tCons (tVar 0) (tCons (tLst (tCons (tC (.int 1)) (tCons (tC (.int 1)) (tCons (tC (.int 1)) (tCons (tC (.int 2)) (tCons (tC (.int 3)) (tCons (tC (.int 7)) tNil))))))) tNil))) tNil))) [2]) tNil)))
theorem ps__law_amounts {P : Program} {w : World} {K : PySem.W.Frag} {mg : Str → Option Value} {base : Heap} (T : Txt P K mg base) (c__law_low : C8.Cal P w K mg base 34 "_law_low" (sp__law_low K) []) (c__law_pick : C8.Cal P w K mg base 35 "_law_pick" (sp__law_pick K) []) (c__law_sip : C8.Cal P w K mg base 34 "_law_sip" (sp__law_sip K) []) : Hps P w K mg base 36 "_law_amounts" st__law_amounts ["_law_mug_here", "_law_many", "_law_k"] (t__law_amounts K) := fun f cdv A outer s H E hr =>
  (pss_one (ps_ret (pe_callTy call_tuple_of (by rfl) T.f_tuple (by decide +kernel) (pa_cons (pe_lc (own := [("_law_k", 2)]) (g := (gName 2)) (tt := tYes) rfl sc__law_amounts.nd (pi_range1 rfl T.f_range (pa_cons (pv 1) pa_nil)) (blkOk_by (by rfl)) (fun _ _ _ _ _ => (pg_name (i := 2) sc__law_amounts.nd rfl (Or.inl rfl))) (fun _ _ _ _ _ => pts_nil) (fun _ _ _ _ _ => (C8.pe_c c__law_low hr (by decide) rfl (pa_cons (pe_op op_sub (C8.pe_c c__law_sip hr (by decide) rfl (pa_cons (pv 0) (pa_cons pe_int pa_nil))) pe_int) (pa_cons (C8.pe_c c__law_pick hr (by decide) rfl (pa_cons (pv 0) (pa_cons (pe_lst (pa_cons pe_int (pa_cons pe_int (pa_cons pe_int (pa_cons pe_int (pa_cons pe_int (pa_cons pe_int pa_nil))))))) pa_nil))) pa_nil))))) pa_nil))))
abbrev st__law_levels := top 99
theorem sc__law_levels : FnScope ["_law_mug_here", "_law_many", "_law_k"] ["_law_mug_here", "_law_many"] (defScope st__law_levels) := ⟨rfl, rfl, rfl, by decide +kernel, rfl, by decide +kernel, by decide +kernel⟩
def t__law_levels (K : PySem.W.Frag) : TS := (tRet (tCB (rTupOf K) (tCons (tLc (iRng1 (tCons (tVar 1) tNil)) (gName 2) tYes (tCall (sp__law_pick K) [] E0 (tCons (tVar 0) (tCons (tLst (tCons (tC (.int 0)) (tCons (tC (.int 1)) (tCons (tUn uNeg (tC (.int 1))) (tCons (tC (.int 2)) (tCons (tUn uNeg (tC (.int 5))) (tCons (tC (.int 10)) (tCons (tOp rPowI (tC (.int 10)) (tC (.int 20))) (tCons (tCall (sp__law_sip K) [] E0 (tCons (tVar 0) (tCons (tC (.int 100)) tNil))) tNil))))))))) tNil))) [2]) tNil)))
theorem ps__law_levels {P : Program} {w : World} {K : PySem.W.Frag} {mg : Str → Option Value} {base : Heap} (T : Txt P K mg base) (c__law_pick : C8.Cal P w K mg base 35 "_law_pick" (sp__law_pick K) []) (c__law_sip : C8.Cal P w K mg base 34 "_law_sip" (sp__law_sip K) []) : Hps P w K mg base 36 "_law_levels" st__law_levels ["_law_mug_here", "_law_many", "_law_k"] (t__law_levels K) := fun f cdv A outer s H E hr =>
  (pss_one (ps_ret (pe_callTy call_tuple_of (by rfl) T.f_tuple (by decide +kernel) (pa_cons (pe_lc (own := [("_law_k", 2)]) (g := (gName 2)) (tt := tYes) rfl sc__law_levels.nd (pi_range1 rfl T.f_range (pa_cons (pv 1) pa_nil)) (blkOk_by (by rfl)) (fun _ _ _ _ _ => (pg_name (i := 2) sc__law_levels.nd rfl (Or.inl rfl))) (fun _ _ _ _ _ => pts_nil) (fun _ _ _ _ _ => (C8.pe_c c__law_pick hr (by decide) rfl (pa_cons (pv 0) (pa_cons (pe_lst (pa_cons pe_int (pa_cons pe_int (pa_cons (pe_un un_neg pe_int) (pa_cons pe_int (pa_cons (pe_un un_neg pe_int) (pa_cons pe_int (pa_cons (pe_op op_pow pe_int pe_int) (pa_cons (C8.pe_c c__law_sip hr (by decide) rfl (pa_cons (pv 0) (pa_cons pe_int pa_nil))) pa_nil))))))))) pa_nil))))) pa_nil))))
section
variable {P : Program} {w : World} {K : PySem.W.Frag} {mg : Str → Option Value} {base : Heap}
section
variable {ta tb te : TE} {σ : L2.St} {G : Hp} {ns : List Int}
theorem ep_lenSc (h : Ep ta σ G (IsSc K ns)) : Ep (tCB (rLen K) (tCons ta tNil)) σ G (IsI (ns.length : Int)) := ep_cb1 h fun x G1 H1 Q _ s ⟨a, e, h1⟩ q => ⟨x, ns.length, rfl, by rw [e]; exact .inl ⟨_, s.seq h1, by simp⟩, q _ G1 H1 (To.refl s) rfl⟩
theorem ep_ixSc {t : Nat} {z : Int} (ha : Ep ta σ G (IsSc K ns)) (hb : Ep tb σ G (IsI (t : Nat))) (h : ns[t]? = some z) : Ep (tOp (rIxL K) ta tb) σ G (IsI z) :=
  ep_bin ha hb fun v w G1 H1 Q _ s ⟨a, e, h1⟩ py q => ⟨a, _, t, .int z, e, py, s.seq h1, atI_nat (by rw [List.getElem?_map, h]; rfl), q _ G1 H1 (To.refl s) rfl⟩
theorem ep_takeSc (ha : Ep ta σ G (IsSc K ns)) : Ep (tSl (rSlL K) ta tNoPart (tPart (tC (.int 8)))) σ G (IsL IsI (ns.take 8)) := fun G1 H1 e s Q q =>
  ha G1 H1 e s _ fun v G2 H2 t2 ⟨a, ev, h1⟩ => ⟨8, rfl, a, _, ev, t2.in_.seq h1, fun r nr => q _ _ _ (t2.trans (To.alloc t2.in_ nr)) ⟨r, _, rfl, upd_same, by
    have e8 : cutV (ns.map V.int) none (some 8) = (ns.take 8).map V.int := by
      unfold cutV
      rw [HT.sIx_none, show ((8 : Int)) = ((8 : Nat) : Int) from rfl, HT.sIx_nat, List.drop_zero, Nat.sub_zero, List.length_map, ← List.map_take]
      congr 1
      rw [List.take_eq_take_min (i := 8)]
    rw [e8]
    exact All2.of_ints _⟩⟩
/-- a mug just laid -/
theorem ep_newMug {te : TE} {tc : TE} {a b c : Int} (ha : Ep ta σ G (IsI a)) (hb : Ep tb σ G (IsI b)) (hc : Ep tc σ G (IsI c)) : Ep (tLst (tCons ta (tCons tb (tCons tc tNil)))) σ G (fun v G2 => ∃ m, v = .ref m ∧ G m = none ∧ MugAt m G2) := fun G1 H1 e s Q q =>
  ha G1 H1 e s _ fun x G2 H2 t2 px => hb G2 H2 (e.trans t2.up) t2.in_ _ fun y G3 H3 t3 py => hc G3 H3 ((e.trans t2.up).trans t3.up) t3.in_ _ fun z G4 H4 t4 pz => ⟨(by show 3 ≤ sizeLine; decide), fun p np => q _ _ _ (((t2.trans t3).trans t4).trans (To.alloc t4.in_ np)) ⟨p, rfl, (((e.trans t2.up).trans t3.up).trans t4.up).free (t4.in_.free np), a, b, c, by
    have px : x = .int a := px
    have py : y = .int b := py
    have pz : z = .int c := pz
    rw [upd_same, px, py, pz]⟩⟩
theorem ep_pow {a b : Int} (ha : Ep ta σ G (IsI a)) (hb : Ep tb σ G (IsI b)) (hc : CPow a b) : Ep (tOp rPowI ta tb) σ G (IsI (a ^ b.toNat)) := ep_rI ha hb hc
theorem ep_mulL {a b : Int} (ha : Ep ta σ G (IsI a)) (hb : Ep tb σ G (IsI b)) (h : Builtin.Int.intBits a ≤ 64) : Ep (tOp rMulI ta tb) σ G (IsI (a * b)) := ep_mul ha hb (.of_left h)
theorem ep_mulR {a b : Int} (ha : Ep ta σ G (IsI a)) (hb : Ep tb σ G (IsI b)) (h : Builtin.Int.intBits b ≤ 64) : Ep (tOp rMulI ta tb) σ G (IsI (a * b)) := ep_mul ha hb (.of_right h)
end
theorem cal__law_mug (D : Dd K mg "_law_mug" st__law_mug) (T : Txt P K mg base) : C8.Cal P w K mg base 34 "_law_mug" (sp__law_mug K) [] :=
  cal_of D sc__law_mug (fun _ _ _ _ _ _ us hl => match us, hl with | [_, _], _ => rfl) (fun vs H Q E ⟨_, _, _, e, _⟩ => by rw [e]; rfl) (ps__law_mug T) fun vs H Q E ⟨ns, v0, t, e, h0, q⟩ => by
    rw [e]
    have key : Es (t__law_mug K) (start ["_law_script", "_law_turn", "_law_entry", "_law_stirred", "_law_each"] [v0, .int t]) H (fun v G2 => ∃ m, v = .ref m ∧ H m = none ∧ MugAt m G2) NoN := by
      unfold t__law_mug
      refine sq_asg (P := IsE (fun _ => True) IsI) ?_ fun v2 G2 s2 ⟨en, _, p2⟩ => ?_
      · refine ep_if (c := decide ((t : Int) < ns.length)) (et_test (ep_lt (ep_v (i := 1) rfl) (ep_lenSc (ep_var (i := 0) rfl h0)))) (fun h => ?_) fun h => ?_
        · have h := of_decide_eq_true h
          have hl : t < ns.length := by omega
          exact (ep_int1 (ep_ixSc (ep_var (i := 0) rfl h0) (ep_v (i := 1) rfl) (List.getElem?_eq_getElem hl))).to fun v _ _ p => ⟨_, trivial, p⟩
        · exact (ep_add (ep_mulL ep_c (ep_v (i := 1) rfl) (by decide)) ep_c).to fun v _ _ p => ⟨_, trivial, p⟩
      · have p2 : v2 = .int en := p2
        subst p2
        refine sq_asg (P := IsE (fun _ => True) IsI) ((ep_add ep_c (ep_mulL ep_c (ep_v (i := 1) rfl) (by decide))).to fun v _ _ p => ⟨_, trivial, p⟩) fun v3 G3 s3 ⟨s0, _, p3⟩ => ?_
        have p3 : v3 = .int s0 := p3
        subst p3
        refine es_seq (N1 := fun σ _ => ∃ (z : Int) (u : Option V), σ = [some v0, some (.int t), some (.int en), some (.int z), u]) (es_for (it_list (K := K) (F := IsI) (ep_takeSc (ep_var (i := 0) rfl (up (s2.trans s3) h0)))) (fun _ σ _ => ∃ (z : Int) (u : Option V), σ = [some v0, some (.int t), some (.int en), some (.int z), u]) ⟨s0, none, rfl⟩ (fun _ _ _ _ _ h => h) ?_ fun _ _ _ h => h) ?_
        · rintro i y u σ1 G4 hi s4 ⟨z, u', rfl⟩ hu
          refine ⟨_, gb_name, es_asg (P := IsE (fun _ => True) IsI) ((ep_mod (ep_int1 (ep_add (ep_add (ep_mulR (ep_v (i := 3) rfl) ep_c (by decide)) (ep_mod (ep_int1 (ep_var (i := 4) rfl hu)) ep_c (by decide))) (ep_v (i := 1) rfl))) ep_c (by decide)).to fun v _ _ p => ⟨_, trivial, p⟩) fun v3 G5 s5 ⟨z', _, p3⟩ => ⟨z', some u, by
            have p3 : v3 = .int z' := p3
            rw [p3] <;> rfl⟩⟩
        · rintro σ2 G4 s4 ⟨z, u', rfl⟩
          refine sq_asg (P := IsE (fun _ => True) IsI) ((ep_mod (ep_int1 (ep_add (ep_mulR (ep_v (i := 3) rfl) ep_c (by decide)) (ep_mod (ep_int1 (ep_v (i := 2) rfl)) ep_c (by decide)))) ep_c (by decide)).to fun v _ _ p => ⟨_, trivial, p⟩) fun v3 G5 s5 ⟨z', _, p3⟩ => ?_
          have p3 : v3 = .int z' := p3
          subst p3
          have sH : Same H G5 := ((s2.trans s3).trans s4).trans s5
          have hif : ∀ {G6 : Hp}, ∃ a : Int, Ep (tIf (tTest (tOp rGeI (tCB rAbs (tCons (tVar 2) tNil)) (tOp rPowI (tC (.int 10)) (tC (.int 18))))) (tCB rAbs (tCons (tVar 2) tNil)) (tC (.int 0))) [some v0, some (.int t), some (.int en), some (.int z'), u'] G6 (IsI a) := fun {G6} => by
            by_cases hb : (10 : Int) ^ (18 : Int).toNat ≤ (en.natAbs : Int)
            · exact ⟨en.natAbs, ep_if (c := true) ((et_test (ep_ge (ep_abs (ep_v (i := 2) rfl)) (ep_pow ep_c ep_c ⟨by decide, by decide, by decide⟩))).is (decide_eq_true hb)) (fun _ => ep_abs (ep_v (i := 2) rfl)) fun z => nomatch z⟩
            · exact ⟨0, ep_if (c := false) ((et_test (ep_ge (ep_abs (ep_v (i := 2) rfl)) (ep_pow ep_c ep_c ⟨by decide, by decide, by decide⟩))).is (decide_eq_false hb)) (fun z => nomatch z) fun _ => ep_c⟩
          obtain ⟨a, ha⟩ := hif (G6 := G5)
          exact es_ret ((ep_newMug (te := tVar 0) ha (ep_v (i := 3) rfl) ep_c).to fun v G6 _ ⟨m, e, hm, hmug⟩ => ⟨m, e, sH.free hm, hmug⟩)
    refine key H H _ (Same.refl H) (Same.refl H) (fun v G2 H2 t2 ⟨m, ev, hm, hmug⟩ => ?_) fun _ _ _ _ z => z.elim
    subst ev
    obtain ⟨x, y, z, hz⟩ := hmug
    exact q m H2 t2.big hm ⟨x, y, z, t2.in_ _ _ hz⟩
theorem mug_td {m : Addr} {G H : Hp} {a b c : Int} (s : St m G H) : Td m G H G (L2.upd H m (.lst [.int a, .int b, .int c])) :=
  ⟨fun x o h e => by rw [upd_ne h]; exact e, Same.refl G, fun x o e => by rw [upd_ne (ne_of_none e s.gm)]; exact s.in_ x o e, s.gm, ⟨a, b, c, upd_same⟩, fun _ _ e => .inl e⟩
theorem h_inc {u : TS} {D : Ends} {σ : L2.St} {H : Hp} {m : Addr} {a b c : Int} (hσ : σ[0]? = some (some (.ref m))) (hm : H m = some (.lst [.int a, .int b, .int c])) (k : u D σ (L2.upd H m (.lst [.int a, .int b, .int (c + 1)]))) :
    tSeq (tAsg (tOp rAddI (tOp (rIxL K) (tVar 0) (tC (.int 2))) (tC (.int 1))) (gSub (tVar 0) (tC (.int 2)) rSetL)) u D σ H :=
  ⟨_, hσ, m, _, 2, _, rfl, rfl, SqL.of hm, rfl, _, _, rfl, rfl, _, hσ, m, _, 2, 2, rfl, rfl, hm, rfl, k⟩
theorem cal__law_sip (D : Dd K mg "_law_sip" st__law_sip) (T : Txt P K mg base) : C8.Cal P w K mg base 34 "_law_sip" (sp__law_sip K) [] :=
  cal_of D sc__law_sip (fun _ _ _ _ _ _ us hl => match us, hl with | [_, _], _ => rfl) (fun vs H Q E ⟨_, _, _, _, e, _⟩ => by rw [e]; rfl) (ps__law_sip T) fun vs H Q E ⟨G, m, t, y, e, s, hy, ht, q⟩ => by
    rw [e]
    have hy : y = .int t := hy
    subst hy
    obtain ⟨a, b, c, hm⟩ := id s.mug
    -- mug[2] = mug[2] + 1
    unfold t__law_sip
    refine h_inc rfl hm ?_
    have s1 : Td m G H G (L2.upd H m (.lst [.int a, .int b, .int (c + 1)])) := mug_td s
    have h1 : L2.upd H m (.lst [.int a, .int b, .int (c + 1)]) m = some (.lst [.int a, .int b, .int (c + 1)]) := upd_same
    generalize L2.upd H m (.lst [.int a, .int b, .int (c + 1)]) = H1 at *
    by_cases ha : (0 : Int) < a
    · refine ⟨_, rfl, m, _, 0, _, rfl, rfl, SqL.of h1, rfl, _, _, rfl, rfl, _, rfl, ite2 (fun _ => ?_) fun h => (h (decide_eq_true ha)).elim⟩
      refine ⟨_, rfl, m, _, 0, _, rfl, rfl, SqL.of h1, rfl, .inl ⟨_, rfl, _, rfl, _, _, rfl, rfl, ht, ?_⟩⟩
      refine ⟨_, rfl, m, _, 0, _, rfl, rfl, SqL.of h1, rfl, .inl ⟨_, rfl, _, rfl, _, _, rfl, rfl, ht, _, rfl, m, _, 0, 0, rfl, rfl, h1, rfl, ?_⟩⟩
      exact ⟨_, rfl, q _ G _ (s1.trans s.mug (mug_td (a := a / t) (b := b) (c := c + 1) s1.st)) ⟨a % t, ⟨Int.emod_nonneg _ (by have : 0 < t := ht; omega), Int.emod_lt_of_pos _ ht⟩, rfl⟩⟩
    · refine ⟨_, rfl, m, _, 0, _, rfl, rfl, SqL.of h1, rfl, _, _, rfl, rfl, _, rfl, ite2 (fun h => (ha (of_decide_eq_true h)).elim) fun _ => ?_⟩
      refine ⟨_, rfl, m, _, 1, _, rfl, rfl, SqL.of h1, rfl, _, _, rfl, rfl, .of_right (by decide), _, rfl, m, _, 2, _, rfl, rfl, SqL.of h1, rfl, _, _, rfl, rfl, .of_left (by decide), _, _, rfl, rfl, _, _, rfl, rfl, .inl ⟨_, rfl, _, _, rfl, rfl, (by show (0 : Int) < 2147483563; decide), _, rfl, m, _, 1, 1, rfl, rfl, h1, rfl, ?_⟩⟩
      have s2 := s1.trans s.mug (mug_td (a := a) (b := (b * 39373 + 2003 * (c + 1) + 31) % 2147483563) (c := c + 1) s1.st)
      refine ⟨_, rfl, m, _, 1, _, rfl, rfl, SqL.of upd_same, rfl, _, _, rfl, rfl, (by show (0 : Int) < 128; decide), .inl ⟨_, rfl, _, rfl, _, _, rfl, rfl, ht, ?_⟩⟩
      exact q _ G _ s2 ⟨_, ⟨Int.emod_nonneg _ (by have : 0 < t := ht; omega), Int.emod_lt_of_pos _ ht⟩, rfl⟩
theorem cal__law_pick (D : Dd K mg "_law_pick" st__law_pick) (T : Txt P K mg base) (c1 : C8.Cal P w K mg base 34 "_law_sip" (sp__law_sip K) []) : C8.Cal P w K mg base 35 "_law_pick" (sp__law_pick K) [] :=
  cal_of D sc__law_pick (fun _ _ _ _ _ _ us hl => match us, hl with | [_, _], _ => rfl) (fun vs H Q E ⟨_, _, _, _, e, _⟩ => by rw [e]; rfl) (ps__law_pick T c1) fun vs H Q E ⟨G, m, ns, y, e, s, hy, ⟨hne, hl⟩, q⟩ => by
    rw [e]
    have hlen : 0 < ns.length := List.length_pos_iff.mpr hne
    have h : Ed m (tOp (rIxL K) (tVar 1) (tCall (sp__law_sip K) [] E0 (tCons (tVar 0) (tCons (tCB (rLen K) (tCons (tVar 1) tNil)) tNil)))) (start ["_law_mug_here", "_law_menu"] [.ref m, y]) G (IsE (fun r => r ∈ ns) IsI) :=
      ed_bin (P := IsL IsI ns) (P' := IsE (fun r => 0 ≤ r ∧ r < (ns.length : Int)) IsI) (Ed.of (ep_var (i := 1) rfl hy)) (ed_draw (i := 0) (C2 := fun t => t = (ns.length : Int)) rfl ((Ed.of (ep_len (K := K) (F := IsI) (Ep.sL (ep_var (i := 1) rfl hy)))).one rfl) (fun b hb => by rw [hb]; omega) fun b v G' hb p => by rw [hb] at p; exact p) fun x z G1 H1 Q _ s1 ⟨p, vs, e1, h1, h2⟩ ⟨r, hr, pz⟩ q => by
        obtain ⟨k, rfl⟩ := Int.eq_ofNat_of_zero_le hr.1
        have hk : k < ns.length := by omega
        obtain ⟨u, hu, pu⟩ := h2.get (List.getElem?_eq_getElem hk)
        exact ⟨p, vs, k, u, e1, pz, SqL.of (s1 _ _ h1), atI_nat hu, q _ G1 H1 (To.refl s1) ⟨ns[k], List.getElem_mem hk, pu⟩⟩
    exact h G H (Same.refl G) s _ fun v G2 H2 t2 p => q v G2 H2 t2 p
theorem ed_tup {m : Addr} {α : Type} {F : α → VP} [∀ x, Stays (F x)] {C : List α → Prop} {ta : TE} {σ : L2.St} {G : Hp} (h : Ed m ta σ G (IsE C (IsL F))) : Ed m (tCB (rTupOf K) (tCons ta tNil)) σ G (IsE C (IsT K F)) :=
  ed_cb1 h fun x G1 H1 Q _ s ⟨xs, hc, p, vs, e, h1, h2⟩ q => by
    subst e
    exact ⟨_, vs, rfl, .inl ⟨SqL.of (s _ _ h1), fun l nl => q _ _ _ (To.alloc s nl) ⟨xs, hc, l, vs, rfl, SqT.of upd_same, All2.up (Same.new (s.free nl)) h2⟩⟩⟩
theorem wi_rng1 {m : Addr} {σ : L2.St} {G : Hp} {ta : TE} {C : Nat → Prop} (h : Ed m ta σ G (IsE (fun z : Int => ∃ n : Nat, z = n ∧ C n) IsI)) (hn : ∀ n, C n → n ≤ 900) : ∀ G1 H1, Same G G1 → St m G1 H1 → ∀ Rr : L2.It → Hp → Prop, (∀ n G2 H2, Td m G1 H1 G2 H2 → C n → Rr (Itr 0 n) H2) → iRng1 (tCons ta tNil) σ H1 Rr := fun G1 H1 g s Rr k =>
  h G1 H1 g s _ fun v G2 H2 t2 ⟨z, ⟨n, e, hc⟩, pv⟩ => by
    subst e
    have pv : v = .int (n : Nat) := pv
    subst pv
    have := hn n hc
    exact ⟨(n : Nat), rfl, by omega, by omega, k n G2 H2 t2 hc⟩
theorem am_sz {a b : Int} (ha : 0 ≤ a ∧ a < 19) (hb : b ∈ ([1, 1, 1, 2, 3, 7] : List Int)) : AmOk (((a - 9 : Int) : Rat) / (b : Rat)) := by
  have h : b = 1 ∨ b = 2 ∨ b = 3 ∨ b = 7 := by
    simp at hb
    omega
  exact sz_div (by omega) (by omega) (by omega)
theorem cal__law_amounts (D : Dd K mg "_law_amounts" st__law_amounts) (T : Txt P K mg base) (c1 : C8.Cal P w K mg base 34 "_law_low" (sp__law_low K) []) (c2 : C8.Cal P w K mg base 35 "_law_pick" (sp__law_pick K) []) (c3 : C8.Cal P w K mg base 34 "_law_sip" (sp__law_sip K) []) : C8.Cal P w K mg base 37 "_law_amounts" (sp__law_amounts K) [] :=
  cal_of D sc__law_amounts (fun _ _ _ _ _ _ us hl => match us, hl with | [_, _], _ => rfl) (fun vs H Q E ⟨_, _, _, _, e, _⟩ => by rw [e]; rfl) (ps__law_amounts T c1 c2 c3) fun vs H Q E ⟨G, m, n, y, e, s, hy, hn, q⟩ => by
    rw [e]
    have hy : y = .int (n : Nat) := hy
    subst hy
    have h := ed_tup (K := K) (m := m) (ed_lm (m := m) (G := G) (σ := start ["_law_mug_here", "_law_many", "_law_k"] [.ref m, .int (n : Nat)]) (te := tCall (sp__law_low K) [] E0 (tCons (tOp rSubI (tCall (sp__law_sip K) [] E0 (tCons (tVar 0) (tCons (tC (.int 19)) tNil))) (tC (.int 9))) (tCons (tCall (sp__law_pick K) [] E0 (tCons (tVar 0) (tCons (tLst (tCons (tC (.int 1)) (tCons (tC (.int 1)) (tCons (tC (.int 1)) (tCons (tC (.int 2)) (tCons (tC (.int 3)) (tCons (tC (.int 7)) tNil))))))) tNil))) tNil))) (s := 2) (vs := [2]) (C := fun k => k = n) (Ce := AmOk) (R := IsF K) (fun k hk => by omega) (wi_rng1 ((Ed.of (ep_v (i := 1) rfl)).one ⟨n, rfl, rfl⟩) fun k hk => by omega) (fun _ => rfl) fun i G2 s2 => ?_)
    · exact h G H (Same.refl G) s _ fun v G2 H2 t2 p => q v G2 H2 t2 p
    · refine ed_call2 (P1 := IsI) (P2 := IsI) (C1 := fun z => ∃ a, (0 ≤ a ∧ a < 19) ∧ z = a - 9) (C2 := fun b => b ∈ ([1, 1, 1, 2, 3, 7] : List Int)) (ed_op (f := fun i j => i - j) (C1 := fun r => 0 ≤ r ∧ r < 19) (C2 := fun z => z = 9) (ed_draw (i := 0) (C2 := fun t => t = 19) rfl ((Ed.of ep_c).one rfl) (fun b hb => by rw [hb]; decide) fun b v G' hb p => by rw [hb] at p; exact p) ((Ed.of ep_c).one rfl) fun a b h1 h2 => ⟨a, h1, by rw [h2]⟩)
        (ed_draw (i := 0) (C2 := fun ns => ns = ([1, 1, 1, 2, 3, 7] : List Int)) rfl (Ed.of ?_) (fun b hb => by rw [hb]; exact ⟨by simp, by decide⟩) fun b v G' hb p => by rw [hb] at p; exact p) (fun a b _ hb => by simp at hb; omega) fun a b v G' ⟨z, hz, ez⟩ hb p => ⟨_, ?_, p⟩
      · exact (ep_lst1 (P := IsL IsI [1, 1, 1, 2, 3, 7]) (ea_cons ep_c (ea_cons ep_c (ea_cons ep_c (ea_cons ep_c (ea_cons ep_c (ea_cons ep_c ea_nil)))))) (fun vs G' ⟨_, _, h, _, _, _, h2, _, _, _, h3, _, _, _, h4, _, _, _, h5, _, _, _, h6, _, h7⟩ => by rw [h, h2, h3, h4, h5, h6, h7]; simp) fun p vs G' ⟨_, _, h, e1, _, _, h2, e2, _, _, h3, e3, _, _, h4, e4, _, _, h5, e5, _, _, h6, e6, h7⟩ np => by
          rw [h, h2, h3, h4, h5, h6, h7]
          exact ⟨p, _, rfl, upd_same, e1, e2, e3, e4, e5, e6, trivial⟩).to fun v _ _ p => ⟨_, rfl, p⟩
      · rw [ez]
        exact am_sz hz hb
theorem cal__law_levels (D : Dd K mg "_law_levels" st__law_levels) (T : Txt P K mg base) (c2 : C8.Cal P w K mg base 35 "_law_pick" (sp__law_pick K) []) (c3 : C8.Cal P w K mg base 34 "_law_sip" (sp__law_sip K) []) : C8.Cal P w K mg base 37 "_law_levels" (sp__law_levels K) [] :=
  cal_of D sc__law_levels (fun _ _ _ _ _ _ us hl => match us, hl with | [_, _], _ => rfl) (fun vs H Q E ⟨_, _, _, _, e, _⟩ => by rw [e]; rfl) (ps__law_levels T c2 c3) fun vs H Q E ⟨G, m, n, y, e, s, hy, hn, q⟩ => by
    rw [e]
    have hy : y = .int (n : Nat) := hy
    subst hy
    have h := ed_tup (K := K) (m := m) (ed_lm (m := m) (G := G) (σ := start ["_law_mug_here", "_law_many", "_law_k"] [.ref m, .int (n : Nat)]) (te := tCall (sp__law_pick K) [] E0 (tCons (tVar 0) (tCons (tLst (tCons (tC (.int 0)) (tCons (tC (.int 1)) (tCons (tUn uNeg (tC (.int 1))) (tCons (tC (.int 2)) (tCons (tUn uNeg (tC (.int 5))) (tCons (tC (.int 10)) (tCons (tOp rPowI (tC (.int 10)) (tC (.int 20))) (tCons (tCall (sp__law_sip K) [] E0 (tCons (tVar 0) (tCons (tC (.int 100)) tNil))) tNil))))))))) tNil))) (s := 2) (vs := [2]) (C := fun k => k = n) (Ce := LvOk) (R := IsI) (fun k hk => by omega) (wi_rng1 ((Ed.of (ep_v (i := 1) rfl)).one ⟨n, rfl, rfl⟩) fun k hk => by omega) (fun _ => rfl) fun i G2 s2 => ?_)
    · exact h G H (Same.refl G) s _ fun v G2 H2 t2 p => q v G2 H2 t2 p
    · refine ed_draw (i := 0) (C2 := fun ns : List Int => (∀ z ∈ ns, LvOk z) ∧ ns ≠ [] ∧ ns.length ≤ 1000) rfl (ed_lst (C := fun ns : List Int => (∀ z ∈ ns, LvOk z) ∧ ns ≠ [] ∧ ns.length ≤ 1000) ?_) (fun b hb => hb.2) fun b v G' hb ⟨r, hr, p⟩ => ⟨r, hb.1 r hr, p⟩
      have hc : ∀ a : Int, Ed m (tC (.int a)) ((wipe (start ["_law_mug_here", "_law_many", "_law_k"] [.ref m, .int (n : Nat)]) [2]).set 2 (some (.int (i : Nat)))) G2 (IsI a) := fun a => Ed.of ep_c
      have hs : Ed m (tCall (sp__law_sip K) [] E0 (tCons (tVar 0) (tCons (tC (.int 100)) tNil))) ((wipe (start ["_law_mug_here", "_law_many", "_law_k"] [.ref m, .int (n : Nat)]) [2]).set 2 (some (.int (i : Nat)))) G2 (IsE (fun r => 0 ≤ r ∧ r < 100) IsI) := ed_draw (i := 0) (C2 := fun t => t = 100) rfl ((hc 100).one rfl) (fun b hb => by rw [hb]; decide) fun b v G' hb p => by rw [hb] at p; exact p
      have ha := eda_cons (hc 0) (eda_cons (hc 1) (eda_cons (Ed.of (ep_neg (ep_c (v := .int 1)))) (eda_cons (hc 2) (eda_cons (Ed.of (ep_neg (ep_c (v := .int 5)))) (eda_cons (hc 10) (eda_cons (Ed.of (ep_pow (ep_c (v := .int 10)) (ep_c (v := .int 20)) ⟨by decide, by decide, by decide⟩)) (eda_cons hs eda_nil)))))))
      refine fun G1 H1 g st Q q => ha G1 H1 g st Q fun vs G3 H3 t3 ⟨_, _, h, e1, _, _, h2, e2, _, _, h3, e3, _, _, h4, e4, _, _, h5, e5, _, _, h6, e6, _, _, h7, e7, _, _, h8, ⟨r, hr, e8⟩, h9⟩ => q vs G3 H3 t3 ⟨[0, 1, -1, 2, -5, 10, 10 ^ (20 : Int).toNat, r], ⟨fun z hz => ?_, by simp, by simp⟩, by simp, ?_⟩
      · simp only [List.mem_cons, List.not_mem_nil, or_false] at hz
        unfold LvOk
        rcases hz with rfl | rfl | rfl | rfl | rfl | rfl | rfl | rfl
        all_goals first | decide | exact ⟨by omega, by omega⟩
      · have e1 := e1.symm
        rw [h, h2, h3, h4, h5, h6, h7, h8, h9]
        rw [show _ = V.int _ from e2, show _ = V.int _ from e3, show _ = V.int _ from e4, show _ = V.int _ from e5, show _ = V.int _ from e6, show _ = V.int _ from e7, show _ = V.int _ from e8, ← e1]
        rfl
end
end Bt
/-! ==== V3 ==== -/
set_option Elab.async false
set_option linter.all false
set_option maxRecDepth 100000
set_option maxHeartbeats 2000000
/-! set(list of ints), as the layer's tracked set: the library has it of a tuple only (SetFor); the same way, for a list. -/
namespace Bt
open PySem PySem.Spec PyProof.Rows L2
section
variable {P : Program} {w : World} {A : Around} {E : Value → Shared → Prop} {s : Shared}
abbrev newSet (w : World) : Obj := { cls := .type "set", dict := none, data := .set #[] 0 (.fresh 0 0 (!w.params.followText "set-order")) }
set_option maxRecDepth 100000 in
set_option maxHeartbeats 3200000 in
theorem set_of_list {l : Addr} {items : Array Value} (ns : List Int) {Q : Value → Shared → Prop} (hh : A.handled = none) (hl : s.heap.IsList l items) (areI : IntsAre items.toList ns) (hb : ns.length + 1 < scanBound)
    (h : ∀ (h' : Heap) (tk c : Nat), SetR w h' s.heap.objs.size (fun j => decide (j ∈ ns)) c → c ≤ ns.length → (∀ b o, s.heap.get? b = some o → h'.get? b = some o) → Q (.ref s.heap.objs.size) { s with heap := h', toks := tk }) :
    wpAny (model P w) A (call (.type "set") [.ref l]) Q E s := by
  have size_eq : items.size = ns.length := by
    have q := IntsAre.length areI
    rw [Array.length_toList] at q
    exact q
  obtain ⟨c, tl, m3⟩ := F.called_set.mro
  have m1 := F.called_set.made
  have m2 := F.called_set.sub
  refine wpAny_call (codeAny_of_tree ?_)
  show wpAny _ _ (callAny (.type "set") _) _ _ _
  refine wpAny_pure ⟨Code.quiet_builtin _ (by decide +kernel), codeAny_builtin F.entry_type_call ?_⟩
  rw [Around.under_plain (weight_type_call_type "set" [.ref l] []) rfl]
  have h1 := F.called_set.notType
  have h2 := F.called_set.canCreate
  have m4 := F.typeCall_set_1 (.ref l)
  repeat (any_goals (first | assumption | wp_step))

  refine codeAny_mono (code_set_led1 (.ref l) (E := E) (Q₁ := fun obj s₁ => obj = .ref s.heap.objs.size ∧ s₁ = { s with heap := s.heap.push (newSet w) }) ⟨rfl, rfl⟩) fun r s₁ hr => ?_
  cases r with
  | error e => exact hr
  | ok fl =>
    cases fl with
    | ret obj =>
      obtain ⟨rfl, rfl⟩ := hr
      have hS : (s.heap.push (newSet w)).get? s.heap.objs.size = some (newSet w) := Heap.get?_push_size _ rfl
      have hT : Shared.TypeIs { s with heap := s.heap.push (newSet w) } (.ref s.heap.objs.size) "set" := ⟨_, hS, rfl⟩
      have i1 := F.called_set.init.lookup
      have i2 := F.called_set.init.bind (.ref s.heap.objs.size)
      repeat (any_goals (first | assumption | wp_step))

      refine codeAny_mono (codeAny_call_builtin (R := wants (fun r s₂ => r = .none ∧ ∃ h' tk c, s₂ = { s with heap := h', toks := tk } ∧ SetR w h' s.heap.objs.size (fun j => decide (j ∈ ns)) c ∧ c ≤ ns.length ∧
          (∀ b o, s.heap.get? b = some o → h'.get? b = some o)) E) F.called_set.init.plain F.entry_set_init (check_set_init_1 hT ?_)) fun r₂ s₂ hr₂ => ?_
      · obtain ⟨ol, at1, cls1, nl, dat1⟩ := hl
        obtain ⟨o1, o2, o3, o4⟩ := ol
        simp only at cls1 dat1
        subst cls1; subst dat1
        have at1' : (s.heap.push (newSet w)).get? l = some { cls := .type "list", dict := o2, data := .seq items nl, slots := o4 } := Heap.get?_push_of_some _ at1
        have u1 := F.sub_list_set
        have u2 := F.sub_list_frozenset
        have hne : (Value.type "list" == Value.type "dict") = false := by decide
        have hl1 : (s.heap.push (newSet w)).IsList l items := ⟨_, at1', rfl, nl, rfl⟩
        unfold Builtin.«set.__init__» noKeywords Builtin.Frozenset.updateFrom
        generalize gen1 : pyIter = PI
        wp_walk
        subst gen1

        refine wpAny_pyIter_list hl1 ?_
        refine wpAny_bind (wpAny_runValue ?_)
        have lt1 : l < s.heap.objs.size := Heap.lt_size at1
        have calm3 : A.in1.in1.in1.handled = none := by simp [hh]
        have sz1 : (s.heap.push (newSet w)).objs.size = s.heap.objs.size + 1 := Heap.size_push ..
        have ne1 : l ≠ (s.heap.push (newSet w)).objs.size := by
          rw [Heap.size_push]; exact Nat.ne_of_lt (Nat.lt_succ_of_lt lt1)
        have out1 : s.heap.objs.size ∉ [(s.heap.push (newSet w)).objs.size, l] := by
          rw [Heap.size_push]; simp only [List.mem_cons, List.mem_singleton, List.not_mem_nil, or_false, not_or]
          exact ⟨Nat.ne_of_lt (Nat.lt_succ_self _), Nat.ne_of_gt lt1⟩
        have val1 : ∀ (i : Nat) (v : Value), items[i]? = some v → ∃ k t, ns[i]? = some k ∧ v = .int k t := fun i v hv => by
          have hi : i < ns.length := by rw [← size_eq]; exact (Array.getElem?_eq_some_iff.mp hv).1
          obtain ⟨t, e⟩ := PyProof.Rows.IntsAre.int_at areI i v (by rw [Array.getElem?_toList]; exact hv)
          refine ⟨ns[i], t, List.getElem?_eq_getElem hi, ?_⟩
          rw [e, List.getD_eq_getElem?_getD, List.getElem?_eq_getElem hi] <;> rfl
        refine set_update_ints ((Walks.list calm3 _ l ne1 items).toS) s.heap.objs.size
          out1 ns size_eq hb val1 (items.size - 0) 0 _ (by omega) (Nat.zero_le _)
          ⟨⟨_, Heap.get?_push_size _ rfl, rfl, rfl⟩, (hl1.push _)⟩ ?hS0 ?hR
        case hS0 =>
          have get1 : ((s.heap.push (newSet w)).push { cls := .type "list_iterator", data := .fields #[.ref l, .int 0 0] }).get? s.heap.objs.size
              = some (newSet w) := Heap.get?_push_of_some _ hS
          exact ⟨0, Nat.le_refl 0, setR_new_at get1⟩
        case hR =>
          intro s' c' hm hc' hS'
          obtain ⟨h', g2, d', tk', os'⟩ := s'
          have eg : g2 = s.gens := hm.gens
          have ed : d' = s.drawn := hm.drawn
          have eo : os' = s.os := hm.os
          subst eg; subst ed; subst eo
          show wpAny _ _ _ _ _ _
          refine wpAny_pure ?_
          show wpAny _ _ (ret Value.none) _ _ _
          rw [size_eq] at hc'
          refine wpAny_pure ⟨rfl, h', tk', c', rfl, hS', hc', fun b o e => ?_⟩
          have hb0 : b < s.heap.objs.size := Heap.lt_size e
          have hb1 : b ≠ s.heap.objs.size := Nat.ne_of_lt hb0
          have hb2 : b ≠ (s.heap.push (newSet w)).objs.size := by
            rw [Heap.size_push]; exact Nat.ne_of_lt (Nat.lt_succ_of_lt hb0)
          exact hm.heap b o (by simp only [List.mem_cons, List.mem_singleton, List.not_mem_nil, or_false, not_or]; exact ⟨hb1, hb2⟩) (Heap.get?_push_of_some _ (Heap.get?_push_of_some _ e))

      · cases r₂ with
        | error e => exact hr₂
        | ok fl₂ =>
          cases fl₂ with
          | ret r =>
            obtain ⟨rfl, h', tk, c', rfl, hS', hc', hk'⟩ := hr₂
            repeat (any_goals (first | assumption | wp_step))
            exact h _ _ _ hS' hc' hk'
          | _ => exact hr₂.elim
    | _ => exact hr.elim

end

/-- set(xs), xs a list of ints -/
def rSetOfL (K : PySem.W.Frag) (w : World) : List V → Hp → VK → Prop := fun xs H Q => ∃ (l : Addr) (ns : List Int), xs = [V.ref l] ∧ SqL K H l (ns.map V.int) ∧ ns.length < 64 ∧ ∀ p c, H p = none → c ≤ ns.length → Q (.ref p) (upd H p (SetO w p (fun j => decide (j ∈ ns)) c))
theorem cr_setOfL {X : Cx} (hc : X.calm = true) : CallR X (.type "set") (rSetOfL X.K X.w) := by
  intro pins s σ H xs us Q I r h
  obtain ⟨l, ns, rfl, hq, h64, q⟩ := h
  rw [Vals.ref1 r]
  obtain ⟨its, rv, pl, hz⟩ := I.list hq
  refine set_of_list ns (I.ok.hd hc) pl.isList (by simpa using intsAre_of rv) (by unfold scanBound; omega) fun h' tk c hS hc' hk => ?_
  exact ⟨.ref _, upd H s.heap.objs.size (SetO X.w s.heap.objs.size (fun j => decide (j ∈ ns)) c), I.laid (t' := tk) (fun b u e => hk b u e) (Nat.le_refl _) (setO_new hS), rfl, q _ c (I.hok.fresh (Nat.le_refl _)) hc'⟩
end Bt
/-! ==== W17 ==== -/
set_option Elab.async false
set_option linter.all false
set_option maxRecDepth 100000
set_option maxHeartbeats 2000000
/-! Drawn frames and places. -/
namespace Bt
open PySem PySem.Spec PyProof.Rows L2 SW
/-- what is drawn -/
structure DrOk (f : Int × List Int) : Prop where
  fr : FrOk f
  few : nOf f ≤ 5
  one : 1 ≤ nOf f
  most : ∀ k ∈ f.2, 0 ≤ k ∧ k ≤ 100005
structure SiOk (xs : List Int) : Prop where
  pl : Places xs
  few : xs.length ≤ 9
def sp__law_draft (K : PySem.W.Frag) : Sp := fun vs H Q _ => ∃ G m M, vs = [.ref m, .int 5, .int M] ∧ St m G H ∧ (0 ≤ M ∧ M ≤ 100000) ∧ ∀ v G' H', Td m G H G' H' → IsE DrOk (IsDr K) v G' → Q v H'
def sp__law_sites (K : PySem.W.Frag) : Sp := fun vs H Q _ => ∃ G m f v1, vs = [.ref m, v1, .int 9] ∧ St m G H ∧ IsDr K f v1 G ∧ DrOk f ∧ ∀ v G' H', Td m G H G' H' → IsE SiOk (IsT K IsI) v G' → Q v H'
abbrev st__law_draft := top 91
theorem sc__law_draft : FnScope ["_law_mug_here", "_law_most_hills", "_law_most", "_law_grade", "_law_many", "_law_k", "_law_bolts", "_law_bolt"] ["_law_mug_here", "_law_most_hills", "_law_most"] (defScope st__law_draft) := ⟨rfl, rfl, rfl, by decide +kernel, rfl, by decide +kernel, by decide +kernel⟩
def t__law_draft (K : PySem.W.Frag) : TS := (tSeq (tAsg (tTup (tCons (tCall (sp__law_pick K) [] E0 (tCons (tVar 0) (tCons (tLst (tCons (tC (.int 0)) (tCons (tC (.int 1)) (tCons (tC (.int 1)) (tCons (tC (.int 2)) (tCons (tC (.int 2)) (tCons (tC (.int 3)) (tCons (tC (.int 4)) tNil)))))))) tNil))) (tCons (tOp rAddI (tC (.int 1)) (tCall (sp__law_sip K) [] E0 (tCons (tVar 0) (tCons (tVar 1) tNil)))) tNil))) (gTup K 2 (gCons (gName 3) (gCons (gName 4) gNil))))
    (tSeq (tAsg (tCB (rSorted K) (tCons (tLc (iRng1 (tCons (tOp rAddI (tOp rAddI (tVar 4) (tVar 3)) (tC (.int 1))) tNil)) (gName 5) tYes (tCall (sp__law_sip K) [] E0 (tCons (tVar 0) (tCons (tOp rAddI (tVar 2) (tC (.int 1))) tNil))) [5]) tNil)) (gName 6))
    (tSeq (tIfS (tAnd (tTest (tOp rEq (tCall (sp__law_sip K) [] E0 (tCons (tVar 0) (tCons (tC (.int 3)) tNil))) (tC (.int 0)))) (tTest (tOp rGtI (tVar 4) (tVar 3)))) (tAsg (tOp rCat (tOp rCat (tOp rRep (tLst (tCons (tOp (rIxL K) (tVar 6) (tC (.int 0))) tNil)) (tOp rAddI (tVar 3) (tC (.int 1)))) (tSl (rSlL K) (tVar 6) (tPart (tOp rAddI (tVar 3) (tC (.int 1)))) (tPart (tVar 4)))) (tOp rRep (tLst (tCons (tOp (rIxL K) (tVar 6) (tUn uNeg (tC (.int 1)))) tNil)) (tOp rAddI (tVar 3) (tC (.int 1))))) (gName 6)) tNext)
    (tSeq (tWhile (tTest (tOp (rNeD K) (tLc (iRng1 (tCons (tOp rSubI (tOp rSubI (tCB (rLen K) (tCons (tVar 6) tNil)) (tVar 3)) (tC (.int 1))) tNil)) (gName 5) (tTest (tOp rEq (tOp (rIxL K) (tVar 6) (tVar 5)) (tOp (rIxL K) (tVar 6) (tOp rAddI (tOp rAddI (tVar 5) (tVar 3)) (tC (.int 1)))))) (tVar 5) [5]) (tLst tNil))) (tSeq (tAsg (tOp (rIxL K) (tLc (iRng1 (tCons (tOp rSubI (tOp rSubI (tCB (rLen K) (tCons (tVar 6) tNil)) (tVar 3)) (tC (.int 1))) tNil)) (gName 5) (tTest (tOp rEq (tOp (rIxL K) (tVar 6) (tVar 5)) (tOp (rIxL K) (tVar 6) (tOp rAddI (tOp rAddI (tVar 5) (tVar 3)) (tC (.int 1)))))) (tVar 5) [5]) (tC (.int 0))) (gName 5))
    (tAsg (tOp rCat (tSl (rSlL K) (tVar 6) tNoPart (tPart (tOp rAddI (tOp rAddI (tVar 5) (tVar 3)) (tC (.int 1))))) (tLc (iList K (tSl (rSlL K) (tVar 6) (tPart (tOp rAddI (tOp rAddI (tVar 5) (tVar 3)) (tC (.int 1)))) tNoPart)) (gName 7) tYes (tOp rAddI (tVar 7) (tC (.int 1))) [7])) (gName 6))))
    (tRet (tLst (tCons (tVar 3) (tCons (tCB (rTupOf K) (tCons (tVar 6) tNil)) tNil))))))))
theorem ps__law_draft {P : Program} {w : World} {K : PySem.W.Frag} {mg : Str → Option Value} {base : Heap} (T : Txt P K mg base) (c__law_sip : C8.Cal P w K mg base 34 "_law_sip" (sp__law_sip K) []) (c__law_pick : C8.Cal P w K mg base 35 "_law_pick" (sp__law_pick K) []) : Hps P w K mg base 35 "_law_draft" st__law_draft ["_law_mug_here", "_law_most_hills", "_law_most", "_law_grade", "_law_many", "_law_k", "_law_bolts", "_law_bolt"] (t__law_draft K) := fun f cdv A outer s H E hr =>
  (pss_cons (ps_asg (pe_tup (pa_cons (C8.pe_c c__law_pick hr (by decide) rfl (pa_cons (pv 0) (pa_cons (pe_lst (pa_cons pe_int (pa_cons pe_int (pa_cons pe_int (pa_cons pe_int (pa_cons pe_int (pa_cons pe_int (pa_cons pe_int pa_nil)))))))) pa_nil))) (pa_cons (pe_op op_add pe_int (C8.pe_c c__law_sip hr (by decide) rfl (pa_cons (pv 0) (pa_cons (pv 1) pa_nil)))) pa_nil))) (pg_tup rfl (pgs_cons (pg_name (i := 3) sc__law_draft.nd rfl (Or.inr rfl)) (pgs_cons (pg_name (i := 4) sc__law_draft.nd rfl (Or.inl rfl)) pgs_nil))))
    (pss_cons (ps_set (i := 6) sc__law_draft.nd rfl (Or.inr rfl) (pe_callB cr_sorted (by rfl) T.f_sorted (by decide +kernel) (pa_cons (pe_lc (own := [("_law_k", 5)]) (g := (gName 5)) (tt := tYes) rfl sc__law_draft.nd (pi_range1 rfl T.f_range (pa_cons (pe_op op_add (pe_op op_add (pv 4) (pv 3)) pe_int) pa_nil)) (blkOk_by (by rfl)) (fun _ _ _ _ _ => (pg_name (i := 5) sc__law_draft.nd rfl (Or.inl rfl))) (fun _ _ _ _ _ => pts_nil) (fun _ _ _ _ _ => (C8.pe_c c__law_sip hr (by decide) rfl (pa_cons (pv 0) (pa_cons (pe_op op_add (pv 2) pe_int) pa_nil))))) pa_nil)))
    (pss_cons (ps_if (PW.pt (pw_and (pt_cmpR op_eq (C8.pe_c c__law_sip hr (by decide) rfl (pa_cons (pv 0) (pa_cons pe_int pa_nil))) pe_int (nomark _)) (pw_and1 (pt_cmpR op_gt (pv 4) (pv 3) (nomark _))))) (pss_one (ps_set (i := 6) sc__law_draft.nd rfl (Or.inr rfl) (pe_op op_cat (pe_op op_cat (pe_op op_rep (pe_lst (pa_cons (pe_ix ix_list (pv 6) pe_int (fun _ _ => rfl)) pa_nil)) (pe_op op_add (pv 3) pe_int)) (pe_slice sl_list (pv 6) (po_some (pe_op op_add (pv 3) pe_int)) (po_some (pv 4)))) (pe_op op_rep (pe_lst (pa_cons (pe_ix ix_list (pv 6) (pe_un un_neg pe_int) (fun _ _ => rfl)) pa_nil)) (pe_op op_add (pv 3) pe_int))))) pss_nil)
    (pss_cons (ps_while PassesOwn.never (pt_cmpR (op_neD hr.units) (pe_lc (own := [("_law_k", 5)]) (g := (gName 5)) (tt := (tTest (tOp rEq (tOp (rIxL K) (tVar 6) (tVar 5)) (tOp (rIxL K) (tVar 6) (tOp rAddI (tOp rAddI (tVar 5) (tVar 3)) (tC (.int 1))))))) rfl sc__law_draft.nd (pi_range1 rfl T.f_range (pa_cons (pe_op op_sub (pe_op op_sub (pe_callB call_len (by rfl) T.f_len (by decide +kernel) (pa_cons (pv 6) pa_nil)) (pv 3)) pe_int) pa_nil)) (blkOk_by (by rfl)) (fun _ _ _ _ _ => (pg_name (i := 5) sc__law_draft.nd rfl (Or.inl rfl))) (fun _ _ _ _ _ => (pts_one (pt_cmpR op_eq (pe_ix ix_list (pv 6) (pv 5) (fun _ _ => rfl)) (pe_ix ix_list (pv 6) (pe_op op_add (pe_op op_add (pv 5) (pv 3)) pe_int) (fun _ _ => rfl)) (nomark _)))) (fun _ _ _ _ _ => (pv 5))) (pe_lst pa_nil) (nomark _)) (pss_cons (ps_set (i := 5) sc__law_draft.nd rfl (Or.inl rfl) (pe_ix ix_list (pe_lc (own := [("_law_k", 5)]) (g := (gName 5)) (tt := (tTest (tOp rEq (tOp (rIxL K) (tVar 6) (tVar 5)) (tOp (rIxL K) (tVar 6) (tOp rAddI (tOp rAddI (tVar 5) (tVar 3)) (tC (.int 1))))))) rfl sc__law_draft.nd (pi_range1 rfl T.f_range (pa_cons (pe_op op_sub (pe_op op_sub (pe_callB call_len (by rfl) T.f_len (by decide +kernel) (pa_cons (pv 6) pa_nil)) (pv 3)) pe_int) pa_nil)) (blkOk_by (by rfl)) (fun _ _ _ _ _ => (pg_name (i := 5) sc__law_draft.nd rfl (Or.inl rfl))) (fun _ _ _ _ _ => (pts_one (pt_cmpR op_eq (pe_ix ix_list (pv 6) (pv 5) (fun _ _ => rfl)) (pe_ix ix_list (pv 6) (pe_op op_add (pe_op op_add (pv 5) (pv 3)) pe_int) (fun _ _ => rfl)) (nomark _)))) (fun _ _ _ _ _ => (pv 5))) pe_int (fun _ _ => rfl)))
    (pss_one (ps_set (i := 6) sc__law_draft.nd rfl (Or.inr rfl) (pe_op op_cat (pe_slice sl_list (pv 6) po_none (po_some (pe_op op_add (pe_op op_add (pv 5) (pv 3)) pe_int))) (pe_lc (own := [("_law_bolt", 7)]) (g := (gName 7)) (tt := tYes) rfl sc__law_draft.nd (pi_list (pe_slice sl_list (pv 6) (po_some (pe_op op_add (pe_op op_add (pv 5) (pv 3)) pe_int)) po_none)) (blkOk_by (by rfl)) (fun _ _ _ _ _ => (pg_name (i := 7) sc__law_draft.nd rfl (Or.inl rfl))) (fun _ _ _ _ _ => pts_nil) (fun _ _ _ _ _ => (pe_op op_add (pv 7) pe_int))))))))
    (pss_one (ps_ret (pe_lst (pa_cons (pv 3) (pa_cons (pe_callTy call_tuple_of (by rfl) T.f_tuple (by decide +kernel) (pa_cons (pv 6) pa_nil)) pa_nil)))))))))
abbrev st__law_sites := top 94
theorem sc__law_sites : FnScope ["_law_mug_here", "_law_draft_here", "_law_many", "_law_low_here", "_law_high", "_law_menu", "_law_drawn", "_law_k"] ["_law_mug_here", "_law_draft_here", "_law_many"] (defScope st__law_sites) := ⟨rfl, rfl, rfl, by decide +kernel, rfl, by decide +kernel, by decide +kernel⟩
def t__law_sites (K : PySem.W.Frag) (w : World) : TS := (tSeq (tAsg (tTup (tCons (tOp (rIxT K) (tOp (rIxL K) (tVar 1) (tC (.int 1))) (tC (.int 0))) (tCons (tOp (rIxT K) (tOp (rIxL K) (tVar 1) (tC (.int 1))) (tUn uNeg (tC (.int 1)))) tNil))) (gTup K 2 (gCons (gName 3) (gCons (gName 4) gNil))))
    (tSeq (tAsg (tOp rCat (tOp rCat (tCB (rListOf K) (tCons (tOp (rIxL K) (tVar 1) (tC (.int 1))) tNil)) (tLst (tCons (tCB rMax2 (tCons (tC (.int 0)) (tCons (tOp rSubI (tVar 3) (tC (.int 1))) tNil))) (tCons (tOp rAddI (tVar 4) (tC (.int 1))) tNil)))) (tLc (iRng1 (tCons (tVar 2) tNil)) (gName 7) tYes (tOp rAddI (tVar 3) (tCall (sp__law_sip K) [] E0 (tCons (tVar 0) (tCons (tOp rAddI (tOp rSubI (tVar 4) (tVar 3)) (tC (.int 1))) tNil)))) [7])) (gName 5))
    (tSeq (tAsg (tLc (iRng1 (tCons (tOp rAddI (tC (.int 1)) (tCall (sp__law_sip K) [] E0 (tCons (tVar 0) (tCons (tVar 2) tNil)))) tNil)) (gName 7) tYes (tOp rAddI (tCall (sp__law_pick K) [] E0 (tCons (tVar 0) (tCons (tVar 5) tNil))) (tCall (sp__law_pick K) [] E0 (tCons (tVar 0) (tCons (tLst (tCons (tC (.int 0)) (tCons (tC (.int 0)) (tCons (tC (.int 0)) (tCons (tC (.int 1)) tNil))))) tNil)))) [7]) (gName 6))
    (tRet (tCB (rTupOf K) (tCons (tCB (rSortedSet w) (tCons (tCB (rSetOfL K w) (tCons (tVar 6) tNil)) tNil)) tNil))))))
theorem ps__law_sites {P : Program} {w : World} {K : PySem.W.Frag} {mg : Str → Option Value} {base : Heap} (T : Txt P K mg base) (c__law_sip : C8.Cal P w K mg base 34 "_law_sip" (sp__law_sip K) []) (c__law_pick : C8.Cal P w K mg base 35 "_law_pick" (sp__law_pick K) []) : Hps P w K mg base 36 "_law_sites" st__law_sites ["_law_mug_here", "_law_draft_here", "_law_many", "_law_low_here", "_law_high", "_law_menu", "_law_drawn", "_law_k"] (t__law_sites K w) := fun f cdv A outer s H E hr =>
  (pss_cons (ps_asg (pe_tup (pa_cons (pe_ix ix_tup (pe_ix ix_list (pv 1) pe_int (fun _ _ => rfl)) pe_int (fun _ _ => rfl)) (pa_cons (pe_ix ix_tup (pe_ix ix_list (pv 1) pe_int (fun _ _ => rfl)) (pe_un un_neg pe_int) (fun _ _ => rfl)) pa_nil))) (pg_tup rfl (pgs_cons (pg_name (i := 3) sc__law_sites.nd rfl (Or.inr rfl)) (pgs_cons (pg_name (i := 4) sc__law_sites.nd rfl (Or.inr rfl)) pgs_nil))))
    (pss_cons (ps_set (i := 5) sc__law_sites.nd rfl (Or.inr rfl) (pe_op op_cat (pe_op op_cat (pe_callTy call_list_of (by rfl) T.f_list (by decide +kernel) (pa_cons (pe_ix ix_list (pv 1) pe_int (fun _ _ => rfl)) pa_nil)) (pe_lst (pa_cons (pe_callB (call_max2 rfl) (by rfl) T.f_max (by decide +kernel) (pa_cons pe_int (pa_cons (pe_op op_sub (pv 3) pe_int) pa_nil))) (pa_cons (pe_op op_add (pv 4) pe_int) pa_nil)))) (pe_lc (own := [("_law_k", 7)]) (g := (gName 7)) (tt := tYes) rfl sc__law_sites.nd (pi_range1 rfl T.f_range (pa_cons (pv 2) pa_nil)) (blkOk_by (by rfl)) (fun _ _ _ _ _ => (pg_name (i := 7) sc__law_sites.nd rfl (Or.inl rfl))) (fun _ _ _ _ _ => pts_nil) (fun _ _ _ _ _ => (pe_op op_add (pv 3) (C8.pe_c c__law_sip hr (by decide) rfl (pa_cons (pv 0) (pa_cons (pe_op op_add (pe_op op_sub (pv 4) (pv 3)) pe_int) pa_nil))))))))
    (pss_cons (ps_setLc (i := 6) (own := [("_law_k", 7)]) (g := (gName 7)) (tt := tYes) rfl sc__law_sites.nd rfl rfl (sw_true rfl rfl rfl (by decide +kernel)) (pi_range1 rfl T.f_range (pa_cons (pe_op op_add pe_int (C8.pe_c c__law_sip hr (by decide) rfl (pa_cons (pv 0) (pa_cons (pv 2) pa_nil)))) pa_nil)) (blkOk_by (by rfl)) (fun _ _ _ _ _ => (pg_name (i := 7) sc__law_sites.nd rfl (Or.inl rfl))) (fun _ _ _ _ _ => pts_nil) (fun _ _ _ _ _ => (pe_op op_add (C8.pe_c c__law_pick hr (by decide) rfl (pa_cons (pv 0) (pa_cons (pv 5) pa_nil))) (C8.pe_c c__law_pick hr (by decide) rfl (pa_cons (pv 0) (pa_cons (pe_lst (pa_cons pe_int (pa_cons pe_int (pa_cons pe_int (pa_cons pe_int pa_nil))))) pa_nil))))))
    (pss_one (ps_ret (pe_callTy call_tuple_of (by rfl) T.f_tuple (by decide +kernel) (pa_cons (pe_callB (cr_sortedSet rfl) (by rfl) T.f_sorted (by decide +kernel) (pa_cons (pe_callTy (cr_setOfL rfl) (by rfl) T.f_set (by decide +kernel) (pa_cons (pv 6) pa_nil)) pa_nil)) pa_nil)))))))
/-! ### the plain part -/
/-- where a knot stands too often -/
def bads (g : Nat) (l : List Int) : List Nat := (List.range (l.length - g - 1)).filter fun k => decide (l.getD k 0 = l.getD (k + g + 1) 0)
def shf (g k : Nat) (l : List Int) : List Int := l.take (k + g + 1) ++ (l.drop (k + g + 1)).map fun z => z + 1
/-- the places below j are in order -/
structure DI (g n j : Nat) (M : Int) (l : List Int) : Prop where
  len : l.length = n + g + 1
  up : ∀ a b, a ≤ b → b < l.length → l.getD a 0 ≤ l.getD b 0
  lo : ∀ a, a < l.length → 0 ≤ l.getD a 0 ∧ l.getD a 0 ≤ M + j
  good : ∀ k, k < j → l.getD k 0 < l.getD (k + g + 1) 0
  jn : j ≤ n
theorem shf_get {g k : Nat} {l : List Int} {i : Nat} (hi : i < l.length) : (shf g k l).getD i 0 = if i < k + g + 1 then l.getD i 0 else l.getD i 0 + 1 := by
  unfold shf
  rw [List.getD_eq_getElem?_getD, List.getD_eq_getElem?_getD]
  by_cases h : i < k + g + 1
  · rw [if_pos h, List.getElem?_append_left (by rw [List.length_take]; omega), List.getElem?_take, if_pos h]
  · rw [if_neg h, List.getElem?_append_right (by rw [List.length_take]; omega), List.length_take, List.getElem?_map, List.getElem?_drop]
    rw [show k + g + 1 + (i - min (k + g + 1) l.length) = i by omega, List.getElem?_eq_getElem hi]
    rfl
theorem shf_len {g k : Nat} {l : List Int} : (shf g k l).length = l.length := by
  unfold shf
  rw [List.length_append, List.length_map, List.length_take, List.length_drop]
  omega
theorem DI.step {g n j k : Nat} {M : Int} {l tl : _} (d : DI g n j M l) (hb : bads g l = k :: tl) : j ≤ k ∧ k < n ∧ DI g n (k + 1) M (shf g k l) := by
  have hk : k ∈ bads g l := by rw [hb]; exact List.mem_cons_self
  have hk2 := List.mem_filter.mp hk
  have hkn : k < l.length - g - 1 := List.mem_range.mp hk2.1
  have heq : l.getD k 0 = l.getD (k + g + 1) 0 := of_decide_eq_true hk2.2
  have hl := d.len
  have first : ∀ i, i < k → l.getD i 0 < l.getD (i + g + 1) 0 := fun i hi => by
    have hle := d.up i (i + g + 1) (by omega) (by omega)
    by_cases e : l.getD i 0 = l.getD (i + g + 1) 0
    · have hm : i ∈ bads g l := List.mem_filter.mpr ⟨List.mem_range.mpr (by omega), decide_eq_true e⟩
      have hp : (bads g l).Pairwise (· < ·) := List.Pairwise.filter _ List.pairwise_lt_range
      rw [hb] at hm hp
      rcases List.mem_cons.mp hm with h | h
      · omega
      · have := (List.pairwise_cons.mp hp).1 i h
        omega
    · omega
  have hjk : j ≤ k := by
    rcases Nat.lt_or_ge k j with h | h
    · have := d.good k h
      omega
    · exact h
  refine ⟨hjk, by omega, ⟨by rw [shf_len]; exact hl, fun a b hab hbl => ?_, fun a ha => ?_, fun i hi => ?_, by omega⟩⟩
  · rw [shf_len] at hbl
    rw [shf_get (by omega), shf_get hbl]
    have := d.up a b hab hbl
    split <;> split <;> omega
  · rw [shf_len] at ha
    rw [shf_get ha]
    have := d.lo a ha
    split <;> omega
  · rw [shf_get (by omega), shf_get (by omega), if_pos (by omega)]
    by_cases e : i < k
    · rw [if_pos (by omega)]
      exact first i e
    · have : i = k := by omega
      subst this
      rw [if_neg (by omega)]
      omega
theorem DI.end_ {g n j : Nat} {M : Int} {l : List Int} (d : DI g n j M l) (hb : bads g l = []) (hg : g ≤ 4) (hn : 1 ≤ n ∧ n ≤ 5) (hM : M ≤ 100000) : DrOk ((g : Int), l) := by
  have hl := d.len
  have hj := d.jn
  have lo : ∀ k ∈ l, 0 ≤ k ∧ k ≤ 100005 := fun k hk => by
    obtain ⟨i, hi, rfl⟩ := List.getElem_of_mem hk
    have := d.lo i hi
    rw [List.getD_eq_getElem?_getD, List.getElem?_eq_getElem hi] at this
    have h : 0 ≤ l[i] ∧ l[i] ≤ M + j := this
    omega
  have ne : nOf ((g : Int), l) = n := by
    show l.length - (g : Int).toNat - 1 = n
    rw [Int.toNat_natCast]
    omega
  refine ⟨⟨by show (0 : Int) ≤ g; omega, by show (g : Int) ≤ 4; omega, by show (g : Int) + 2 ≤ l.length; omega, by show (l.length : Int) ≤ g + 11; omega, fun k hk => by have := lo k hk; omega, fun i a b ha hb' => ?_, fun i a b ha hb' => ?_⟩, by omega, by omega, lo⟩
  · have h1 := (List.getElem?_eq_some_iff.mp hb').1
    have := d.up i (i + 1) (by omega) h1
    rw [List.getD_eq_getElem?_getD, List.getD_eq_getElem?_getD, ha, hb'] at this
    exact this
  · have hb2 : l[i + g + 1]? = some b := by
      have : (g : Int).toNat = g := Int.toNat_natCast g
      rw [this] at hb'
      exact hb'
    have h1 := (List.getElem?_eq_some_iff.mp hb2).1
    intro e
    have hm : i ∈ bads g l := List.mem_filter.mpr ⟨List.mem_range.mpr (by omega), decide_eq_true (by rw [List.getD_eq_getElem?_getD, List.getD_eq_getElem?_getD, ha, hb2, e])⟩
    rw [hb] at hm
    cases hm
/-- the ends repeated -/
def rep (g n : Nat) (l : List Int) : List Int := List.replicate (g + 1) (l.getD 0 0) ++ (l.drop (g + 1)).take (n - (g + 1)) ++ List.replicate (g + 1) (l.getD (l.length - 1) 0)
theorem rep_get {g n i : Nat} {l : List Int} (hl : l.length = n + g + 1) (hg : g < n) (hi : i < n + g + 1) : (rep g n l).getD i 0 = if i < g + 1 then l.getD 0 0 else if i < n then l.getD i 0 else l.getD (l.length - 1) 0 := by
  unfold rep
  have hd : ((l.drop (g + 1)).take (n - (g + 1))).length = n - (g + 1) := by
    rw [List.length_take, List.length_drop]
    omega
  rw [List.getD_eq_getElem?_getD]
  by_cases h1 : i < g + 1
  · rw [if_pos h1, List.append_assoc, List.getElem?_append_left (by rw [List.length_replicate]; exact h1), List.getElem?_replicate, if_pos h1]
    rfl
  · rw [if_neg h1]
    by_cases h2 : i < n
    · rw [if_pos h2, List.getElem?_append_left (by rw [List.length_append, List.length_replicate, hd]; omega), List.getElem?_append_right (by rw [List.length_replicate]; omega), List.length_replicate, List.getElem?_take, if_pos (by omega), List.getElem?_drop, List.getD_eq_getElem?_getD]
      congr 2
      omega
    · rw [if_neg h2, List.getElem?_append_right (by rw [List.length_append, List.length_replicate, hd]; omega), List.length_append, List.length_replicate, hd, List.getElem?_replicate, if_pos (by omega)]
      rfl
theorem DI.rep {g n : Nat} {M : Int} {l : List Int} (d : DI g n 0 M l) (hg : g < n) : DI g n 0 M (rep g n l) := by
  have hl := d.len
  have len : (Bt.rep g n l).length = n + g + 1 := by
    unfold Bt.rep
    simp only [List.length_append, List.length_replicate, List.length_take, List.length_drop]
    omega
  refine ⟨len, fun a b hab hb => ?_, fun a ha => ?_, fun k hk => by omega, by omega⟩
  · rw [len] at hb
    rw [rep_get hl hg (by omega), rep_get hl hg hb]
    have c1 := d.up 0 b (by omega) (by omega)
    have c2 := d.up a b hab (by omega)
    have c3 := d.up a (l.length - 1) (by omega) (by omega)
    have c4 := d.up 0 (l.length - 1) (by omega) (by omega)
    split <;> split <;> (try split) <;> (try split) <;> omega
  · rw [len] at ha
    rw [rep_get hl hg ha]
    have c1 := d.lo 0 (by omega)
    have c2 := d.lo a (by omega)
    have c3 := d.lo (l.length - 1) (by omega)
    split <;> (try split) <;> omega
theorem DI.of_sorted {g n : Nat} {M : Int} {l : List Int} (hl : l.length = n + g + 1) (hs : l.Pairwise (· ≤ ·)) (hm : ∀ z ∈ l, 0 ≤ z ∧ z ≤ M) : DI g n 0 M l := by
  refine ⟨hl, fun a b hab hb => ?_, fun a ha => ?_, fun k hk => by omega, by omega⟩
  · rw [List.getD_eq_getElem?_getD, List.getD_eq_getElem?_getD, List.getElem?_eq_getElem (by omega), List.getElem?_eq_getElem hb]
    show l[a] ≤ l[b]
    rcases Nat.lt_or_ge a b with h | h
    · exact List.pairwise_iff_getElem.mp hs a b (by omega) hb h
    · have : a = b := by omega
      subst this
      exact Int.le_refl _
  · rw [List.getD_eq_getElem?_getD, List.getElem?_eq_getElem ha]
    have := hm l[a] (List.getElem_mem ha)
    show 0 ≤ l[a] ∧ l[a] ≤ M + (0 : Nat)
    omega
section
variable {P : Program} {w : World} {K : PySem.W.Frag} {mg : Str → Option Value} {base : Heap}
section
variable {m : Addr} {ta tb te : TE} {σ : L2.St} {G : Hp} {α : Type} {F : α → VP} {xs ys : List α} {P' R' : VP}
theorem ep_cat [∀ x, Stays (F x)] (ha : Ep ta σ G (IsL F xs)) (hb : Ep tb σ G (IsL F ys)) (hl : xs.length + ys.length ≤ 1000) : Ep (tOp rCat ta tb) σ G (IsL F (xs ++ ys)) :=
  ep_bin ha hb fun x y G1 H1 Q _ s ⟨p, vs, e1, h1, h2⟩ ⟨q, ws, e2, h3, h4⟩ k => ⟨p, q, vs, ws, e1, e2, s _ _ h1, s _ _ h3, Nat.le_trans (by rw [h2.len, h4.len]; exact hl) (by decide), fun r nr => k _ _ _ (To.alloc s nr) ⟨r, _, rfl, upd_same, All2.up (Same.new (s.free nr)) (All2.app h2 h4)⟩⟩
theorem cut_upto (vs : List V) (k : Nat) (h : k ≤ vs.length) : cutV vs none (some (k : Int)) = vs.take k := by
  unfold cutV
  rw [HT.sIx_nat, HT.sIx_none, Nat.min_eq_left h, List.drop_zero, Nat.sub_zero]
theorem cut_mid (vs : List V) (a b : Nat) (ha : a ≤ vs.length) (hb : b ≤ vs.length) : cutV vs (some (a : Int)) (some (b : Int)) = (vs.drop a).take (b - a) := by
  unfold cutV
  rw [HT.sIx_nat, HT.sIx_nat, Nat.min_eq_left ha, Nat.min_eq_left hb]
theorem ep_upto [∀ x, Stays (F x)] {k : Nat} (ha : Ep ta σ G (IsL F xs)) (hb : Ep tb σ G (IsI (k : Nat))) (h : k ≤ xs.length) : Ep (tSl (rSlL K) ta tNoPart (tPart tb)) σ G (IsL F (xs.take k)) := fun G1 H1 e s Q q =>
  ha G1 H1 e s _ fun v G2 H2 t2 pv => hb G2 H2 (e.trans t2.up) t2.in_ _ fun w G3 H3 t3 pw => by
    have pw : w = .int (k : Nat) := pw
    subst pw
    obtain ⟨p, vs, rfl, h1, h2⟩ := up t3.up pv
    refine ⟨k, rfl, p, vs, rfl, SqL.of (t3.in_ _ _ h1), fun r nr => q _ _ _ ((t2.trans t3).trans (To.alloc t3.in_ nr)) ⟨r, _, rfl, upd_same, ?_⟩⟩
    rw [cut_upto vs k (by rw [h2.len]; exact h)]
    exact All2.up (Same.new (t3.in_.free nr)) (h2.take k)
theorem ep_mid [∀ x, Stays (F x)] {tc : TE} {a b : Nat} (ha : Ep ta σ G (IsL F xs)) (hb : Ep tb σ G (IsI (a : Nat))) (hc : Ep tc σ G (IsI (b : Nat))) (h1 : a ≤ xs.length) (h2 : b ≤ xs.length) : Ep (tSl (rSlL K) ta (tPart tb) (tPart tc)) σ G (IsL F ((xs.drop a).take (b - a))) := fun G1 H1 e s Q q =>
  ha G1 H1 e s _ fun v G2 H2 t2 pv => hb G2 H2 (e.trans t2.up) t2.in_ _ fun w G3 H3 t3 pw => ⟨a, pw, hc G3 H3 ((e.trans t2.up).trans t3.up) t3.in_ _ fun w2 G4 H4 t4 pw2 => by
    obtain ⟨p, vs, rfl, k1, k2⟩ := up (t3.up.trans t4.up) pv
    refine ⟨b, pw2, p, vs, rfl, SqL.of (t4.in_ _ _ k1), fun r nr => q _ _ _ (((t2.trans t3).trans t4).trans (To.alloc t4.in_ nr)) ⟨r, _, rfl, upd_same, ?_⟩⟩
    rw [cut_mid vs a b (by rw [k2.len]; exact h1) (by rw [k2.len]; exact h2)]
    exact All2.up (Same.new (t4.in_.free nr)) ((k2.drop a).take (b - a))⟩
theorem flat_rep (v : V) : ∀ k : Nat, (List.replicate k [v]).flatten = List.replicate k v
  | 0 => rfl
  | k + 1 => by
    rw [List.replicate_succ, List.flatten_cons, flat_rep v k, List.replicate_succ]
    rfl
theorem all2_rep {x : α} {v : V} {H : Hp} (h : F x v H) : ∀ k : Nat, All2 F (List.replicate k v) (List.replicate k x) H
  | 0 => trivial
  | k + 1 => ⟨h, all2_rep h k⟩
/-- [x] * k -/
theorem ep_rep1 [∀ x, Stays (F x)] {x : α} {k : Nat} (ha : Ep ta σ G (F x)) (hb : Ep tb σ G (IsI (k : Nat))) (hk : k ≤ 1000) : Ep (tOp rRep (tLst (tCons ta tNil)) tb) σ G (IsL F (List.replicate k x)) := by
  have h : Ep (tLst (tCons ta tNil)) σ G (IsL F [x]) := ep_lst1 (ea_cons ha ea_nil) (fun vs G' ⟨_, _, h, _, h2⟩ => by rw [h, h2]; simp) fun p vs G' ⟨v, _, h, pv, h2⟩ np => by
    rw [h, h2]
    exact ⟨p, _, rfl, upd_same, up (Same.new np) pv, trivial⟩
  refine ep_bin h hb fun y z G1 H1 Q _ s ⟨p, vs, e1, h1, h2⟩ pz q => ?_
  obtain ⟨v, rfl⟩ : ∃ v, vs = [v] := by
    cases vs with
    | nil => exact h2.elim
    | cons v t =>
      cases t with
      | nil => exact ⟨v, rfl⟩
      | cons a b => exact h2.2.elim
  refine ⟨p, k, [v], e1, pz, s _ _ h1, by omega, by omega, Nat.le_trans (show [v].length * (k : Int).toNat ≤ 1000 by simp; omega) (by decide), fun r nr => q _ _ _ (To.alloc s nr) ⟨r, _, rfl, upd_same, ?_⟩⟩
  rw [Int.toNat_natCast, flat_rep]
  exact all2_rep (up (Same.new (s.free nr)) h2.1) k
theorem ep_lastL [∀ x, Stays (F x)] {x : α} (ha : Ep ta σ G (IsL F xs)) (h : xs[xs.length - 1]? = some x) : Ep (tOp (rIxL K) ta (tUn uNeg (tC (.int 1)))) σ G (F x) :=
  ep_bin (P' := IsI (-1)) ha (ep_neg ep_c) fun v w G1 H1 Q _ s px py q => by
    obtain ⟨p, vs, h1, h2, h3⟩ := px
    obtain ⟨y, e1, e2⟩ := All2.get h3 h
    have hx : 0 < xs.length := by
      have := (List.getElem?_eq_some_iff.mp h).1
      omega
    refine ⟨p, vs, -1, y, h1, py, SqL.of (s _ _ h2), ?_, q y G1 H1 (To.refl s) e2⟩
    have hl := h3.len
    unfold atI ixN
    rw [if_neg (by omega), if_pos (by omega)]
    show vs[(vs.length + -1 : Int).toNat]? = some y
    rw [show ((vs.length : Int) + -1).toNat = xs.length - 1 by omega]
    exact e1
/-- sorted(xs) -/
theorem ed_sorted {C C' : List Int → Prop} (h : Ed m ta σ G (IsE C (IsL IsI))) (hl : ∀ ns, C ns → ns.length < 64) (hC : ∀ ns ns', C ns → ns'.Perm ns → ns'.Pairwise (· ≤ ·) → C' ns') : Ed m (tCB (rSorted K) (tCons ta tNil)) σ G (IsE C' (IsL IsI)) :=
  ed_cb1 h fun x G1 H1 Q _ s ⟨ns, hc, p, vs, e, h1, h2⟩ q => by
    subst e
    have e := All2.ints h2
    subst e
    exact ⟨p, ns, rfl, SqL.of (s _ _ h1), hl ns hc, fun ns' r hp hs nr => q _ _ _ (To.alloc s nr) ⟨ns', hC ns ns' hc hp hs, r, _, rfl, upd_same, All2.of_ints _⟩⟩
theorem hd_asg {u : TS} {D : Ends} {H : Hp} {g : TG} (h : Ed m te σ G P') (s : St m G H) (k : ∀ v G2 H2, Td m G H G2 H2 → P' v G2 → g v σ H2 (u D)) : tSeq (tAsg te g) u D σ H := h G H (Same.refl G) s _ k
theorem hd_asgN {u : TS} {D : Ends} {H : Hp} {i : Nat} (h : Ed m te σ G P') (s : St m G H) (k : ∀ v G2 H2, Td m G H G2 H2 → P' v G2 → u D (σ.set i (some v)) H2) : tSeq (tAsg te (gName i)) u D σ H := h G H (Same.refl G) s _ k
theorem hd_if {c : TT} {t u : TS} {D : Ends} {H : Hp} {C : Bool → Prop} (h : Edt m c σ G C) (s : St m G H) (h1 : C true → ∀ G2 H2, Td m G H G2 H2 → t D σ H2) (h2 : C false → ∀ G2 H2, Td m G H G2 H2 → u D σ H2) : tIfS c t u D σ H := h G H (Same.refl G) s _ fun b G2 H2 t2 hc => by
  cases b with
  | true => exact iteT (h1 hc G2 H2 t2)
  | false => exact iteF (h2 hc G2 H2 t2)
theorem edt_eqC {C : Int → Prop} {c : Int} (h : Ed m ta σ G (IsE C IsI)) : Edt m (tTest (tOp rEq ta (tC (.int c)))) σ G fun _ => True := fun G1 H1 g s Q q =>
  h G1 H1 g s _ fun v G2 H2 t2 ⟨z, _, pv⟩ => by
    have pv : v = .int z := pv
    subst pv
    exact ⟨rfl, _, rfl, q _ G2 H2 t2 trivial⟩
theorem edt_and {t u : TT} {c : Bool} (h : Edt m t σ G fun _ => True) (k : Et u σ G c) : Edt m (tAnd t u) σ G fun b => b = true → c = true := fun G1 H1 g s Q q =>
  h G1 H1 g s _ fun b G2 H2 t2 _ => by
    cases b with
    | true => exact iteT (k G2 H2 (g.trans t2.up) t2.in_ _ fun G3 H3 t3 => q _ G3 H3 (t2.trans s.mug (Td.of t2.st t3)) fun z => z)
    | false => exact iteF (q _ G2 H2 t2 fun z => nomatch z)
/-- [degree, tuple(knots)] -/
theorem ep_draft {g : Int} {ks : List Int} (ha : Ep ta σ G (IsI g)) (hb : Ep tb σ G (IsL IsI ks)) : Ep (tLst (tCons ta (tCons (tCB (rTupOf K) (tCons tb tNil)) tNil))) σ G (IsDr K (g, ks)) :=
  ep_lst1 (ea_cons ha (ea_cons (ep_tupOf (K := K) hb) ea_nil)) (fun vs G' ⟨_, _, h, _, _, _, h2, _, h3⟩ => by rw [h, h2, h3]; simp) fun p vs G' ⟨v, _, h, pv, v2, _, h2, pv2, h3⟩ np => by
    have pv : v = .int g := pv
    rw [h, h2, h3, pv]
    exact ⟨p, v2, rfl, upd_same, up (Same.new np) pv2⟩
end
theorem bads_list {g : Nat} {l : List Int} (hg : g + 1 ≤ l.length) : ((rng 0 ((l.length : Int) - (g : Int) - 1).toNat).filter fun k : Int => decide (l.getD k.toNat 0 = l.getD (k.toNat + g + 1) 0)).map (fun i => i) = stI (bads g l) := by
  unfold rng stI bads
  rw [List.map_id', List.filter_map]
  have e : ((l.length : Int) - (g : Int) - 1).toNat = l.length - g - 1 := by omega
  have : ((fun k : Int => decide (l.getD k.toNat 0 = l.getD (k.toNat + g + 1) 0)) ∘ fun i : Nat => (0 : Int) + (i : Nat)) = fun k : Nat => decide (l.getD k 0 = l.getD (k + g + 1) 0) := by
    funext i
    show decide (l.getD ((0 : Int) + (i : Nat)).toNat 0 = l.getD (((0 : Int) + (i : Nat)).toNat + g + 1) 0) = _
    rw [Int.zero_add]
    rfl
  rw [this, e]
  refine List.map_congr_left fun i _ => Int.zero_add _
theorem getL {l : List Int} {i : Nat} (h : i < l.length) : l[i]? = some (l.getD i 0) := by
  rw [List.getD_eq_getElem?_getD, List.getElem?_eq_getElem h]
  rfl
/-- the list of the places where a knot stands too often -/
theorem ep_bads {g : Nat} {l : List Int} {σ : L2.St} {G : Hp} {bv : V} {v0 v1 v2 : V} {a4 a5 a7 : Option V} (hσ : σ = [some v0, some v1, some v2, some (.int (g : Nat)), a4, a5, some bv, a7]) (hl : g + 1 ≤ l.length ∧ l.length ≤ 900) (hb : IsL IsI l bv G) :
    Ep (tLc (iRng1 (tCons (tOp rSubI (tOp rSubI (tCB (rLen K) (tCons (tVar 6) tNil)) (tVar 3)) (tC (.int 1))) tNil)) (gName 5) (tTest (tOp rEq (tOp (rIxL K) (tVar 6) (tVar 5)) (tOp (rIxL K) (tVar 6) (tOp rAddI (tOp rAddI (tVar 5) (tVar 3)) (tC (.int 1)))))) (tVar 5) [5]) σ G (IsL IsI (stI (bads g l))) := by
  subst hσ
  have h := ep_lc (R := IsI) (te := tVar 5) (tt := tTest (tOp rEq (tOp (rIxL K) (tVar 6) (tVar 5)) (tOp (rIxL K) (tVar 6) (tOp rAddI (tOp rAddI (tVar 5) (tVar 3)) (tC (.int 1)))))) (g := gName 5) (vs := [5]) (σ := [some v0, some v1, some v2, some (.int (g : Nat)), a4, a5, some bv, a7]) (G := G)
    (fun k : Int => decide (l.getD k.toNat 0 = l.getD (k.toNat + g + 1) 0)) (fun i => i) (it_rng1 (n := (l.length : Int) - (g : Int) - 1) (ep_sub (ep_sub (ep_len (K := K) (F := IsI) (Ep.sL (ep_var (i := 6) rfl hb))) (ep_v (i := 3) rfl)) ep_c) (by omega) (by omega)) (by rw [rng_len]; omega) (fun i y v G2 hi s hv => by
      obtain ⟨hi1, hi2⟩ := rng_get hi
      have ey : y = (i : Nat) := by rw [hi2, Int.zero_add]
      subst ey
      have hv : v = .int (i : Nat) := hv
      subst hv
      have q := up s hb
      exact ⟨_, gb_name, rfl, et_test (ep_eqI (ep_ixL (K := K) (F := IsI) (ep_var (i := 6) rfl q) (ep_v (i := 5) rfl) (getL (by omega))) (ep_ixL (K := K) (F := IsI) (i := i + g + 1) (ep_var (i := 6) rfl q) ((ep_add (ep_add (ep_v (i := 5) rfl) (ep_v (i := 3) rfl)) ep_c).is (by congr 1)) (getL (by omega)))), fun _ => ep_v rfl⟩)
  rw [bads_list hl.1] at h
  exact h
theorem cal__law_draft (D : Dd K mg "_law_draft" st__law_draft) (T : Txt P K mg base) (c1 : C8.Cal P w K mg base 34 "_law_sip" (sp__law_sip K) []) (c2 : C8.Cal P w K mg base 35 "_law_pick" (sp__law_pick K) []) : C8.Cal P w K mg base 36 "_law_draft" (sp__law_draft K) [] :=
  cal_of D sc__law_draft (fun _ _ _ _ _ _ us hl => match us, hl with | [_, _, _], _ => rfl) (fun vs H Q E ⟨_, _, _, e, _⟩ => by rw [e]; rfl) (ps__law_draft T c1 c2) fun vs H Q E ⟨G, m, M, e, s, hM, q⟩ => by
    rw [e]
    unfold t__law_draft
    have hc : ∀ (a : Int) (σ : L2.St) (G : Hp), Ed m (tC (.int a)) σ G (IsI a) := fun a σ G => Ed.of ep_c
    -- grade, many
    have hpick : Ed m (tCall (sp__law_pick K) [] E0 (tCons (tVar 0) (tCons (tLst (tCons (tC (.int 0)) (tCons (tC (.int 1)) (tCons (tC (.int 1)) (tCons (tC (.int 2)) (tCons (tC (.int 2)) (tCons (tC (.int 3)) (tCons (tC (.int 4)) tNil)))))))) tNil))) (start ["_law_mug_here", "_law_most_hills", "_law_most", "_law_grade", "_law_many", "_law_k", "_law_bolts", "_law_bolt"] [.ref m, .int 5, .int M]) G (IsE (fun z : Int => ∃ g : Nat, z = g ∧ g ≤ 4) IsI) := by
      refine ed_draw (i := 0) (C2 := fun ns => ns = ([0, 1, 1, 2, 2, 3, 4] : List Int)) rfl (Ed.of ?_) (fun b hb => by rw [hb]; exact ⟨by simp, by decide⟩) fun b v G' hb ⟨z, hz, p⟩ => ⟨z, ?_, p⟩
      · exact (ep_lst1 (P := IsL IsI [0, 1, 1, 2, 2, 3, 4]) (ea_cons ep_c (ea_cons ep_c (ea_cons ep_c (ea_cons ep_c (ea_cons ep_c (ea_cons ep_c (ea_cons ep_c ea_nil))))))) (fun vs G' ⟨_, _, h, _, _, _, h2, _, _, _, h3, _, _, _, h4, _, _, _, h5, _, _, _, h6, _, _, _, h7, _, h8⟩ => by rw [h, h2, h3, h4, h5, h6, h7, h8]; simp) fun p vs G' ⟨_, _, h, e1, _, _, h2, e2, _, _, h3, e3, _, _, h4, e4, _, _, h5, e5, _, _, h6, e6, _, _, h7, e7, h8⟩ np => by
          rw [h, h2, h3, h4, h5, h6, h7, h8]
          exact ⟨p, _, rfl, upd_same, e1, e2, e3, e4, e5, e6, e7, trivial⟩).to fun v _ _ p => ⟨_, rfl, p⟩
      · rw [hb] at hz
        simp only [List.mem_cons, List.not_mem_nil, or_false] at hz
        exact ⟨z.toNat, by omega, by omega⟩
    have hmany : Ed m (tOp rAddI (tC (.int 1)) (tCall (sp__law_sip K) [] E0 (tCons (tVar 0) (tCons (tVar 1) tNil)))) (start ["_law_mug_here", "_law_most_hills", "_law_most", "_law_grade", "_law_many", "_law_k", "_law_bolts", "_law_bolt"] [.ref m, .int 5, .int M]) G (IsE (fun z : Int => ∃ n : Nat, z = n ∧ 1 ≤ n ∧ n ≤ 5) IsI) :=
      ed_op (f := fun i j => i + j) (C1 := fun z => z = 1) (C2 := fun r => 0 ≤ r ∧ r < 5) ((hc 1 _ _).one rfl) (ed_draw (i := 0) (C2 := fun t => t = 5) rfl ((Ed.of (ep_v (i := 1) rfl)).one rfl) (fun b hb => by rw [hb]; decide) fun b v G' hb p => by rw [hb] at p; exact p) fun a b ha hb => ⟨(a + b).toNat, by omega, by omega, by omega⟩
    refine h_seq (hpick G H (Same.refl G) s _ fun v3 G1 H1 t1 ⟨_, ⟨g, rfl, hg⟩, p3⟩ => hmany G1 H1 t1.up t1.st _ fun v4 G2 H2 t2 ⟨_, ⟨n, rfl, hn⟩, p4⟩ => ⟨(by show 2 ≤ sizeLine; decide), fun r nr => ⟨r, _, rfl, SqT.of upd_same, rfl, v3, _, rfl, v4, _, rfl, rfl, ?_⟩⟩)
    have p3 : v3 = .int (g : Nat) := p3
    have p4 : v4 = .int (n : Nat) := p4
    subst p3 p4
    have t3 := (t1.trans s.mug t2).trans s.mug (Td.of t2.st (To.dull t2.in_ (Same.new (o := .tup [.int (g : Nat), .int (n : Nat)]) nr)))
    generalize L2.upd H2 r (.tup [.int (g : Nat), .int (n : Nat)]) = H3 at *
    -- bolts
    have hb : Ed m (tCB (rSorted K) (tCons (tLc (iRng1 (tCons (tOp rAddI (tOp rAddI (tVar 4) (tVar 3)) (tC (.int 1))) tNil)) (gName 5) tYes (tCall (sp__law_sip K) [] E0 (tCons (tVar 0) (tCons (tOp rAddI (tVar 2) (tC (.int 1))) tNil))) [5]) tNil)) [some (.ref m), some (.int 5), some (.int M), some (.int (g : Nat)), some (.int (n : Nat)), none, none, none] G2 (IsE (fun l => DI g n 0 M l) (IsL IsI)) := by
      refine ed_sorted (C := fun ns : List Int => (∀ z ∈ ns, 0 ≤ z ∧ z ≤ M) ∧ ns.length = n + g + 1) (ed_lm (C := fun k => k = n + g + 1) (Ce := fun z : Int => 0 ≤ z ∧ z ≤ M) (R := IsI) (fun k hk => by omega) (wi_rng1 ((Ed.of (ep_add (ep_add (ep_v (i := 4) rfl) (ep_v (i := 3) rfl)) ep_c)).one ⟨n + g + 1, by omega, rfl⟩) fun k hk => by omega) (fun _ => rfl) fun i G4 s4 => ?_) (fun ns h => by have := h.2; omega) fun ns ns' h hp hs => DI.of_sorted (by rw [hp.length_eq]; exact h.2) hs fun z hz => h.1 z (hp.mem_iff.mp hz)
      exact ed_draw (i := 0) (C2 := fun t => t = M + 1) rfl ((Ed.of (ep_add (ep_v (i := 2) rfl) ep_c)).one rfl) (fun b hb => by rw [hb]; omega) fun b v G' hb ⟨z, hz, p⟩ => ⟨z, by rw [hb] at hz; omega, p⟩
    refine hd_asgN hb t3.st fun v6 G4 H4 t4 ⟨l, hl, p6⟩ => ?_
    have t4 := t3.trans s.mug t4
    -- the rest changes no mug
    have key : ∀ (G5 H5 : Hp) (l : List Int) (bv : V), Td m G H G5 H5 → DI g n 0 M l → IsL IsI l bv G5 → tSeq (tWhile (tTest (tOp (rNeD K) (tLc (iRng1 (tCons (tOp rSubI (tOp rSubI (tCB (rLen K) (tCons (tVar 6) tNil)) (tVar 3)) (tC (.int 1))) tNil)) (gName 5) (tTest (tOp rEq (tOp (rIxL K) (tVar 6) (tVar 5)) (tOp (rIxL K) (tVar 6) (tOp rAddI (tOp rAddI (tVar 5) (tVar 3)) (tC (.int 1)))))) (tVar 5) [5]) (tLst tNil))) (tSeq (tAsg (tOp (rIxL K) (tLc (iRng1 (tCons (tOp rSubI (tOp rSubI (tCB (rLen K) (tCons (tVar 6) tNil)) (tVar 3)) (tC (.int 1))) tNil)) (gName 5) (tTest (tOp rEq (tOp (rIxL K) (tVar 6) (tVar 5)) (tOp (rIxL K) (tVar 6) (tOp rAddI (tOp rAddI (tVar 5) (tVar 3)) (tC (.int 1)))))) (tVar 5) [5]) (tC (.int 0))) (gName 5))
        (tAsg (tOp rCat (tSl (rSlL K) (tVar 6) tNoPart (tPart (tOp rAddI (tOp rAddI (tVar 5) (tVar 3)) (tC (.int 1))))) (tLc (iList K (tSl (rSlL K) (tVar 6) (tPart (tOp rAddI (tOp rAddI (tVar 5) (tVar 3)) (tC (.int 1)))) tNoPart)) (gName 7) tYes (tOp rAddI (tVar 7) (tC (.int 1))) [7])) (gName 6))))
        (tRet (tLst (tCons (tVar 3) (tCons (tCB (rTupOf K) (tCons (tVar 6) tNil)) tNil)))) { nx := fun _ H' => Q .non H', rt := Q } [some (.ref m), some (.int 5), some (.int M), some (.int (g : Nat)), some (.int (n : Nat)), none, some bv, none] H5 := by
      intro G5 H5 l bv t5 hl p5
      have hE : Es (tSeq (tWhile (tTest (tOp (rNeD K) (tLc (iRng1 (tCons (tOp rSubI (tOp rSubI (tCB (rLen K) (tCons (tVar 6) tNil)) (tVar 3)) (tC (.int 1))) tNil)) (gName 5) (tTest (tOp rEq (tOp (rIxL K) (tVar 6) (tVar 5)) (tOp (rIxL K) (tVar 6) (tOp rAddI (tOp rAddI (tVar 5) (tVar 3)) (tC (.int 1)))))) (tVar 5) [5]) (tLst tNil))) (tSeq (tAsg (tOp (rIxL K) (tLc (iRng1 (tCons (tOp rSubI (tOp rSubI (tCB (rLen K) (tCons (tVar 6) tNil)) (tVar 3)) (tC (.int 1))) tNil)) (gName 5) (tTest (tOp rEq (tOp (rIxL K) (tVar 6) (tVar 5)) (tOp (rIxL K) (tVar 6) (tOp rAddI (tOp rAddI (tVar 5) (tVar 3)) (tC (.int 1)))))) (tVar 5) [5]) (tC (.int 0))) (gName 5))
        (tAsg (tOp rCat (tSl (rSlL K) (tVar 6) tNoPart (tPart (tOp rAddI (tOp rAddI (tVar 5) (tVar 3)) (tC (.int 1))))) (tLc (iList K (tSl (rSlL K) (tVar 6) (tPart (tOp rAddI (tOp rAddI (tVar 5) (tVar 3)) (tC (.int 1)))) tNoPart)) (gName 7) tYes (tOp rAddI (tVar 7) (tC (.int 1))) [7])) (gName 6))))
        (tRet (tLst (tCons (tVar 3) (tCons (tCB (rTupOf K) (tCons (tVar 6) tNil)) tNil))))) [some (.ref m), some (.int 5), some (.int M), some (.int (g : Nat)), some (.int (n : Nat)), none, some bv, none] G5 (IsE DrOk (IsDr K)) NoN := by
        refine es_seq (N1 := fun σ G => ∃ (l : List Int) (bv : V) (a5 a7 : Option V), σ = [some (.ref m), some (.int 5), some (.int M), some (.int (g : Nat)), some (.int (n : Nat)), a5, some bv, a7] ∧ IsL IsI l bv G ∧ DrOk ((g : Int), l)) (es_while (fun k σ G => ∃ (j : Nat) (l : List Int) (bv : V) (a5 a7 : Option V), σ = [some (.ref m), some (.int 5), some (.int M), some (.int (g : Nat)), some (.int (n : Nat)), a5, some bv, a7] ∧ IsL IsI l bv G ∧ DI g n j M l ∧ k = n - j) ⟨0, l, bv, none, none, rfl, p5, hl, rfl⟩ (fun k σ G G' s ⟨j, l, bv, a5, a7, e, p, r⟩ => ⟨j, l, bv, a5, a7, e, up s p, r⟩) ?_) ?_
        · rintro k σ1 G6 ⟨j, l, bv, a5, a7, rfl, p, d, rfl⟩
          have hlen := d.len
          have hbad := ep_bads (K := K) (g := g) (l := l) (v0 := .ref m) (v1 := .int 5) (v2 := .int M) (a4 := some (.int (n : Nat))) (a5 := a5) (a7 := a7) rfl (by omega) p
          refine ⟨!decide (stI (bads g l) = []), et_test (ep_neLI hbad ep_nilL), fun hne => ?_, fun he G7 s7 => ⟨l, bv, a5, a7, rfl, up s7 p, ?_⟩⟩
          · cases hq : bads g l with
            | nil =>
              rw [hq] at hne
              simp [stI] at hne
            | cons kk tl =>
              obtain ⟨h1, h2, h3⟩ := d.step hq
              rw [hq] at hbad
              refine sq_asg (P := IsI ((kk : Nat) : Int)) (ep_ixL (K := K) (F := IsI) (i := 0) hbad ep_c rfl) fun v5 G7 s7 p7 => ?_
              have p7 : v5 = .int (kk : Nat) := p7
              subst p7
              have q := up s7 p
              have eidx : Ep (tOp rAddI (tOp rAddI (tVar 5) (tVar 3)) (tC (.int 1))) [some (.ref m), some (.int 5), some (.int M), some (.int (g : Nat)), some (.int (n : Nat)), some (.int (kk : Nat)), some bv, a7] G7 (IsI ((kk + g + 1 : Nat) : Int)) := (ep_add (ep_add (ep_v (i := 5) rfl) (ep_v (i := 3) rfl)) ep_c).is (by congr 1)
              refine es_asg (P := IsL IsI (shf g kk l)) (ep_cat (ep_upto (K := K) (ep_var (i := 6) rfl q) eidx (by omega)) (ep_lm (R := IsI) (fun z : Int => z + 1) (it_list (K := K) (F := IsI) (ep_from (K := K) (ep_var (i := 6) rfl q) eidx (by omega))) (by rw [List.length_drop]; omega) fun i z u G8 hi s8 hu => ⟨_, gb_name, rfl, ep_add (ep_var (i := 7) rfl hu) ep_c⟩) (by rw [List.length_map, List.length_take, List.length_drop]; omega)) fun v6 G8 s8 p8 => ⟨n - (kk + 1), by omega, kk + 1, shf g kk l, v6, some (.int (kk : Nat)), a7, rfl, p8, h3, rfl⟩
          · have hq : bads g l = [] := by
              have : stI (bads g l) = [] := by simpa using he
              simpa [stI] using this
            exact d.end_ hq hg hn hM.2
        · rintro σ2 G6 s6 ⟨l, bv, a5, a7, rfl, p, hd⟩
          exact es_ret ((ep_draft (K := K) (ep_v (i := 3) rfl) (ep_var (i := 6) rfl p)).to fun v _ _ pv => ⟨_, hd, pv⟩)
      exact hE G5 H5 _ (Same.refl _) t5.in_ (fun v G6 H6 t6 pv => q v G6 H6 (t5.trans s.mug (Td.of t5.st t6)) pv) fun _ _ _ _ z => z.elim
    have hl0 := hl.len
    have hl1 : g < n → 0 < l.length := fun _ => by omega
    refine h_seq (hd_if (C := fun b => b = true → decide ((g : Int) < (n : Int)) = true) (edt_and (edt_eqC (ed_draw (i := 0) (C2 := fun t => t = 3) rfl ((hc 3 _ _).one rfl) (fun b hb => by rw [hb]; decide) fun b v G' hb p => by rw [hb] at p; exact p)) (et_test (ep_gt (ep_v (i := 4) rfl) (ep_v (i := 3) rfl)))) t4.st (fun hgn G5 H5 t5 => ?_) fun _ G5 H5 t5 => ?_)
    · have hgn : g < n := by
        have := of_decide_eq_true (hgn rfl)
        omega
      have t5' := t4.trans s.mug t5
      have p6' := up t5.up p6
      have e1 : Ep (tOp rAddI (tVar 3) (tC (.int 1))) [some (.ref m), some (.int 5), some (.int M), some (.int (g : Nat)), some (.int (n : Nat)), none, some v6, none] G5 (IsI ((g + 1 : Nat) : Int)) := (ep_add (ep_v (i := 3) rfl) ep_c).is (by congr 1)
      have hcat : Ep (tOp rCat (tOp rCat (tOp rRep (tLst (tCons (tOp (rIxL K) (tVar 6) (tC (.int 0))) tNil)) (tOp rAddI (tVar 3) (tC (.int 1)))) (tSl (rSlL K) (tVar 6) (tPart (tOp rAddI (tVar 3) (tC (.int 1)))) (tPart (tVar 4)))) (tOp rRep (tLst (tCons (tOp (rIxL K) (tVar 6) (tUn uNeg (tC (.int 1)))) tNil)) (tOp rAddI (tVar 3) (tC (.int 1))))) [some (.ref m), some (.int 5), some (.int M), some (.int (g : Nat)), some (.int (n : Nat)), none, some v6, none] G5 (IsL IsI (rep g n l)) :=
        ep_cat (ep_cat (ep_rep1 (ep_ixL (K := K) (F := IsI) (i := 0) (ep_var (i := 6) rfl p6') ep_c (getL (by omega))) e1 (by omega)) (ep_mid (K := K) (ep_var (i := 6) rfl p6') e1 (ep_v (i := 4) rfl) (by omega) (by omega)) (by rw [List.length_replicate, List.length_take, List.length_drop]; omega)) (ep_rep1 (ep_lastL (K := K) (F := IsI) (ep_var (i := 6) rfl p6') (getL (by omega))) e1 (by omega)) (by rw [List.length_append, List.length_replicate, List.length_replicate, List.length_take, List.length_drop]; omega)
      refine hcat G5 H5 (Same.refl _) t5'.in_ _ fun v G6 H6 t6 pv => ?_
      exact key G6 H6 (rep g n l) v (t5'.trans s.mug (Td.of t5'.st t6)) (hl.rep hgn) pv
    · exact key G5 H5 l v6 (t4.trans s.mug t5) hl (up t5.up p6)
theorem ed_cat {m : Addr} {ta tb : TE} {σ : L2.St} {G : Hp} {C1 C2 C : List Int → Prop} (ha : Ed m ta σ G (IsE C1 (IsL IsI))) (hb : Ed m tb σ G (IsE C2 (IsL IsI))) (hl : ∀ a b, C1 a → C2 b → a.length + b.length ≤ 1000) (hc : ∀ a b, C1 a → C2 b → C (a ++ b)) : Ed m (tOp rCat ta tb) σ G (IsE C (IsL IsI)) :=
  ed_bin ha hb fun x y G1 H1 Q _ s ⟨xs, c1, p, vs, e1, h1, h2⟩ ⟨ys, c2, q, ws, e2, h3, h4⟩ k => ⟨p, q, vs, ws, e1, e2, s _ _ h1, s _ _ h3, Nat.le_trans (by rw [h2.len, h4.len]; exact hl xs ys c1 c2) (by decide), fun r nr => k _ _ _ (To.alloc s nr) ⟨xs ++ ys, hc xs ys c1 c2, r, _, rfl, upd_same, All2.up (Same.new (s.free nr)) (All2.app h2 h4)⟩⟩
/-- sorted(set(xs)) as a tuple -/
theorem ep_sites {ta : TE} {σ : L2.St} {G : Hp} {ns : List Int} (ha : Ep ta σ G (IsL IsI ns)) (hl : ns.length < 64) : Ep (tCB (rTupOf K) (tCons (tCB (rSortedSet w) (tCons (tCB (rSetOfL K w) (tCons ta tNil)) tNil)) tNil)) σ G (IsE (fun xs : List Int => xs.Pairwise (· < ·) ∧ (∀ z, z ∈ xs ↔ z ∈ ns) ∧ xs.length ≤ ns.length) (IsT K IsI)) := fun G1 H1 e s Q q =>
  ha G1 H1 e s _ fun v G2 H2 t2 ⟨p, vs, ev, h1, h2⟩ => by
    subst ev
    have e2 := All2.ints h2
    subst e2
    refine ⟨p, ns, rfl, SqL.of (t2.in_ _ _ h1), hl, fun a c na hc => ⟨a, _, c, rfl, upd_same, by omega, fun xs b hp hm hlen nb => ⟨b, _, rfl, .inl ⟨SqL.of upd_same, fun r nr => ?_⟩⟩⟩⟩
    have s1 := Same.new (o := SetO w a (fun j => decide (j ∈ ns)) c) na
    have s2 := s1.trans (Same.new (o := .lst (xs.map V.int)) nb)
    have t3 := t2.trans (To.dull t2.in_ s2)
    exact q _ _ _ (t3.trans (To.alloc t3.in_ nr)) ⟨xs, ⟨hp, fun z => by rw [hm z, decide_eq_true_eq], by omega⟩, r, _, rfl, SqT.of upd_same, All2.of_ints xs⟩
theorem cal__law_sites (D : Dd K mg "_law_sites" st__law_sites) (T : Txt P K mg base) (c1 : C8.Cal P w K mg base 34 "_law_sip" (sp__law_sip K) []) (c2 : C8.Cal P w K mg base 35 "_law_pick" (sp__law_pick K) []) : C8.Cal P w K mg base 37 "_law_sites" (sp__law_sites K) [] :=
  cal_of D sc__law_sites (fun _ _ _ _ _ _ us hl => match us, hl with | [_, _, _], _ => rfl) (fun vs H Q E ⟨_, _, _, _, e, _⟩ => by rw [e]; rfl) (ps__law_sites T c1 c2) fun vs H Q E ⟨G, m, f, v1, e, s, hd, hf, q⟩ => by
    rw [e]
    unfold t__law_sites
    have hkl := hf.fr.least
    have hg0 := hf.fr.g0
    have hkm := hf.fr.most
    have hg4 := hf.fr.g4
    have hpos : 0 < f.2.length := by omega
    have mem0 : kn f.2 0 ∈ f.2 := by
      unfold kn
      rw [List.getD_eq_getElem?_getD, List.getElem?_eq_getElem hpos]
      exact List.getElem_mem _
    have memL : lastK f.2 ∈ f.2 := by
      unfold lastK
      rw [List.getD_eq_getElem?_getD, List.getElem?_eq_getElem (by omega)]
      exact List.getElem_mem _
    have lo0 := hf.most _ mem0
    have loL := hf.most _ memL
    have h0L : kn f.2 0 ≤ lastK f.2 := by
      have key : ∀ i, i < f.2.length → kn f.2 0 ≤ kn f.2 i := fun i => by
        induction i with
        | zero => exact fun _ => Int.le_refl _
        | succ i ih =>
          intro hi
          have := hf.fr.up i (kn f.2 i) (kn f.2 (i + 1)) (by unfold kn; exact getL (by omega)) (by unfold kn; exact getL hi)
          have := ih (by omega)
          omega
      exact key (f.2.length - 1) (by omega)
    -- low, high
    have hlow : Ep (tOp (rIxT K) (tOp (rIxL K) (tVar 1) (tC (.int 1))) (tC (.int 0))) (start ["_law_mug_here", "_law_draft_here", "_law_many", "_law_low_here", "_law_high", "_law_menu", "_law_drawn", "_law_k"] [.ref m, v1, .int 9]) G (IsI (kn f.2 0)) := ep_kn (n := 0) (ep_dr1 (ep_var (i := 1) rfl hd)) ep_c rfl hpos
    have hhigh : Ep (tOp (rIxT K) (tOp (rIxL K) (tVar 1) (tC (.int 1))) (tUn uNeg (tC (.int 1)))) (start ["_law_mug_here", "_law_draft_here", "_law_many", "_law_low_here", "_law_high", "_law_menu", "_law_drawn", "_law_k"] [.ref m, v1, .int 9]) G (IsI (lastK f.2)) := ep_last (ep_dr1 (ep_var (i := 1) rfl hd)) hpos
    refine h_seq (ep_pair (K := K) (F1 := IsI) (F2 := IsI) (x := (kn f.2 0, lastK f.2)) hlow hhigh G H (Same.refl G) s.in_ _ fun v G1 H1 t1 ⟨r, va, vb, ev, k1, k2, k3⟩ => ?_)
    subst ev
    have k2 : va = .int (kn f.2 0) := k2
    have k3 : vb = .int (lastK f.2) := k3
    subst k2 k3
    have t1 := Td.of s t1
    refine gb_pair k1 H1 t1.in_ _ ?_
    have hd1 := up t1.up hd
    generalize kn f.2 0 = a0 at *
    generalize lastK f.2 = b0 at *
    -- menu
    have hmenu : Ed m (tOp rCat (tOp rCat (tCB (rListOf K) (tCons (tOp (rIxL K) (tVar 1) (tC (.int 1))) tNil)) (tLst (tCons (tCB rMax2 (tCons (tC (.int 0)) (tCons (tOp rSubI (tVar 3) (tC (.int 1))) tNil))) (tCons (tOp rAddI (tVar 4) (tC (.int 1))) tNil)))) (tLc (iRng1 (tCons (tVar 2) tNil)) (gName 7) tYes (tOp rAddI (tVar 3) (tCall (sp__law_sip K) [] E0 (tCons (tVar 0) (tCons (tOp rAddI (tOp rSubI (tVar 4) (tVar 3)) (tC (.int 1))) tNil)))) [7])) [some (.ref m), some v1, some (.int 9), some (.int a0), some (.int b0), none, none, none] G1 (IsE (fun ns : List Int => (∀ z ∈ ns, 0 ≤ z ∧ z ≤ 100006) ∧ ns ≠ [] ∧ ns.length ≤ 900) (IsL IsI)) := by
      refine ed_cat (C1 := fun ns : List Int => (∀ z ∈ ns, 0 ≤ z ∧ z ≤ 100006) ∧ ns ≠ [] ∧ ns.length ≤ 100) (C2 := fun ns : List Int => (∀ z ∈ ns, 0 ≤ z ∧ z ≤ 100006) ∧ ns.length = 9) (Ed.of ?_) ?_ (fun a b ha hb => by have := ha.2.2; have := hb.2; omega) fun a b ha hb => ⟨fun z hz => ?_, by simp [ha.2.1], by rw [List.length_append]; have := ha.2.2; have := hb.2; omega⟩
      · have hlst : Ep (tLst (tCons (tCB rMax2 (tCons (tC (.int 0)) (tCons (tOp rSubI (tVar 3) (tC (.int 1))) tNil))) (tCons (tOp rAddI (tVar 4) (tC (.int 1))) tNil))) [some (.ref m), some v1, some (.int 9), some (.int a0), some (.int b0), none, none, none] G1 (IsL IsI [max 0 (a0 - 1), b0 + 1]) := by
          have ha := ep_max (σ := [some (.ref m), some v1, some (.int 9), some (.int a0), some (.int b0), none, none, none]) (G := G1) (ep_c (v := .int 0)) (ep_sub (ep_v (i := 3) rfl) (ep_c (v := .int 1)))
          have hb := ep_add (σ := [some (.ref m), some v1, some (.int 9), some (.int a0), some (.int b0), none, none, none]) (G := G1) (ep_v (i := 4) rfl) (ep_c (v := .int 1))
          refine ep_lst1 (ea_cons ha (ea_cons hb ea_nil)) (fun vs G' ⟨_, _, h, _, _, _, h2, _, h3⟩ => by rw [h, h2, h3]; simp) fun p vs G' ⟨_, _, h, e1, _, _, h2, e2, h3⟩ np => ?_
          rw [h, h2, h3]
          exact ⟨p, _, rfl, upd_same, e1, e2, trivial⟩
        have h1 := ep_cat (ep_listOf (K := K) (Ep.sT (ep_dr1 (K := K) (f := f) (ep_var (σ := [some (.ref m), some v1, some (.int 9), some (.int a0), some (.int b0), none, none, none]) (i := 1) rfl hd1)))) hlst (by simp; omega)
        refine h1.to fun v _ _ p => ⟨_, ⟨fun z hz => ?_, by simp, by simp; omega⟩, p⟩
        rcases List.mem_append.mp hz with h | h
        · have := hf.most z h
          omega
        · simp only [List.mem_cons, List.not_mem_nil, or_false] at h
          omega
      · refine (ed_lm (C := fun k => k = 9) (Ce := fun z : Int => 0 ≤ z ∧ z ≤ 100006) (R := IsI) (fun k hk => by omega) (wi_rng1 ((Ed.of (ep_v (i := 2) rfl)).one ⟨9, rfl, rfl⟩) fun k hk => by omega) (fun _ => rfl) fun i G4 s4 => ?_)
        exact ed_op (f := fun i j => i + j) (C1 := fun z => z = a0) (C2 := fun r => 0 ≤ r ∧ r < b0 - a0 + 1) ((Ed.of (ep_v (i := 3) rfl)).one rfl) (ed_draw (i := 0) (C2 := fun t => t = b0 - a0 + 1) rfl ((Ed.of (ep_add (ep_sub (ep_v (i := 4) rfl) (ep_v (i := 3) rfl)) ep_c)).one rfl) (fun b hb => by rw [hb]; omega) fun b v G' hb p => by rw [hb] at p; exact p) fun a b ha hb => by omega
      · rcases List.mem_append.mp hz with h | h
        · exact ha.1 z h
        · exact hb.1 z h
    refine hd_asgN hmenu t1.st fun v5 G2 H2 t2 ⟨menu, hm, p5⟩ => ?_
    have t2 := t1.trans s.mug t2
    -- drawn
    have hdrawn : Ed m (tLc (iRng1 (tCons (tOp rAddI (tC (.int 1)) (tCall (sp__law_sip K) [] E0 (tCons (tVar 0) (tCons (tVar 2) tNil)))) tNil)) (gName 7) tYes (tOp rAddI (tCall (sp__law_pick K) [] E0 (tCons (tVar 0) (tCons (tVar 5) tNil))) (tCall (sp__law_pick K) [] E0 (tCons (tVar 0) (tCons (tLst (tCons (tC (.int 0)) (tCons (tC (.int 0)) (tCons (tC (.int 0)) (tCons (tC (.int 1)) tNil))))) tNil)))) [7]) [some (.ref m), some v1, some (.int 9), some (.int a0), some (.int b0), some v5, none, none] G2 (IsE (fun ns : List Int => (∀ z ∈ ns, 0 ≤ z ∧ z ≤ 100007) ∧ 1 ≤ ns.length ∧ ns.length ≤ 9) (IsL IsI)) := by
      refine (ed_lm (C := fun k => 1 ≤ k ∧ k ≤ 9) (Ce := fun z : Int => 0 ≤ z ∧ z ≤ 100007) (R := IsI) (fun k hk => by omega) (wi_rng1 (ed_op (f := fun i j => i + j) (C1 := fun z => z = 1) (C2 := fun r => 0 ≤ r ∧ r < 9) ((Ed.of ep_c).one rfl) (ed_draw (i := 0) (C2 := fun t => t = 9) rfl ((Ed.of (ep_v (i := 2) rfl)).one rfl) (fun b hb => by rw [hb]; decide) fun b v G' hb p => by rw [hb] at p; exact p) fun a b ha hb => ⟨(a + b).toNat, by omega, by omega, by omega⟩) fun k hk => by omega) (fun _ => rfl) fun i G4 s4 => ?_)
      refine ed_op (f := fun i j => i + j) (C1 := fun z => 0 ≤ z ∧ z ≤ 100006) (C2 := fun z => 0 ≤ z ∧ z ≤ 1) (ed_draw (i := 0) (C2 := fun ns => ns = menu) rfl (Ed.of ((ep_var (P := IsL IsI menu) (i := 5) rfl (up s4 p5)).to fun v _ _ p => ⟨_, rfl, p⟩)) (fun b hb => by rw [hb]; exact ⟨hm.2.1, by omega⟩) fun b v G' hb ⟨z, hz, p⟩ => ⟨z, hm.1 z (by rw [hb] at hz; exact hz), p⟩) (ed_draw (i := 0) (C2 := fun ns => ns = ([0, 0, 0, 1] : List Int)) rfl (Ed.of ?_) (fun b hb => by rw [hb]; exact ⟨by simp, by decide⟩) fun b v G' hb ⟨z, hz, p⟩ => ⟨z, ?_, p⟩) fun a b ha hb => by omega
      · exact (ep_lst1 (P := IsL IsI [0, 0, 0, 1]) (ea_cons ep_c (ea_cons ep_c (ea_cons ep_c (ea_cons ep_c ea_nil)))) (fun vs G' ⟨_, _, h, _, _, _, h2, _, _, _, h3, _, _, _, h4, _, h5⟩ => by rw [h, h2, h3, h4, h5]; simp) fun p vs G' ⟨_, _, h, e1, _, _, h2, e2, _, _, h3, e3, _, _, h4, e4, h5⟩ np => by
          rw [h, h2, h3, h4, h5]
          exact ⟨p, _, rfl, upd_same, e1, e2, e3, e4, trivial⟩).to fun v _ _ p => ⟨_, rfl, p⟩
      · rw [hb] at hz
        simp only [List.mem_cons, List.not_mem_nil, or_false] at hz
        omega
    refine hd_asgN hdrawn t2.st fun v6 G3 H3 t3 ⟨ns, hns, p6⟩ => ?_
    have t3 := t2.trans s.mug t3
    refine ep_sites (K := K) (w := w) (σ := [some (.ref m), some v1, some (.int 9), some (.int a0), some (.int b0), some v5, some v6, none]) (ep_var (i := 6) rfl p6) (by omega) G3 H3 (Same.refl _) t3.in_ _ fun v G4 H4 t4 ⟨xs, ⟨h1, h2, h3⟩, pv⟩ => ?_
    refine q v G4 H4 (t3.trans s.mug (Td.of t3.st t4)) ⟨xs, ⟨⟨fun z => ?_, by omega, h1, fun z hz => ?_⟩, by omega⟩, pv⟩
    · have hn : ns ≠ [] := fun z => by
        rw [z] at hns
        simp at hns
      obtain ⟨y, hy⟩ := List.exists_mem_of_ne_nil _ hn
      have := (h2 y).mpr hy
      rw [z] at this
      cases this
    · have := hns.1 z ((h2 z).mp hz)
      omega
end
end Bt
/-! ==== W18 ==== -/
set_option Elab.async false
set_option linter.all false
set_option maxRecDepth 100000
set_option maxHeartbeats 2000000
/-! == and != of frames and of curves, by their own __eq__: where the two are equal. -/
namespace Bt
open PySem PySem.Spec PyProof.Rows L2
/-- the same object, or flat values that are equal -/
def D0 : Eqv := fun x y H => (∃ a, x = .ref a ∧ y = .ref a) ∨ DFlat x y H
theorem mon_D0 : Mon D0 := fun x y H H' e d => d.elim .inl fun d => .inr (mon_flat x y H H' e d)
def DA (K : PySem.W.Frag) : Eqv := fun x y H => D0 x y H ∨ DTup K D0 x y H
theorem mon_DA {K : PySem.W.Frag} : Mon (DA K) := mon_D0.or (mon_tup mon_D0)
def DB (K : PySem.W.Frag) : Eqv := fun x y H => D0 x y H ∨ DTup K (DA K) x y H
theorem mon_DB {K : PySem.W.Frag} : Mon (DB K) := mon_D0.or (mon_tup mon_DA)
section
variable {X : Cx} {n : Nat}
theorem eqG_D0 : EqG X 0 D0 := by
  intro A pins s σ H x y u v sb I rx ry d
  rcases d with ⟨a, rfl, rfl⟩ | d
  · cases rx
    cases ry
    exact SeqAt.EqAt.same (A := A) (s := s) (.ref a) X.prog X.w X.xe _ ⟨rfl, H, I, Ext.rfl'⟩
  · exact eqG_flat A pins s σ H x y u v sb I rx ry d
theorem eqG_DA : EqG X 1 (DA X.K) := (eqG_D0.mono (by decide)).or (eqG_tup mon_D0 eqG_D0)
theorem eqG_DB : EqG X 2 (DB X.K) := (eqG_D0.mono (by decide)).or (eqG_tup mon_DA eqG_DA)
end
/-- what the own == compares: the field parts -/
def RQ (K : PySem.W.Frag) (C : Addr) (D : Eqv) : Addr → Addr → Hp → Prop := fun a b H => ∃ dx dy p q, H a = some (.ins C dx [("parts", p)]) ∧ H b = some (.ins C dy [("parts", q)]) ∧ DTup K D p q H
theorem rq_mon {K : PySem.W.Frag} {C : Addr} {D : Eqv} (hD : Mon D) : ∀ a b H H', Ext H H' → RQ K C D a b H → RQ K C D a b H' := fun a b H H' e ⟨dx, dy, p, q, h1, h2, h3⟩ => ⟨dx, dy, p, q, e _ _ h1, e _ _ h2, mon_tup hD _ _ _ _ e h3⟩
/-- the class x of the text: its own __eq__, no __ne__ -/
structure OwnQ (K : PySem.W.Frag) (x q : Str) (st : Stmt) (f : Addr) (fd : FuncData) : Prop where
  fn : FunD K "__eq__" q (defArgs st) (defBody st) (defScope st) [] [] f fd
  at_ : PySem.W.findIn K (.ref (He.ga K x)) "__eq__" = some (some (.ref f))
  isF : PySem.W.isFn K (.ref f) = true
  cls : ∃ nm qn N bs sn sub ab col dd k0 k1 k2 k3 k5 nid, K.lookup (He.ga K x) = some (excClassObj nm qn (He.ga K x) N bs [.type "object"] true sn sub ab col dd k0 k1 k2 k3 k5 nid) ∧
    ∃ oN es ep, K.lookup N = some oN ∧ oN.data = .dict es ep ∧ StrKeys es ∧ nsFind es "__eq__" = some (.ref f) ∧ nsFind es "__ne__" = none
  ob : ∃ of, K.lookup f = some of ∧ of.cls = .type "function"
theorem OwnQ.own {K : PySem.W.Frag} {x q : Str} {st : Stmt} {f : Addr} {fd : FuncData} {h : Heap} {a : Addr} {o : Obj} (O : OwnQ K x q st f fd) (X : K.In h) (ha : h.get? a = some o) (hc : o.cls = .ref (He.ga K x)) : h.OwnEqNoNe a (He.ga K x) f "object" [.type "object"] := by
  obtain ⟨nm, qn, N, bs, sn, sub, ab, col, dd, k0, k1, k2, k3, k5, nid, hC, oN, es, ep, hN, hd, hk, he, hn⟩ := O.cls
  obtain ⟨of, hf, hfc⟩ := O.ob
  exact ⟨o, of, nm, qn, N, bs, true, sn, sub, ab, col, dd, k0, k1, k2, k3, k5, nid, nsFind es, _, ha, hc, X _ _ hC, ⟨oN, es, ep, X _ _ hN, hd, hk, fun _ => rfl⟩, he, X _ _ hf, hfc, F.cmp_object.mro, rfl, hn⟩
/-- != gives False for what D says -/
def RcN (X : Cx) (n : Nat) (D : Eqv) : Prop :=
  ∀ (pins : List (Addr × Obj)) (s : Shared) (σ : L2.St) (H : Hp) (x y : V) (u v : Value), Room n X.A → Inv X pins σ H s → RelV x u → RelV y v → D x y H →
    wpAny (model X.prog X.w) X.A (richCompare .NotEq u v) (fun r s' => r = .bool false ∧ ∃ H', Inv X pins σ H' s' ∧ Ext H H') X.xe s
def rNeG (D : Eqv) : R2 := fun x y H Q => D x y H ∧ ∀ H', Ext H H' → Q (.bl false) H'
section
variable {X : Cx} {n : Nat} {x q : Str} {st : Stmt} {f : Addr} {fd : FuncData} {R : Addr → Addr → Hp → Prop} {CX : CXT} {E : XK} {ps : List Str}
theorem rcN_ins (O : OwnQ X.K x q st f fd) (F1 : FnOk X.prog X.w X.K X.mg X.base CX n f fd ps (spEq R)) (hb : Binds X.K fd ps []) (hx : Passes CX X E) : RcN X (n + 1) (DIns (He.ga X.K x) R) := by
  intro pins s σ H x' y u v hr I rx ry d
  obtain ⟨a, b, dx, dy, fs, gs, rfl, rfl, ha, hb', hR⟩ := d
  cases rx
  cases ry
  obtain ⟨mA, J, _⟩ := ins_get I.hok ha
  obtain ⟨mB, J', _⟩ := ins_get I.hok hb'
  obtain ⟨od, J, _⟩ := J.look
  obtain ⟨od', J', _⟩ := J'.look
  have hsp : spEq R [.ref a, .ref b] H (fun v H' => v = .bl true ∧ Ext H H') E := ⟨a, b, rfl, hR, fun H' e => ⟨rfl, e⟩⟩
  have e0 : Env0 X.prog X.w X.K X.mg X.base X.A.in1 X.stack s H := by
    have e := I.env0
    exact e.in1
  have hl := F1.len _ _ _ _ hsp
  have r2 : Vals [V.ref a, V.ref b] [Value.ref a, Value.ref b] := .cons rfl (.cons rfl .nil)
  have hu : X.A.units + 1 < cLine := by
    have := hr.un
    omega
  obtain ⟨hp, g, dr, tk, os⟩ := s
  refine richCompare_ne_ownEq F.cmp_object (O.own I.kIn J.1 J.2) J'.1 J'.2 hu ?_
  refine wpAny_call (codeAny_mono (F1.run X.A.in1 X.stack _ H ⟨[.ref a, .ref b], []⟩ [.ref a, .ref b] [.ref a, .ref b] _ E hr.in1 e0 (by
    have := hb ⟨hp, g, dr, tk, os⟩ [.ref a, .ref b] I.kIn (by simpa using hl)
    simpa using this) r2 hsp) fun r s' hq => ?_)
  cases r with
  | error e => exact hx pins σ H _ e s' I hq
  | ok fl =>
    cases fl with
    | ret w =>
      obtain ⟨z, H', I', rz, ez, ex⟩ := I.after hq
      subst ez
      cases rz
      exact ⟨true, rfl, rfl, H', I', ex⟩
    | next => exact False.elim hq
    | brk => exact False.elim hq
    | cont => exact False.elim hq
theorem op_neG {D : Eqv} (h : RcN X n D) (hr : Room n X.A) : OpR X (compareOp .NotEq) (rNeG D) := by
  intro pins s σ H x y v u Q I rx ry hq
  obtain ⟨d, q⟩ := hq
  show wpAny (model X.prog X.w) X.A (richCompare .NotEq v u) (EP X pins σ Q) X.xe s
  refine wpAny_mono (h pins s σ H x y v u hr I rx ry d) (fun r s' z => ?_) fun _ _ x => x
  obtain ⟨hr', H', I', e⟩ := z
  subst hr'
  exact ⟨.bl false, H', I', rfl, q H' e⟩
end
end Bt
/-! ==== W19 ==== -/
set_option Elab.async false
set_option linter.all false
set_option maxRecDepth 100000
set_option maxHeartbeats 2000000
/-! Frame.__eq__, Curve.__eq__. -/
namespace Bt
open PySem PySem.Spec PyProof.Rows L2 SW
abbrev st_Frame_eq : Stmt := inClass (top 40) 6
abbrev st_Curve_eq : Stmt := inClass (top 60) 4
theorem sc_Frame_eq : FnScope ["self", "other"] ["self", "other"] (defScope st_Frame_eq) := ⟨rfl, rfl, rfl, by decide +kernel, rfl, by decide +kernel, by decide +kernel⟩
theorem sc_Curve_eq : FnScope ["self", "other"] ["self", "other"] (defScope st_Curve_eq) := ⟨rfl, rfl, rfl, by decide +kernel, rfl, by decide +kernel, by decide +kernel⟩
def t_own_eq (K : PySem.W.Frag) (C : Addr) (D : Eqv) : TS := (tRet (tAndV (tCB (rIsi K) (tCons (tVar 1) (tCons (tC (.ref C)) tNil))) (tOp (rEqG (DTup K D)) (tFld K (tVar 0) "parts") (tFld K (tVar 1) "parts"))))
section
variable {P : Program} {w : World} {K : PySem.W.Frag} {mg : Str → Option Value} {base : Heap}
section
variable {ta tb : TE} {σ : L2.St} {G : Hp} {P1 P2 : VP}
theorem ep_eqG {D : Eqv} [Stays P1] (hm : Mon D) (ha : Ep ta σ G P1) (hb : Ep tb σ G P2) (hd : ∀ x y G1, Same G G1 → P1 x G1 → P2 y G1 → D x y G1) : Ep (tOp (rEqG D) ta tb) σ G (IsB true) :=
  ep_bin ha hb fun v w G1 H1 Q g s px py q => ⟨hm _ _ _ _ s (hd v w G1 g px py), fun H' e => q (.bl true) G1 H' (To.dull s e) rfl⟩
theorem ep_neG {D : Eqv} [Stays P1] (hm : Mon D) (ha : Ep ta σ G P1) (hb : Ep tb σ G P2) (hd : ∀ x y G1, Same G G1 → P1 x G1 → P2 y G1 → D x y G1) : Ep (tOp (rNeG D) ta tb) σ G (IsB false) :=
  ep_bin ha hb fun v w G1 H1 Q g s px py q => ⟨hm _ _ _ _ s (hd v w G1 g px py), fun H' e => q (.bl false) G1 H' (To.dull s e) rfl⟩
end
theorem own_pure {C : Addr} {D : Eqv} (hD : Mon D) (c : C8.InsC K C) (hn : NoAttr K C "parts") {vs : List V} {H : Hp} {Q : VK} {E : XK} (h : spEq (RQ K C D) vs H Q E) : t_own_eq K C D { nx := fun _ H' => Q .non H', rt := Q } (start ["self", "other"] vs) H := by
  obtain ⟨a, b, rfl, ⟨dx, dy, p, q, h1, h2, h3⟩, k⟩ := h
  have i1 : IsO C "parts" (IsV p) (.ref a) H := ⟨a, dx, p, rfl, h1, rfl⟩
  have i2 : IsO C "parts" (IsV q) (.ref b) H := ⟨b, dy, q, rfl, h2, rfl⟩
  have e : Es (t_own_eq K C D) (start ["self", "other"] [.ref a, .ref b]) H (IsB true) (fun _ _ => False) := by
    refine es_ret ((ep_andV (ep_isi (ep_var (P := IsO C "parts" (IsV q)) rfl i2) (.own _) (fun _ _ => ty_O c) c.me) fun _ => ep_eqG (mon_tup hD) (ep_fld c.cl hn (ep_var (P := IsO C "parts" (IsV p)) rfl i1)) (ep_fld c.cl hn (ep_var (P := IsO C "parts" (IsV q)) rfl i2)) fun x y G1 g px py => ?_).is rfl)
    have px : x = p := px
    have py : y = q := py
    subst px py
    exact mon_tup hD _ _ _ _ g h3
  exact e H H _ (Same.refl H) (Same.refl H) (fun v G2 H2 t r => by
    have r : v = .bl true := r
    subst r
    exact k H2 t.big) fun _ _ _ _ z => z.elim
theorem ps_Frame_eq (T : Txt P K mg base) : Hps P w K mg base 1 "Frame.__eq__" st_Frame_eq ["self", "other"] (t_own_eq K (He.ga K "Frame") D0) := fun f cdv A outer s H E hr =>
  (pss_one (ps_ret (pe_and (pe_callB call_isi (by rfl) T.f_isinstance (by decide +kernel) (pa_cons (pv 1) (pa_cons (C8.pe_gc rfl T.c_Frame) pa_nil))) (pe_one (pe_cmpR (op_eqG (rcG_tup mon_D0 eqG_D0) hr) (pe_fld (pv 0) rfl) (pe_fld (pv 1) rfl) (nomark _))))))
theorem fn_Frame_eq {f : Addr} {fd : FuncData} (O : OwnQ K "Frame" "Frame.__eq__" st_Frame_eq f fd) (T : Txt P K mg base) : FnOk P w K mg base CX0 2 f fd ["self", "other"] (spEq (RQ K (He.ga K "Frame") D0)) :=
  O.fn.ok sc_Frame_eq (fun vs H Q E ⟨_, _, e, _⟩ => by rw [e]; rfl) fun cdv A outer s H vs Q E hr hs => ⟨t_own_eq K (He.ga K "Frame") D0,
    (ps_Frame_eq T f cdv A outer s H E hr).nox, own_pure mon_D0 T.oFrame T.nFrame hs⟩
theorem ps_Curve_eq (T : Txt P K mg base) : Hps P w K mg base 3 "Curve.__eq__" st_Curve_eq ["self", "other"] (t_own_eq K (He.ga K "Curve") (DB K)) := fun f cdv A outer s H E hr =>
  (pss_one (ps_ret (pe_and (pe_callB call_isi (by rfl) T.f_isinstance (by decide +kernel) (pa_cons (pv 1) (pa_cons (C8.pe_gc rfl T.c_Curve) pa_nil))) (pe_one (pe_cmpR (op_eqG (rcG_tup mon_DB eqG_DB) hr) (pe_fld (pv 0) rfl) (pe_fld (pv 1) rfl) (nomark _))))))
theorem fn_Curve_eq {f : Addr} {fd : FuncData} (O : OwnQ K "Curve" "Curve.__eq__" st_Curve_eq f fd) (T : Txt P K mg base) : FnOk P w K mg base CX0 4 f fd ["self", "other"] (spEq (RQ K (He.ga K "Curve") (DB K))) :=
  O.fn.ok sc_Curve_eq (fun vs H Q E ⟨_, _, e, _⟩ => by rw [e]; rfl) fun cdv A outer s H vs Q E hr hs => ⟨t_own_eq K (He.ga K "Curve") (DB K),
    (ps_Curve_eq T f cdv A outer s H E hr).nox, own_pure mon_DB T.oCurve T.nCurve hs⟩
/-! != as a rule -/
structure NeC (P : Program) (w : World) (K : PySem.W.Frag) (mg : Str → Option Value) (base : Heap) (k : Nat) (C : Addr) (D : Eqv) : Prop where
  run : ∀ X : Cx, X.prog = P → X.w = w → X.K = K → X.mg = mg → X.base = base → RcN X k (DIns C (RQ K C D))
theorem ne_Frame {f : Addr} {fd : FuncData} (O : OwnQ K "Frame" "Frame.__eq__" st_Frame_eq f fd) (T : Txt P K mg base) : NeC P w K mg base 3 (He.ga K "Frame") D0 := ⟨fun X h1 h2 h3 h4 h5 => by
  subst h1 h2 h3 h4 h5
  exact rcN_ins O (fn_Frame_eq O T) (O.fn.bindsN (fun _ _ _ _ _ _ us hl => match us, hl with | [_, _], _ => rfl)) pass0⟩
theorem ne_Curve {f : Addr} {fd : FuncData} (O : OwnQ K "Curve" "Curve.__eq__" st_Curve_eq f fd) (T : Txt P K mg base) : NeC P w K mg base 5 (He.ga K "Curve") (DB K) := ⟨fun X h1 h2 h3 h4 h5 => by
  subst h1 h2 h3 h4 h5
  exact rcN_ins O (fn_Curve_eq O T) (O.fn.bindsN (fun _ _ _ _ _ _ us hl => match us, hl with | [_, _], _ => rfl)) pass0⟩
theorem op_neC {X : Cx} {k j : Nat} {C : Addr} {D : Eqv} (h : NeC X.prog X.w X.K X.mg X.base k C D) (hr : Room j X.A) (hk : k ≤ j) : OpR X (compareOp .NotEq) (rNeG (DIns C (RQ X.K C D))) := op_neG (h.run X rfl rfl rfl rfl rfl) (hr.mono hk)
section
variable {ta tb : TE} {σ : L2.St} {G : Hp}
theorem d0_int {i : Int} {H : Hp} : D0 (.int i) (.int i) H := .inr ⟨rfl, rfl, by simp [eqV]⟩
/-- a frame is not unlike itself -/
theorem ep_neFr {f : Int × List Int} {v : V} (ha : Ep ta σ G (IsV v)) (hb : Ep tb σ G (IsV v)) (hf : IsFr K f v G) : Ep (tOp (rNeG (DIns (He.ga K "Frame") (RQ K (He.ga K "Frame") D0))) ta tb) σ G (IsB false) :=
  ep_neG (mon_ins (rq_mon mon_D0)) ha hb fun x y G1 g px py => by
    have px : x = v := px
    have py : y = v := py
    subst px py
    obtain ⟨a, dx, pv, rfl, h1, p, v1, v2, rfl, h2, h3, h4⟩ := up g hf
    refine ⟨a, a, dx, dx, _, _, rfl, rfl, h1, h1, dx, dx, _, _, h1, h1, p, p, _, _, rfl, rfl, h2, h2, Prs.cons ?_ (Prs.cons ?_ Prs.nil)⟩
    · have h3 : v1 = .int _ := h3
      rw [h3]
      exact d0_int
    · obtain ⟨b, vs, rfl, _⟩ := h4
      exact .inl ⟨b, rfl, rfl⟩
theorem prs_F {H : Hp} : ∀ {vs ws : List V} {am : List Rat}, All2 (IsF K) vs am H → All2 (IsF K) ws am H → Prs (DA K) vs ws H
  | [], [], [], _, _ => Prs.nil
  | v :: vs, w :: ws, q :: am, ⟨h1, h2⟩, ⟨g1, g2⟩ => by
    obtain ⟨a, rfl, h1⟩ := h1
    obtain ⟨b, rfl, g1⟩ := g1
    exact Prs.cons (.inr ⟨a, b, _, _, rfl, rfl, h1, g1, Prs.cons d0_int (Prs.cons d0_int Prs.nil)⟩) (prs_F h2 g2)
  | [], _ :: _, [], _, h => h.elim
  | _ :: _, _, [], h, _ => h.elim
  | [], _, _ :: _, h, _ => h.elim
  | _ :: _, [], _ :: _, _, h => h.elim
/-- two curves over one frame, of the same amounts -/
theorem ep_neCv {a : Addr} {am : List Rat} (ha : Ep ta σ G (IsCv K (.ref a) am)) (hb : Ep tb σ G (IsCv K (.ref a) am)) : Ep (tOp (rNeG (DIns (He.ga K "Curve") (RQ K (He.ga K "Curve") (DB K)))) ta tb) σ G (IsB false) :=
  ep_neG (mon_ins (rq_mon mon_DB)) ha hb fun x y G1 g px py => by
    obtain ⟨b, dx, pv, rfl, h1, p, v1, v2, rfl, h2, h3, h4⟩ := px
    obtain ⟨c, dy, qv, rfl, k1, q, w1, w2, rfl, k2, k3, k4⟩ := py
    have h3 : v1 = .ref a := h3
    have k3 : w1 = .ref a := k3
    subst h3 k3
    refine ⟨b, c, dx, dy, _, _, rfl, rfl, h1, k1, dx, dy, _, _, h1, k1, p, q, _, _, rfl, rfl, h2, k2, Prs.cons (.inl (.inl ⟨a, rfl, rfl⟩)) (Prs.cons (.inr ?_) Prs.nil)⟩
    obtain ⟨r, vs, rfl, h5, h6⟩ := h4
    obtain ⟨t, ws, rfl, k5, k6⟩ := k4
    exact ⟨r, t, vs, ws, rfl, rfl, h5, k5, prs_F h6 k6⟩
end
end
end Bt
/-! ==== W20 ==== -/
set_option Elab.async false
set_option linter.all false
set_option maxRecDepth 100000
set_option maxHeartbeats 2000000
/-! _law_is_curve. -/
namespace Bt
open PySem PySem.Spec PyProof.Rows L2 SW
def sp__law_is_curve (K : PySem.W.Frag) : Sp := sp3 (fun (x : V × List Rat) => IsCv K x.1 x.2) (IsFrV K) IsI (fun x y m => x.1 = y.1 ∧ (x.2.length : Int) = m ∧ x.2.length ≤ 1000) fun _ _ _ => IsB true
abbrev st__law_is_curve := top 104
theorem sc__law_is_curve : FnScope ["_law_found", "_law_mine", "_law_many", "_law_part_here"] ["_law_found", "_law_mine", "_law_many"] (defScope st__law_is_curve) := ⟨rfl, rfl, rfl, by decide +kernel, rfl, by decide +kernel, by decide +kernel⟩
def t__law_is_curve (K : PySem.W.Frag) : TS := (tSeq (tIfS (tOr (tNot (tB (tCB (rIsi K) (tCons (tVar 0) (tCons (tC (.ref (He.ga K "Curve"))) tNil))))) (tTest (tOp (rNeG (DIns (He.ga K "Frame") (RQ K (He.ga K "Frame") D0))) (tProp (He.ga K "Curve") (sp_Curve_frame K) [] E0 (tVar 0)) (tVar 1)))) (tRet (tC (.bl false))) tNext)
    (tSeq (tIfS (tOr (tNot (tB (tCB (rIsi K) (tCons (tProp (He.ga K "Curve") (sp_Curve_amounts K) [] E0 (tVar 0)) (tCons (tC (.ty "tuple")) tNil))))) (tTest (tOp rNe (tCB (rLen K) (tCons (tProp (He.ga K "Curve") (sp_Curve_amounts K) [] E0 (tVar 0)) tNil)) (tVar 2)))) (tRet (tC (.bl false))) tNext)
    (tSeq (tFor (iTup K (tProp (He.ga K "Curve") (sp_Curve_amounts K) [] E0 (tVar 0))) (gName 3)
    (tSeq (tIfS (tOr (tNot (tB (tCB (rIsi K) (tCons (tVar 3) (tCons (tC (.ty "tuple")) tNil))))) (tTest (tOp rNe (tCB (rLen K) (tCons (tVar 3) tNil)) (tC (.int 2))))) (tRet (tC (.bl false))) tNext)
    (tIfS (tOr (tTest (tOp rLtI (tOp (rIxT K) (tVar 3) (tC (.int 1))) (tC (.int 1)))) (tTest (tOp rNe (tCall (sp__law_gcd K) [] E0 (tCons (tOp (rIxT K) (tVar 3) (tC (.int 0))) (tCons (tOp (rIxT K) (tVar 3) (tC (.int 1))) tNil))) (tC (.int 1))))) (tRet (tC (.bl false))) tNext)))
    (tRet (tC (.bl true))))))
theorem ps__law_is_curve {P : Program} {w : World} {K : PySem.W.Frag} {mg : Str → Option Value} {base : Heap} (T : Txt P K mg base) (c__law_gcd : C8.Cal P w K mg base 1 "_law_gcd" (sp__law_gcd K) []) (p_Curve_frame : Prp P w K mg base 1 (He.ga K "Curve") "frame" (sp_Curve_frame K)) (p_Curve_amounts : Prp P w K mg base 1 (He.ga K "Curve") "amounts" (sp_Curve_amounts K)) (n_Frame : NeC P w K mg base 3 (He.ga K "Frame") D0) : Hps P w K mg base 4 "_law_is_curve" st__law_is_curve ["_law_found", "_law_mine", "_law_many", "_law_part_here"] (t__law_is_curve K) := fun f cdv A outer s H E hr =>
  (pss_cons (ps_if (PW.pt (pw_or (pt_not (pt_val (pe_callB call_isi (by rfl) T.f_isinstance (by decide +kernel) (pa_cons (pv 0) (pa_cons (C8.pe_gc rfl T.c_Curve) pa_nil))))) (pw_or1 (pt_cmpR (op_neC n_Frame hr (by decide)) (pe_prp p_Curve_frame hr (by decide) (pv 0) rfl) (pv 1) (nomark _))))) (pss_one (ps_ret pe_bl)) pss_nil)
    (pss_cons (ps_if (PW.pt (pw_or (pt_not (pt_val (pe_callB call_isi (by rfl) T.f_isinstance (by decide +kernel) (pa_cons (pe_prp p_Curve_amounts hr (by decide) (pv 0) rfl) (pa_cons (pe_bltn (v := .ty "tuple") (by rfl) T.f_tuple (by decide +kernel) rfl) pa_nil))))) (pw_or1 (pt_cmpR op_ne (pe_callB call_len (by rfl) T.f_len (by decide +kernel) (pa_cons (pe_prp p_Curve_amounts hr (by decide) (pv 0) rfl) pa_nil)) (pv 2) (nomark _))))) (pss_one (ps_ret pe_bl)) pss_nil)
    (pss_cons (ps_for PassesOwn.never rfl (pi_tup (pe_prp p_Curve_amounts hr (by decide) (pv 0) rfl)) (pg_name (i := 3) sc__law_is_curve.nd rfl (Or.inl rfl))
    (pss_cons (ps_if (PW.pt (pw_or (pt_not (pt_val (pe_callB call_isi (by rfl) T.f_isinstance (by decide +kernel) (pa_cons (pv 3) (pa_cons (pe_bltn (v := .ty "tuple") (by rfl) T.f_tuple (by decide +kernel) rfl) pa_nil))))) (pw_or1 (pt_cmpR op_ne (pe_callB call_len (by rfl) T.f_len (by decide +kernel) (pa_cons (pv 3) pa_nil)) pe_int (nomark _))))) (pss_one (ps_ret pe_bl)) pss_nil)
    (pss_one (ps_if (PW.pt (pw_or (pt_cmpR op_lt (pe_ix ix_tup (pv 3) pe_int (fun _ _ => rfl)) pe_int (nomark _)) (pw_or1 (pt_cmpR op_ne (C8.pe_c c__law_gcd hr (by decide) rfl (pa_cons (pe_ix ix_tup (pv 3) pe_int (fun _ _ => rfl)) (pa_cons (pe_ix ix_tup (pv 3) pe_int (fun _ _ => rfl)) pa_nil))) pe_int (nomark _))))) (pss_one (ps_ret pe_bl)) pss_nil))))
    (pss_one (ps_ret pe_bl)))))
section
variable {P : Program} {w : World} {K : PySem.W.Frag} {mg : Str → Option Value} {base : Heap}
theorem cal__law_is_curve (D : Dd K mg "_law_is_curve" st__law_is_curve) (T : Txt P K mg base) (c : C8.Cal P w K mg base 1 "_law_gcd" (sp__law_gcd K) []) (p1 : Prp P w K mg base 1 (He.ga K "Curve") "frame" (sp_Curve_frame K)) (p2 : Prp P w K mg base 1 (He.ga K "Curve") "amounts" (sp_Curve_amounts K))
    (n : NeC P w K mg base 3 (He.ga K "Frame") D0) : C8.Cal P w K mg base 5 "_law_is_curve" (sp__law_is_curve K) [] :=
  cal3 D sc__law_is_curve (fun _ _ _ _ _ _ us hl => match us, hl with | [_, _, _], _ => rfl) (ps__law_is_curve T c p1 p2 n) fun G x y m v0 v1 v2 h0 h1 h2 hc => by
    obtain ⟨fv, am⟩ := x
    obtain ⟨fv', fr⟩ := y
    obtain ⟨e1, e2, e3⟩ := hc
    have e1 : fv = fv' := e1
    subst e1
    obtain ⟨e0, hf⟩ := h1
    have e0 : v1 = fv := e0
    subst e0
    have h2 : v2 = .int m := h2
    subst h2
    have hP : ∀ (a : V × List Rat) v G, (fun (x : V × List Rat) => IsCv K x.1 x.2) a v G → ∃ x dx fs, v = .ref x ∧ G x = some (.ins (He.ga K "Curve") dx fs) := fun a v G ⟨x, dx, pv, h1, h2, _⟩ => ⟨x, dx, _, h1, h2⟩
    have am_ : ∀ {σ : L2.St} {G1 : Hp}, Same G G1 → σ[0]? = some (some v0) → Ep (tProp (He.ga K "Curve") (sp_Curve_amounts K) [] E0 (tVar 0)) σ G1 (IsT K (IsF K) am) := fun {σ G1} e h =>
      ep_prop hP (v1, am) (ep_var (P := IsCv K v1 am) h (up e h0)) trivial
    refine sq_skip ((et_or (et_not (et_B (ep_isi (ep_var (P := IsCv K v1 am) rfl h0) (.own _) (fun _ _ => ty_O T.oCurve) T.oCurve.me))) fun _ => et_B (ep_neFr (ep_prop hP (v1, am) (ep_var (P := IsCv K v1 am) rfl h0) trivial) (ep_v rfl) hf)).is rfl) ?_
    refine sq_skip ((et_or (et_not (et_B (ep_isi (am_ (Same.refl G) rfl) (.ty "tuple") (fun _ _ => ty_T) kit_tt))) fun _ => et_test (ep_neI (ep_len (Ep.sT (am_ (Same.refl G) rfl))) (ep_v rfl))).is (by simp [e2])) ?_
    refine es_seq (N1 := fun _ _ => True) (es_for (it_tup (F := IsF K) (xs := am) (am_ (Same.refl G) rfl)) (fun i σ G => ∃ a, σ = [some v0, some v1, some (.int m), a]) ⟨none, rfl⟩ (fun _ _ _ _ _ h => h) ?_ fun _ _ _ _ => trivial) fun _ _ _ _ => es_ret ep_c
    rintro i q v σ1 G1 hi s ⟨a, rfl⟩ hq
    refine ⟨_, gb_name, ?_⟩
    refine sq_skip ((et_or (et_not (et_B (ep_isi (ep_var (P := IsF K q) rfl hq) (.ty "tuple") (fun _ _ => ty_F) kit_tt))) fun _ => et_test (ep_neI (F_len (ep_var rfl hq)) ep_c)).is (by simp)) ?_
    refine es_if (b := false) ((et_or (et_test (ep_lt (ep_den (ep_var rfl hq)) ep_c)) fun _ => et_test (ep_neI (ep_call2 (P1 := IsI) (P2 := IsI) q.num (q.den : Int) (ep_num (ep_var rfl hq)) (ep_den (ep_var rfl hq)) trivial) ep_c)).is ?_) (fun z => nomatch z) fun _ => es_next fun _ _ => ⟨_, rfl⟩
    have := q.den_pos
    rw [gcd_low, decide_eq_false (show ¬ (q.den : Int) < 1 by omega)]
    rfl
end
end Bt
/-! ==== W21 ==== -/
set_option Elab.async false
set_option linter.all false
set_option maxRecDepth 100000
set_option maxHeartbeats 2000000
/-! NotOne(found): an error below ArithmeticError with an __init__ of its own that stores one field. -/
namespace PySem
namespace AeX
open Builtin Builtin.ObjectAttr HandSPX
abbrev aeTail : List Value := [.type "ArithmeticError", .type "Exception", .type "BaseException", .type "object"]
/-- an own class that is below one own class, that below ArithmeticError -/
def aeMro (C D : Addr) : List Value := .ref C :: .ref D :: aeTail
theorem ae_contains (D : Addr) (X : String) : (Value.ref D :: aeTail).contains (.type X) = aeTail.contains (.type X) := by
  rw [List.contains_cons]
  rfl
theorem ae_pass (self : Value) (C D : Addr) : refuseLoop self "__setattr__" (aeMro C D) = pure () := by
  unfold aeMro
  rw [refuseLoop_ref, refuseLoop_ref]
  exact F.store_ArithmeticError.passes self
section
variable {prog : Program} {w : World} {A : Around} {R : Result → Shared → Prop} {hp : Heap} {g : Array GenState} {d : Drawn} {t : Nat} {os : OsState}
theorem exc_osa {K : W.Frag} {name : Str} {tk : Tok} {v : Value} {x C D : Addr} {fv : Array Value} {cd : ClassData}
    (X : K.In hp) (hx : hp.get? x = some { cls := .ref C, data := .fields fv }) (hcd : W.clsIn K C = some cd) (hm : cd.mro = aeMro C D) (hh : cd.hasDict = true) (ha : W.findIn K (.ref C) name = some none)
    (hq : ∀ h' tk' dx, (∀ b o, b ≠ x → hp.get? b = some o → h'.get? b = some o) → hp.objs.size ≤ dx → dx ≠ x → h'.get? x = some { cls := .ref C, dict := some dx, data := .fields fv } →
      h'.Ns1 dx (fun y => if y = name then some v else none) → R (.ok (.ret .none)) ⟨h', g, d, tk', os⟩) :
    codeAny (model prog w) A (.call (.builtin "object.__setattr__") ⟨[.ref x, .str name tk, v], []⟩) R ⟨hp, g, d, t, os⟩ := by
  have I : W.InstAt hp x { cls := .ref C, data := .fields fv } C none := ⟨hx, rfl, rfl, trivial⟩
  have SF := F.store_object
  have hob : cd.mro.contains (.type "object") = true := by
    rw [hm]
    unfold aeMro
    rw [List.contains_cons, ae_contains, show aeTail.contains (.type "object") = true from by decide +kernel, Bool.or_true]
  have ne : cd.mro.isEmpty = false := by
    rw [hm]
    rfl
  have hxs : x ≠ hp.objs.size := Nat.ne_of_lt (Heap.lt_size hx)
  have sub : W.Looks (model prog w) hp (isInstance (.ref x) (.type "object")) true := I.type.andThen (W.looks_mroIn X (by unfold W.mroIn; rw [hcd, Option.bind_some, if_neg (by rw [ne]; decide), hob]))
  refine codeAny_call_builtin SF.slot.plain SF.entry (@W.check_slot (model prog w) _ _ ⟨hp, g, d, t, os⟩ "object.__setattr__" "object" "__setattr__" (.ref x) [.str name tk, v] [] _ SF.kind SF.split sub (SF.args (.ref x) (.str name tk) v) ?_)
  have hmr : W.Looks (model prog w) hp (mroOf (.ref C)) cd.mro := (W.looks_clsIn X hcd).andThen .now
  have L3 : W.Looks (model prog w) hp (storeTaker? none) none := .now
  have hcls : W.Looks (model prog w) hp (classData C) cd := W.looks_clsIn X hcd
  rw [W.osa_eq, refuse_eq]
  refine wpAny_bind (wpAny_bind (I.type.at (wpAny_bind (hmr.at ?_))))
  rw [hm, ae_pass]
  refine wpAny_pure (wpAny_bind (I.type.at (wpAny_bind ((W.looks_findIn X ha).at (wpAny_bind (L3.at ?_))))))
  show wpAny _ _ (storeInOwnDict (.ref x) (.ref C) (.str name tk) name v false) _ _ _
  obtain ⟨nm, bs, mro, ns, qn, hd, sn, sb, ab, col, del⟩ := cd
  dsimp only at hh
  subst hh
  unfold storeInOwnDict ownDictForStores
  repeat (first | with_reducible refine store_in_new ?_ ?_ | with_reducible refine wpAny_loadPart_at hx ?_ | with_reducible refine hcls.at ?_ | wp_step)
  · exact ⟨_, #[], _, (Heap.get?_update_ne _ _ _ _ hxs.symm).trans (Heap.get?_push_at rfl rfl), rfl, fun e he => absurd he (by simp), fun _ => rfl⟩
  · intro h' tk' hn' hs
    have hx₁ : (hp.push { cls := .type "dict", data := .dict #[] }).get? x = some { cls := .ref C, data := .fields fv } := Heap.get?_push_of_some _ hx
    refine hq h' tk' hp.objs.size (fun b o hb ho => ?_) (Nat.le_refl _) hxs.symm ?_ hn'
    · exact (hs.2 b (Nat.ne_of_lt (Heap.lt_size ho))).trans ((Heap.get?_update_ne _ _ _ _ hb).trans (Heap.get?_push_of_some _ ho))
    · exact (hs.2 x hxs).trans (Heap.get?_update_self _ hx₁ rfl)
end
open PySem.W PySem.Calls PyProof.Rows
/-! ### the text of __init__ -/
def iA (p1 p2 : Pos) : Arguments := { posonlyargs := [], args := [{ arg := "self", annotation := none, pos := p1 }, { arg := "rank", annotation := none, pos := p2 }], vararg := none, kwonlyargs := [], kw_defaults := [], kwarg := none, defaults := [] }
def iB (q1 q2 q3 q4 : Pos) : List Stmt := [.Assign [.Attribute (.Name "self" q1) "rank" q2] (.Name "rank" q3) q4]
def iS : Scope := { kind := .function, names := [(PySem.Str.ofString "self", .local), (PySem.Str.ofString "rank", .local)], isGenerator := false, isCoroutine := false, more := [] }
/-- what the written part says of NotOne, at C, of its __init__, at fI; D: NotPossible -/
structure OneTxt (K : Frag) (mg : Str → Option Value) (C D fI : Addr) : Prop where
  gC : mg "NotOne" = some (.ref C)
  cls : ∃ nm q N bs sn sub ab col dd k0 k1 k2 k3 k5, K.lookup C = some (excClassObj nm q C N bs (.ref D :: aeTail) true sn sub ab col dd k0 k1 k2 k3 k5 "ArithmeticError.__new__")
  sa : findIn K (.ref C) "__setattr__" = some (some (.builtin "object.__setattr__"))
  noN : findIn K (.ref C) "rank" = some none
  iC : findIn K (.ref C) "__init__" = some (some (.ref fI))
  tC : typeIn K (.ref fI) = some (.type "function")
  kC : keepIn K (.ref C) = true
  xc : L2.ExcC K C
  tyC : typeIn K (.ref C) = some (.type "type")
  fn : ∃ (oc : Value) (od : Option Addr) (doc pm : Value) (an : Option Addr) (cdv ct : Value) (osl : Array (Option Value)) (p1 p2 q1 q2 q3 q4 : Pos),
    K.lookup fI = some ⟨oc, od, .func (fnOf "__init__" "NotOne.__init__" (iA p1 p2) (iB q1 q2 q3 q4) iS .none .none doc pm an cdv ct), osl⟩ ∧ codeIn K cdv "NotOne.__init__" = true
theorem one_size (v : Value) : [v].length ≤ sizeLine := by
  rw [sizeLine_eq]
  exact (by decide : 1 ≤ 16777216)
theorem ldC {M : Model} {s : Shared} {name : Str} {scope : Scope} {L a : Addr} {cd : Value} {m : Str → Option Value} {x : Str} {pos : Pos} {v : Value} {Q : Value → Shared → Prop} {A : Around} {E : Value → Shared → Prop} (hn : s.heap.Ns L m) (hv : m x = some v) (h : Q v s)
    (hk : scope.kind = .function := by rfl) (hl : (envOfC name scope L a cd).kindOf x = some .local := by rfl) (hd : (x == ("__debug__" : Str)) = false := by decide) :
    wpAny M A (eval (.Name x pos) (envOfC name scope L a cd)) Q E s := wpAny_Name (wpAny_loadName_local hk hl hn hv h) hd
structure InitEnd (h h' : Heap) (x C dx t1 : Addr) (v : Value) : Prop where
  keep : ∀ b o, b ≠ x → h.get? b = some o → h'.get? b = some o
  obj : h'.get? x = some { cls := .ref C, dict := some dx, data := .fields #[.ref t1, .none, .none, .none, .bool false, .none] }
  dbig : h.objs.size ≤ dx
  dne : dx ≠ x
  ns : h'.Ns1 dx (fun y => if y = "rank" then some v else none)
/-- a made NotOne -/
structure OwnMade (h h' : Heap) (e C d : Addr) (v : Value) : Prop where
  keep : ∀ b o, h.get? b = some o → h'.get? b = some o
  new : h.objs.size ≤ e
  obj : ∃ t1 : Addr, h'.get? e = some { cls := .ref C, dict := some d, data := .fields #[.ref t1, .none, .none, .none, .bool false, .none] }
  dbig : h.objs.size ≤ d
  dne : d ≠ e
  ns : h'.Ns1 d (fun y => if y = "rank" then some v else none)
section
variable {prog : Program} {w : World} {A : Around} {E : Value → Shared → Prop} {R : Result → Shared → Prop} {s : Shared} {K : Frag} {mg : Str → Option Value} {C D fI : Addr}
theorem one_init (T : OneTxt K mg C D fI) {x t0 : Addr} {v : Value} (X : K.In s.heap) (hlim : s.heap.NoLimit) (hx : s.heap.get? x = some (excO C t0)) (hroom : A.depth < recursionLimit)
    (hq : ∀ h' tk dx, InitEnd s.heap h' x C dx t0 v → R (.ok (.ret .none)) { s with heap := h', toks := tk }) :
    codeAny (model prog w) A (.call (.ref fI) ⟨[.ref x, v], []⟩) R s := by
  obtain ⟨oc, od, doc, pm, an, cdv, ct, osl, p1, p2, q1, q2, q3, q4, ho, hcd⟩ := T.fn
  obtain ⟨nm, q, N, bs, sn, sub, ab, col, dd, k0, k1, k2, k3, k5, hC⟩ := T.cls
  have hcl : clsIn K C = some { name := nm, bases := bs, mro := aeMro C D, ns := N, qualname := q, hasDict := true, slotNames := sn, subclasses := sub, abstract := ab, collection := col, hasDel := false } := by unfold clsIn; rw [hC] <;> rfl
  refine Att.call_fn (binds := [("self", .ref x), ("rank", v)]) X hlim ho hcd hroom (BindsTo.of_eq (by first | rfl | with_unfolding_all rfl)) (by first | rfl | decide | with_unfolding_all rfl) (fun s₁ IC => ?_) rfl rfl rfl
  obtain ⟨h₁, tk₁, rfl⟩ := IC.toInCall.same
  have k : ∀ b o, s.heap.get? b = some o → h₁.get? b = some o := IC.toInCall.keep
  have hn := IC.toInCall.ns
  have X₁ : K.In h₁ := X.keeps k
  have hx₁ := k _ _ hx
  show wpAny _ _ (execs _ _) _ _ _
  refine wpAny_execs_cons (plainObj_wpAny_Assign_Attribute ?_)
  refine ldC (v := v) hn (by first | rfl | with_unfolding_all rfl | kernel_rfl) (ldC (v := .ref x) hn (by first | rfl | with_unfolding_all rfl | kernel_rfl) ?_)
  refine set_plain X₁ (ox := excO C t0) (od := none) ⟨hx₁, rfl, rfl, trivial⟩ T.sa ?_
  refine exc_osa X₁ hx₁ hcl rfl rfl T.noN (fun h₃ tk₃ dx k₃ dn dne hx₃ hn₃ => ?_)
  show wpAny _ _ (execs _ _) _ _ _
  have z : s.heap.objs.size < h₁.objs.size := hn.lt
  exact wpAny_execs_nil (hq h₃ tk₃ dx ⟨fun b o hb e => k₃ b o hb (k b o e), hx₃, Nat.le_of_lt (Nat.lt_of_lt_of_le z dn), dne, hn₃⟩)
theorem one_made (T : OneTxt K mg C D fI) {v : Value} (X : K.In s.heap) (hlim : s.heap.NoLimit) (hroom : A.depth + 1 < recursionLimit)
    (hq : ∀ h' tk e d, OwnMade s.heap h' e C d v → R (.ok (.ret (.ref e))) { s with heap := h', toks := tk }) :
    codeAny (model prog w) A (.call (.ref C) ⟨[v], []⟩) R s := by
  obtain ⟨nm, q, N, bs, sn, sub, ab, col, dd, k0, k1, k2, k3, k5, hC⟩ := T.cls
  obtain ⟨hp, g, dr, tk, os⟩ := s
  have k : ∀ b o, hp.get? b = some o → ((hp.push (kdv_tup [v])).push (excO C hp.objs.size)).get? b = some o := fun b o e => Heap.get?_push_of_some _ (Heap.get?_push_of_some _ e)
  have hget : ((hp.push (kdv_tup [v])).push (excO C hp.objs.size)).get? (hp.objs.size + 1) = some (excO C hp.objs.size) := by heap_get
  refine call_own F.excBase_ArithmeticError (fun X => ae_contains D X) (X _ _ hC) (looks_findIn X T.iC) (fun self => bind_fn X self T.tC) (one_size v) ?_
  refine one_init (s := ⟨(hp.push (kdv_tup [v])).push (excO C hp.objs.size), g, dr, tk, os⟩) T (X.keeps k) (hlim.keeps k) hget ?_ fun h' tk' dx ⟨k', hx, dn, dne, hns⟩ => ?_
  · show A.depth + 1 < recursionLimit
    exact hroom
  · have old : ∀ b o, hp.get? b = some o → h'.get? b = some o := fun b o e => k' b o (Nat.ne_of_lt (Nat.lt_succ_of_lt (Heap.lt_size e))) (k b o e)
    have z : hp.objs.size + 1 + 1 ≤ dx := by
      first
        | (simpa only [Heap.size_push] using dn)
        | exact dn
        | (have q := dn; rw [Heap.size_push, Heap.size_push] at q; exact q)
    exact ⟨rfl, hq h' tk' (hp.objs.size + 1) dx ⟨old, Nat.le_succ _, ⟨_, hx⟩, Nat.le_trans (Nat.le_trans (Nat.le_succ _) (Nat.le_succ _)) z, dne, hns⟩⟩
end
end AeX
end PySem
/-! ==== W22 ==== -/
set_option Elab.async false
set_option linter.all false
set_option maxRecDepth 100000
set_option maxHeartbeats 2000000
/-! nearest, both ways. -/
namespace L2
open PySem PySem.Spec PyProof.Rows
theorem relO_one {v : V} {v' : Value} (r : RelV v v') (f : Str) : RelO (List.lookup f [(("rank" : Str), v)]) (if f = "rank" then some v' else none) := by
  by_cases hw : f = "rank"
  · subst hw
    rw [if_pos rfl]
    have q : List.lookup ("rank" : Str) [(("rank" : Str), v)] = some v := by simp [List.lookup]
    rw [q]
    exact r
  · rw [if_neg hw]
    have qw : (f == ("rank" : Str)) = false := by simpa using hw
    have q2 : List.lookup f [(("rank" : Str), v)] = none := by simp [List.lookup, qw]
    rw [q2]
    trivial
section
variable {X : Cx} {C D fI : Addr}
/-- NotOne(e) -/
def tMkOne (C : Addr) (ta : TA) : L2.St → Hp → XK → Prop := fun σ H Q => ta σ H fun vs H1 => ∃ v, vs = [v] ∧ ∀ d, H1 d = none → Q (.ref C) (some d) (upd H1 d (.xd [(("rank" : Str), v)]))
theorem pmk_one {a : Expr} {ta : TA} {p pos : Pos} {k : Nat} (T : PySem.AeX.OneTxt X.K X.mg C D fI) (hr : Room k X.A) (ha : PA X [a] ta) (hg : Gl X "NotOne" := by rfl)
    (he : starEach (a :: []) X.env = (false, eval a X.env) :: starEach [] X.env := by rfl) (hpl : (backTo pos (starEach [] X.env)).any (·.1) = false := by rfl) :
    L2N.PMk X (.Call (.Name "NotOne" p) [a] [] pos) (tMkOne C ta) := by
  intro pins s σ H Q I h
  refine wpAny_Call_Name_kw (ld_glob I hg T.gC ?_)
  refine PySem.W.callWith_K (h₀ := X.base) I.ok.mod.kin T.kC (thn (ha.run pos pins s σ H _ I h) fun us s1 hh => ?_) he hpl
  obtain ⟨vs, H1, I1, r1, v, ev, q1⟩ := hh
  subst ev
  refine ⟨I1.kIn, ?_⟩
  cases r1 with
  | cons rv rn =>
    rename_i v' us'
    cases rn
    show wpAny _ _ (call (.ref C) [v']) _ _ _
    have hlim := I1.nolimit
    obtain ⟨hp, g, dr, tk, os⟩ := s1
    refine wpAny_call (PySem.AeX.one_made T I1.kIn hlim (by have := hr.dp; omega) fun h' tk' e d M => ?_)
    show L2N.MkP X pins σ Q (.ref e) ⟨h', g, dr, tk', os⟩
    obtain ⟨t1, hoe⟩ := M.obj
    have hns := M.ns
    obtain ⟨G', g1, g2⟩ := restrict h' fun b => decide (b ≠ e)
    have gk : ∀ b, b ≠ e → G'.get? b = h'.get? b := fun b hb => g1 b (decide_eq_true hb)
    have ge : G'.get? e = none := g2 e (by simp)
    have old : ∀ b o, hp.get? b = some o → G'.get? b = some o := fun b o q => (gk b (Nat.ne_of_lt (Nat.lt_of_lt_of_le (Heap.lt_size q) M.new))).trans (M.keep b o q)
    have ob : ObjOk X.prog X.w (upd H1 d (.xd [(("rank" : Str), v)])) G' d (.xd [(("rank" : Str), v)]) :=
      ⟨_, hns.at (fun o q => (gk d M.dne).trans q), fun f => relO_one rv f⟩
    have J : Inv X pins σ (upd H1 d (.xd [(("rank" : Str), v)])) ⟨G', g, dr, tk', os⟩ := I1.laid (t' := tk') old M.dbig ob
    refine ⟨e, _, _, ⟨G', g, dr, tk', os⟩, _, .ref C, some d, rfl, J, fun b o q => ?_, ge, hoe, ⟨rfl, rfl, fun vs hv => ?_⟩, rfl, rfl, ?_, rfl, I1.bare, raises_own T.xc.hs T.tyC, q1 d (I1.hok.fresh M.dbig)⟩
    · by_cases hb : b = e
      · have q' : G'.get? b = some o := q
        rw [hb, ge] at q'; cases q'
      · exact (gk b hb).symm.trans q
    · cases hv
      rfl
    · rw [upd_ne (Ne.symm M.dne)]
      exact I1.hok.fresh M.new
end
end L2
namespace Bt
open PySem PySem.Spec PyProof.Rows L2 SW
/-- raise NotOne(e) -/
def tRaiseOne (C : Addr) (W : WX) (ta : TA) : TS := fun _ σ H => tMkOne C ta σ H fun cls d H' => W cls d σ H'
/-- what an exception brings: of the class at C, with a rank -/
abbrev XOne (C : Addr) (E : XK) (n : Int) (G H : Hp) : Prop := ∀ d G2 H2, To G H G2 H2 → H2 d = none → E (.ref C) (some d) (upd H2 d (.xd [("rank", .int n)]))
def sp_nearestX (K : PySem.W.Frag) (C : Addr) : Sp := fun vs H Q E => ∃ G x xs ys v0 v1 v2, vs = [v0, v1, v2] ∧ Same G H ∧ (IsFrV K x v0 G ∧ IsT K IsI xs v1 G ∧ IsT K IsI ys v2 G) ∧ PtOk x.2 xs ys ∧
  (rankF x.2 xs < nOf x.2 → XOne C E (rankF x.2 xs : Nat) G H) ∧ (¬ rankF x.2 xs < nOf x.2 → (∃ c, amF x.2 xs ys = some c) ∧ ∀ v G2 H2, To G H G2 H2 → IsCv K x.1 ((amF x.2 xs ys).getD []) v G2 → Q v H2)
structure CalX (P : Program) (w : World) (K : PySem.W.Frag) (mg : Str → Option Value) (base : Heap) (k : Nat) (x : Str) (ps : List Str) (sp : Sp) : Prop where
  ex : ∃ (f : Addr) (fd : FuncData), FnOk P w K mg base (L2N.CX P w) k f fd ps sp ∧ mg x = some (.ref f) ∧ PySem.W.keepIn K (.ref f) = true ∧ Binds K fd ps []
def t_nearestX (K : PySem.W.Frag) (C : Addr) (E : XK) : TS := (tSeq (tDrop (tCall (sp_check_points K) [] E0 (tCons (tVar 0) (tCons (tVar 1) (tCons (tVar 2) tNil)))))
    (tSeq (tAsg (tCall (sp_rank_of K) [] E0 (tCons (tVar 0) (tCons (tVar 1) tNil))) (gName 3))
    (tSeq (tIfS (tTest (tOp rLtI (tVar 3) (tProp (He.ga K "Frame") (sp_Frame_hills K) [] E0 (tVar 0)))) (tRaiseOne C (fun cls d _ H => E cls d H) (tCons (tVar 3) tNil)) tNext)
    (tRet (tMake (He.ga K "Curve") (sp_Curve K) [] E0 (tCons (tVar 0) (tCons (tCB (rTupOf K) (tCons (tCall (sp_nearest_amounts K) [] E0 (tCons (tVar 0) (tCons (tVar 1) (tCons (tVar 2) tNil)))) tNil)) tNil)))))))
section
variable {P : Program} {w : World} {K : PySem.W.Frag} {mg : Str → Option Value} {base : Heap} {C DD fI : Addr}
theorem ps_nearestX (T : Txt P K mg base) (O : PySem.AeX.OneTxt K mg C DD fI) (c_check_points : C8.Cal P w K mg base 7 "check_points" (sp_check_points K) []) (c_rank_of : C8.Cal P w K mg base 5 "rank_of" (sp_rank_of K) []) (c_Curve : C8.Mak P w K mg base 5 "Curve" (He.ga K "Curve") (sp_Curve K) []) (c_nearest_amounts : C8.Cal P w K mg base 45 "nearest_amounts" (sp_nearest_amounts K) []) (p_Frame_hills : Prp P w K mg base 1 (He.ga K "Frame") "hills" (sp_Frame_hills K))
    (f : Addr) (cdv : Value) (A : Around) (outer : List Env) (s : Shared) (H : Hp) (E : XK) (hr : Room 45 (A.deeper (envOfC "nearest" (defScope st_nearest) s.heap.objs.size f cdv))) : PSs (cxOf (L2N.CX P w) P w K mg base ["frame", "places", "heights", "found"] "nearest" (defScope st_nearest) f cdv A outer s H E) (defBody st_nearest) (t_nearestX K C E) :=
  (pss_cons (ps_expr (C8.pe_c c_check_points hr (by decide) rfl (pa_cons (pv 0) (pa_cons (pv 1) (pa_cons (pv 2) pa_nil)))))
    (pss_cons (ps_set (i := 3) sc_nearest.nd rfl (Or.inl rfl) (C8.pe_c c_rank_of hr (by decide) rfl (pa_cons (pv 0) (pa_cons (pv 1) pa_nil))))
    (pss_cons (ps_if (pt_cmpR op_lt (pv 3) (pe_prp p_Frame_hills hr (by decide) (pv 0) rfl) (nomark _)) (pss_one (L2N.ps_raise rfl (L2N.takes_of rfl rfl rfl rfl) (pmk_one O hr (by exact (pa_cons (pv 3) pa_nil))))) pss_nil)
    (pss_one (ps_ret (C8.pe_mk c_Curve hr (by decide) rfl (pa_cons (pv 0) (pa_cons (pe_callTy call_tuple_of (by rfl) T.f_tuple (by decide +kernel) (pa_cons (C8.pe_c c_nearest_amounts hr (by decide) rfl (pa_cons (pv 0) (pa_cons (pv 1) (pa_cons (pv 2) pa_nil)))) pa_nil)) pa_nil))))))))
theorem h_ifs {c : TT} {t r : TS} {σ : L2.St} {G H : Hp} {D : Ends} {b : Bool} (h : Et c σ G b) (s : Same G H) (k1 : b = true → ∀ G2 H2, To G H G2 H2 → t { D with nx := fun σ' H' => r D σ' H' } σ H2) (k2 : b = false → ∀ G2 H2, To G H G2 H2 → r D σ H2) : tSeq (tIfS c t tNext) r D σ H := h G H (Same.refl G) s _ fun G2 H2 t2 => by
  cases b with
  | true => exact k1 rfl G2 H2 t2
  | false => exact k2 rfl G2 H2 t2
theorem calX_nearest (D : Dd K mg "nearest" st_nearest) (T : Txt P K mg base) (O : PySem.AeX.OneTxt K mg C DD fI) (c1 : C8.Cal P w K mg base 7 "check_points" (sp_check_points K) []) (c2 : C8.Cal P w K mg base 5 "rank_of" (sp_rank_of K) []) (c3 : C8.Mak P w K mg base 5 "Curve" (He.ga K "Curve") (sp_Curve K) []) (c4 : C8.Cal P w K mg base 45 "nearest_amounts" (sp_nearest_amounts K) []) (p1 : Prp P w K mg base 1 (He.ga K "Frame") "hills" (sp_Frame_hills K)) : CalX P w K mg base 46 "nearest" ["frame", "places", "heights"] (sp_nearestX K C) := by
  obtain ⟨f, fd, F, hm⟩ := D.ex
  refine ⟨f, fd, F.ok sc_nearest (fun vs H Q E ⟨_, _, _, _, _, _, _, e, _⟩ => by rw [e]; rfl) fun cdv A outer s H vs Q E hr hs => ⟨t_nearestX K C E, ps_nearestX T O c1 c2 c3 c4 p1 f cdv A outer s H E hr, ?_⟩, hm, F.kp, F.bindsN (fun _ _ _ _ _ _ us hl => match us, hl with | [_, _, _], _ => rfl)⟩
  obtain ⟨G, x, xs, ys, v0, v1, v2, rfl, s0, ⟨h0, h1, h2⟩, hc, kx, kq⟩ := hs
  have hl := hc.na.len
  unfold t_nearestX
  refine h_drop (ep_call3 (B := fun _ _ _ => IsV .non) x.2 xs ys (ep_var rfl h0.2) (ep_var rfl h1) (ep_var rfl h2) ⟨hc.pl, hc.ht⟩) s0 fun Ga Ha ta => ?_
  have a : Ep (tCall (sp_rank_of K) [] E0 (tCons (tVar 0) (tCons (tVar 1) tNil))) (start ["frame", "places", "heights", "found"] [v0, v1, v2]) G (IsI (rankF x.2 xs : Nat)) := ep_call2 x.2 xs (ep_var rfl h0.2) (ep_var rfl h1) ⟨hc.na.fr, hl⟩
  refine a Ga Ha ta.up ta.in_ _ fun v3 G2 H2 t2 p3 => ?_
  have p3 : v3 = .int (rankF x.2 xs : Nat) := p3
  subst p3
  have t02 := ta.trans t2
  have s2 := t02.up
  refine h_ifs (et_test (ep_lt (ep_v (i := 3) rfl) (ep_hills hc.na.fr (ep_var (i := 0) rfl (up s2 h0.2))))) t2.in_ (fun hb G3 H3 t3 => ?_) fun hb G3 H3 t3 => ?_
  · have hlt := of_decide_eq_true hb
    exact ⟨_, rfl, _, rfl, fun d nd => kx (by omega) d G3 H3 (t02.trans t3) nd⟩
  · have hlt := of_decide_eq_false hb
    obtain ⟨⟨c, ham⟩, k⟩ := kq (by omega)
    have hf := hc.na.fr
    have hlen := solF_len ham
    have hlen : c.length = nOf x.2 := hlen
    have q := ep_make2 (E := E0) (P1 := IsFrV K) (P2 := IsT K (IsF K)) (Cc := fun x am => (am.length : Int) = (x.2.2.length : Int) - x.2.1 - 1 ∧ am.length ≤ 1000) (B := fun x am => IsP K IsV (IsT K (IsF K)) (x.1, am)) (C := He.ga K "Curve") (f := "parts") x c (ep_var (σ := [some v0, some v1, some v2, some (.int (rankF x.2 xs : Nat))]) (i := 0) rfl (up (s2.trans t3.up) h0)) (ep_tupOf (K := K) (opt_some (ep_call3 (E := E0) (P1 := IsFr K) (P2 := IsT K IsI) (P3 := IsT K IsI) (C := NaOk) (B := fun f xs ys => IsOpt K (amF f xs ys)) x.2 xs ys (ep_var (i := 0) rfl (up (s2.trans t3.up) h0.2)) (ep_var (i := 1) rfl (up (s2.trans t3.up) h1)) (ep_var (i := 2) rfl (up (s2.trans t3.up) h2)) hc.na) ham)) ?_
    · refine q G3 H3 (Same.refl _) t3.in_ _ fun v G4 H4 t4 r => k v G4 H4 ((t02.trans t3).trans t4) ?_
      rw [ham]
      exact r
    · exact ⟨by rw [hlen, nOf_eq hf], by have := nOf_le hf; omega⟩
end
end Bt
/-! ==== W23 ==== -/
set_option Elab.async false
set_option linter.all false
set_option maxRecDepth 100000
set_option maxHeartbeats 2000000
/-! A lambda handed to a def, where the exceptions' contexts are told to be None (after LamX of the kit, which does not tell them). -/
namespace LamN
open PySem PySem.Spec PyProof.Rows L2 LamX
/-- the context of the lambda's body, its exceptions told with their context -/
def cxN (X : Cx) (A : Around) (outer : List Env) (s : Shared) (H : Hp) (E : XK) (scope : Scope) (f c' : Addr) : Cx :=
  { lamCx X A outer s H E scope f c' with xe := fun e s' => wpAny (model X.prog X.w) (A.deeper (lamEnv X scope s.heap.objs.size f c')) (leaving (lamEnv X scope s.heap.objs.size f c') e) (fun _ s'' => L2N.CX X.prog X.w outer H s E e s'') (fun e' s'' => L2N.CX X.prog X.w outer H s E e' s'') s' }
section
variable {X : Cx} {pins : List (Addr × Obj)} {σ : L2.St} {H HZ : Hp} {s s1 : Shared}
theorem inv_xe {A : Around} {outer : List Env} {s0 : Shared} {H0 : Hp} {E : XK} {scope : Scope} {f c' : Addr} (I : Inv (lamCx X A outer s0 H0 E scope f c') pins σ H s) : Inv (cxN X A outer s0 H0 E scope f c') pins σ H s :=
  ⟨⟨I.ok.mod, I.ok.kind, I.ok.glob, I.ok.blt, I.ok.above, I.ok.inj, I.ok.has, I.ok.cab, I.ok.hd, I.ok.frames, I.ok.stk, I.ok.exf, I.ok.bs, I.ok.bsz, I.ok.noex, I.ok.exfs, I.ok.funs, I.ok.frf⟩, I.os, I.bare, I.base, I.loc, I.cell, I.free, I.freeC, I.pin, I.hok, I.len⟩
/-- x(), in the def that got the lambda -/
theorem pe_act {CXg : CXT} {Eg : XK} {Ng : List Str} {qg : Str} {sg : Scope} {g f c' : Addr} {cdg pm ctv : Value} {params : Arguments} {body : Expr} {scope : Scope} {k i : Nat} {a : Str} {pn : List (Addr × Obj)} {xe : Value → Shared → Prop} {W : WX} {E : XK} {tb : TE} {p1 p2 : Pos}
    (I : Inv X pins σ H s) (L : LamS X.env.scope scope) (hf : s.heap.get? f = some (PySem.W.kla_obj "<lambda>" (X.env.qual ++ "<lambda>") params body scope (cloFrom X.env.cells scope.names []) pm c' ctv)) (hfn : H f = none) (hfr : f ∉ frs X.stack)
    (hbind : bindArgs (PySem.W.kla_fn "<lambda>" (X.env.qual ++ "<lambda>") params body scope (cloFrom X.env.cells scope.names []) pm (.ref c') ctv) ⟨[], []⟩ = pure [])
    (tk : L2N.Takes ((cxOf CXg X.prog X.w X.K X.mg X.base Ng qg sg g cdg X.A X.stack s H Eg).tr pn xe) W) (hW : ∀ cls d σ' H', E cls d H' → W cls d σ' H') (hr : Room (k + 1) (X.A.deeper (envOfC qg sg s.heap.objs.size g cdg)))
    (hbody : ∀ (A : Around) (outer : List Env) (s : Shared) (H : Hp), Room k (A.deeper (lamEnv X scope s.heap.objs.size f c')) → PE (cxN X A outer s H E scope f c') body tb)
    (hN : Ng[i]? = some a) (hv : Vis sg a) (hd : (a == ("__debug__" : Str)) = false := by decide) (hcd : (a == ("__classdict__" : Str)) = false := by decide) :
    PE ((cxOf CXg X.prog X.w X.K X.mg X.base Ng qg sg g cdg X.A X.stack s H Eg).tr pn xe) (.Call (.Name a p1) [] [] p2)
      (fun σZ HZ Q => σZ[i]? = some (some (.ref f)) ∧ HZ c' = some (CodeO c' (X.env.qual ++ "<lambda>")) ∧ tb σ HZ Q) := by
  refine ⟨fun pinsZ sZ σZ HZ Q IZ h => ?_⟩
  obtain ⟨hs, hc, ht⟩ := h
  refine wpAny_Call_Name_kw (thn ((pe_var (pos := p1) (i := i) hN hv hd hcd).run pinsZ sZ σZ HZ (fun v H1 => v = .ref f ∧ H1 = HZ) IZ ⟨.ref f, hs, rfl, rfl⟩) fun u s1 ⟨v, H1, I1, r1, q1⟩ => ?_)
  obtain ⟨ev, eH⟩ := q1
  subst ev
  rw [eH] at I1
  obtain rfl : u = Value.ref f := r1
  have of1 : s1.heap.get? f = some (PySem.W.kla_obj "<lambda>" (X.env.qual ++ "<lambda>") params body scope (cloFrom X.env.cells scope.names []) pm c' ctv) := I1.base.keep f _ hf hfn hfr (fun z => nomatch (show f ∈ ([] : List Addr) from z))
  refine PySem.W.callWith_F0 ⟨_, _, _, _, of1⟩ ?_
  have un : Un (frs X.stack) [] H HZ s.heap s1.heap := I1.base
  obtain ⟨⟨oc, vs, t, hoc, hdc, hvc⟩, _, _⟩ := I1.hok c' _ hc
  have rc : codeAny (model X.prog X.w) (X.A.deeper (envOfC qg sg s.heap.objs.size g cdg)) (.call (.ref f) ⟨[], []⟩) (CR (L2N.CX X.prog X.w) (envOfC qg sg s.heap.objs.size g cdg :: X.stack) X.prog X.w HZ s1 Q E) s1 := by
    refine PySem.W.kla_callFunE hr.depth of1 rfl L.co L.gen rfl ⟨c', oc, vs, t, rfl, hoc, hdc, hvc⟩ ?_
    rw [hbind]
    refine wpAny_pure (wpAny_newFunctionEnv (fun y hy => (L.own y hy).2) (fun y hy => absurd hy (by simp)) (fun h₁ hns hsb => ⟨I1.nolimit.fresh _ hsb, ?_⟩) L.kind)
    show codeAny _ _ (.expr body (lamEnv X scope s1.heap.objs.size f c')) _ _
    have kp : ∀ b o, s1.heap.get? b = some o → h₁.get? b = some o := fun b o e => hsb.extBut b o (Nat.ne_of_lt (Heap.lt_size e)) (Heap.get?_push_of_some _ e)
    have J : Inv (cxN X (X.A.deeper (envOfC qg sg s.heap.objs.size g cdg)) (envOfC qg sg s.heap.objs.size g cdg :: X.stack) s1 HZ E scope f c') [] σ HZ { s1 with heap := h₁, toks := s1.toks + ([] : List (Str × Value)).length } :=
      inv_xe (lam_start2 I L I1.env0 hr.hd un hns kp)
    refine PySem.W.kla_codeExpr (wpAny_mono ((hbody _ _ s1 HZ (hr.deeper _)).run [] _ _ HZ Q J ht) (fun v s' hq => ?_) fun e s' hq => hq)
    obtain ⟨w', H', J', rv, q⟩ := hq
    exact ⟨w', H', J'.os, J'.bare, J'.base, J'.hok, rv, q⟩
  have hx : Passes (L2N.CX X.prog X.w) ((cxOf CXg X.prog X.w X.K X.mg X.base Ng qg sg g cdg X.A X.stack s H Eg).tr pn xe) E := L2N.passes_call tk hW
  refine wpAny_call (codeAny_mono rc fun r s' hq => ?_)
  cases r with
  | error e => exact hx pinsZ σZ HZ s1 e s' I1 hq
  | ok fl =>
    cases fl with
    | ret u => exact I1.after hq
    | next => exact False.elim hq
    | brk => exact False.elim hq
    | cont => exact False.elim hq
end
/-- the def that calls what it got: a calls it; TT: what it makes of the lambda's reading -/
def Gives (X : Cx) (Ng : List Str) (x : Str) (sg : Scope) (g : Addr) (cdg : Value) (bg : List Stmt) (a : Str) (q : Str) (TT : (XK → Hp → VK → Prop) → Hp → VK → Prop) (k : Nat) : Prop :=
  ∀ (f c' : Addr) (s : Shared) (H : Hp) (Q : VK) (tl : XK → Hp → VK → Prop), Room k (X.A.deeper (envOfC x sg s.heap.objs.size g cdg)) →
    (∀ (W : WX) (pn : List (Addr × Obj)) (xe : Value → Shared → Prop) (E : XK) (p1 p2 : Pos), L2N.Takes ((cxOf C8.CX0 X.prog X.w X.K X.mg X.base Ng x sg g cdg X.A X.stack s H C8.E0).tr pn xe) W → (∀ cls d σ' H', E cls d H' → W cls d σ' H') →
      PE ((cxOf C8.CX0 X.prog X.w X.K X.mg X.base Ng x sg g cdg X.A X.stack s H C8.E0).tr pn xe) (.Call (.Name a p1) [] [] p2) (fun σZ HZ Q => σZ[0]? = some (some (.ref f)) ∧ HZ c' = some (CodeO c' q) ∧ tl E HZ Q)) →
    H c' = some (CodeO c' q) → TT tl H Q →
    ∃ t, PSs (cxOf C8.CX0 X.prog X.w X.K X.mg X.base Ng x sg g cdg X.A X.stack s H C8.E0).nox bg t ∧ t { nx := fun _ H' => Q .non H', rt := Q } (L2.start Ng [.ref f]) H
section
variable {X : Cx}
/-- x(lambda: body) -/
theorem pe_lamcall {T : List (Addr × Str)} {TT : (XK → Hp → VK → Prop) → Hp → VK → Prop} {x a : Str} {g c P : Addr} {k : Nat} {pg : Arguments} {bg : List Stmt} {sg : Scope} {dV kV doc pm cdv ct oc : Value} {an od : Option Addr} {osl : Array (Option Value)} {Ng : List Str}
    {params : Arguments} {body : Expr} {scope : Scope} {t : XK → TE} {p lpos pos : Pos} (hg : Gl X x) (hm : X.mg x = some (.ref g)) (hk : PySem.W.keepIn X.K (.ref g) = true)
    (lk : X.K.lookup g = some ⟨oc, od, .func (PySem.W.fnOf x x pg bg sg dV kV doc pm an cdv ct), osl⟩) (hcg : PySem.W.codeIn X.K cdv x = true) (hb : L2.Binds X.K (PySem.W.fnOf x x pg bg sg dV kV doc pm an cdv ct) [a] []) (Sg : FnScope Ng [a] sg) (hNg : Ng[0]? = some a) (hva : Vis sg a)
    (hG : Gives X Ng x sg g cdv bg a (X.env.qual ++ "<lambda>") TT (k + 1))
    (TB : TabB X.base X.mg c P) (hcode : X.env.code = .ref c) (hmT : (P, X.env.qual ++ "<lambda>") ∈ T) (hu : ∀ p ∈ T, p.1 = P → p.2 = X.env.qual ++ "<lambda>") (hr : Room (k + 2) X.A) (L : LamS X.env.scope scope) (hdef : defaultsOf params X.env = ([], []))
    (hbind : ∀ (q : Str) (cl : List (Str × Addr)) (pm cv ctv : Value), bindArgs (PySem.W.kla_fn "<lambda>" q params body scope cl pm cv ctv) ⟨[], []⟩ = pure [])
    (hbody : ∀ (A : Around) (outer : List Env) (s : Shared) (H : Hp) (E : XK) (f c' : Addr), Room k (A.deeper (lamEnv X scope s.heap.objs.size f c')) → PE (cxN X A outer s H E scope f c') body (t E))
    (hdb : (x == ("__debug__" : Str)) = false := by decide) (hd : (a == ("__debug__" : Str)) = false := by decide) (hcd : (a == ("__classdict__" : Str)) = false := by decide) :
    PE X (.Call (.Name x p) [.Lambda params body scope lpos] [] pos) (tLam T TT t) := by
  refine ⟨fun pins s σ H Q I h => ?_⟩
  obtain ⟨hT, h⟩ := h
  refine wpAny_Call_Name_kw (ld_glob I hg hm ?_ hdb)
  refine PySem.W.callWith_K (h₀ := X.base) I.ok.mod.kin hk ?_ (by rfl) (by rfl)
  show wpAny _ _ (spliced ((false, eval (.Lambda params body scope lpos) X.env) :: backTo pos (starEach [] X.env))) _ _ s
  refine Calls.spliced_cons (lam_make2 I TB hcode hmT hu hT hdef (L.has I.ok) fun f c' pm' ctv H1 s' I1 eN T1 hf hfn hfr hco => ?_)
  refine Calls.spliced_nil ⟨I1.kIn, ?_⟩
  have rc : codeAny (model X.prog X.w) X.A (.call (.ref g) ⟨[.ref f], []⟩) (CR C8.CX0 X.stack X.prog X.w H1 s' Q C8.E0) s' := by
    refine run_ofS (N := Ng) (ps := [a]) (us := [.ref f]) (vs := [.ref f]) lk hcg Sg hr I1.env0 (hb s' [.ref f] I1.kIn rfl) (.cons rfl .nil) rfl fun hr' => ?_
    obtain ⟨t', ht', hq'⟩ := hG f c' s' H1 Q (fun E H' Q' => t E σ H' Q') hr' (fun W pn xe E p1 p2 tk hW => LamN.pe_act (i := 0) I1 L hf hfn hfr (hbind _ _ _ _ _) tk hW hr' (fun A outer s H hr2 => hbody A outer s H E f c' hr2) hNg hva hd hcd) hco (h H1 eN T1)
    exact ⟨t', ht'.nox, hq'⟩
  refine wpAny_call (codeAny_mono rc fun r s2 hq => ?_)
  cases r with
  | error e => exact (show False from hq).elim
  | ok fl =>
    cases fl with
    | ret u => exact I1.after hq
    | next => exact False.elim hq
    | brk => exact False.elim hq
    | cont => exact False.elim hq
end
end LamN
/-! ==== W24 ==== -/
set_option Elab.async false
set_option linter.all false
set_option maxRecDepth 100000
set_option maxHeartbeats 2000000
/-! try: .. except (A, B, C) as n: suite, where all that is raised is of the clause (after ps_try_as of the kit, which has one class). -/
namespace L2N
open PySem PySem.Spec PyProof.Rows L2
/-- what the body may let out: of the clause; then the suite, the name taken away behind it -/
def wAs3 (K : PySem.W.Frag) (cs : List Value) (i : Nat) (ts : Addr → Value → Option Addr → TS) (D : Ends) : WX := fun cls d σ H => PySem.W.exmAny K cls cs = some true ∧ ∀ a, H a = none → ts a cls d { nx := fun σ' H' => D.nx (σ'.set i none) H', bk := fun σ' H' => D.bk (σ'.set i none) H', ct := fun σ' H' => D.ct (σ'.set i none) H', rt := D.rt } (σ.set i (some (.ref a))) H
section
variable {X : Cx} {x1 x2 x3 n : Str} {c1 c2 c3 : Addr} {i : Nat} {body suite : List Stmt} {b₀ : Stmt} {p1 p2 p3 tp pos pos' : Pos} {kt} {tb : WX → TS} {ts : Addr → Value → Option Addr → TS}
theorem ps_try_as3 (hs : X.stack = X.env :: X.outer) (hf : X.env.frame = some X.env.locals) (hN : X.N.Nodup) (hi : X.N[i]? = some n) (hln : X.env.kindOf n = some .local) (g1 : Gl X x1) (m1 : X.mg x1 = some (.ref c1)) (d1 : (x1 == ("__debug__" : Str)) = false) (g2 : Gl X x2) (m2 : X.mg x2 = some (.ref c2)) (d2 : (x2 == ("__debug__" : Str)) = false) (g3 : Gl X x3) (m3 : X.mg x3 = some (.ref c3)) (d3 : (x3 == ("__debug__" : Str)) = false)
    (hb : ∀ (W : WX) (pn : List (Addr × Obj)) (xe : Value → Shared → Prop), Takes (X.tr pn xe) W → PassesOwn (model X.prog X.w) X.A X.env xe → PSs (X.tr pn xe) body (tb W))
    (hsu : ∀ (a : Addr) (oe : Obj) (cls : Value) (d : Option Addr) (pn : List (Addr × Obj)), Zn cls d oe → (∃ vs, oe.data = .fields vs) → PSs (X.suite a ((a, oe) :: pn)) (b₀ :: suite) (ts a cls d))
    (he : starEach [.Name x1 p1, .Name x2 p2, .Name x3 p3] X.env = [(false, eval (.Name x1 p1) X.env), (false, eval (.Name x2 p2) X.env), (false, eval (.Name x3 p3) X.env)] := by rfl) :
    PS X (.Try body [.ExceptHandler (some (.Tuple [.Name x1 p1, .Name x2 p2, .Name x3 p3] kt tp)) (some n) (b₀ :: suite) pos'] [] [] pos) (fun D σ H => tb (wAs3 X.K [.ref c1, .ref c2, .ref c3] i ts D) D σ H) := by
  refine ⟨fun pins s σ H D I h => ?_⟩
  have ok := I.ok
  have hfr : X.A.frames = some (X.env :: X.outer) := by rw [ok.frames, hs]
  have hloc : Loc X.env.scope n := .inl hln
  refine wpAny_Try_except ?_
  refine wpAny_mono ((hb (wAs3 X.K [.ref c1, .ref c2, .ref c3] i ts D) (X.pn ++ pins) (fun e s₁ => wpAny (model X.prog X.w) X.A (noteFrame e X.env) (fun _ s₂ => wpAny (model X.prog X.w) X.A (setFlight e none) (fun _ s₃ =>
    wpAny (model X.prog X.w) X.A (handleBy e X.env [.ExceptHandler (some (.Tuple [.Name x1 p1, .Name x2 p2, .Name x3 p3] kt tp)) (some n) (b₀ :: suite) pos']) (SP X pins D) X.xe s₃) X.xe s₂) X.xe s₁) (fun u s' xx => ?_) PassesOwn.looking).run [] s σ H D (I.toTry _) h) (fun f s1 hsp => ?_) (fun e s1 he => he)
  · obtain ⟨a, B, sI, pins', σ', H', cls, d, rfl, J', nb, up, sky, na, os, ag, hb1, hyes⟩ := xx
    have J : Inv X pins σ' H' sI := J'.ofTry ok
    have sky' : Sky B (X.env :: X.outer) a (Zn cls d) X.env.locals s'.heap := by rw [← hs]; exact sky
    show wpAny (model X.prog X.w) X.A (noteFrame (.ref a) X.env) _ _ _
    refine Sky.land Zn.steady hfr hf sky' fun h3 fl3 up3 => ?_
    have J3 : Inv X pins σ' H' { s' with heap := h3 } := J.landed nb fl3.1 (up.trans up3) os ag
    obtain ⟨oe3, vs3, he3, hz3, hd3⟩ := fl3.there
    have notFr : ∀ {h : Heap} {o : Obj} {vs : Array Value}, h.FunFrames B (X.env :: X.outer) → h.get? a = some o → o.data = .fields vs → a ∉ frs (X.env :: X.outer) := fun {h o vs} ff e dd hm => by
      obtain ⟨_, o', e', hnf⟩ := ff.mem hm
      rw [e] at e'; cases e'
      exact hnf _ dd
    have nfr := notFr fl3.2.2.1 he3 hd3
    have nL : a ≠ X.env.locals := fun z => nfr (List.mem_filterMap.mpr ⟨X.env, List.mem_cons_self, by rw [hf, z]⟩)
    have nF : a ∉ X.fs := fun hm => by
      obtain ⟨e, he, q⟩ := List.mem_filterMap.mp hm
      exact nfr (List.mem_filterMap.mpr ⟨e, List.mem_cons_of_mem _ he, q⟩)
    have S3 := J3.suite he3 hd3 na nL nF
    refine wpAny_handleBy_cons (codeAny_handlers_test ?_) (by intro q; cases q)
    have t1 : ∀ {Q : Value → Shared → Prop} {E : Value → Shared → Prop}, Q (.ref c1) { s' with heap := h3 } → wpAny (model X.prog X.w) (X.A.mark (some (.ref a))) (eval (.Name x1 p1) X.env) Q E { s' with heap := h3 } := fun {Q E} q => ld_glob (X := X.suite a ((a, oe3) :: (X.pn ++ pins))) S3 g1 m1 q d1
    have t2 : ∀ {Q : Value → Shared → Prop} {E : Value → Shared → Prop}, Q (.ref c2) { s' with heap := h3 } → wpAny (model X.prog X.w) (X.A.mark (some (.ref a))) (eval (.Name x2 p2) X.env) Q E { s' with heap := h3 } := fun {Q E} q => ld_glob (X := X.suite a ((a, oe3) :: (X.pn ++ pins))) S3 g2 m2 q d2
    have t3 : ∀ {Q : Value → Shared → Prop} {E : Value → Shared → Prop}, Q (.ref c3) { s' with heap := h3 } → wpAny (model X.prog X.w) (X.A.mark (some (.ref a))) (eval (.Name x3 p3) X.env) Q E { s' with heap := h3 } := fun {Q E} q => ld_glob (X := X.suite a ((a, oe3) :: (X.pn ++ pins))) S3 g3 m3 q d3
    refine wpAny_Tuple_spliced ?_
    rw [he]
    show wpAny _ _ (spliced [(false, eval (.Name x1 p1) X.env), (false, eval (.Name x2 p2) X.env), (false, eval (.Name x3 p3) X.env)]) _ _ _
    refine Calls.spliced_cons (t1 (Calls.spliced_cons (t2 (Calls.spliced_cons (t3 (Calls.spliced_nil ?_))))))
    refine ⟨by rw [sizeLine_eq]; exact (by decide : 3 ≤ 16777216), ?_⟩
    generalize hh : h3.push { cls := .type "tuple", data := .seq [Value.ref c1, Value.ref c2, Value.ref c3].toArray } = h4
    have k34 : ∀ b o, h3.get? b = some o → h4.get? b = some o := fun b o e => by
      rw [← hh]
      exact Heap.get?_push_of_some _ e
    have tup4 : h4.get? h3.objs.size = some { cls := .type "tuple", data := .seq [Value.ref c1, Value.ref c2, Value.ref c3].toArray } := by
      rw [← hh]
      exact Heap.get?_push_size _ rfl
    have up34 : h3.UpToSlots h4 := Heap.UpToSlots.of_keeps k34
    have fl4 : HandSPX.FlyingZ B (X.env :: X.outer) a (Zn cls d) h4 := by
      obtain ⟨f1, f2, f3, oe, vs, T, oT, ts', q1, q2, q3, q4, q5, q6, q7, q8, q9⟩ := fl3
      exact ⟨fun b o e => k34 b o (f1 b o e), f2, Heap.FunFrames.of_keeps (fun b o e _ => ⟨o, k34 b o e, rfl⟩) f3, oe, vs, T, oT, ts', k34 _ _ q1, q2, q3, q4, q5, q6, k34 _ _ q7, q8, q9⟩
    have LT : PySem.W.Looks (model X.prog X.w) h4 (typeOf (.ref a)) cls := fun A Q E s k q => wpAny_typeOf_ref (k _ _ (k34 _ _ he3)) (by rw [hz3.1]; exact q)
    have LM := PySem.W.exm_tup3 (M := model X.prog X.w) (J3.kIn.keeps k34) LT tup4 hb1
    refine LM.here ?_
    refine codeAny_handlers_suite_as ?_
    refine HandSPX.lands_againZ fl4 fun h5 fl5 up5 => ?_
    have J5 : Inv X pins σ' H' { s' with heap := h5 } := J.landed nb fl5.1 (((up.trans up3).trans up34).trans up5) os ag
    obtain ⟨oe5, vs5, he5, hz5, hd5⟩ := fl5.there
    have S5 := J5.suite he5 hd5 na nL nF
    refine store_ok (X := X.suite a ((a, oe5) :: (X.pn ++ pins))) (v := .ref a) S5 hN hi hloc rfl (fun s6 S6 => ?_) (.inr hln)
    refine wpAny_mono ((hsu a oe5 cls d (X.pn ++ pins) hz5 ⟨_, hd5⟩).run [] s6 _ H' _ S6 (hyes a na)) (fun f s7 hsp => ?_) (fun _ _ z => False.elim z)
    have end_ : ∀ {σ6 : St} {H6 : Hp} {Q : Shared → Prop} {s6 : Shared}, Inv (X.suite a ((a, oe5) :: (X.pn ++ pins))) [] σ6 H6 s6 → (∀ s7, Inv X pins (σ6.set i none) H6 s7 → Q s7) →
        wpAny (model X.prog X.w) X.A (do bindName X.env n .none; unbindBehindTheSuite X.env n pos') (fun _ s7 => Q s7) X.xe s6 := fun {σ6 H6 Q s6} S6 hq => gone_ok (S6.unsuite ok) hN hi hln hq
    cases f with
    | next =>
      obtain ⟨σ6, H6, S6, q6⟩ := hsp
      exact end_ S6 fun s7 J7 => ⟨_, _, J7, q6⟩
    | brk =>
      obtain ⟨σ6, H6, S6, q6⟩ := hsp
      exact end_ S6 fun s7 J7 => ⟨_, _, J7, q6⟩
    | cont =>
      obtain ⟨σ6, H6, S6, q6⟩ := hsp
      exact end_ S6 fun s7 J7 => ⟨_, _, J7, q6⟩
    | ret u =>
      obtain ⟨v6, σ6, H6, S6, r6, q6⟩ := hsp
      exact end_ S6 fun s7 J7 => ⟨_, _, _, J7, r6, q6⟩
  · cases f with
    | next =>
      obtain ⟨σ', H', J', q⟩ := hsp
      exact wpAny_execs_nil ⟨σ', H', J'.ofTry ok, q⟩
    | brk =>
      obtain ⟨σ', H', J', q⟩ := hsp
      exact ⟨σ', H', J'.ofTry ok, q⟩
    | cont =>
      obtain ⟨σ', H', J', q⟩ := hsp
      exact ⟨σ', H', J'.ofTry ok, q⟩
    | ret u =>
      obtain ⟨v, σ', H', J', r, q⟩ := hsp
      exact ⟨v, σ', H', J'.ofTry ok, r, q⟩
end
end L2N
/-! ==== W25 ==== -/
set_option Elab.async false
set_option linter.all false
set_option maxRecDepth 100000
set_option maxHeartbeats 4000000
/-! Where an exception is handled: a list comprehension over a list, a list unpacked (after the kit's rules for where none is). -/
namespace HotX
open PySem PySem.Spec PyProof.Rows PySem.F
section
variable {prog : Program} {w : World} {A : Around} {E : Value → Shared → Prop} {s : Shared}
theorem pyNext_list_end_hot {it l x1 : Addr} {i : Nat} {items : Array Value} {Q : Option Value → Shared → Prop} (hot : HotAt A x1 s.heap) (hnx : x1 ≠ it)
    (hit : s.heap.IsListIter it l i) (hl : s.heap.IsList l items) (hx : items[i]? = none)
    (hQ : ∀ h', Heap.ExtBut it s.heap h' → Q none { s with heap := h' }) : wpAny (model prog w) A (pyNext (.ref it)) Q E s := by
  obtain ⟨hh, o1, vs1, h1, d1, c1⟩ := hot
  obtain ⟨o, ho, hc, hd⟩ := id hit
  obtain ⟨ol, hol, _, nl, hdl⟩ := hl
  unfold pyNext
  refine wpAny_bind (wpAny_attempt (wpAny_callSpecial?_slot (name := Str.ofString "__next__") hit.typeIs slot_listiter_next
    (wpAny_call_entry slot_listiter_next hit.typeIs entry_listiter_next ?_ (args_listiter_next _))))
  show wpAny _ _ (field (.ref it) 0 >>= _) _ _ s
  refine wpAny_bind (wpAny_field ho hd (x := .ref l) rfl ?_)
  show wpAny _ _ (if (Value.ref l == Value.none) = true then _ else _) _ _ s
  rw [if_neg (show ¬ ((Value.ref l == Value.none) = true) from Bool.false_ne_true)]
  show wpAny _ _ (field (.ref it) 1 >>= _) _ _ s
  refine wpAny_bind (wpAny_field ho hd (x := .int i 0) rfl ?_)
  show wpAny _ _ (seqItems? (.ref l) >>= _) _ _ s
  refine wpAny_bind (wpAny_seqItems hol hdl ?_)
  simp only [Int.toNat_natCast, hx]
  refine wpAny_bind (wpAny_rule (wpAny_bind (wpAny_setField ho hd (by simp) ?_)))
  have h1' : (s.heap.update it (Obj.mapFields (·.setIfInBounds 0 Value.none))).get? x1 = some o1 := by
    rw [Heap.get?_update_other _ _ (Ne.symm hnx)]
    exact h1
  show wpAny _ _ (newExc (.type "StopIteration") [] >>= _) _ _ _
  refine wpAny_bind ?_
  simp only [newExc, newTuple]
  refine wpAny_bind (wpAny_newObj_type ?_ (by size_fits))
  refine wpAny_bind (m := firstArgMember _ _) (wpAny_of_eq (a := Value.none) (by first | rfl | (simp only [firstArgMember]; rfl)) ?_)
  refine wpAny_newObj_type ?_ (by size_fits)
  refine raiseNew_hot ⟨hh, o1, vs1, Heap.get?_push_of_some _ (Heap.get?_push_of_some _ h1'), d1, c1⟩ (Nat.ne_of_lt (Heap.lt_size (Heap.get?_push_of_some _ h1'))) (Heap.get?_push_size _ rfl) rfl (by first | (simp; done) | (simp; omega) | (simp only [Array.size_append]; simp; omega)) ?_
  refine wpAny_bind (wpAny_isInstance (T := "StopIteration") (b := true) ⟨_, Heap.get?_update_self _ (Heap.get?_push_size _ rfl) rfl, rfl⟩ isSubtype_stop ?_)
  refine wpAny_pure (hQ _ fun b o hb e => ?_)
  have e1 : (s.heap.update it (Obj.mapFields (·.setIfInBounds 0 Value.none))).get? b = some o := by
    rw [Heap.get?_update_other _ _ (Ne.symm hb)]
    exact e
  rw [Heap.get?_update_other _ _ (Nat.ne_of_gt (Heap.lt_size (Heap.get?_push_of_some _ e1)))]
  exact Heap.get?_push_of_some _ (Heap.get?_push_of_some _ e1)
theorem itemsOf_hot {l x1 : Addr} {items : Array Value} {Q : List Value → Shared → Prop} (hot : HotAt A x1 s.heap) (hl : s.heap.IsList l items)
    (hQ : ∀ h', Heap.ExtBut s.heap.objs.size s.heap h' → Q items.toList { s with heap := h' }) : wpAny (model prog w) A (unpackItems (.ref l) items.size none) Q E s := by
  have hlt : l ≠ s.heap.objs.size := by obtain ⟨o, ho, _⟩ := hl; exact Nat.ne_of_lt (Heap.lt_size ho)
  obtain ⟨hh, o1, vs1, h1, d1, c1⟩ := hot
  have hx1 : x1 ≠ s.heap.objs.size := Nat.ne_of_lt (Heap.lt_size h1)
  unfold unpackItems
  refine wpAny_bind ?_
  · unfold notIterableAtAll
    refine wpAny_bind (wpAny_specialOf hl.typeIs PySem.F.slot_list_iter.lookup ?_)
    refine wpAny_pure ?_
    simp only [Bool.false_eq_true, if_false]
    refine wpAny_bind (wpAny_holding (wpAny_pyIter_list hl ?_))
    refine wpAny_bind (wpAny_holding (PySem.W.kun_draw hlt items.size 0 _ _ ⟨_, Heap.get?_push_size _ rfl, rfl, rfl⟩ (hl.push _) (by omega) fun h₁ hit₁ hs₁ => ?_))
    have hall : List.take items.size (List.drop 0 items.toList) = items.toList := by
      rw [List.drop_zero]; exact List.take_of_length_le (by simp)
    rw [hall]
    rw [if_neg (by simp)]
    have hl₁ : h₁.IsList l items := (hl.push _).extBut hs₁.extBut hlt
    have h1₁ : h₁.get? x1 = some o1 := hs₁.extBut x1 o1 hx1 (Heap.get?_push_of_some _ h1)
    refine wpAny_bind (wpAny_holding (pyNext_list_end_hot (s := { s with heap := h₁ }) ⟨hh, o1, vs1, h1₁, d1, c1⟩ hx1 hit₁ hl₁ (by simp) fun h₂ he₂ => ?_))
    simp only [Option.isSome_none, Bool.false_eq_true, if_false]
    refine wpAny_pure (hQ h₂ fun b o hb e => he₂ b o hb (hs₁.extBut b o hb (Heap.get?_push_of_some _ e)))
end
end HotX
namespace L2H
open PySem PySem.Spec PyProof.Rows L2 HotX
theorem turn_listH {P : Program} {w : World} {K : PySem.W.Frag} {tg : Expr} (a it : Addr) : TurnH P w K tg (Itl K a) [it] it (fun i h => h.IsListIter it a i) where
  mem := by simp
  obj := fun i h st b hb => by
    have e : b = it := by simpa using hb
    subst e
    obtain ⟨o, e, c, d⟩ := st
    exact ⟨o, e, fun v z => by rw [d] at z; cases z⟩
  keep := fun i h h' st k => st.at fun o e => k it (by simp) o e
  item := by
    intro X hP hw hK hc i pins s σ H E I hf st hg
    subst hP hw hK
    obtain ⟨xs, x, hq, hx⟩ := hg
    obtain ⟨its, rv, p, hz⟩ := I.list hq
    obtain ⟨u, hu, ru⟩ := rv.get hx
    obtain ⟨f0, f1, f2, f3, f4, f5⟩ := hf it (by simp)
    refine wpAny_pyNext_list_item st p.isList (x := u) (by simpa using hu) fun h' st' sb => ?_
    have I1 : Inv X pins σ H { s with heap := h' } := I.turned (t' := s.toks) (fun b o hb e => (sb.2 b hb).trans e) f0 f1 f3 f4 f5
    obtain ⟨o, e, c, d⟩ := id st'
    exact ⟨u, rfl, go_of (s := { s with heap := h' }) e c d (by decide) ⟨x, H, I1, ru, ⟨rfl, fun ys hy => by rw [I.list_inj hy hq]; exact hx⟩, st', fun b hb => (hf b hb).1⟩⟩
  done := by
    intro X hP hw hK hc i pins s σ H E I hf st hg
    subst hP hw hK
    obtain ⟨xs, hq, hx⟩ := hg
    obtain ⟨its, rv, p, hz⟩ := I.list hq
    obtain ⟨f0, f1, f2, f3, f4, f5⟩ := hf it (by simp)
    have hl := rv.length
    obtain ⟨p1, ⟨hh, vs1, d1, c1⟩, hp1⟩ := hc
    exact pyNext_list_end_hot ⟨hh, p1.2, vs1, (I.pin p1 (List.mem_append_left _ hp1)).1, d1, c1⟩ (f5 p1 (List.mem_append_left _ hp1)) st p.isList (by simp; omega) fun h' eb => ⟨rfl, I.turned (t' := s.toks) (fun b o hb e => eb b o hb e) f0 f1 f3 f4 f5⟩
  self := fun _ _ _ _ _ st h => wpAny_pyIter_listiter st h
end L2H
namespace L2
abbrev Cx.blkH (X : Cx) (s : PySem.Shared) (H : Hp) (scope : PySem.Scope) (cenv : PySem.Env) (fp : List PySem.Addr) : Cx := { X.blk s H scope cenv fp with pn := X.pn }
end L2
namespace L2H
open PySem PySem.Spec PyProof.Rows L2 HotX
section
variable {X : Cx}
theorem pi_listH {tg l : Expr} {tl : TE} (hl : PE X l tl) : PIH X tg l (iList X.K tl) := by
  refine ⟨fun pins s σ H R I h => ?_⟩
  refine thn (hl.run pins s σ H _ I h) fun v s1 ⟨x, H1, I1, r1, q1⟩ => ?_
  obtain ⟨a, e, ⟨xs, hq⟩, q⟩ := q1
  subst e
  cases r1
  obtain ⟨its, rv, p, hz⟩ := I1.list hq
  refine wpAny_pyIter_list p.isList ?_
  refine ⟨s1.heap.objs.size, [s1.heap.objs.size], _, _, H1, rfl, I1.kept (t' := s1.toks) fun b o e => Heap.get?_push_of_some _ e, turn_listH a _, ⟨_, Heap.get?_push_size _ rfl, rfl, rfl⟩, fun b hb => ?_, q⟩
  have e : b = s1.heap.objs.size := by simpa using hb
  subst e
  exact I1.fpOk (Nat.le_refl _) (I1.hok.fresh (Nat.le_refl _))
theorem blkH_of {pins : List (Addr × Obj)} {σ σ' : L2.St} {H : Hp} {s s4 : Shared} {scope : Scope} {cl : List (Str × Addr)} {fp : List Addr} (I : Inv X pins σ H s) (J : Inv (X.blk s H scope (compEnvC scope cl s.heap.objs.size X.env) fp) [] σ' H s4)
    (k : ∀ b o, s.heap.get? b = some o → s4.heap.get? b = some o) : Inv (X.blkH s H scope (compEnvC scope cl s.heap.objs.size X.env) fp) [] σ' H s4 :=
  ⟨⟨J.ok.mod, J.ok.kind, J.ok.glob, J.ok.blt, J.ok.above, J.ok.inj, J.ok.has, J.ok.cab, J.ok.hd, J.ok.frames, J.ok.stk, J.ok.exf, J.ok.bs, J.ok.bsz, J.ok.noex, J.ok.exfs, J.ok.funs, J.ok.frf⟩, J.os, J.bare, J.base, J.loc, J.cell, J.free, J.freeC, fun p hp => by
    have hp : p ∈ X.pn := by simpa using (show p ∈ X.pn ++ [] from hp)
    obtain ⟨h1, h2, h3, h4, h5⟩ := I.pin p (List.mem_append_left _ hp)
    exact ⟨k _ _ h1, h2, Nat.ne_of_lt (Heap.lt_size h1), fun z => (List.mem_cons.mp (I.stkSub _ z)).elim h3 h4, h5⟩, J.hok, J.len⟩
/-- a, b, .. = a list of that length -/
theorem pg_lstH {es : List Expr} {k : Nat} {t : TGs} {n : Nat} {pos : Pos} (hc : HotC X) (h : PGs X es t)
    (hn : (assignEach es X.env).length = n := by rfl) (hst : (assignEach es X.env).findIdx? (·.1) = none := by rfl) : PG X (.Tuple es k pos) (gLst X.K n t) := by
  refine ⟨fun pins s σ H v u Q I r hw => ?_⟩
  obtain ⟨a, xs, e1, hq, hl, hw⟩ := hw
  subst e1
  cases r
  obtain ⟨its, rv, pl, hz⟩ := I.list hq
  have hsz : (assignEach es X.env).length = its.toArray.size := by simp [hn, ← hl, rv.length]
  rw [PyProof.Rows.assign_Tuple]
  refine wpAny_bind (wpAny_standAt ?_)
  unfold unpack
  rw [hsz, hst]
  obtain ⟨x1, hot⟩ := hc.at I
  refine wpAny_bind (wpAny_holding (itemsOf_hot hot pl.isList fun h' hx => ?_))
  have I1 : Inv X pins σ H { s with heap := h' } := I.kept (t' := s.toks) fun b o e => hx b o (Nat.ne_of_lt (Heap.lt_size e)) e
  exact h.run pins _ σ H xs _ Q I1 (by simpa using rv) hw
theorem lc_coreH {pins : List (Addr × Obj)} {s : Shared} {σ : St} {H : Hp} {Q : VK} {elt tg iter : Expr} {ifs : List Expr} {scope : Scope} {own : List (Str × Nat)} {pos pos' : Pos} {wi : TI} {g : TG} {tt : TT} {te : TE} {use : Option (Value → Sem Unit)} {Qf : Value → Shared → Prop}
    (hc : HotC X) (hN : X.N.Nodup) (I : Inv X pins σ H s) (hi : PIH X tg iter wi) (ok : BlkOk X.N X.env.scope scope own)
    (hg : ∀ (s : Shared) (H : Hp) (C : Addr) (cl : List (Str × Addr)) (fp : List Addr), PG (X.blkH s H scope (compEnvC scope cl C X.env) fp) tg g) (ht : ∀ (s : Shared) (H : Hp) (C : Addr) (cl : List (Str × Addr)) (fp : List Addr), PTs (X.blkH s H scope (compEnvC scope cl C X.env) fp) ifs tt)
    (he : ∀ (s : Shared) (H : Hp) (C : Addr) (cl : List (Str × Addr)) (fp : List Addr), PE (X.blkH s H scope (compEnvC scope cl C X.env) fp) elt te) (hs : ∀ x, foldedSetIterable iter X.env x = pure x)
    (h : tLc wi g tt te (own.map (·.2)) σ H Q)
    (hRR : ∀ D C s' m H', Inv X pins σ H' s' → Q (.ref D) H' → s'.heap.Ns C m → FpOk X pins H' C → compPost (model X.prog X.w) X.A X.xe use Qf (.ref D) C (.ok .next) s') :
    wpAny (model X.prog X.w) X.A (comprehension (.ListComp elt [⟨tg, iter, ifs, 0⟩] scope pos) scope X.env pos' (newList []) false (eval iter X.env) use) Qf X.xe s := by
  have hfree : ∀ y ∈ scope.names, y.2 = .free → ∃ c, X.env.cells.lookup y.1 = some c := fun y hy e => by
    rcases ok.free y hy e with k | k
    · exact I.ok.has _ (.inl k)
    · exact I.ok.has _ (.inr k)
  refine wpAny_comprehension_free (use := use) rfl hs (closure_ok hfree) ok.kind (fun y hy e => by rw [ok.uniq y hy, e])
    (thn (hi.run pins s σ H _ I h) fun xv s1 hx => thn hx fun itv s2 h2 => ?_)
  obtain ⟨it, fp, tn, J, H2, e, I2, T, st2, f2, q⟩ := h2
  subst e
  refine wpAny_newObj_type (newEnv_comp ?_) (by show 0 ≤ sizeLine; decide)
  generalize hD : s2.heap.objs.size = D
  have hDn : H2 D = none := I2.hok.fresh (Nat.le_of_eq hD)
  obtain ⟨W, ⟨m0, w0⟩, turn⟩ := q D hDn
  -- the new list
  generalize hs3 : ({ s2 with heap := s2.heap.push { cls := .type "list", data := .seq ([] : List Value).toArray } } : Shared) = s3
  have I3 : Inv X pins σ (upd H2 D (.lst [])) s3 := by
    rw [← hs3]
    refine I2.laid (t' := s2.toks) (fun b o e => Heap.get?_push_of_some _ e) (Nat.le_of_eq hD) ⟨Nat.zero_le _, [], 0, .nil, ?_⟩
    rw [← hD]
    exact Heap.get?_push_size _ rfl
  have h3 : s3.heap = s2.heap.push { cls := .type "list", data := .seq ([] : List Value).toArray } := by rw [← hs3]
  have sz : ∀ b ∈ fp, b < s2.heap.objs.size := fun b hb => by
    obtain ⟨o, e, _⟩ := T.obj _ _ st2 b hb
    exact Heap.lt_size e
  have f3 : ∀ b ∈ fp, FpOk X pins (upd H2 D (.lst [])) b ∧ b < s3.heap.objs.size := fun b hb => by
    have hlt := sz b hb
    refine ⟨⟨?_, (f2 b hb).2⟩, by rw [h3, Heap.size_push]; exact Nat.lt_succ_of_lt hlt⟩
    rw [upd_ne (by rw [← hD]; exact Nat.ne_of_lt hlt)]
    exact (f2 b hb).1
  have st3 : tn 0 s3.heap := T.keep _ _ _ st2 fun b _ o e => by rw [h3]; exact Heap.get?_push_of_some _ e
  have I4 := blkH_of I3 (block_start I3 ok hN f3) fun b o e => pushCells_keeps _ _ _ _ (Heap.get?_push_of_some _ e)
  have pg := hg s3 (upd H2 D (.lst [])) s3.heap.objs.size (cellsFrom (s3.heap.objs.size + 1) scope.names (cloFrom X.env.cells scope.names [])) fp
  have pt := ht s3 (upd H2 D (.lst [])) s3.heap.objs.size (cellsFrom (s3.heap.objs.size + 1) scope.names (cloFrom X.env.cells scope.names [])) fp
  have pe := he s3 (upd H2 D (.lst [])) s3.heap.objs.size (cellsFrom (s3.heap.objs.size + 1) scope.names (cloFrom X.env.cells scope.names [])) fp
  show codeAny _ _ (.compStart (.ListComp elt [⟨tg, iter, ifs, 0⟩] scope pos) 0 (.ref it) (.ref D) (compEnvC scope (cellsFrom (s3.heap.objs.size + 1) scope.names (cloFrom X.env.cells scope.names [])) s3.heap.objs.size X.env)) (compPost (model X.prog X.w) X.A X.xe use Qf (.ref D) s3.heap.objs.size) { s3 with heap := pushCells (s3.heap.push { cls := .type "dict", data := .dict #[] }) scope.names }
  have nfp : ∀ b ∈ fp, (upd H2 D (.lst [])) b = none := fun b hb => (f3 b hb).1.1
  generalize hce : compEnvC scope (cellsFrom (s3.heap.objs.size + 1) scope.names (cloFrom X.env.cells scope.names [])) s3.heap.objs.size X.env = ce at I4 pg pt pe ⊢
  have cL : ce.locals = s3.heap.objs.size := by subst hce; rfl
  generalize hH3 : upd H2 D (.lst []) = H3 at I3 I4 pg pt pe w0 nfp f3
  generalize hs4 : ({ s3 with heap := pushCells (s3.heap.push { cls := .type "dict", data := .dict #[] }) scope.names } : Shared) = s4 at I4 ⊢
  have st4 : tn 0 s4.heap := T.keep _ _ _ st3 fun b _ o e => by rw [← hs4]; exact pushCells_keeps _ _ _ _ (Heap.get?_push_of_some _ e)
  have stat : ∀ {σ' : St} {H' : Hp} {s' : Shared}, Inv (X.blkH s3 H3 scope ce fp) [] σ' H' s' → (∀ b ∈ fp, H' b = none) → ∀ b ∈ fp, FpOk (X.blkH s3 H3 scope ce fp) [] H' b := fun {σ' H' s'} I' hn b hb =>
    ⟨hn b hb, (I'.ok.exf b hb).1, I'.ok.exfs b hb, .inl hb, fun x c e => (I'.ok.exf b hb).2 x c e, fun p hp => (f3 b hb).1.2.2.2.2.2 p (List.mem_append_left _ (by simpa using (show p ∈ X.pn ++ [] from hp)))⟩
  have loop : codeAny (model X.prog X.w) X.A (.compLoop (.ListComp elt [⟨tg, iter, ifs, 0⟩] scope pos) 0 (.ref it) (.ref D) ce) (compPost (model X.prog X.w) X.A X.xe use Qf (.ref D) s3.heap.objs.size) s4 := by
    refine compLoop_any (fun n s' => ∃ i H', Inv (X.blkH s3 H3 scope ce fp) [] (wipe σ (own.map (·.2))) H' s' ∧ tn i s'.heap ∧ (∀ b ∈ fp, H' b = none) ∧ W i n H') ?_ m0 ⟨0, H3, I4, st4, nfp, w0⟩
    rintro n s5 ⟨i, H5, I5, st5, n5, w5⟩
    rcases turn i n H5 w5 with ⟨stop, qq⟩ | ⟨go, Nx, hNx, step⟩
    · have td := T.done (X.blkH s3 H3 scope ce fp) rfl rfl rfl hc i [] s5 _ H5 (fun _ _ => False) I5 (stat I5 n5) st5 stop
      refine thnF td fun r s6 ⟨hr, I6⟩ => ?_
      subst hr
      -- back in the def's context
      have I7 : Inv X pins σ H5 s6 := I3.call' (ch := fp) I6.os I6.base I6.hok I6.bare fun b hb => ⟨(f3 b hb).1.2.2.2.1, (f3 b hb).1.2.1, (f3 b hb).1.2.2.2.2.1, (f3 b hb).1.2.2.2.2.2⟩
      have nC : H5 s3.heap.objs.size = none := by
        have z : H5 ce.locals = none := I6.free
        rw [cL] at z
        exact z
      obtain ⟨m, hn, _⟩ := I6.loc
      have hn : s6.heap.Ns ce.locals m := hn
      rw [cL] at hn
      exact hRR D s3.heap.objs.size s6 m H5 I7 qq hn (I3.fpOk (Nat.le_refl _) nC)
    · have ti := T.item (X.blkH s3 H3 scope ce fp) rfl rfl rfl hc i [] s5 _ H5 (fun _ _ => False) I5 (stat I5 n5) st5 go
      refine thnF ti fun r s6 ⟨u, hr, h6⟩ => ?_
      subst hr
      refine thnF h6 fun _ s7 ⟨x, H7, I7, r7, y7, st7, n7⟩ => ?_
      have I7' := I7.pinned (stat I7 n7) (T.obj _ _ st7)
      refine thnF (pg.run _ s7 _ H7 x u _ I7' r7 (step x H7 y7)) fun _ s8 ⟨σ8, H8, I8, hw8, q8⟩ => ?_
      refine thnF (pt.run _ s8 σ8 H8 _ I8 q8) fun b s9 ⟨H9, I9, q9⟩ => ?_
      -- the turn's end
      have fin : ∀ {s' : Shared} {H' : Hp}, Inv (X.blkH s3 H3 scope ce fp) ([] ++ pinsAt fp s7.heap) σ8 H' s' → Nx H' → ∃ m, m < n ∧ ∃ i H', Inv (X.blkH s3 H3 scope ce fp) [] (wipe σ (own.map (·.2))) H' s' ∧ tn i s'.heap ∧ (∀ b ∈ fp, H' b = none) ∧ W i m H' := fun {s' H'} I' nx => by
        obtain ⟨m', hm, w'⟩ := hNx H' nx
        have pin' : ∀ b ∈ fp, ∀ o, s7.heap.get? b = some o → s'.heap.get? b = some o ∧ H' b = none := fun b hb o e =>
          let z := I'.pin (b, o) (List.mem_append_right _ (List.mem_append_right _ (mem_pinsAt hb e)))
          ⟨z.1, z.2.1⟩
        have hl : (wipe σ (own.map (·.2))).length = σ8.length := by rw [← hw8, wipe_length]
        refine ⟨m', hm, i + 1, H', (I'.unpinned (pins := [])).weak hl (fun j v e => ?_), T.keep _ _ _ st7 fun b hb o e => (pin' b hb o e).1, fun b hb => ?_, w'⟩
        · rw [← hw8] at e
          exact (wipe_some e).1
        · obtain ⟨o, e, _⟩ := T.obj _ _ st7 b hb
          exact (pin' b hb o e).2
      cases b with
      | false =>
        simp only [Bool.false_eq_true, if_false] at q9 ⊢
        exact fin I9 q9
      | true =>
        simp only [if_true] at q9 ⊢
        refine thnF (pe.run _ s9 σ8 H9 _ I9 q9) fun z s10 ⟨yv, H10, I10, r10, acc, hD10, hz10, nx⟩ => ?_
        exact app_ok (X := X.blkH s3 H3 scope ce fp) I10 hD10 hz10 r10 fun s11 I11 => fin I11 nx
  exact codeAny_compStart_list loop (T.self X.A 0 _ _ _ st4 loop)
/-- as a value -/
theorem pe_lcH {elt tg iter : Expr} {ifs : List Expr} {scope : Scope} {own : List (Str × Nat)} {pos : Pos} {wi : TI} {g : TG} {tt : TT} {te : TE} (hc : HotC X) (hN : X.N.Nodup) (hi : PIH X tg iter wi) (ok : BlkOk X.N X.env.scope scope own)
    (hg : ∀ (s : Shared) (H : Hp) (C : Addr) (cl : List (Str × Addr)) (fp : List Addr), PG (X.blkH s H scope (compEnvC scope cl C X.env) fp) tg g) (ht : ∀ (s : Shared) (H : Hp) (C : Addr) (cl : List (Str × Addr)) (fp : List Addr), PTs (X.blkH s H scope (compEnvC scope cl C X.env) fp) ifs tt)
    (he : ∀ (s : Shared) (H : Hp) (C : Addr) (cl : List (Str × Addr)) (fp : List Addr), PE (X.blkH s H scope (compEnvC scope cl C X.env) fp) elt te) (hs : ∀ x, foldedSetIterable iter X.env x = pure x := by intro _; rfl) :
    PE X (.ListComp elt [⟨tg, iter, ifs, 0⟩] scope pos) (tLc wi g tt te (own.map (·.2))) := by
  refine ⟨fun pins s σ H Q I h => ?_⟩
  rw [eval_ListComp]
  refine lc_coreH hc hN I hi ok hg ht he hs h fun D C s' m H' I' q hn f => ⟨m, hn, fun h'' sb => ?_⟩
  obtain ⟨f0, f1, f2, f3, f4, f5⟩ := f
  exact ⟨.ref D, H', I'.turned (t' := s'.toks) (fun b o hb e => (sb.2 b hb).trans e) f0 f1 f3 f4 f5, rfl, q⟩
/-- name = [..] on one line, the name a local -/
theorem ps_setLcH {i : Nat} {y : Str} {py : Pos} {elt tg iter : Expr} {ifs : List Expr} {scope : Scope} {own : List (Str × Nat)} {pos spos : Pos} {wi : TI} {g : TG} {tt : TT} {te : TE} (hc : HotC X) (hN : X.N.Nodup) (hy : X.N[i]? = some y) (hyl : X.env.scope.names.lookup y = some .local)
    (hsw : swapsWith (.ListComp elt [⟨tg, iter, ifs, 0⟩] scope pos) (some (.Name y py)) spos.line X.env = pure true) (hi : PIH X tg iter wi) (ok : BlkOk X.N X.env.scope scope own)
    (hg : ∀ (s : Shared) (H : Hp) (C : Addr) (cl : List (Str × Addr)) (fp : List Addr), PG (X.blkH s H scope (compEnvC scope cl C X.env) fp) tg g) (ht : ∀ (s : Shared) (H : Hp) (C : Addr) (cl : List (Str × Addr)) (fp : List Addr), PTs (X.blkH s H scope (compEnvC scope cl C X.env) fp) ifs tt)
    (he : ∀ (s : Shared) (H : Hp) (C : Addr) (cl : List (Str × Addr)) (fp : List Addr), PE (X.blkH s H scope (compEnvC scope cl C X.env) fp) elt te) (hs : ∀ x, foldedSetIterable iter X.env x = pure x := by intro _; rfl) :
    PS X (.Assign [.Name y py] (.ListComp elt [⟨tg, iter, ifs, 0⟩] scope pos) spos) (tAsg (tLc wi g tt te (own.map (·.2))) (gName i)) := by
  refine ⟨fun pins s σ H D I h => ?_⟩
  rw [exec_Assign_Name_used _ _ _ _ hsw]
  refine wpAny_bind (wpAny_standAt (wpAny_bind ?_))
  show wpAny _ X.A (do let _ ← comprehension (.ListComp elt [⟨tg, iter, ifs, 0⟩] scope pos) scope X.env (firstIterPos [⟨tg, iter, ifs, 0⟩] pos) (newList []) false (eval iter X.env) (some (assign (.Name y py) X.env))) _ _ s
  have h : tLc wi g tt te (own.map (·.2)) σ H (fun x H1 => gName i x σ H1 D.nx) := h
  refine wpAny_bind (thn (lc_coreH (Qf := fun _ s' => SP X pins D .next s') hc hN I hi ok hg ht he hs h fun L C s' m H' I' q hn f => ?_) fun _ s' hq => wpAny_pure (wpAny_pure hq))
  show wpAny _ _ (assign (.Name y py) X.env (.ref L)) _ _ _
  refine wpAny_assign_Name (store_ok2 (v := V.ref L) I' hN hy (.inl hyl) rfl (fun s2 I2 ⟨a, sb, ha⟩ => ?_) (.inr hyl))
  obtain ⟨f0, f1, f2, f3, f4, f5⟩ := f
  have haC : C ≠ a := by
    rcases ha with z | z
    · rw [z]; exact f1
    · exact fun e => f4 y a z e.symm
  refine ⟨m, hn.sameBut sb haC, fun h3 sb3 => ?_⟩
  exact ⟨_, H', I2.turned (t' := s2.toks) (fun b o hb e => (sb3.2 b hb).trans e) f0 f1 f3 f4 f5, q⟩
end
end L2H
/-! ==== W26 ==== -/
set_option Elab.async false
set_option linter.all false
set_option maxRecDepth 100000
set_option maxHeartbeats 2000000
/-! The handled exception, one with a dict of its own: isinstance of it, a field of it; in the suite and in the defs called there. -/
namespace L2H
open PySem PySem.Spec PyProof.Rows L2 HotX
/-- the exception at a of the class at D, its dict at dd, stands in the context -/
structure HotX (X : Cx) (a D dd : Addr) : Prop where
  ex : ∃ oe : Obj, (a, oe) ∈ X.pn ∧ Hot1 X.A (a, oe) ∧ Zc (.ref D) (some dd) oe ∧ ∃ vs, oe.data = .fields vs
theorem HotX.hot {X : Cx} {a D dd : Addr} (h : HotX X a D dd) : HotC X := by
  obtain ⟨oe, h1, h2, _⟩ := h.ex
  exact ⟨(a, oe), h2, h1⟩
section
variable {X : Cx} {a D dd : Addr}
theorem HotX.inst (h : HotX X a D dd) {pins : List (Addr × Obj)} {σ : St} {H : Hp} {s : Shared} {fs : List (Str × V)} (I : Inv X pins σ H s) (hd : H dd = some (.xd fs)) :
    ∃ oe od, PySem.W.InstAt s.heap a oe D (some od) ∧ ∃ mA : Str → Option Value, (∀ f, PySem.W.lookIn f od = some (mA f)) ∧ ∀ f, RelO (fs.lookup f) (mA f) := by
  obtain ⟨oe, h1, h2, hz, vs, hv⟩ := h.ex
  obtain ⟨ha, _⟩ := I.pin (a, oe) (List.mem_append_left _ h1)
  have hx : ObjOk X.prog X.w H s.heap dd (.xd fs) := I.hok dd _ hd
  obtain ⟨mA, hns, hr⟩ := hx
  obtain ⟨od, ho, hl⟩ := lookIn_ns hns
  exact ⟨oe, od, ⟨ha, hz.1, by unfold PySem.W.notCls; rw [hv] <;> rfl, by rw [hz.2]; exact ho⟩, mA, hl, hr⟩
/-- isinstance(e, c) -/
def rIsX (K : PySem.W.Frag) (D a dd : Addr) : List V → Hp → VK → Prop := fun xs H Q => ∃ (c : V) (cv : Value) (b : Bool) (fs : List (Str × V)), xs = [.ref a, c] ∧ (∀ u, RelV c u → u = cv) ∧ H dd = some (.xd fs) ∧ PySem.W.kitOne K (.ref D) cv = some b ∧ Q (.bl b) H
theorem kitx_of {K : PySem.W.Frag} {x : Addr} {ox : Obj} {od : Option Obj} (C : ExcC K D) : PySem.W.KitX K (.ref x) (.ref D) (fun h => PySem.W.InstAt h x ox D od) := by
  obtain ⟨cd, hc, _⟩ := PySem.W.any_some C.hd
  exact PySem.W.kitx_exc (by rw [hc]; rfl) C.hg C.hk C.hs C.ha C.hn C.ht C.hm
theorem call_isX (C : ExcC X.K D) (hh : HotX X a D dd) : CallR X (.builtin "isinstance") (rIsX X.K D a dd) := by
  intro pins s σ H xs us Q I r h
  obtain ⟨c, cv, b, fs, rfl, hcv, hd, e, q⟩ := h
  cases r with
  | cons rx rr =>
    cases rr with
    | cons rt rr =>
      cases rr
      cases rx
      have ec := hcv _ rt
      subst ec
      obtain ⟨oe, od, J, _⟩ := hh.inst I hd
      exact PySem.W.kia_one (kitx_of C) I.kIn J e (fun z => nomatch z) fun tk => ⟨.bl b, H, I.kept (t' := tk) fun _ _ z => z, rfl, q⟩
/-- isinstance(e, (A, B, ..)), the tuple just written -/
def rIsXT (K : PySem.W.Frag) (D a dd : Addr) : List V → Hp → VK → Prop := fun xs H Q => ∃ (tp : Addr) (cs : List V) (cvs : List Value) (b : Bool) (fs : List (Str × V)), xs = [.ref a, .ref tp] ∧ H tp = some (.tup cs) ∧ (∀ us, Vals cs us → us = cvs) ∧ H dd = some (.xd fs) ∧ PySem.W.kitAny K (.ref D) cvs = some b ∧ Q (.bl b) H
theorem call_isXT (C : ExcC X.K D) (hh : HotX X a D dd) : CallR X (.builtin "isinstance") (rIsXT X.K D a dd) := by
  intro pins s σ H xs us Q I r h
  obtain ⟨tp, cs, cvs, b, fs, rfl, ht, hcv, hd, e, q⟩ := h
  cases r with
  | cons rx rr =>
    cases rr with
    | cons rt rr =>
      cases rr
      cases rx
      cases rt
      obtain ⟨oe, od, J, _⟩ := hh.inst I hd
      obtain ⟨its, r, o⟩ := (I.hok tp _ ht).2
      obtain ⟨ob, ho, hc, n, hdt⟩ := o
      have ec := hcv _ r
      subst ec
      obtain ⟨c1, d1, dt, sl⟩ := ob
      dsimp only at hc hdt
      subst hc hdt
      exact PySem.W.kia_tup (kitx_of C) I.kIn J ho e (fun z => nomatch z) fun tk => ⟨.bl b, H, I.kept (t' := tk) fun _ _ z => z, rfl, q⟩
/-- e.f -/
def tXfH (a dd : Addr) (f : Str) (te : TE) : TE := fun σ H Q => te σ H fun x H1 => x = .ref a ∧ ∃ (fs : List (Str × V)) (v : V), H1 dd = some (.xd fs) ∧ fs.lookup f = some v ∧ Q v H1
theorem pe_xfH {e : Expr} {te : TE} {pos : Pos} {n : Str} (C : ExcC X.K D) (hno : PySem.W.findIn X.K (.ref D) n = some none) (hh : HotX X a D dd) (he : PE X e te) (hb : attributeBase e n X.env (eval e X.env) = eval e X.env := by rfl) :
    PE X (.Attribute e n pos) (tXfH a dd n te) := by
  refine ⟨fun pins s σ H Q I h => ?_⟩
  refine attr_of hb (thn (he.run pins s σ H _ I h) fun u s1 hq => ?_)
  obtain ⟨x, H1, I1, rx, ex, fs, v, ea, l, q⟩ := hq
  subst ex
  obtain rfl : u = Value.ref a := rx
  obtain ⟨oe, od, J, mA, hl, hr⟩ := hh.inst I1 ea
  obtain ⟨u, hu, ru⟩ := RelO.some_of (v := v) (o := mA n) (by rw [← l]; exact hr n)
  exact HandSPX.exc_get I1.kIn J C.hg C.hk C.hs (PySem.W.findObj_own C.hd hno rfl (by rw [hl, hu])) (handed_of ru) ⟨v, H1, I1.tok _, ru, q⟩
end
end L2H
/-! ==== W27 ==== -/
set_option Elab.async false
set_option linter.all false
set_option maxRecDepth 100000
set_option maxHeartbeats 2000000
/-! Defs called in an except suite with the exception itself: what they promise, how they are called (after FnH of the kit, whose promise does not know the exception). -/
namespace L2H
open PySem PySem.Spec PyProof.Rows L2 HotX
/-- the exception at p.1, of the class at D, its dict at dd -/
def OneP (D dd : Addr) (p : Addr × Obj) : Prop := Zc (.ref D) (some dd) p.2 ∧ ∃ vs, p.2.data = .fields vs
structure FnX (P : Program) (w : World) (K : PySem.W.Frag) (mg : Str → Option Value) (base : Heap) (D : Addr) (k : Nat) (f : Addr) (fd : FuncData) (ps : List Str) (sp : Addr → Addr → Sp) : Prop where
  len : ∀ a dd vs H Q E, sp a dd vs H Q E → vs.length = ps.length
  run : ∀ (A : Around) (outer : List Env) (s : Shared) (H : Hp) (args : Args) (us : List Value) (vs : List V) (Q : VK) (E : XK) (p : Addr × Obj) (dd : Addr), RoomH k A → Hot1 A p → OneP D dd p → PinOk outer H s p → Env0 P w K mg base A outer s H → BindsTo s fd args (ps.zip us) → Vals vs us → sp p.1 dd vs H Q E →
    codeAny (model P w) A (.call (.ref f) args) (CR C8.CX0 outer P w H s Q E) s
theorem fn_ofX {P : Program} {w : World} {K : PySem.W.Frag} {mg : Str → Option Value} {base : Heap} {D : Addr} {k : Nat} {f : Addr} {name qual : Str} {params : Arguments} {body : List Stmt} {scope : Scope} {dV kV doc pm cdv ct oc : Value} {an od : Option Addr}
    {osl : Array (Option Value)} {N ps : List Str} {sp : Addr → Addr → Sp} (lk : K.lookup f = some ⟨oc, od, .func (PySem.W.fnOf name qual params body scope dV kV doc pm an cdv ct), osl⟩) (hcd : PySem.W.codeIn K cdv qual = true) (S : FnScope N ps scope)
    (len : ∀ a dd vs H Q E, sp a dd vs H Q E → vs.length = ps.length)
    (hbody : ∀ (A : Around) (outer : List Env) (s : Shared) (H : Hp) (vs : List V) (Q : VK) (E : XK) (p : Addr × Obj) (dd : Addr), HotX (cxH C8.CX0 P w K mg base N qual scope f cdv A outer s H E p) p.1 D dd → RoomH k (A.deeper (envOfC qual scope s.heap.objs.size f cdv)) → sp p.1 dd vs H Q E →
      ∃ t, PSs (cxH C8.CX0 P w K mg base N qual scope f cdv A outer s H E p) body t ∧ t { nx := fun _ H' => Q .non H', rt := Q } (L2.start N vs) H) :
    FnX P w K mg base D (k + 1) f (PySem.W.fnOf name qual params body scope dV kV doc pm an cdv ct) ps sp := by
  refine ⟨len, fun A outer s H args us vs Q E p dd hr hot hone hpin e0 hb r hsp => ?_⟩
  have hl := len _ _ _ _ _ _ hsp
  have KX : K.In s.heap := e0.mod.kin.keeps fun b o e => (e0.bs b o e).1
  have lim : s.heap.NoLimit := e0.mod.nolimit.keeps fun b o e => (e0.bs b o e).1
  have hkind : ∀ y ∈ ps.zip us, scope.names.lookup y.1 = some .local ∨ (scope.names.lookup y.1 = some .cell ∧ ((cellsFrom (s.heap.objs.size + 1) scope.names []).lookup y.1).isSome = true) := fun ⟨n, v⟩ hy => by
    rcases S.par n (List.of_mem_zip hy).1 with q | q
    · exact .inl q
    · exact .inr ⟨q, PySem.W.cellsFrom_some _ _ _ (.inl q)⟩
  refine codeAny_call_function hr.depth (KX _ _ lk) rfl S.co S.gen rfl (PySem.W.codeRec_of KX hcd) (hb _ _ _ _ ?_)
  refine wpAny_newFunctionEnv_cells S.kind hkind fun env he s1 x => ?_
  subst he
  refine ⟨lim.keeps x.toInCall.keep, codeAny_func ?_⟩
  obtain ⟨t, ht, hq⟩ := hbody A outer s H vs Q E p dd ⟨⟨p.2, List.mem_cons_self, hot, hone.1, hone.2⟩⟩ (hr.deeper _) hsp
  have I : Inv (cxH C8.CX0 P w K mg base N qual scope f cdv A outer s H E p) [] (L2.start N vs) H s1 := inv_startH S hpin e0 hl r x
  refine wpAny_mono (ht.run [] s1 (L2.start N vs) H _ I hq) (fun fl s' hs => ?_) fun e s' hs => hs
  have fin : ∀ {σ' : St} {H' : Hp} {v : V} {u : Value}, Inv (cxH C8.CX0 P w K mg base N qual scope f cdv A outer s H E p) [] σ' H' s' → RelV v u → Q v H' → CE outer P w H s Q u s' :=
    fun {σ' H' v u} J rv q => ⟨v, H', J.os, J.bare, J.base, J.hok, rv, q⟩
  cases fl with
  | ret u =>
    obtain ⟨v, σ', H', J, rv, q⟩ := hs
    exact fin J rv q
  | next =>
    obtain ⟨σ', H', J, q⟩ := hs
    exact fin (v := V.non) (u := Value.none) J rfl q
  | brk =>
    obtain ⟨_, _, _, q⟩ := hs
    exact False.elim q
  | cont =>
    obtain ⟨_, _, _, q⟩ := hs
    exact False.elim q
section
variable {X : Cx} {a D dd : Addr} {k : Nat} {f : Addr} {fd : FuncData} {ps : List Str} {sp : Addr → Addr → Sp} {x : Str} {q pos : Pos} {e : Expr} {es : List Expr} {t : TA}
theorem run_fnX {pins : List (Addr × Obj)} {σ : St} {H : Hp} {s : Shared} {Q : VK} {us : List Value} {vs : List V} (F : FnX X.prog X.w X.K X.mg X.base D k f fd ps sp) (hr : RoomH k X.A) (hh : HotX X a D dd) (hb : Binds X.K fd ps [])
    (I : Inv X pins σ H s) (r : Vals vs us) (h : sp a dd vs H Q C8.E0) : wpAny (model X.prog X.w) X.A (call (.ref f) us) (EP X pins σ Q) X.xe s := by
  obtain ⟨oe, hp, hot, hz, hv⟩ := hh.ex
  have hl : us.length = ps.length := by rw [← r.length]; exact F.len _ _ _ _ _ _ h
  have b := hb s us I.kIn (by rw [List.append_nil]; exact hl)
  rw [List.append_nil] at b
  have P1 := I.pin (a, oe) (List.mem_append_left _ hp)
  have hpin : PinOk X.stack H s (a, oe) := ⟨P1.1, P1.2.1, fun hm => (List.mem_cons.mp (I.stkSub a hm)).elim P1.2.2.1 P1.2.2.2.1, P1.2.2.2.2⟩
  refine wpAny_call (codeAny_mono (F.run X.A X.stack s H ⟨us, []⟩ us vs Q C8.E0 (a, oe) dd hr hot ⟨hz, hv⟩ hpin I.env0 b r h) fun r s' hq => ?_)
  cases r with
  | error e => exact (show False from hq).elim
  | ok fl =>
    cases fl with
    | ret u => exact I.after hq
    | next => exact False.elim hq
    | brk => exact False.elim hq
    | cont => exact False.elim hq
def tCallX (sp : Addr → Addr → Sp) (a dd : Addr) (t : TA) : TE := fun σ H Q => t σ H fun vs H1 => sp a dd vs H1 Q C8.E0
theorem pe_callX (F : FnX X.prog X.w X.K X.mg X.base D k f fd ps sp) (hr : RoomH k X.A) (hh : HotX X a D dd) (hg : Gl X x) (hm : X.mg x = some (.ref f)) (hk : PySem.W.keepIn X.K (.ref f) = true) (hb : Binds X.K fd ps [])
    (ha : PA X (e :: es) t) (hdb : (x == ("__debug__" : Str)) = false := by decide) (he : starEach (e :: es) X.env = (false, eval e X.env) :: starEach es X.env := by rfl) (hpl : (backTo pos (starEach es X.env)).any (·.1) = false := by rfl) :
    PE X (.Call (.Name x q) (e :: es) [] pos) (tCallX sp a dd t) := by
  refine ⟨fun pins s σ H Q I h => ?_⟩
  refine wpAny_Call_Name_kw (ld_glob I hg hm ?_ hdb)
  refine PySem.W.callWith_K (h₀ := X.base) I.ok.mod.kin hk (thn (ha.run pos pins s σ H _ I h) fun us s1 ⟨vs, H1, I1, r, q⟩ => ⟨I1.kIn, ?_⟩) he hpl
  exact run_fnX F hr hh hb I1 r q
end
end L2H
/-! ==== W28 ==== -/
set_option Elab.async false
set_option linter.all false
set_option maxRecDepth 100000
set_option maxHeartbeats 2000000
/-! _law_class, _law_field, of a NotOne. -/
namespace Bt
open PySem PySem.Spec PyProof.Rows L2 SW
def excNames : List Str := ["NotRight", "NotKnown", "NotPossible", "InvalidText", "InvalidNumber", "InvalidDegree", "InvalidKnots", "NotAFrame", "NotACurve", "InvalidAmounts", "InvalidPlaces", "InvalidHeights", "InvalidIndex", "InvalidKnot", "InvalidOffers", "NotOne", "TooMany", "Broken"]
/-- the classes of errors: where they stand, which of them NotOne, at D, is below -/
structure TxtE (K : PySem.W.Frag) (mg : Str → Option Value) (D : Addr) : Prop where
  c : ∀ x ∈ excNames, ∃ u, mg x = some u ∧ RelV (.ref (He.ga K x)) u
  kit : ∀ x ∈ excNames, PySem.W.kitOne K (.ref D) (.ref (He.ga K x)) = some (decide (x = "NotOne" ∨ x = "NotPossible"))
  kitB : PySem.W.kitOne K (.ref D) (.type "ValueError") = some false ∧ PySem.W.kitOne K (.ref D) (.type "LookupError") = some false ∧ PySem.W.kitOne K (.ref D) (.type "ArithmeticError") = some true
  xc : ExcC K D
  noN : PySem.W.findIn K (.ref D) "rank" = some none
section
variable {P : Program} {w : World} {K : PySem.W.Frag} {mg : Str → Option Value} {base : Heap} {a D dd : Addr}
abbrev st__law_class := top 101
theorem sc__law_class : FnScope ["_law_e", "_law_sorts", "_law_found", "_law_word", "_law_fits_here"] ["_law_e"] (defScope st__law_class) := ⟨rfl, rfl, rfl, by decide +kernel, rfl, by decide +kernel, by decide +kernel⟩
def t__law_class (K : PySem.W.Frag) (D a dd : Addr) : TS := (tSeq (tAsg (tLst (tCons (tLst (tCons (tC (.str "text")) (tCons (tCB (L2H.rIsX K D a dd) (tCons (tVar 0) (tCons (tC (.ref (He.ga K "InvalidText"))) tNil))) tNil))) (tCons (tLst (tCons (tC (.str "number")) (tCons (tCB (L2H.rIsX K D a dd) (tCons (tVar 0) (tCons (tC (.ref (He.ga K "InvalidNumber"))) tNil))) tNil))) tNil))) (gName 1))
    (tSeq (tAsg (tOp rCat (tVar 1) (tLst (tCons (tLst (tCons (tC (.str "degree")) (tCons (tCB (L2H.rIsX K D a dd) (tCons (tVar 0) (tCons (tC (.ref (He.ga K "InvalidDegree"))) tNil))) tNil))) (tCons (tLst (tCons (tC (.str "knots")) (tCons (tCB (L2H.rIsX K D a dd) (tCons (tVar 0) (tCons (tC (.ref (He.ga K "InvalidKnots"))) tNil))) tNil))) tNil)))) (gName 1))
    (tSeq (tAsg (tOp rCat (tVar 1) (tLst (tCons (tLst (tCons (tC (.str "frame")) (tCons (tCB (L2H.rIsX K D a dd) (tCons (tVar 0) (tCons (tC (.ref (He.ga K "NotAFrame"))) tNil))) tNil))) (tCons (tLst (tCons (tC (.str "curve")) (tCons (tCB (L2H.rIsX K D a dd) (tCons (tVar 0) (tCons (tC (.ref (He.ga K "NotACurve"))) tNil))) tNil))) tNil)))) (gName 1))
    (tSeq (tAsg (tOp rCat (tVar 1) (tLst (tCons (tLst (tCons (tC (.str "amounts")) (tCons (tCB (L2H.rIsX K D a dd) (tCons (tVar 0) (tCons (tC (.ref (He.ga K "InvalidAmounts"))) tNil))) tNil))) (tCons (tLst (tCons (tC (.str "places")) (tCons (tCB (L2H.rIsX K D a dd) (tCons (tVar 0) (tCons (tC (.ref (He.ga K "InvalidPlaces"))) tNil))) tNil))) tNil)))) (gName 1))
    (tSeq (tAsg (tOp rCat (tVar 1) (tLst (tCons (tLst (tCons (tC (.str "heights")) (tCons (tCB (L2H.rIsX K D a dd) (tCons (tVar 0) (tCons (tC (.ref (He.ga K "InvalidHeights"))) tNil))) tNil))) (tCons (tLst (tCons (tC (.str "index")) (tCons (tCB (L2H.rIsX K D a dd) (tCons (tVar 0) (tCons (tC (.ref (He.ga K "InvalidIndex"))) tNil))) tNil))) tNil)))) (gName 1))
    (tSeq (tAsg (tOp rCat (tVar 1) (tLst (tCons (tLst (tCons (tC (.str "knot")) (tCons (tCB (L2H.rIsX K D a dd) (tCons (tVar 0) (tCons (tC (.ref (He.ga K "InvalidKnot"))) tNil))) tNil))) (tCons (tLst (tCons (tC (.str "offers")) (tCons (tCB (L2H.rIsX K D a dd) (tCons (tVar 0) (tCons (tC (.ref (He.ga K "InvalidOffers"))) tNil))) tNil))) tNil)))) (gName 1))
    (tSeq (tAsg (tOp rCat (tVar 1) (tLst (tCons (tLst (tCons (tC (.str "one")) (tCons (tCB (L2H.rIsX K D a dd) (tCons (tVar 0) (tCons (tC (.ref (He.ga K "NotOne"))) tNil))) tNil))) (tCons (tLst (tCons (tC (.str "many")) (tCons (tCB (L2H.rIsX K D a dd) (tCons (tVar 0) (tCons (tC (.ref (He.ga K "TooMany"))) tNil))) tNil))) (tCons (tLst (tCons (tC (.str "broken")) (tCons (tCB (L2H.rIsX K D a dd) (tCons (tVar 0) (tCons (tC (.ref (He.ga K "Broken"))) tNil))) tNil))) tNil))))) (gName 1))
    (tSeq (tAsg (tLc (iList K (tVar 1)) (gLst K 2 (gCons (gName 3) (gCons (gName 4) gNil))) (tB (tVar 4)) (tVar 3) [3, 4]) (gName 2))
    (tRet (tIf (tTest (tOp rEq (tCB (rLen K) (tCons (tVar 2) tNil)) (tC (.int 1)))) (tOp (rIxL K) (tVar 2) (tC (.int 0))) (tC (.str "odd"))))))))))))
theorem ps__law_class (T : Txt P K mg base) (TE : TxtE K mg D) (f : Addr) (cdv : Value) (A : Around) (outer : List Env) (s : Shared) (H : Hp) (E : XK) (p : Addr × Obj) (hh : L2H.HotX (L2H.cxH C8.CX0 P w K mg base ["_law_e", "_law_sorts", "_law_found", "_law_word", "_law_fits_here"] "_law_class" (defScope st__law_class) f cdv A outer s H E p) a D dd) : PSs (L2H.cxH C8.CX0 P w K mg base ["_law_e", "_law_sorts", "_law_found", "_law_word", "_law_fits_here"] "_law_class" (defScope st__law_class) f cdv A outer s H E p) (defBody st__law_class) (t__law_class K D a dd) :=
  (pss_cons (ps_set (i := 1) sc__law_class.nd rfl (Or.inl rfl) (pe_lst (pa_cons (pe_lst (pa_cons pe_str (pa_cons (pe_callB (L2H.call_isX TE.xc hh) (by rfl) T.f_isinstance (by decide +kernel) (pa_cons (pv 0) (pa_cons (C8.pe_gc rfl (TE.c "InvalidText" (by decide))) pa_nil))) pa_nil))) (pa_cons (pe_lst (pa_cons pe_str (pa_cons (pe_callB (L2H.call_isX TE.xc hh) (by rfl) T.f_isinstance (by decide +kernel) (pa_cons (pv 0) (pa_cons (C8.pe_gc rfl (TE.c "InvalidNumber" (by decide))) pa_nil))) pa_nil))) pa_nil))))
    (pss_cons (ps_set (i := 1) sc__law_class.nd rfl (Or.inl rfl) (pe_op op_cat (pv 1) (pe_lst (pa_cons (pe_lst (pa_cons pe_str (pa_cons (pe_callB (L2H.call_isX TE.xc hh) (by rfl) T.f_isinstance (by decide +kernel) (pa_cons (pv 0) (pa_cons (C8.pe_gc rfl (TE.c "InvalidDegree" (by decide))) pa_nil))) pa_nil))) (pa_cons (pe_lst (pa_cons pe_str (pa_cons (pe_callB (L2H.call_isX TE.xc hh) (by rfl) T.f_isinstance (by decide +kernel) (pa_cons (pv 0) (pa_cons (C8.pe_gc rfl (TE.c "InvalidKnots" (by decide))) pa_nil))) pa_nil))) pa_nil)))))
    (pss_cons (ps_set (i := 1) sc__law_class.nd rfl (Or.inl rfl) (pe_op op_cat (pv 1) (pe_lst (pa_cons (pe_lst (pa_cons pe_str (pa_cons (pe_callB (L2H.call_isX TE.xc hh) (by rfl) T.f_isinstance (by decide +kernel) (pa_cons (pv 0) (pa_cons (C8.pe_gc rfl (TE.c "NotAFrame" (by decide))) pa_nil))) pa_nil))) (pa_cons (pe_lst (pa_cons pe_str (pa_cons (pe_callB (L2H.call_isX TE.xc hh) (by rfl) T.f_isinstance (by decide +kernel) (pa_cons (pv 0) (pa_cons (C8.pe_gc rfl (TE.c "NotACurve" (by decide))) pa_nil))) pa_nil))) pa_nil)))))
    (pss_cons (ps_set (i := 1) sc__law_class.nd rfl (Or.inl rfl) (pe_op op_cat (pv 1) (pe_lst (pa_cons (pe_lst (pa_cons pe_str (pa_cons (pe_callB (L2H.call_isX TE.xc hh) (by rfl) T.f_isinstance (by decide +kernel) (pa_cons (pv 0) (pa_cons (C8.pe_gc rfl (TE.c "InvalidAmounts" (by decide))) pa_nil))) pa_nil))) (pa_cons (pe_lst (pa_cons pe_str (pa_cons (pe_callB (L2H.call_isX TE.xc hh) (by rfl) T.f_isinstance (by decide +kernel) (pa_cons (pv 0) (pa_cons (C8.pe_gc rfl (TE.c "InvalidPlaces" (by decide))) pa_nil))) pa_nil))) pa_nil)))))
    (pss_cons (ps_set (i := 1) sc__law_class.nd rfl (Or.inl rfl) (pe_op op_cat (pv 1) (pe_lst (pa_cons (pe_lst (pa_cons pe_str (pa_cons (pe_callB (L2H.call_isX TE.xc hh) (by rfl) T.f_isinstance (by decide +kernel) (pa_cons (pv 0) (pa_cons (C8.pe_gc rfl (TE.c "InvalidHeights" (by decide))) pa_nil))) pa_nil))) (pa_cons (pe_lst (pa_cons pe_str (pa_cons (pe_callB (L2H.call_isX TE.xc hh) (by rfl) T.f_isinstance (by decide +kernel) (pa_cons (pv 0) (pa_cons (C8.pe_gc rfl (TE.c "InvalidIndex" (by decide))) pa_nil))) pa_nil))) pa_nil)))))
    (pss_cons (ps_set (i := 1) sc__law_class.nd rfl (Or.inl rfl) (pe_op op_cat (pv 1) (pe_lst (pa_cons (pe_lst (pa_cons pe_str (pa_cons (pe_callB (L2H.call_isX TE.xc hh) (by rfl) T.f_isinstance (by decide +kernel) (pa_cons (pv 0) (pa_cons (C8.pe_gc rfl (TE.c "InvalidKnot" (by decide))) pa_nil))) pa_nil))) (pa_cons (pe_lst (pa_cons pe_str (pa_cons (pe_callB (L2H.call_isX TE.xc hh) (by rfl) T.f_isinstance (by decide +kernel) (pa_cons (pv 0) (pa_cons (C8.pe_gc rfl (TE.c "InvalidOffers" (by decide))) pa_nil))) pa_nil))) pa_nil)))))
    (pss_cons (ps_set (i := 1) sc__law_class.nd rfl (Or.inl rfl) (pe_op op_cat (pv 1) (pe_lst (pa_cons (pe_lst (pa_cons pe_str (pa_cons (pe_callB (L2H.call_isX TE.xc hh) (by rfl) T.f_isinstance (by decide +kernel) (pa_cons (pv 0) (pa_cons (C8.pe_gc rfl (TE.c "NotOne" (by decide))) pa_nil))) pa_nil))) (pa_cons (pe_lst (pa_cons pe_str (pa_cons (pe_callB (L2H.call_isX TE.xc hh) (by rfl) T.f_isinstance (by decide +kernel) (pa_cons (pv 0) (pa_cons (C8.pe_gc rfl (TE.c "TooMany" (by decide))) pa_nil))) pa_nil))) (pa_cons (pe_lst (pa_cons pe_str (pa_cons (pe_callB (L2H.call_isX TE.xc hh) (by rfl) T.f_isinstance (by decide +kernel) (pa_cons (pv 0) (pa_cons (C8.pe_gc rfl (TE.c "Broken" (by decide))) pa_nil))) pa_nil))) pa_nil))))))
    (pss_cons (L2H.ps_setLcH (i := 2) (own := [("_law_word", 3), ("_law_fits_here", 4)]) (g := (gLst K 2 (gCons (gName 3) (gCons (gName 4) gNil)))) (tt := (tB (tVar 4))) hh.hot sc__law_class.nd rfl rfl (sw_true rfl rfl rfl (by decide +kernel)) (L2H.pi_listH (pv 1)) (blkOk_by (by rfl)) (fun _ _ _ _ _ => (L2H.pg_lstH (by exact hh.hot) (pgs_cons (pg_name (i := 3) sc__law_class.nd rfl (Or.inl rfl)) (pgs_cons (pg_name (i := 4) sc__law_class.nd rfl (Or.inl rfl)) pgs_nil)))) (fun _ _ _ _ _ => (pts_one (pt_val (pv 4)))) (fun _ _ _ _ _ => (pv 3)))
    (pss_one (ps_ret (pe_ifExp (pt_cmpR op_eq (pe_callB call_len (by rfl) T.f_len (by decide +kernel) (pa_cons (pv 2) pa_nil)) pe_int (nomark _)) (pe_ix ix_list (pv 2) pe_int (fun _ _ => rfl)) pe_str)))))))))))
abbrev st__law_field := top 102
theorem sc__law_field : FnScope ["_law_e"] ["_law_e"] (defScope st__law_field) := ⟨rfl, rfl, rfl, by decide +kernel, rfl, by decide +kernel, by decide +kernel⟩
def t__law_field (K : PySem.W.Frag) (D a dd : Addr) : TS := (tSeq (tIfS (tB (tCB (L2H.rIsXT K D a dd) (tCons (tVar 0) (tCons (tTup (tCons (tC (.ref (He.ga K "InvalidKnots"))) (tCons (tC (.ref (He.ga K "InvalidAmounts"))) (tCons (tC (.ref (He.ga K "InvalidPlaces"))) (tCons (tC (.ref (He.ga K "InvalidHeights"))) (tCons (tC (.ref (He.ga K "InvalidOffers"))) (tCons (tC (.ref (He.ga K "Broken"))) tNil))))))) tNil)))) tNever tNext)
    (tSeq (tIfS (tB (tCB (L2H.rIsX K D a dd) (tCons (tVar 0) (tCons (tC (.ref (He.ga K "NotOne"))) tNil)))) (tRet (L2H.tXfH a dd "rank" (tVar 0))) tNext)
    tNever))
theorem ps__law_field (T : Txt P K mg base) (TE : TxtE K mg D) (f : Addr) (cdv : Value) (A : Around) (outer : List Env) (s : Shared) (H : Hp) (E : XK) (p : Addr × Obj) (hh : L2H.HotX (L2H.cxH C8.CX0 P w K mg base ["_law_e"] "_law_field" (defScope st__law_field) f cdv A outer s H E p) a D dd) : PSs (L2H.cxH C8.CX0 P w K mg base ["_law_e"] "_law_field" (defScope st__law_field) f cdv A outer s H E p) (defBody st__law_field) (t__law_field K D a dd) :=
  (pss_cons (ps_if (pt_val (pe_callB (L2H.call_isXT TE.xc hh) (by rfl) T.f_isinstance (by decide +kernel) (pa_cons (pv 0) (pa_cons (pe_tup (pa_cons (C8.pe_gc rfl (TE.c "InvalidKnots" (by decide))) (pa_cons (C8.pe_gc rfl (TE.c "InvalidAmounts" (by decide))) (pa_cons (C8.pe_gc rfl (TE.c "InvalidPlaces" (by decide))) (pa_cons (C8.pe_gc rfl (TE.c "InvalidHeights" (by decide))) (pa_cons (C8.pe_gc rfl (TE.c "InvalidOffers" (by decide))) (pa_cons (C8.pe_gc rfl (TE.c "Broken" (by decide))) pa_nil))))))) pa_nil)))) (pss_one ps_never) pss_nil)
    (pss_cons (ps_if (pt_val (pe_callB (L2H.call_isX TE.xc hh) (by rfl) T.f_isinstance (by decide +kernel) (pa_cons (pv 0) (pa_cons (C8.pe_gc rfl (TE.c "NotOne" (by decide))) pa_nil)))) (pss_one (ps_ret (L2H.pe_xfH TE.xc TE.noN hh (pv 0) rfl))) pss_nil)
    (pss_one ps_never)))

end
end Bt
/-! ==== W29 ==== -/
set_option Elab.async false
set_option linter.all false
set_option maxRecDepth 100000
set_option maxHeartbeats 2000000
/-! What _law_class, _law_field tell of a NotOne. -/
namespace Bt
open PySem PySem.Spec PyProof.Rows L2 SW
abbrev IsTx (w : Str) : VP := IsV (.str w)
def IsPr (x : Str × Bool) : VP := fun v G => ∃ p, v = .ref p ∧ G p = some (.lst [.str x.1, .bl x.2])
instance (x : Str × Bool) : Stays (IsPr x) := ⟨fun _ _ _ e ⟨p, h1, h2⟩ => ⟨p, h1, e _ _ h2⟩⟩
section
variable {K : PySem.W.Frag} {mg : Str → Option Value} {a D dd : Addr} {ta tb tc te : TE} {σ : L2.St} {G : Hp}
theorem ep_lst2 {α : Type} {F : α → VP} {x y : α} [∀ x, Stays (F x)] (hx : Ep ta σ G (F x)) (hy : Ep tb σ G (F y)) : Ep (tLst (tCons ta (tCons tb tNil))) σ G (IsL F [x, y]) :=
  ep_lst1 (ea_cons hx (ea_cons hy ea_nil)) (fun vs H' ⟨_, _, h, _, _, _, h2, _, h3⟩ => by rw [h, h2, h3]; simp) fun p vs H' ⟨v, r, h, hv, w, r2, h2, hw, h3⟩ np => by
    rw [h, h2, h3]
    exact ⟨p, _, rfl, upd_same, up (Same.new np) hv, up (Same.new np) hw, trivial⟩
theorem ep_lst3 {α : Type} {F : α → VP} {x y z : α} [∀ x, Stays (F x)] (hx : Ep ta σ G (F x)) (hy : Ep tb σ G (F y)) (hz : Ep tc σ G (F z)) : Ep (tLst (tCons ta (tCons tb (tCons tc tNil)))) σ G (IsL F [x, y, z]) :=
  ep_lst1 (ea_cons hx (ea_cons hy (ea_cons hz ea_nil))) (fun vs H' ⟨_, _, h, _, _, _, h2, _, _, _, h3, _, h4⟩ => by rw [h, h2, h3, h4]; simp) fun p vs H' ⟨v, r, h, hv, w, r2, h2, hw, u, r3, h3, hu, h4⟩ np => by
    rw [h, h2, h3, h4]
    exact ⟨p, _, rfl, upd_same, up (Same.new np) hv, up (Same.new np) hw, up (Same.new np) hu, trivial⟩
theorem ep_pr {w : Str} {b : Bool} (h : Ep te σ G (IsB b)) : Ep (tLst (tCons (tC (.str w)) (tCons te tNil))) σ G (IsPr (w, b)) :=
  ep_lst1 (ea_cons (P := IsTx w) ep_c (ea_cons h ea_nil)) (fun vs H' ⟨_, _, h, _, _, _, h2, _, h3⟩ => by rw [h, h2, h3]; simp) fun p vs H' ⟨v, r, h, hv, w', r2, h2, hw, h3⟩ np => by
    have hv : v = .str w := hv
    have hw : w' = .bl b := hw
    rw [h, h2, h3, hv, hw]
    exact ⟨p, rfl, upd_same⟩
theorem gb_lst2 {i j : Nat} {p : Addr} {v w : V} (h : G p = some (.lst [v, w])) : Gb (gLst K 2 (gCons (gName i) (gCons (gName j) gNil))) (.ref p) σ G ((σ.set i (some v)).set j (some w)) := fun H1 s Q q =>
  ⟨p, _, rfl, SqL.of (s _ _ h), rfl, v, _, rfl, w, _, rfl, rfl, q⟩
theorem ep_isX {fs : List (Str × V)} (TE : TxtE K mg D) (ha : Ep ta σ G (IsV (.ref a))) (hd : G dd = some (.xd fs)) {x : Str} (hx : x ∈ excNames) : Ep (tCB (L2H.rIsX K D a dd) (tCons ta (tCons (tC (.ref (He.ga K x))) tNil))) σ G (IsB (decide (x = "NotOne" ∨ x = "NotPossible"))) :=
  ep_cb2 ha ep_c fun y z G1 H1 Q g s py pz q => ⟨z, .ref (He.ga K x), _, fs, by rw [show y = .ref a from py], fun u r => by
    have pz : z = .ref (He.ga K x) := pz
    subst pz
    exact r, s _ _ (g _ _ hd), TE.kit x hx, q _ G1 H1 (To.refl s) rfl⟩
theorem lst_eq {l m : List Str} (z : l = m) (h : Ep te σ G (IsL IsTx l)) : Ep te σ G (IsL IsTx m) := z ▸ h
theorem class_pure {fs : List (Str × V)} (TE : TxtE K mg D) (hd : G dd = some (.xd fs)) : Es (t__law_class K D a dd) (start ["_law_e", "_law_sorts", "_law_found", "_law_word", "_law_fits_here"] [.ref a]) G (IsTx "one") (fun _ _ => False) := by
  have k : ∀ {x : Str} {w : Str} {σ : L2.St} {G1 : Hp} (hx : x ∈ excNames), Same G G1 → σ[0]? = some (some (.ref a)) → Ep (tLst (tCons (tC (.str w)) (tCons (tCB (L2H.rIsX K D a dd) (tCons (tVar 0) (tCons (tC (.ref (He.ga K x))) tNil))) tNil))) σ G1 (IsPr (w, decide (x = "NotOne" ∨ x = "NotPossible"))) := fun hx s h => ep_pr (ep_isX TE (ep_v h) (s _ _ hd) hx)
  refine sq_asg (P := IsL IsPr _) (ep_lst2 (F := IsPr) (k (by decide) (Same.refl G) rfl) (k (by decide) (Same.refl G) rfl)) fun v1 G1 e1 p1 => ?_
  refine sq_asg (P := IsL IsPr _) (ep_cat (ep_var rfl p1) (ep_lst2 (F := IsPr) (k (by decide) e1 rfl) (k (by decide) e1 rfl)) (by decide)) fun v2 G2 e2 p2 => ?_
  have e2 := e1.trans e2
  refine sq_asg (P := IsL IsPr _) (ep_cat (ep_var rfl p2) (ep_lst2 (F := IsPr) (k (by decide) e2 rfl) (k (by decide) e2 rfl)) (by decide)) fun v3 G3 e3 p3 => ?_
  have e3 := e2.trans e3
  refine sq_asg (P := IsL IsPr _) (ep_cat (ep_var rfl p3) (ep_lst2 (F := IsPr) (k (by decide) e3 rfl) (k (by decide) e3 rfl)) (by decide)) fun v4 G4 e4 p4 => ?_
  have e4 := e3.trans e4
  refine sq_asg (P := IsL IsPr _) (ep_cat (ep_var rfl p4) (ep_lst2 (F := IsPr) (k (by decide) e4 rfl) (k (by decide) e4 rfl)) (by decide)) fun v5 G5 e5 p5 => ?_
  have e5 := e4.trans e5
  refine sq_asg (P := IsL IsPr _) (ep_cat (ep_var rfl p5) (ep_lst2 (F := IsPr) (k (by decide) e5 rfl) (k (by decide) e5 rfl)) (by decide)) fun v6 G6 e6 p6 => ?_
  have e6 := e5.trans e6
  refine sq_asg (P := IsL IsPr _) (ep_cat (ep_var rfl p6) (ep_lst3 (F := IsPr) (k (by decide) e6 rfl) (k (by decide) e6 rfl) (k (by decide) e6 rfl)) (by decide)) fun v7 G7 e7 p7 => ?_
  refine sq_asg (P := IsL IsTx ["one"]) ?_ fun v8 G8 e8 p8 => ?_
  · have h := ep_lc (R := IsTx) (te := tVar 3) (tt := tB (tVar 4)) (g := gLst K 2 (gCons (gName 3) (gCons (gName 4) gNil))) (vs := [3, 4]) (fun p : Str × Bool => p.2) (fun p => p.1) (it_list (K := K) (F := IsPr) (ep_var (σ := [some (.ref a), some v7, none, none, none]) (i := 1) rfl p7)) (by decide) fun i x v G9 hi s9 hx => by
      obtain ⟨p, rfl, hp⟩ := hx
      exact ⟨_, gb_lst2 hp, rfl, et_B (ep_v rfl), fun _ => ep_v rfl⟩
    exact lst_eq (by decide +kernel) h
  · exact es_ret (ep_if (c := true) ((et_test (ep_eqI (ep_len (F := IsTx) (Ep.sL (K := K) (ep_var rfl p8))) ep_c)).is (by decide)) (fun _ => ep_ixL (F := IsTx) (i := 0) (ep_var rfl p8) ep_c rfl) fun z => nomatch z)
theorem field_pure {n : V} (TE : TxtE K mg D) (hd : G dd = some (.xd [("rank", n)])) : Es (t__law_field K D a dd) (start ["_law_e"] [.ref a]) G (IsV n) (fun _ _ => False) := by
  have h1 : Ep (tCB (L2H.rIsXT K D a dd) (tCons (tVar 0) (tCons (tTup (tCons (tC (.ref (He.ga K "InvalidKnots"))) (tCons (tC (.ref (He.ga K "InvalidAmounts"))) (tCons (tC (.ref (He.ga K "InvalidPlaces"))) (tCons (tC (.ref (He.ga K "InvalidHeights"))) (tCons (tC (.ref (He.ga K "InvalidOffers"))) (tCons (tC (.ref (He.ga K "Broken"))) tNil))))))) tNil))) (start ["_law_e"] [.ref a]) G (IsB false) := fun G1 H1 g s Q q => by
    refine ⟨.ref a, rfl, ⟨by rw [sizeLine_eq]; exact (by decide : 6 ≤ 16777216), fun tp nt => ?_⟩⟩
    have k : ∀ x : Str, x ∈ excNames → decide (x = "NotOne" ∨ x = "NotPossible") = false → PySem.W.kitOne K (.ref D) (.ref (He.ga K x)) = some false := fun x hx e => by rw [TE.kit x hx, e]
    show L2H.rIsXT K D a dd [.ref a, .ref tp] _ Q
    refine ⟨tp, _, [.ref (He.ga K "InvalidKnots"), .ref (He.ga K "InvalidAmounts"), .ref (He.ga K "InvalidPlaces"), .ref (He.ga K "InvalidHeights"), .ref (He.ga K "InvalidOffers"), .ref (He.ga K "Broken")], false, [("rank", n)], rfl, upd_same, fun us r => ?_, ?_, ?_, ?_⟩
    · cases r with
      | cons r1 r => cases r with
        | cons r2 r => cases r with
          | cons r3 r => cases r with
            | cons r4 r => cases r with
              | cons r5 r => cases r with
                | cons r6 r =>
                  cases r
                  cases r1; cases r2; cases r3; cases r4; cases r5; cases r6
                  rfl
    · rw [upd_ne (ne_of_none (s _ _ (g _ _ hd)) nt)]
      exact s _ _ (g _ _ hd)
    · simp only [PySem.W.kitAny, k "InvalidKnots" (by decide) (by decide), k "InvalidAmounts" (by decide) (by decide), k "InvalidPlaces" (by decide) (by decide), k "InvalidHeights" (by decide) (by decide), k "InvalidOffers" (by decide) (by decide), k "Broken" (by decide) (by decide)]
    · exact q _ G1 _ (To.dull s (Same.new nt)) rfl
  refine sq_skip (et_B h1) ?_
  refine es_if (b := true) (N := fun _ _ => False) ((et_B (ep_isX TE (ep_v rfl) hd (x := "NotOne") (by decide))).is (by decide)) (fun _ => ?_) fun z => nomatch z
  refine es_ret fun G1 H1 g s Q q => ?_
  exact ⟨.ref a, rfl, rfl, _, n, s _ _ (g _ _ hd), by simp [List.lookup], q n G1 H1 (To.refl s) rfl⟩
section
variable {P : Program} {w : World} {base : Heap}
/-- of a NotOne, its rank n: the word, the rank -/
def sp__law_class (dd : Addr) (a : Addr) : Sp := fun vs H Q _ => ∃ G n, vs = [.ref a] ∧ Same G H ∧ G dd = some (.xd [("rank", n)]) ∧ ∀ v G2 H2, To G H G2 H2 → v = .str "one" → Q v H2
def sp__law_field (dd : Addr) (a : Addr) : Sp := fun vs H Q _ => ∃ G n, vs = [.ref a] ∧ Same G H ∧ G dd = some (.xd [("rank", n)]) ∧ ∀ v G2 H2, To G H G2 H2 → v = n → Q v H2
structure CalE (P : Program) (w : World) (K : PySem.W.Frag) (mg : Str → Option Value) (base : Heap) (D : Addr) (k : Nat) (x : Str) (sp : Addr → Addr → Sp) : Prop where
  ex : ∃ (f : Addr) (fd : FuncData), L2H.FnX P w K mg base D k f fd ["_law_e"] sp ∧ mg x = some (.ref f) ∧ PySem.W.keepIn K (.ref f) = true ∧ Binds K fd ["_law_e"] []
theorem calE_class (Dd_ : Dd K mg "_law_class" st__law_class) (T : Txt P K mg base) (TE : TxtE K mg D) : CalE P w K mg base D 1 "_law_class" (fun a dd => sp__law_class dd a) := by
  obtain ⟨f, fd, F, hm⟩ := Dd_.ex
  have b := F.bindsN (ps := ["_law_e"]) (fun _ _ _ _ _ _ us hl => match us, hl with | [_], _ => rfl)
  have kp := F.kp
  obtain ⟨oc, od, dV, kV, doc, pm, an, cdv, ct, osl, rfl, lk, hcd, hdv, hkv⟩ := F.ex
  refine ⟨f, _, L2H.fn_ofX lk hcd sc__law_class (fun a dd vs H Q E ⟨_, _, e, _⟩ => by rw [e]; rfl) fun A outer s H vs Q E p dd hh hr hs => ⟨t__law_class K D p.1 dd, ps__law_class T TE f cdv A outer s H E p hh, ?_⟩, hm, kp, b⟩
  obtain ⟨G, n, rfl, s0, hd, k⟩ := hs
  exact class_pure TE hd G H _ (Same.refl G) s0 (fun v G2 H2 t r => k v G2 H2 t r) fun _ _ _ _ z => z.elim
theorem calE_field (Dd_ : Dd K mg "_law_field" st__law_field) (T : Txt P K mg base) (TE : TxtE K mg D) : CalE P w K mg base D 1 "_law_field" (fun a dd => sp__law_field dd a) := by
  obtain ⟨f, fd, F, hm⟩ := Dd_.ex
  have b := F.bindsN (ps := ["_law_e"]) (fun _ _ _ _ _ _ us hl => match us, hl with | [_], _ => rfl)
  have kp := F.kp
  obtain ⟨oc, od, dV, kV, doc, pm, an, cdv, ct, osl, rfl, lk, hcd, hdv, hkv⟩ := F.ex
  refine ⟨f, _, L2H.fn_ofX lk hcd sc__law_field (fun a dd vs H Q E ⟨_, _, e, _⟩ => by rw [e]; rfl) fun A outer s H vs Q E p dd hh hr hs => ⟨t__law_field K D p.1 dd, ps__law_field T TE f cdv A outer s H E p hh, ?_⟩, hm, kp, b⟩
  obtain ⟨G, n, rfl, s0, hd, k⟩ := hs
  exact field_pure TE hd G H _ (Same.refl G) s0 (fun v G2 H2 t r => k v G2 H2 t r) fun _ _ _ _ z => z.elim
end
end
end Bt
/-! ==== W30 ==== -/
set_option Elab.async false
set_option linter.all false
set_option maxRecDepth 100000
set_option maxHeartbeats 2000000
/-! list.count of bools. -/
namespace L2
open PySem PySem.Spec PyProof.Rows
def eqb (k : Bool) : Value → Bool
  | .bool b => b == k
  | _ => false
theorem bools_of : ∀ {bs : List Bool} {its : List Value}, Vals (bs.map V.bl) its → its = bs.map Value.bool
  | [], _, .nil => rfl
  | b :: bs, _, .cons r t => by
    have r := r
    cases r
    rw [bools_of t]
    rfl
theorem eqb_count (k : Bool) : ∀ bs : List Bool, (bs.map Value.bool).countP (eqb k) = bs.count k
  | [] => rfl
  | b :: bs => by
    rw [List.map_cons, List.countP_cons, List.count_cons, eqb_count k bs]
    rfl
section
variable {X : Cx}
def rCntB (K : PySem.W.Frag) : V → List V → Hp → VK → Prop := fun x xs H Q => ∃ (p : Addr) (bs : List Bool) (k : Bool), x = .ref p ∧ xs = [.bl k] ∧ SqL K H p (bs.map V.bl) ∧ Q (.int (bs.count k : Nat)) H
theorem mt_bcount : MtR X "list.count" (rCntB X.K) := by
  intro pins s σ H x xs v us Q I rx rxs h
  obtain ⟨p, bs, k, rfl, rfl, hs, q⟩ := h
  cases rx
  obtain ⟨u, rfl, ru⟩ := rxs.one
  cases ru
  obtain ⟨its, rv, ⟨⟨cls, dd, data, sl⟩, n, ho, hc, hdn, hd⟩, hlen⟩ := I.list hs
  simp only at hc hd
  subst hc hd
  have hi := bools_of rv
  subst hi
  refine call_meets PySem.F.slot_list_count ⟨_, ho, rfl⟩ PySem.F.entry_list_count (PySem.F.args_list_count_2 _ _)
    (SeqAt.list_countAt p (bs.map Value.bool).toArray n dd sl (.bool k) (eqb k)) ⟨ho, fun y hy => ?_, ?_⟩
  · have hy : y ∈ bs.map Value.bool := by simpa using hy
    obtain ⟨b, _, rfl⟩ := List.mem_map.mp hy
    have h := eqAt_V (A := X.A.in1) (s := s) (y := .bl b) (x := .bl k) (u := .bool b) (v := .bool k) rfl rfl rfl rfl
    have e : eqV (.bl b) (.bl k) = eqb k (.bool b) := by cases b <;> cases k <;> rfl
    rw [e] at h
    exact h
  · refine ⟨.int (bs.count k : Nat), H, I.tok _, ⟨s.toks, ?_⟩, q⟩
    show Value.int (((bs.map Value.bool).toArray.toList.countP (eqb k) : Nat) : Int) s.toks = Value.int ((bs.count k : Nat) : Int) s.toks
    rw [show (bs.map Value.bool).toArray.toList.countP (eqb k) = bs.count k from eqb_count k bs]
end
end L2
/-! ==== M9 ==== -/
set_option Elab.async false
set_option linter.all false
set_option maxRecDepth 100000
set_option maxHeartbeats 2000000
/-! What the law asks of the curves, in plain numbers. -/
namespace Bt
open SW LS
/-! ### lists and functions -/
theorem qs_range (n : Nat) (f : Nat → Rat) : qs ((List.range n).map f) = sumN n f := by
  induction n with
  | zero => rfl
  | succ n ih => rw [List.range_succ, List.map_append, List.map_singleton, qs_snoc, ih]; rfl
theorem list_range {α : Type} (xs : List α) (d : α) : xs = (List.range xs.length).map fun i => xs.getD i d := by
  refine List.ext_getElem (by simp) fun i h1 h2 => ?_
  rw [List.getElem_map, List.getElem_range, List.getD_eq_getElem?_getD, List.getElem?_eq_getElem h1]
  rfl
theorem getD_map_range {n i : Nat} {f : Nat → Rat} (h : i < n) : ((List.range n).map f).getD i 0 = f i := by
  rw [List.getD_eq_getElem?_getD, List.getElem?_map, List.getElem?_range h]
  rfl
theorem zip_range {α β : Type} (n : Nat) (f : Nat → α) (g : Nat → β) : ((List.range n).map f).zip ((List.range n).map g) = (List.range n).map fun i => (f i, g i) := by
  refine List.ext_getElem (by simp) fun i h1 h2 => ?_
  simp
theorem gdot_range (n : Nat) (f g : Nat → Rat) : gdot ((List.range n).map f) ((List.range n).map g) = sumN n fun i => f i * g i := by
  unfold gdot prods
  rw [zip_range, List.map_map, ← qs_range]
  rfl
/-- the values of the hills at the places, the heights -/
def Af (f : Int × List Int) (xs : List Int) : Nat → Nat → Rat := fun p j => bmp f.2 (xs.getD p 0) f.1.toNat j
def hf (ys : List Int) : Nat → Rat := fun p => ((ys.getD p 0 : Int) : Rat)
def cf (c : List Rat) : Nat → Rat := fun j => c.getD j 0
section
variable {f : Int × List Int} {xs ys : List Int} {c d : List Rat}
theorem goals_range : goalsF ys = (List.range ys.length).map (hf ys) := by
  unfold goalsF
  conv => lhs; rw [list_range ys 0]
  rw [List.map_map]
  rfl
theorem gram_is (i j : Nat) : gdot (colF f xs i) (colF f xs j) = gram xs.length (Af f xs) i j := gdot_range _ _ _
theorem rhs_is (hl : ys.length = xs.length) (i : Nat) : gdot (colF f xs i) (goalsF ys) = rhs xs.length (Af f xs) (hf ys) i := by
  rw [goals_range, hl]
  exact gdot_range _ _ _
theorem row_dot (hc : c.length = nOf f) (p : Nat) : gdot c ((List.range (nOf f)).map fun j => Af f xs p j) = at_ (nOf f) (Af f xs) (cf c) p := by
  conv => lhs; rw [list_range c 0]
  rw [hc]
  exact gdot_range _ _ _
theorem gaps_range (hl : ys.length = xs.length) (hc : c.length = nOf f) : gapsF f xs ys c = (List.range xs.length).map (gap (nOf f) (Af f xs) (hf ys) (cf c)) := by
  unfold gapsF
  rw [grid_tab, goals_range, hl]
  show (((List.range xs.length).map fun i => (List.range (nOf f)).map fun j => Af f xs i j).zip _).map _ = _
  rw [zip_range, List.map_map]
  refine List.map_congr_left fun p _ => ?_
  show gdot c _ - hf ys p = _
  rw [row_dot hc]
  rfl
theorem miss_gaps : missF f xs ys c = gdot (gapsF f xs ys c) (gapsF f xs ys c) := by
  unfold missF gdot
  congr 1
  generalize gapsF f xs ys c = gs
  unfold sqsF prods
  refine List.ext_getElem (by simp) fun i h1 h2 => ?_
  simp
theorem miss_is (hl : ys.length = xs.length) (hc : c.length = nOf f) : missF f xs ys c = sqs xs.length (nOf f) (Af f xs) (hf ys) (cf c) := by
  rw [miss_gaps, gaps_range hl hc]
  exact gdot_range _ _ _
/-! ### what solved hands back -/
theorem ans_at {e : Nat → Nat → Rat} {st : List Nat} {n : Nat} (hs : st.Pairwise (· < ·)) : ∀ k j, (∀ i, i < k → st[i]? = some j → ansR e st n k j = e i n) ∧ ((∀ i, i < k → st[i]? ≠ some j) → ansR e st n k j = 0)
  | 0, j => ⟨fun i h => absurd h (by omega), fun _ => rfl⟩
  | k + 1, j => by
    obtain ⟨a, b⟩ := ans_at (e := e) (n := n) hs k j
    refine ⟨fun i hi hij => ?_, fun h => ?_⟩
    · show (if st[k]? = some j then e k n else ansR e st n k j) = _
      by_cases q : st[k]? = some j
      · rw [if_pos q]
        have : i = k := by
          rcases Nat.lt_trichotomy i k with z | z | z
          · have hk : k < st.length := by
              rcases Nat.lt_or_ge k st.length with y | y
              · exact y
              · rw [List.getElem?_eq_none y] at q
                cases q
            have := List.pairwise_iff_getElem.mp hs i k (by omega) hk z
            rw [List.getElem?_eq_getElem (by omega)] at hij
            rw [List.getElem?_eq_getElem hk] at q
            have e1 := Option.some.inj hij
            have e2 := Option.some.inj q
            omega
          · exact z
          · omega
        rw [this]
      · rw [if_neg q]
        refine a i ?_ hij
        rcases Nat.lt_or_ge i k with z | z
        · exact z
        · have : i = k := by omega
          rw [this] at hij
          exact absurd hij q
    · show (if st[k]? = some j then e k n else ansR e st n k j) = _
      rw [if_neg (h k (by omega))]
      exact b fun i hi => h i (by omega)
theorem barred_false {R n : Nat} {e : Nat → Nat → Rat} {st : List Nat} : barred R n e st = false ↔ ∀ i, st.length ≤ i → i < R → e i n = 0 := by
  unfold barred
  rw [List.any_eq_false]
  constructor
  · intro h i h1 h2
    have := h i (by rw [List.mem_range'_1]; omega)
    simpa using this
  · intro h i hi
    rw [List.mem_range'_1] at hi
    simpa using h i hi.1 (by omega)
theorem solF_sol {x : Mx} {gs : List Rat} (h : solF x gs = some c) : Sol x.R x.m (ext x gs) (cf c) := by
  unfold solF at h
  split at h
  · cases h
  · rename_i hb
    cases h
    have hb := barred_false.mp (by simpa using hb)
    have dn := red_done x.R (ext x gs) x.m
    rw [← red_sol x.R x.m (ext x gs) _ x.m]
    refine done_solve dn hb (fun k j hk => ?_) fun j hj => ?_
    · have hjn : j < x.m := dn.lt j (List.mem_of_getElem? hk)
      have hkl : k < (red x.R (ext x gs) x.m).2.length := by
        rcases Nat.lt_or_ge k (red x.R (ext x gs) x.m).2.length with y | y
        · exact y
        · rw [List.getElem?_eq_none y] at hk
          cases hk
      show ((List.range x.m).map _).getD j 0 = _
      rw [getD_map_range hjn]
      exact (ans_at dn.asc _ j).1 k hkl hk
    · show ((List.range x.m).map _).getD j 0 = 0
      by_cases hjn : j < x.m
      · rw [getD_map_range hjn]
        exact (ans_at dn.asc _ j).2 fun i _ z => hj (List.mem_of_getElem? z)
      · rw [List.getD_eq_getElem?_getD, List.getElem?_eq_none (by simpa using hjn)]
        rfl
theorem solF_none {x : Mx} {gs : List Rat} (h : solF x gs = none) : ∃ y : Nat → Rat, (∀ j, j < x.m → sumN x.R (fun k => y k * x.e k j) = 0) ∧ sumN x.R (fun k => y k * gs.getD k 0) ≠ 0 := by
  unfold solF at h
  split at h
  · rename_i hb
    have hb : ¬ ∀ i, (red x.R (ext x gs) x.m).2.length ≤ i → i < x.R → (red x.R (ext x gs) x.m).1 i x.m = 0 := fun z => by
      rw [barred_false.mpr z] at hb
      cases hb
    obtain ⟨i, h1, h2, h3⟩ : ∃ i, (red x.R (ext x gs) x.m).2.length ≤ i ∧ i < x.R ∧ (red x.R (ext x gs) x.m).1 i x.m ≠ 0 := Classical.byContradiction fun hn => hb fun i h1 h2 => Classical.byContradiction fun h3 => hn ⟨i, h1, h2, h3⟩
    obtain ⟨y, y1, y2⟩ := comb_bar (red_comb x.R x.m (ext x gs) x.m) h2 (fun j hj => (red_done x.R (ext x gs) x.m).zero i h1 h2 j hj) h3
    refine ⟨y, fun j hj => ?_, ?_⟩
    · rw [← y1 j hj]
      exact sum_congr fun k _ => by unfold ext; rw [if_pos hj]
    · intro z
      apply y2
      rw [← z]
      exact sum_congr fun k _ => by unfold ext; rw [if_neg (Nat.lt_irrefl _)]
  · cases h
theorem sol_some {x : Mx} {gs : List Rat} {v : Nat → Rat} (h : ∀ i, i < x.R → sumN x.m (fun j => x.e i j * v j) = gs.getD i 0) : ∃ c, solF x gs = some c := by
  cases q : solF x gs with
  | some c => exact ⟨c, rfl⟩
  | none =>
    obtain ⟨y, y1, y2⟩ := solF_none q
    refine absurd ?_ y2
    rw [sum_congr fun k hk => by rw [← h k hk, ← sum_mul], sum_swap]
    refine sum_zero fun j hj => ?_
    have e : ∀ k, y k * (x.e k j * v j) = (y k * x.e k j) * v j := fun k => by grind
    rw [sum_congr fun k _ => e k, sum_mulr, y1 j hj]
    grind
/-! ### the nearest -/
theorem solF_len' {x : Mx} {gs : List Rat} (h : solF x gs = some c) : c.length = x.m := by
  unfold solF at h
  split at h
  · cases h
  · cases h
    simp
theorem am_len (h : amF f xs ys = some c) : c.length = nOf f := solF_len' h
theorem am_some (hl : ys.length = xs.length) : ∃ c, amF f xs ys = some c := by
  cases q : amF f xs ys with
  | some c => exact ⟨c, rfl⟩
  | none =>
    obtain ⟨y, y1, y2⟩ := solF_none q
    refine absurd ?_ y2
    have e : ∀ k, k < nOf f → (rhsF f xs ys).getD k 0 = rhs xs.length (Af f xs) (hf ys) k := fun k hk => by
      unfold rhsF
      rw [getD_map_range hk, rhs_is hl]
    show sumN (nOf f) _ = 0
    rw [sum_congr fun k hk => by rw [e k hk]]
    refine no_bar y fun l hl' => ?_
    rw [← y1 l hl']
    exact sum_congr fun k _ => by rw [← gram_is]; rfl
theorem am_eqn (hl : ys.length = xs.length) (h : amF f xs ys = some c) {k : Nat} (hk : k < nOf f) : sumN (nOf f) (fun l => gram xs.length (Af f xs) k l * cf c l) = rhs xs.length (Af f xs) (hf ys) k := by
  have q := solF_sol h k hk
  unfold Eqn at q
  have e1 : ext (nMx f xs) (rhsF f xs ys) k (nMx f xs).m = rhs xs.length (Af f xs) (hf ys) k := by
    unfold ext
    rw [if_neg (Nat.lt_irrefl _)]
    unfold rhsF
    rw [getD_map_range hk, rhs_is hl]
  rw [e1] at q
  rw [← q]
  refine sum_congr fun l hl' => ?_
  have e2 : ext (nMx f xs) (rhsF f xs ys) k l = gram xs.length (Af f xs) k l := by
    rw [← gram_is]
    exact if_pos hl'
  rw [e2]
theorem ortho (hl : ys.length = xs.length) (h : amF f xs ys = some c) : ∀ k, k < nOf f → sumN xs.length (fun x => gap (nOf f) (Af f xs) (hf ys) (cf c) x * Af f xs x k) = 0 := fun _ hk => right_angles (am_eqn hl h hk)
/-- the gaps are at right angles to each hill -/
theorem gaps_right (hl : ys.length = xs.length) (h : amF f xs ys = some c) {k : Nat} (hk : k < nOf f) : gdot (gapsF f xs ys c) (colF f xs k) = 0 := by
  rw [gaps_range hl (am_len h)]
  show gdot _ ((List.range xs.length).map fun p => Af f xs p k) = 0
  rw [gdot_range]
  exact ortho hl h k hk
theorem miss_nonneg (hl : ys.length = xs.length) (hc : c.length = nOf f) : 0 ≤ missF f xs ys c := by
  rw [miss_is hl hc]
  exact sum_nonneg fun x _ => sq_nonneg _
theorem miss_least (hl : ys.length = xs.length) (h : amF f xs ys = some c) (hd : d.length = nOf f) : missF f xs ys c ≤ missF f xs ys d := by
  rw [miss_is hl (am_len h), miss_is hl hd, pythagoras (d := cf d) (ortho hl h)]
  have := sum_nonneg (n := xs.length) (f := fun x => at_ (nOf f) (Af f xs) (fun k => cf d k - cf c k) x * at_ (nOf f) (Af f xs) (fun k => cf d k - cf c k) x) fun x _ => sq_nonneg _
  grind
theorem thr_miss (hl : ys.length = xs.length) (h : amF f xs ys = some c) : (∃ e, thrF f xs ys = some e) ↔ missF f xs ys c = 0 := by
  constructor
  · rintro ⟨e, he⟩
    have s := solF_sol he
    have z : sqs xs.length (nOf f) (Af f xs) (hf ys) (cf e) = 0 := sum_zero fun p hp => by
      have q := s p hp
      unfold Eqn at q
      have e1 : ext (gMx f xs) (goalsF ys) p (gMx f xs).m = hf ys p := by
        unfold ext
        rw [if_neg (Nat.lt_irrefl _), goals_range, getD_map_range (by rw [hl]; exact hp)]
      rw [e1] at q
      have : gap (nOf f) (Af f xs) (hf ys) (cf e) p = 0 := by
        unfold gap at_
        rw [← q]
        have : sumN (gMx f xs).m (fun j => ext (gMx f xs) (goalsF ys) p j * cf e j) = sumN (nOf f) fun k => cf e k * Af f xs p k := sum_congr fun j hj => by
          unfold ext
          rw [if_pos hj]
          show Af f xs p j * _ = _
          grind
        rw [this]
        grind
      rw [this]
      grind
    have k := miss_least hl h (d := e) (solF_len' he)
    have k2 := miss_nonneg (f := f) hl (am_len h)
    rw [miss_is hl (solF_len' he : e.length = nOf f), z] at k
    grind
  · intro z
    rw [miss_is hl (am_len h)] at z
    have g := sum_null (fun x _ => sq_nonneg _) z
    refine sol_some (v := cf c) fun p hp => ?_
    have q := sq_null (g p hp)
    rw [goals_range, getD_map_range (by rw [hl]; exact hp)]
    unfold gap at_ at q
    have : sumN (gMx f xs).m (fun j => (gMx f xs).e p j * cf c j) = sumN (nOf f) fun k => cf c k * Af f xs p k := sum_congr fun j _ => by
      show Af f xs p j * _ = _
      grind
    rw [this]
    grind
/-- the amounts, that at k changed -/
def movedF (c : List Rat) (k : Nat) : List Rat := c.take k ++ (c.getD k 0 + 1 / 5) :: c.drop (k + 1)
theorem moved_len {k : Nat} (h : k < c.length) : (movedF c k).length = c.length := by
  unfold movedF
  simp
  omega
theorem moved_get {k : Nat} (h : k < c.length) (j : Nat) : cf (movedF c k) j = if j = k then cf c j + 1 / 5 else cf c j := by
  unfold cf movedF
  simp only [List.getD_eq_getElem?_getD]
  rcases Nat.lt_trichotomy j k with z | z | z
  · rw [if_neg (by omega), List.getElem?_append_left (by simp; omega), List.getElem?_take_of_lt z]
  · subst z
    rw [if_pos rfl, List.getElem?_append_right (by simp; omega)]
    have : j - (List.take j c).length = 0 := by simp; omega
    rw [this]
    rfl
  · rw [if_neg (by omega), List.getElem?_append_right (by simp; omega)]
    have : j - (List.take k c).length = (j - k - 1) + 1 := by simp; omega
    rw [this, List.getElem?_cons_succ, List.getElem?_drop]
    have : k + 1 + (j - k - 1) = j := by omega
    rw [this]
theorem kn_of (hf' : FrOk f) (h1 : 1 ≤ nOf f) : Kn f.2 f.1.toNat (nOf f) := by
  have g0 := hf'.g0
  have ls := hf'.least
  have hlen : f.2.length = nOf f + f.1.toNat + 1 := by unfold nOf; omega
  have at' : ∀ i, i < f.2.length → f.2[i]? = some (kn f.2 i) := fun i hi => by
    unfold kn
    rw [List.getD_eq_getElem?_getD, List.getElem?_eq_getElem hi]
    rfl
  have le : ∀ i j, i ≤ j → j < f.2.length → kn f.2 i ≤ kn f.2 j := fun i j hij => by
    induction j with
    | zero =>
      intro hj
      have : i = 0 := by omega
      rw [this]
      exact Int.le_refl _
    | succ j ih =>
      intro hj
      by_cases e : i = j + 1
      · rw [e]
        exact Int.le_refl _
      · exact Int.le_trans (ih (by omega) (by omega)) (hf'.up j _ _ (at' j (by omega)) (at' (j + 1) hj))
  refine ⟨hlen, h1, le, fun i hi => ?_⟩
  have a := le i (i + f.1.toNat + 1) (by omega) (by omega)
  have b := hf'.wide i _ _ (at' i (by omega)) (at' (i + f.1.toNat + 1) (by omega))
  omega
theorem miss_strict (hf' : FrOk f) (h1 : 1 ≤ nOf f) (hl : ys.length = xs.length) (h : amF f xs ys = some c) (hr : rankF f xs = nOf f) {k : Nat} (hk : k < nOf f) : missF f xs ys c < missF f xs ys (movedF c k) := by
  have hc := am_len h
  have hm : (movedF c k).length = nOf f := by rw [moved_len (by omega), hc]
  rw [miss_is hl hc, miss_is hl hm, pythagoras (d := cf (movedF c k)) (ortho hl h)]
  obtain ⟨x, hx, hu⟩ := lng_full (nOf f) hr (nOf f - (k + 1)) (by omega)
  have ek : nOf f - (nOf f - (k + 1) + 1) = k := by omega
  rw [ek] at hu
  have pos : 0 < bmp f.2 x f.1.toNat k := bmp_pos (kn_of hf' h1) hk hu
  obtain ⟨p, hp⟩ := List.getElem?_of_mem hx
  have hpl : p < xs.length := by
    rcases Nat.lt_or_ge p xs.length with y | y
    · exact y
    · rw [List.getElem?_eq_none y] at hp
      cases hp
  have ea : Af f xs p k = bmp f.2 x f.1.toNat k := by
    unfold Af
    rw [List.getD_eq_getElem?_getD, hp]
    rfl
  have es : at_ (nOf f) (Af f xs) (fun j => cf (movedF c k) j - cf c j) p = 1 / 5 * Af f xs p k := by
    unfold at_
    rw [sum_single hk fun j hj hne => ?_]
    · show (cf (movedF c k) k - cf c k) * _ = _
      rw [moved_get (by omega), if_pos rfl]
      grind
    · show (cf (movedF c k) j - cf c j) * _ = _
      rw [moved_get (by omega), if_neg hne]
      grind
  have q := sum_pos (n := xs.length) (k := p) (f := fun x => at_ (nOf f) (Af f xs) (fun j => cf (movedF c k) j - cf c j) x * at_ (nOf f) (Af f xs) (fun j => cf (movedF c k) j - cf c j) x) (fun x _ => sq_nonneg _) hpl (sq_pos (by
    rw [es, ea]
    grind))
  grind
theorem rank_law (hf' : FrOk f) (h1 : 1 ≤ nOf f) (hs : xs.Pairwise (· < ·)) : rankL ((gridF f xs).map scaleOf) = rankF f xs := rank_grid (kn_of hf' h1) hs
end
end Bt
/-! ==== Z3 ==== -/
set_option Elab.async false
set_option linter.all false
set_option maxRecDepth 100000
set_option maxHeartbeats 2000000
/-! Sizes of all that the law meets. -/
namespace Bt
open SW LS
/-! ### over one common bottom -/
def Cd (D : Int) (e b : Nat) (q : Rat) : Prop := ∃ u E : Int, E ≠ 0 ∧ E.natAbs < 2 ^ e ∧ u.natAbs < 2 ^ b ∧ q = (u : Rat) / ((D * E : Int) : Rat)
theorem pow_le {a b x : Nat} (h : x < 2 ^ a) (e : a ≤ b) : x < 2 ^ b := Nat.lt_of_lt_of_le h (Nat.pow_le_pow_right (by decide) e)
section
variable {D D' : Int} {d d' e b e' b' : Nat} {p q : Rat}
theorem Cd.mono (h : Cd D e b q) (k1 : e ≤ e') (k2 : b ≤ b') : Cd D e' b' q := by
  obtain ⟨u, E, h0, h1, h2, h3⟩ := h
  exact ⟨u, E, h0, pow_le h1 k1, pow_le h2 k2, h3⟩
theorem Cd.sz (h : Cd D e b q) (hD : D.natAbs < 2 ^ d) (h0 : D ≠ 0) {s : Nat} (k1 : d + e ≤ s) (k2 : b ≤ s) : Sz s q := by
  obtain ⟨u, E, g0, h1, h2, h3⟩ := h
  rw [h3]
  refine sz_div (pow_le h2 k2) (pow_le ?_ k1) fun z => ?_
  · rw [Int.natAbs_mul]
    exact mul_lt_pow hD h1
  · rcases Int.mul_eq_zero.mp z with z | z
    · exact h0 z
    · exact g0 z
theorem Cd.add (h0 : D ≠ 0) (h : Cd D e b p) (k : Cd D e' b' q) {s : Nat} (k1 : b + e' + 1 ≤ s) (k2 : b' + e + 1 ≤ s) : Cd D (e + e') s (p + q) := by
  obtain ⟨u, E, g0, h1, h2, rfl⟩ := h
  obtain ⟨w, F, f0, i1, i2, rfl⟩ := k
  refine ⟨u * F + w * E, E * F, fun z => (Int.mul_eq_zero.mp z).elim g0 f0, ?_, ?_, ?_⟩
  · rw [Int.natAbs_mul]
    exact mul_lt_pow h1 i1
  · have a1 := pow_le (mul_lt_pow h2 i1) (b := s - 1) (by omega)
    have a2 := pow_le (mul_lt_pow i2 h1) (b := s - 1) (by omega)
    refine Nat.lt_of_le_of_lt (Int.natAbs_add_le _ _) ?_
    rw [Int.natAbs_mul, Int.natAbs_mul]
    have : (2 : Nat) ^ s = 2 ^ (s - 1) * 2 := by rw [← Nat.pow_succ]; congr 1; omega
    omega
  · have n1 := cast_ne h0
    have n2 := cast_ne g0
    have n3 := cast_ne f0
    simp only [Rat.intCast_mul, Rat.intCast_add]
    generalize ((u : Int) : Rat) = x at *
    generalize ((w : Int) : Rat) = y at *
    generalize ((D : Int) : Rat) = z at *
    generalize ((E : Int) : Rat) = x' at *
    generalize ((F : Int) : Rat) = y' at *
    grind
theorem Cd.neg (h : Cd D e b p) : Cd D e b (-p) := by
  obtain ⟨u, E, g0, h1, h2, rfl⟩ := h
  refine ⟨-u, E, g0, h1, by rw [Int.natAbs_neg]; exact h2, ?_⟩
  rw [Rat.intCast_neg]
  grind
theorem Cd.mul (h0 : D ≠ 0) (h0' : D' ≠ 0) (h : Cd D e b p) (k : Cd D' e' b' q) : Cd (D * D') (e + e') (b + b') (p * q) := by
  obtain ⟨u, E, g0, h1, h2, rfl⟩ := h
  obtain ⟨w, F, f0, i1, i2, rfl⟩ := k
  refine ⟨u * w, E * F, fun z => (Int.mul_eq_zero.mp z).elim g0 f0, ?_, ?_, ?_⟩
  · rw [Int.natAbs_mul]
    exact mul_lt_pow h1 i1
  · rw [Int.natAbs_mul]
    exact mul_lt_pow h2 i2
  · have n1 := cast_ne h0
    have n1' := cast_ne h0'
    have n2 := cast_ne g0
    have n3 := cast_ne f0
    simp only [Rat.intCast_mul]
    generalize ((u : Int) : Rat) = x at *
    generalize ((w : Int) : Rat) = y at *
    generalize ((D : Int) : Rat) = z at *
    generalize ((D' : Int) : Rat) = z' at *
    generalize ((E : Int) : Rat) = x' at *
    generalize ((F : Int) : Rat) = y' at *
    grind
theorem Sz.cd (h : Sz b q) (h0 : D ≠ 0) (hD : D.natAbs < 2 ^ d) : Cd D b (b + d) q := by
  refine ⟨q.num * D, (q.den : Int), fun z => ?_, ?_, ?_, ?_⟩
  · have := q.den_nz
    omega
  · rw [Int.natAbs_natCast]
    exact h.2
  · rw [Int.natAbs_mul]
    exact mul_lt_pow h.1 hD
  · have n1 := cast_ne h0
    have n2 : ((q.den : Int) : Rat) ≠ 0 := cast_ne fun z => by have := q.den_nz; omega
    have e := den_mul q
    rw [← Rat.intCast_natCast] at e
    simp only [Rat.intCast_mul]
    generalize ((q.num : Int) : Rat) = x at *
    generalize ((D : Int) : Rat) = z at *
    generalize ((q.den : Int) : Rat) = y at *
    grind
theorem Sz.cd1 (h : Sz b q) : Cd 1 b b q := by
  refine ⟨q.num, (q.den : Int), fun z => ?_, ?_, h.1, ?_⟩
  · have := q.den_nz
    omega
  · rw [Int.natAbs_natCast]
    exact h.2
  · have n2 : ((q.den : Int) : Rat) ≠ 0 := cast_ne fun z => by have := q.den_nz; omega
    have e := den_mul q
    rw [← Rat.intCast_natCast] at e
    simp only [Rat.intCast_mul]
    generalize ((q.num : Int) : Rat) = x at *
    generalize ((q.den : Int) : Rat) = y at *
    grind
theorem cd_qs (h0 : D ≠ 0) : ∀ (xs : List Rat), (∀ x ∈ xs, Cd D e b x) → Cd D (1 + xs.length * e) (b + 1 + xs.length * (e + 1)) (qs xs) := fun xs => by
  suffices ∀ n, ∀ xs : List Rat, xs.length = n → (∀ x ∈ xs, Cd D e b x) → Cd D (1 + n * e) (b + 1 + n * (e + 1)) (qs xs) from this xs.length xs rfl
  intro n
  induction n with
  | zero =>
    intro xs hl _
    have : xs = [] := List.length_eq_zero_iff.mp hl
    subst this
    refine ⟨0, 1, by decide, by rw [Nat.zero_mul]; decide, ?_, ?_⟩
    · show 0 < _
      exact Nat.pow_pos (by decide)
    · show (0 : Rat) = _
      rw [Rat.intCast_zero]
      grind
  | succ n ih =>
    intro xs hl hx
    have hne : xs ≠ [] := fun z => by rw [z] at hl; cases hl
    rw [← List.dropLast_concat_getLast hne, qs_snoc]
    have a := ih xs.dropLast (by rw [List.length_dropLast]; omega) fun x hx' => hx x (List.dropLast_subset xs hx')
    have c := hx _ (List.getLast_mem hne)
    have r := a.add h0 c (s := b + 1 + (n + 1) * (e + 1)) (by rw [Nat.add_mul n 1 (e + 1)]; omega) (by rw [Nat.add_mul n 1 (e + 1), Nat.mul_add n e 1]; omega)
    refine r.mono (by rw [Nat.add_mul]; omega) (Nat.le_refl _)
/-- sums of up to N -/
theorem fits (h0 : D ≠ 0) (hD : D.natAbs < 2 ^ d) {xs : List Rat} {N : Nat} (h : ∀ x ∈ xs, Cd D e b x) (hN : xs.length ≤ N) (k1 : d + (1 + N * e) ≤ big) (k2 : b + 1 + N * (e + 1) ≤ big) : FitS xs := by
  refine ⟨fun x hx => ?_, fun k => ?_⟩
  · cases N with
    | zero =>
      have : xs = [] := List.length_eq_zero_iff.mp (by omega)
      rw [this] at hx
      cases hx
    | succ N =>
      rw [Nat.add_mul] at k1 k2
      exact ((h x hx).sz hD h0 (s := big) (by omega) (by omega)).fit (Nat.le_refl _)
  · have hl : (xs.take k).length ≤ N := Nat.le_trans (List.length_take_le' k xs) hN
    have q := cd_qs h0 (xs.take k) fun x hx => h x (List.mem_of_mem_take hx)
    have m1 : (xs.take k).length * e ≤ N * e := Nat.mul_le_mul_right _ hl
    have m2 : (xs.take k).length * (e + 1) ≤ N * (e + 1) := Nat.mul_le_mul_right _ hl
    exact (q.sz hD h0 (s := big) (by omega) (by omega)).fit (Nat.le_refl _)
end
theorem fits_all {xs : List Rat} (h : FitS xs) : FitF (qs xs) := by
  have := h.2 xs.length
  rw [List.take_length] at this
  exact this
theorem rs_sz {s : Nat} {r : Nat → Rat} : ∀ m, (∀ j, j < m → Sz s (r j)) → Rs (m * s + 1) m r
  | 0, _ => ⟨1, fun _ => 0, by decide, by rw [Nat.zero_mul]; decide, fun j hj => absurd hj (by omega)⟩
  | m + 1, h => by
    obtain ⟨D, u, h0, h1, h2⟩ := rs_sz (s := s) (r := r) m fun j hj => h j (by omega)
    have hm := h m (by omega)
    have dn : ((r m).den : Int) ≠ 0 := fun z => by have := (r m).den_nz; omega
    have eb : (m + 1) * s + 1 = (m * s + 1) + s := by rw [Nat.add_mul]; omega
    refine ⟨D * ((r m).den : Int), fun j => if j < m then u j * ((r m).den : Int) else (r m).num * D, fun z => (Int.mul_eq_zero.mp z).elim h0 dn, ?_, fun j hj => ?_⟩
    · rw [eb, Int.natAbs_mul, Int.natAbs_natCast]
      exact mul_lt_pow h1 hm.2
    · have n1 := cast_ne h0
      have n2 := cast_ne dn
      by_cases c : j < m
      · show r j = ((if j < m then u j * ((r m).den : Int) else _ : Int) : Rat) / _ ∧ (if j < m then u j * ((r m).den : Int) else _ : Int).natAbs < _
        rw [if_pos c]
        obtain ⟨e1, e2⟩ := h2 j c
        refine ⟨?_, ?_⟩
        · rw [e1]
          simp only [Rat.intCast_mul]
          generalize ((u j : Int) : Rat) = x at *
          generalize ((D : Int) : Rat) = z at *
          generalize (((r m).den : Int) : Rat) = y at *
          grind
        · rw [eb, Int.natAbs_mul, Int.natAbs_natCast]
          exact mul_lt_pow e2 hm.2
      · have : j = m := by omega
        subst this
        show r j = ((if j < j then u j * ((r j).den : Int) else (r j).num * D : Int) : Rat) / _ ∧ (if j < j then u j * ((r j).den : Int) else (r j).num * D : Int).natAbs < _
        rw [if_neg c]
        refine ⟨?_, ?_⟩
        · have e := den_mul (r j)
          rw [← Rat.intCast_natCast] at e
          simp only [Rat.intCast_mul]
          generalize r j = w at *
          generalize ((w.num : Int) : Rat) = x at *
          generalize ((D : Int) : Rat) = z at *
          generalize ((w.den : Int) : Rat) = y at *
          grind
        · rw [eb, Int.natAbs_mul, Nat.add_comm]
          exact mul_lt_pow hm.1 h1
theorem cd_row {s : Nat} {c : List Rat} (h : ∀ q ∈ c, Sz s q) : ∃ D : Int, D ≠ 0 ∧ D.natAbs < 2 ^ (c.length * s + 1) ∧ ∀ q ∈ c, Cd D 1 (c.length * s + 1) q := by
  obtain ⟨D, u, h0, h1, h2⟩ := rs_sz (s := s) (r := fun j => c.getD j 0) c.length fun j hj => by
    rw [List.getD_eq_getElem?_getD, List.getElem?_eq_getElem hj]
    exact h _ (List.getElem_mem hj)
  refine ⟨D, h0, h1, fun q hq => ?_⟩
  obtain ⟨j, hj, rfl⟩ := List.getElem_of_mem hq
  obtain ⟨e1, e2⟩ := h2 j hj
  have e1 : c.getD j 0 = _ := e1
  rw [List.getD_eq_getElem?_getD, List.getElem?_eq_getElem hj] at e1
  refine ⟨u j, 1, by decide, by decide, e2, ?_⟩
  rw [Int.mul_one]
  exact e1
theorem sz_int {y : Int} {b : Nat} (h : y.natAbs < 2 ^ b) (h1 : 1 ≤ b) : Sz b (y : Rat) := ⟨h, by
  show 1 < 2 ^ b
  have : (2 : Nat) ^ 1 ≤ 2 ^ b := Nat.pow_le_pow_right (by decide) h1
  omega⟩
theorem prods_mem {xs ys : List Rat} {x : Rat} (h : x ∈ prods xs ys) : ∃ a ∈ xs, ∃ b ∈ ys, x = a * b := by
  unfold prods at h
  obtain ⟨⟨a, b⟩, h1, rfl⟩ := List.mem_map.mp h
  exact ⟨a, (List.of_mem_zip h1).1, b, (List.of_mem_zip h1).2, rfl⟩
theorem prods_len {xs ys : List Rat} : (prods xs ys).length ≤ xs.length := by
  unfold prods
  rw [List.length_map, List.length_zip]
  exact Nat.min_le_left _ _
/-! ### the law's frames, places, heights -/
def bA : Nat := 631
structure Ok (f : Int × List Int) (xs ys : List Int) : Prop where
  dr : DrOk f
  si : SiOk xs
  lv : ∀ y ∈ ys, LvOk y
  len : ys.length = xs.length
section
variable {f : Int × List Int} {xs ys : List Int} {c : List Rat}
theorem Ok.a (o : Ok f xs ys) (x : Int) (hx : x ∈ xs) (j : Nat) : Sz bA (bmp f.2 x f.1.toNat j) := by
  have g0 := o.dr.fr.g0
  have g4 := o.dr.fr.g4
  exact (bmp_sz (K := f.2) (fun k hk => o.dr.fr.lo k hk) (o.si.pl.lo x hx) f.1.toNat j).mono (bb_le (by omega))
theorem Ok.col (o : Ok f xs ys) (i : Nat) : ∀ q ∈ colF f xs i, Sz bA q := fun q hq => by
  obtain ⟨p, hp, rfl⟩ := List.mem_map.mp hq
  rw [List.mem_range] at hp
  refine o.a _ ?_ i
  rw [List.getD_eq_getElem?_getD, List.getElem?_eq_getElem hp]
  exact List.getElem_mem hp
theorem Ok.row (o : Ok f xs ys) {r : List Rat} (hr : r ∈ gridF f xs) : (∀ q ∈ r, Sz bA q) ∧ r.length = nOf f := by
  obtain ⟨x, hx, rfl⟩ := List.mem_map.mp hr
  refine ⟨fun q hq => ?_, by simp [rowOf]⟩
  obtain ⟨i, _, rfl⟩ := List.mem_map.mp hq
  exact o.a x hx i
theorem Ok.goal (o : Ok f xs ys) : ∀ q ∈ goalsF ys, Sz 67 q := fun q hq => by
  obtain ⟨y, hy, rfl⟩ := List.mem_map.mp hq
  have := o.lv y hy
  unfold LvOk at this
  exact sz_int (by have : (2 : Nat) ^ 67 = 147573952589676412928 := by decide
                   omega) (by decide)
theorem col_len (i : Nat) : (colF f xs i).length = xs.length := by simp [colF]
theorem goals_len : (goalsF ys).length = ys.length := by simp [goalsF]
theorem fitS_prods {a b N : Nat} {us vs : List Rat} (h : ∀ q ∈ us, Sz a q) (k : ∀ q ∈ vs, Sz b q) (hl : us.length ≤ N) (hs : 2 + N * (a + b) ≤ big) (hs2 : a + b + 1 + N * (a + b + 1) ≤ big) : FitS (prods us vs) :=
  fits (D := 1) (d := 1) (e := a + b) (b := a + b) (by decide) (by decide) (fun x hx => by
    obtain ⟨p, hp, q, hq, rfl⟩ := prods_mem hx
    exact ((h p hp).mul (k q hq)).cd1) (Nat.le_trans prods_len hl) (by omega) (by omega)
theorem fitD_of {a b N : Nat} {us vs : List Rat} (h : ∀ q ∈ us, Sz a q) (k : ∀ q ∈ vs, Sz b q) (hl : us.length ≤ N) (hN : N ≤ 1000) (hb : b ≤ big) (ha : a ≤ big) (hs : 2 + N * (a + b) ≤ big) (hs2 : a + b + 1 + N * (a + b + 1) ≤ big) : FitD us vs :=
  ⟨fun q hq => (h q hq).fit ha, fun q hq => (k q hq).fit hb, fitS_prods h k hl hs hs2, by omega⟩
theorem dot_sz {a b N : Nat} {us vs : List Rat} (h : ∀ q ∈ us, Sz a q) (k : ∀ q ∈ vs, Sz b q) (hl : us.length ≤ N) : Sz (a + b + 2 + N * (a + b + 1)) (gdot us vs) := by
  have q := cd_qs (D := 1) (e := a + b) (b := a + b) (by decide) (prods us vs) fun x hx => by
    obtain ⟨p, hp, q, hq, rfl⟩ := prods_mem hx
    exact ((h p hp).mul (k q hq)).cd1
  have hl : (prods us vs).length ≤ N := Nat.le_trans prods_len hl
  have m1 : (prods us vs).length * (a + b) ≤ N * (a + b) := Nat.mul_le_mul_right _ hl
  have m2 : (prods us vs).length * (a + b + 1) ≤ N * (a + b + 1) := Nat.mul_le_mul_right _ hl
  have m3 : N * (a + b) ≤ N * (a + b + 1) := Nat.mul_le_mul_left _ (by omega)
  exact q.sz (d := 1) (by decide) (by decide) (by omega) (by omega)
theorem Ok.inr (o : Ok f xs ys) : InR xs := o.si.pl.lo
/-- 12.6k bits for an entry of the normal equations -/
theorem Ok.gram (o : Ok f xs ys) (i j : Nat) : FitD (colF f xs i) (colF f xs j) ∧ Sz 13000 (gdot (colF f xs i) (colF f xs j)) := by
  have hl : (colF f xs i).length ≤ 9 := by rw [col_len]; exact o.si.few
  exact ⟨fitD_of (o.col i) (o.col j) hl (by decide) (by decide) (by decide) (by decide) (by decide), (dot_sz (o.col i) (o.col j) hl).mono (by decide)⟩
theorem Ok.rhs (o : Ok f xs ys) (i : Nat) : FitD (colF f xs i) (goalsF ys) ∧ Sz 13000 (gdot (colF f xs i) (goalsF ys)) := by
  have hl : (colF f xs i).length ≤ 9 := by rw [col_len]; exact o.si.few
  exact ⟨fitD_of (o.col i) o.goal hl (by decide) (by decide) (by decide) (by decide) (by decide), (dot_sz (o.col i) o.goal hl).mono (by decide)⟩
def bG : Nat := 6 * 13000 + 1
theorem ext_rs {x : Mx} {gs : List Rat} {s i : Nat} (h : ∀ j, j < x.m → Sz s (x.e i j)) (k : Sz s (gs.getD i 0)) (hm : x.m ≤ 5) (hb : 6 * s + 1 ≤ bG) : Rs bG (x.m + 1) (ext x gs i) := by
  refine (rs_sz (s := s) (x.m + 1) fun j hj => ?_).mono ?_
  · unfold ext
    split
    · rename_i c
      exact h j c
    · exact k
  · have : (x.m + 1) * s ≤ 6 * s := Nat.mul_le_mul_right _ (by omega)
    omega
theorem bits_ok {n : Nat} (h : n ≤ 5) : 2 * it n bG ≤ big := by
  have := it_mono bG h
  have e : 2 * it 5 bG ≤ big := by decide
  omega
theorem Ok.rsN (o : Ok f xs ys) {i : Nat} (hi : i < nOf f) : Rs bG (nOf f + 1) (ext (nMx f xs) (rhsF f xs ys) i) := by
  refine ext_rs (x := nMx f xs) (s := 13000) (fun j _ => (o.gram i j).2) ?_ o.dr.few (by decide)
  unfold rhsF
  rw [List.getD_eq_getElem?_getD, List.getElem?_map, List.getElem?_range hi]
  exact (o.rhs i).2
theorem Ok.sol (o : Ok f xs ys) : SolOk (nMx f xs) (rhsF f xs ys) (nOf f) := by
  have few := o.dr.few
  exact ⟨rfl, by simp [rhsF, nMx], bG, ⟨⟨show nOf f ≤ 100 by omega, show nOf f + 1 ≤ 100 by omega⟩, Nat.le_succ _, fun i hi => o.rsN hi, bits_ok few⟩⟩
theorem Ok.na (o : Ok f xs ys) : NaOk f xs ys :=
  ⟨o.dr.fr, o.inr, by have := o.si.few; omega, o.len, fun i j _ _ => (o.gram i j).1, fun i _ => (o.rhs i).1, o.sol⟩
theorem Ok.pt (o : Ok f xs ys) : PtOk f xs ys :=
  ⟨o.na, o.si.pl, ⟨by rw [o.len], by have := o.si.few; have := o.len; omega, fun y hy => o.lv y hy⟩⟩
theorem Ok.thr (o : Ok f xs ys) : SolOk (gMx f xs) (goalsF ys) (nOf f) := by
  have few := o.dr.few
  have nine := o.si.few
  refine ⟨rfl, by rw [goals_len]; exact o.len, bG, ⟨⟨show xs.length ≤ 100 by omega, show nOf f + 1 ≤ 100 by omega⟩, Nat.le_succ _, fun i hi => ?_, bits_ok few⟩⟩
  have hi : i < xs.length := hi
  refine ext_rs (x := gMx f xs) (s := bA) (fun j _ => ?_) ?_ few (by decide)
  · refine o.a _ ?_ j
    rw [List.getD_eq_getElem?_getD, List.getElem?_eq_getElem hi]
    exact List.getElem_mem hi
  · refine (o.goal _ ?_).mono (by decide)
    rw [List.getD_eq_getElem?_getD, List.getElem?_eq_getElem (by rw [goals_len, o.len]; exact hi)]
    exact List.getElem_mem _
theorem ansR_mem (e : Nat → Nat → Rat) (st : List Nat) (n : Nat) : ∀ k j, ansR e st n k j = 0 ∨ ∃ i, i < k ∧ ansR e st n k j = e i n
  | 0, _ => .inl rfl
  | k + 1, j => by
    unfold ansR
    split
    · exact .inr ⟨k, by omega, rfl⟩
    · rcases ansR_mem e st n k j with h | ⟨i, h1, h2⟩
      · exact .inl h
      · exact .inr ⟨i, by omega, h2⟩
/-- the bits of an amount -/
def bC : Nat := it 5 bG
theorem Ok.am (o : Ok f xs ys) (h : amF f xs ys = some c) : ∀ q ∈ c, Sz bC q := by
  unfold amF solF at h
  split at h
  · cases h
  · cases h
    intro q hq
    obtain ⟨j, hj, rfl⟩ := List.mem_map.mp hq
    have few := o.dr.few
    rcases ansR_mem (red (nMx f xs).R (ext (nMx f xs) (rhsF f xs ys)) (nMx f xs).m).1 (red (nMx f xs).R (ext (nMx f xs) (rhsF f xs ys)) (nMx f xs).m).2 (nMx f xs).m (red (nMx f xs).R (ext (nMx f xs) (rhsF f xs ys)) (nMx f xs).m).2.length j with e | ⟨i, h1, e⟩
    · rw [e]
      exact sz_zero (by decide)
    · rw [e]
      have hl := red_len (nMx f xs).R (ext (nMx f xs) (rhsF f xs ys)) (nMx f xs).m
      have r := red_rs (R := (nMx f xs).R) (m := (nMx f xs).m + 1) (b := bG) (e := ext (nMx f xs) (rhsF f xs ys)) (fun i hi => o.rsN hi) (nMx f xs).m (Nat.le_succ _) i (by omega)
      exact (r.sz (Nat.lt_succ_self _)).mono (it_mono bG few)
/-! ### gaps of amounts -/
def bM : Nat := 5 * (bC + 4) + 1
structure Gp (f : Int × List Int) (xs ys : List Int) (c : List Rat) : Prop where
  gap : GapOk c (gridF f xs) ys
  fit : ∀ g ∈ gapsF f xs ys c, FitF g
  sq : FitD (gapsF f xs ys c) (gapsF f xs ys c)
  col : ∀ k, FitD (gapsF f xs ys c) (colF f xs k)
  one : FitF (gdot (gapsF f xs ys c) (gapsF f xs ys c))
theorem gaps_len (hl : ys.length = xs.length) : (gapsF f xs ys c).length = xs.length := by
  unfold gapsF
  rw [List.length_map, List.length_zip, goals_len, hl]
  unfold gridF
  rw [List.length_map, Nat.min_self]
theorem Ok.gp (o : Ok f xs ys) (hc : c.length = nOf f) (h : ∀ q ∈ c, Sz (bC + 4) q) : Gp f xs ys c := by
  have few := o.dr.few
  have nine := o.si.few
  obtain ⟨D, h0, hD, hd⟩ := cd_row h
  have hb : c.length * (bC + 4) + 1 ≤ bM := by
    have : c.length * (bC + 4) ≤ 5 * (bC + 4) := Nat.mul_le_mul_right _ (by omega)
    unfold bM
    omega
  have hD := pow_le hD hb
  have hd : ∀ q ∈ c, Cd D 1 bM q := fun q hq => (hd q hq).mono (Nat.le_refl _) hb
  have bm : bM = 12480336 := by decide
  have hp : ∀ r ∈ gridF f xs, ∀ x ∈ prods c r, Cd D 632 (bM + 631) x := fun r hr x hx => by
    obtain ⟨p, hp, q, hq, rfl⟩ := prods_mem hx
    have := Cd.mul h0 (by decide) (hd p hp) ((o.row hr).1 q hq).cd1
    rw [Int.mul_one] at this
    exact this
  have hpl : ∀ r, (prods c r).length ≤ 5 := fun r => Nat.le_trans prods_len (by omega)
  have hdot : ∀ r ∈ gridF f xs, Cd D 3161 (bM + 3797) (gdot c r) := fun r hr => by
    have q := cd_qs h0 (prods c r) (hp r hr)
    have m1 : (prods c r).length * 632 ≤ 5 * 632 := Nat.mul_le_mul_right _ (hpl r)
    have m2 : (prods c r).length * 633 ≤ 5 * 633 := Nat.mul_le_mul_right _ (hpl r)
    exact q.mono (by omega) (by omega)
  have fC : ∀ q ∈ c, FitF q := fun q hq => (h q hq).fit (by decide)
  have hfs : ∀ r ∈ gridF f xs, FitS (prods c r) := fun r hr => fits h0 hD (hp r hr) (hpl r) (by rw [bm]; decide) (by rw [bm]; decide)
  have hg : ∀ g ∈ gapsF f xs ys c, Cd D 3228 (bM + 3865) g := fun g hg => by
    obtain ⟨⟨r, y⟩, h1, rfl⟩ := List.mem_map.mp hg
    have a := hdot r (List.of_mem_zip h1).1
    have b := ((o.goal y (List.of_mem_zip h1).2).cd h0 hD).neg
    have := a.add h0 b (s := bM + 3865) (by omega) (by omega)
    show Cd D _ _ (gdot c r - y)
    rw [Rat.sub_eq_add_neg]
    exact this
  have fg : ∀ g ∈ gapsF f xs ys c, FitF g := fun g h => ((hg g h).sz hD h0 (s := big) (by rw [bm]; decide) (by rw [bm]; decide)).fit (Nat.le_refl _)
  have gl := gaps_len (f := f) (c := c) o.len
  have hss : FitS (prods (gapsF f xs ys c) (gapsF f xs ys c)) := by
    refine fits (D := D * D) (d := bM + bM) (e := 6456) (b := bM + 3865 + (bM + 3865)) (N := 9) (fun z => (Int.mul_eq_zero.mp z).elim h0 h0) (by rw [Int.natAbs_mul]; exact mul_lt_pow hD hD) (fun x hx => ?_) (Nat.le_trans prods_len (by omega)) (by rw [bm]; decide) (by rw [bm]; decide)
    obtain ⟨p, hp, q, hq, rfl⟩ := prods_mem hx
    exact Cd.mul h0 h0 (hg p hp) (hg q hq)
  refine ⟨⟨by simp [gridF]; omega, fun r hr => ⟨⟨fC, fun y hy => ((o.row hr).1 y hy).fit (by decide), hfs r hr, by omega⟩, fits_all (hfs r hr)⟩, fun y hy => (o.goal y hy).fit (by decide)⟩, fg, ⟨fg, fg, hss, by omega⟩, fun k => ⟨fg, fun y hy => (o.col k y hy).fit (by decide), ?_, by omega⟩, fits_all hss⟩
  refine fits (D := D) (d := bM) (e := 3859) (b := bM + 4496) (N := 9) h0 hD (fun x hx => ?_) (Nat.le_trans prods_len (by omega)) (by rw [bm]; decide) (by rw [bm]; decide)
  obtain ⟨p, hp, q, hq, rfl⟩ := prods_mem hx
  have := Cd.mul h0 (by decide) (hg p hp) (o.col k q hq).cd1
  rw [Int.mul_one] at this
  exact this
theorem sqs_prods (gs : List Rat) : sqsF gs = prods gs gs := by
  unfold sqsF prods
  refine List.ext_getElem (by simp) fun i h1 h2 => ?_
  simp
theorem Ok.mi (o : Ok f xs ys) (h : amF f xs ys = some c) : MiOk f xs ys c := by
  have g := o.gp (am_len h) fun q hq => (o.am h q hq).mono (by omega)
  exact ⟨o.pt, h, g.gap.dot, g.gap.goal, g.fit, by rw [sqs_prods]; exact g.sq.2.2.1⟩
theorem Ok.moved (o : Ok f xs ys) (h : amF f xs ys = some c) (k : Nat) : ∀ q ∈ movedF c k, Sz (bC + 4) q := fun q hq => by
  unfold movedF at hq
  rcases List.mem_append.mp hq with hq | hq
  · exact (o.am h q (List.mem_of_mem_take hq)).mono (by omega)
  · rcases List.mem_cons.mp hq with hq | hq
    · rw [hq]
      have a : Sz bC (c.getD k 0) := by
        rw [List.getD_eq_getElem?_getD]
        cases e : c[k]? with
        | none => exact sz_zero (by decide)
        | some y => exact o.am h y (List.mem_of_getElem? e)
      have b : Sz 3 (1 / 5 : Rat) := by
        have := sz_div (n := 3) (a := 1) (b := 5) (by decide) (by decide) (by decide)
        exact this
      exact a.add b
    · exact (o.am h q (List.mem_of_mem_drop hq)).mono (by omega)
theorem Ok.drawn (h : ∀ q ∈ c, AmOk q) : ∀ q ∈ c, Sz (bC + 4) q := fun q hq => Sz.mono (h q hq) (by omega)
/-! ### the law's rank -/
theorem lcm_lt {s : Nat} : ∀ (qs : List Rat) (b x : Nat), b < 2 ^ x → (∀ q ∈ qs, q.den < 2 ^ s) → qs.foldl (fun b q => b / Nat.gcd b q.den * q.den) b < 2 ^ (x + qs.length * s)
  | [], b, x, h, _ => by
    show b < _
    simpa using h
  | q :: qs, b, x, h, k => by
    show qs.foldl _ (b / Nat.gcd b q.den * q.den) < _
    have h1 : b / Nat.gcd b q.den * q.den < 2 ^ (x + s) := mul_lt_pow (Nat.lt_of_le_of_lt (Nat.div_le_self _ _) h) (k q List.mem_cons_self)
    have := lcm_lt qs _ (x + s) h1 fun q hq => k q (List.mem_cons_of_mem _ hq)
    have e : x + (q :: qs).length * s = x + s + qs.length * s := by
      rw [List.length_cons, Nat.add_mul]
      omega
    rw [e]
    exact this
theorem lcmOf_lt {s : Nat} {qs : List Rat} (h : ∀ q ∈ qs, Sz s q) : lcmOf qs < 2 ^ (1 + qs.length * s) := lcm_lt qs 1 1 (by decide) fun q hq => (h q hq).2
def bL : Nat := 1 + 5 * bA
theorem Ok.lcm (o : Ok f xs ys) {r : List Rat} (hr : r ∈ gridF f xs) (k : Nat) : lcmOf (r.take k) < 2 ^ bL := by
  have few := o.dr.few
  obtain ⟨h1, h2⟩ := o.row hr
  refine pow_le (lcmOf_lt (s := bA) fun q hq => h1 q (List.mem_of_mem_take hq)) ?_
  have : (r.take k).length * bA ≤ 5 * bA := Nat.mul_le_mul_right _ (Nat.le_trans (List.length_take_le' k r) (by omega))
  unfold bL
  omega
theorem Ok.sc (o : Ok f xs ys) : (gridF f xs).length ≤ 100 ∧ ∀ row ∈ gridF f xs, ScOk row := by
  have few := o.dr.few
  have nine := o.si.few
  refine ⟨by simp [gridF]; omega, fun r hr => ?_⟩
  obtain ⟨h1, h2⟩ := o.row hr
  exact ⟨by omega, fun q hq => (h1 q hq).fit (by decide), fun k => fit_of (b := bL) (by rw [Int.natAbs_natCast]; exact o.lcm hr k) (by decide)⟩
theorem Ok.rk (o : Ok f xs ys) : ∃ n b, RkOk ((gridF f xs).map scaleOf) n b := by
  have few := o.dr.few
  have nine := o.si.few
  refine ⟨nOf f, bA + bL, fun row hr => ?_, ?_, by simp [gridF]; omega, by omega⟩
  · obtain ⟨r, hr', rfl⟩ := List.mem_map.mp hr
    obtain ⟨h1, h2⟩ := o.row hr'
    refine ⟨by simp [scaleOf, h2], fun z hz => ?_⟩
    unfold scaleOf at hz
    obtain ⟨q, hq, rfl⟩ := List.mem_map.mp hz
    have l := o.lcm hr' r.length
    rw [List.take_length] at l
    rw [Int.natAbs_mul, Int.natAbs_natCast]
    exact mul_lt_pow (h1 q hq).1 (Nat.lt_of_le_of_lt (Nat.div_le_self _ _) l)
  · have hl : ((gridF f xs).map scaleOf).length ≤ 9 := by simp [gridF]; omega
    have := it_mono (bA + bL) hl
    have e : 2 * it 9 (bA + bL) ≤ big := by decide
    omega
end
end Bt
/-! ==== W31 ==== -/
set_option Elab.async false
set_option linter.all false
set_option maxRecDepth 100000
set_option maxHeartbeats 2000000
/-! _law_error: what is told, or the word and the rank of a NotOne. -/
namespace Bt
open PySem PySem.Spec PyProof.Rows L2 SW
abbrev st__law_error : Stmt := top 100
theorem sc__law_error : FnScope ["_law_act", "_law_found", "_law_e", "_law_bases", "_law_plain"] ["_law_act"] (defScope st__law_error) := ⟨rfl, rfl, rfl, by decide +kernel, rfl, by decide +kernel, by decide +kernel⟩
/-- a word beside a value -/
def IsWd (w : Str) (P : VP) : VP := fun v G => ∃ p u, v = .ref p ∧ G p = some (.lst [.str w, u]) ∧ P u G
instance (w : Str) (P : VP) [Stays P] : Stays (IsWd w P) := ⟨fun _ _ _ e ⟨p, u, h1, h2, h3⟩ => ⟨p, u, h1, e _ _ h2, up e h3⟩⟩
/-- the suite, the exception at a, its dict at dd -/
def t_suite (K : PySem.W.Frag) (D a dd : Addr) : TS :=
  tSeq (tAsg (tLst (tCons (tCB (L2H.rIsX K D a dd) (tCons (tVar 2) (tCons (tC (.ref (He.ga K "NotRight"))) tNil))) (tCons (tCB (L2H.rIsX K D a dd) (tCons (tVar 2) (tCons (tC (.ref (He.ga K "NotKnown"))) tNil))) (tCons (tCB (L2H.rIsX K D a dd) (tCons (tVar 2) (tCons (tC (.ref (He.ga K "NotPossible"))) tNil))) tNil)))) (gName 3))
  (tSeq (tAsg (tLst (tCons (tCB (L2H.rIsX K D a dd) (tCons (tVar 2) (tCons (tC (.ty "ValueError")) tNil))) (tCons (tCB (L2H.rIsX K D a dd) (tCons (tVar 2) (tCons (tC (.ty "LookupError")) tNil))) (tCons (tCB (L2H.rIsX K D a dd) (tCons (tVar 2) (tCons (tC (.ty "ArithmeticError")) tNil))) tNil)))) (gName 4))
  (tRet (tLst (tCons (tIf (tAnd (tTest (tOp (rEqD K) (tVar 3) (tVar 4))) (tTest (tOp rEq (tBM K "list" (rCntB K) (tVar 3) (tCons (tC (.bl true)) tNil)) (tC (.int 1))))) (L2H.tCallX (fun a dd => sp__law_class dd a) a dd (tCons (tVar 2) tNil)) (tC (.str "odd"))) (tCons (L2H.tCallX (fun a dd => sp__law_field dd a) a dd (tCons (tVar 2) tNil)) tNil)))))
theorem pss_know {X : Cx} {b : List Stmt} {C : Addr} {cls : Value} {d : Option Addr} {t : Addr → TS} (k : ∀ dd, d = some dd → cls = .ref C → PSs X b (t dd)) : PSs X b (fun D σ H => cls = .ref C ∧ ∃ dd, d = some dd ∧ t dd D σ H) :=
  ⟨fun pins s σ H D I ⟨e, dd, e2, h⟩ => (k dd e2 e).run pins s σ H D I h⟩
theorem hotX_of {X : Cx} {a C dd : Addr} {oe : Obj} {pn : List (Addr × Obj)} (hz : L2N.Zn (.ref C) (some dd) oe) (hf : ∃ vs, oe.data = .fields vs) : L2H.HotX (X.suite a ((a, oe) :: pn)) a C dd := by
  obtain ⟨vs, hv⟩ := hf
  exact ⟨⟨oe, List.mem_cons_self, ⟨rfl, vs, hv, hz.2.2 vs hv⟩, hz.zc, vs, hv⟩⟩
theorem pss_len {X : Cx} {b : List Stmt} {t : TS} (k : PSs X b t) : PSs X b (fun D σ H => σ.length = X.N.length → t D σ H) :=
  ⟨fun pins s σ H D I h => k.run pins s σ H D I (h I.len)⟩
def suiteB : List Stmt := match defBody st__law_error with
  | .Try _ [.ExceptHandler _ _ suite _] _ _ _ :: _ => suite
  | _ => []
section
variable {X : Cx} {D dd a g : Addr} {cdv : Value} {s : Shared} {H : Hp} {oe : Obj} {pn : List (Addr × Obj)} {k : Nat}
abbrev cxErr (X : Cx) (g : Addr) (cdv : Value) (s : Shared) (H : Hp) : Cx := (cxOf C8.CX0 X.prog X.w X.K X.mg X.base ["_law_act", "_law_found", "_law_e", "_law_bases", "_law_plain"] "_law_error" (defScope st__law_error) g cdv X.A X.stack s H C8.E0).nox
theorem ps_suite (T : Txt X.prog X.K X.mg X.base) (TE : TxtE X.K X.mg D) (c1 : CalE X.prog X.w X.K X.mg X.base D 1 "_law_class" (fun a dd => sp__law_class dd a)) (c2 : CalE X.prog X.w X.K X.mg X.base D 1 "_law_field" (fun a dd => sp__law_field dd a))
    (hr : Room 1 (X.A.deeper (envOfC "_law_error" (defScope st__law_error) s.heap.objs.size g cdv))) (hh : L2H.HotX ((cxErr X g cdv s H).suite a ((a, oe) :: pn)) a D dd) : PSs ((cxErr X g cdv s H).suite a ((a, oe) :: pn)) suiteB (t_suite X.K D a dd) := by
  obtain ⟨f1, fd1, F_law_class, m_law_class, k_law_class, b_law_class⟩ := c1.ex
  obtain ⟨f2, fd2, F_law_field, m_law_field, k_law_field, b_law_field⟩ := c2.ex
  have hrH := L2H.roomH_mark hr (some (.ref a))
  have hrU : ((X.A.deeper (envOfC "_law_error" (defScope st__law_error) s.heap.objs.size g cdv)).mark (some (.ref a))).units + 64 < cLine := by have := hrH.un; omega
  exact (pss_cons (ps_set (i := 3) sc__law_error.nd rfl (Or.inl rfl) (pe_lst (pa_cons (pe_callB (L2H.call_isX TE.xc hh) (by rfl) T.f_isinstance (by decide +kernel) (pa_cons (pv 2) (pa_cons (C8.pe_gc rfl (TE.c "NotRight" (by decide))) pa_nil))) (pa_cons (pe_callB (L2H.call_isX TE.xc hh) (by rfl) T.f_isinstance (by decide +kernel) (pa_cons (pv 2) (pa_cons (C8.pe_gc rfl (TE.c "NotKnown" (by decide))) pa_nil))) (pa_cons (pe_callB (L2H.call_isX TE.xc hh) (by rfl) T.f_isinstance (by decide +kernel) (pa_cons (pv 2) (pa_cons (C8.pe_gc rfl (TE.c "NotPossible" (by decide))) pa_nil))) pa_nil)))))
    (pss_cons (ps_set (i := 4) sc__law_error.nd rfl (Or.inl rfl) (pe_lst (pa_cons (pe_callB (L2H.call_isX TE.xc hh) (by rfl) T.f_isinstance (by decide +kernel) (pa_cons (pv 2) (pa_cons (pe_bltn (v := .ty "ValueError") (by rfl) T.f_ValueError (by decide +kernel) rfl) pa_nil))) (pa_cons (pe_callB (L2H.call_isX TE.xc hh) (by rfl) T.f_isinstance (by decide +kernel) (pa_cons (pv 2) (pa_cons (pe_bltn (v := .ty "LookupError") (by rfl) T.f_LookupError (by decide +kernel) rfl) pa_nil))) (pa_cons (pe_callB (L2H.call_isX TE.xc hh) (by rfl) T.f_isinstance (by decide +kernel) (pa_cons (pv 2) (pa_cons (pe_bltn (v := .ty "ArithmeticError") (by rfl) T.f_ArithmeticError (by decide +kernel) rfl) pa_nil))) pa_nil)))))
    (pss_one (ps_ret (pe_lst (pa_cons (pe_ifExp (PW.pt (pw_and (pt_cmpR (op_eqD hrU) (pv 3) (pv 4) (nomark _)) (pw_and1 (pt_cmpR op_eq (pe_bm PySem.F.plainAttrs_list PySem.F.slot_list_count PySem.F.type_list_count mt_bcount (pv 3) (pa_cons pe_bl pa_nil)) pe_int (nomark _))))) (L2H.pe_callX F_law_class hrH hh rfl m_law_class k_law_class b_law_class (pa_cons (pv 2) pa_nil)) pe_str) (pa_cons (L2H.pe_callX F_law_field hrH hh rfl m_law_field k_law_field b_law_field (pa_cons (pv 2) pa_nil)) pa_nil)))))))
end
end Bt
/-! ==== W32 ==== -/
set_option Elab.async false
set_option linter.all false
set_option maxRecDepth 100000
set_option maxHeartbeats 2000000
/-! _law_error handed a lambda: what it tells. -/
namespace Bt
open PySem PySem.Spec PyProof.Rows L2 SW
section
variable {K : PySem.W.Frag} {mg : Str → Option Value} {a D dd : Addr} {ta tb tc te : TE} {σ : L2.St} {G : Hp}
theorem eqvAll_bl : ∀ bs cs : List Bool, PyData.eqvAll (bs.map PyData.bool) (cs.map PyData.bool) = decide (bs = cs)
  | [], [] => rfl
  | [], _ :: _ => rfl
  | _ :: _, [] => rfl
  | b :: bs, c :: cs => by
    simp only [List.map_cons, PyData.eqvAll, PyData.eqv, eqvAll_bl bs cs]
    cases b <;> cases c <;> simp
theorem Ep.dLB {bs : List Bool} (h : Ep te σ G (IsL IsB bs)) : Ep te σ G (IsD K (.list (bs.map .bool))) := h.to fun _ _ _ => d_L (F := IsB) (g := .bool) fun _ _ => d_bl
/-- isinstance of a built-in class -/
theorem ep_isXB {fs : List (Str × V)} {T : String} {b : Bool} (ha : Ep ta σ G (IsV (.ref a))) (hd : G dd = some (.xd fs)) (hk : PySem.W.kitOne K (.ref D) (.type T) = some b) : Ep (tCB (L2H.rIsX K D a dd) (tCons ta (tCons (tC (.ty T)) tNil))) σ G (IsB b) :=
  ep_cb2 ha ep_c fun y z G1 H1 Q g s py pz q => ⟨z, .type T, b, fs, by rw [show y = .ref a from py], fun u r => by
    have pz : z = .ty T := pz
    subst pz
    exact r, s _ _ (g _ _ hd), hk, q _ G1 H1 (To.refl s) rfl⟩
theorem ep_cntB {bs : List Bool} {k : Bool} (ha : Ep ta σ G (IsL IsB bs)) : Ep (tBM K "list" (rCntB K) ta (tCons (tC (.bl k)) tNil)) σ G (IsI (bs.count k : Nat)) := fun G1 H1 g s Q q =>
  ha G1 H1 g s _ fun v G2 H2 t p => by
    obtain ⟨x, vs, rfl, h1, h2⟩ := p
    have e : ∀ {vs : List V} {bs : List Bool}, All2 IsB vs bs G2 → vs = bs.map V.bl := fun {vs bs} h => by
      induction bs generalizing vs with
      | nil =>
        cases vs with
        | nil => rfl
        | cons _ _ => exact h.elim
      | cons b bs ih =>
        cases vs with
        | nil => exact h.elim
        | cons v vs =>
          obtain ⟨h1, h2⟩ := h
          have h1 : v = .bl b := h1
          rw [h1, ih h2]
          rfl
    have e := e h2
    subst e
    exact ⟨.inl ⟨rfl, _, SqL.of (t.in_ _ _ h1)⟩, x, bs, k, rfl, rfl, SqL.of (t.in_ _ _ h1), q _ G2 H2 t rfl⟩
theorem suite_pure {n : V} (TE : TxtE K mg D) (hd : G dd = some (.xd [("rank", n)])) {x0 x1 x3 x4 : Option V} : Es (t_suite K D a dd) [x0, x1, some (.ref a), x3, x4] G (IsWd "one" (IsV n)) (fun _ _ => False) := by
  refine sq_asg (P := IsL IsB [false, false, true]) (ep_lst3 (F := IsB) (ep_isX TE (ep_v rfl) hd (x := "NotRight") (by decide)) (ep_isX TE (ep_v rfl) hd (x := "NotKnown") (by decide)) (ep_isX TE (ep_v rfl) hd (x := "NotPossible") (by decide))) fun v1 G1 e1 p1 => ?_
  have hd1 := e1 _ _ hd
  refine sq_asg (P := IsL IsB [false, false, true]) (ep_lst3 (F := IsB) (ep_isXB (ep_v rfl) hd1 TE.kitB.1) (ep_isXB (ep_v rfl) hd1 TE.kitB.2.1) (ep_isXB (ep_v rfl) hd1 TE.kitB.2.2)) fun v2 G2 e2 p2 => ?_
  have hd2 := e2 _ _ hd1
  have c1 : Ep (L2H.tCallX (fun a dd => sp__law_class dd a) a dd (tCons (tVar 2) tNil)) [x0, x1, some (.ref a), some v1, some v2] G2 (IsTx "one") := fun G3 H3 g s Q q => ⟨.ref a, rfl, G3, n, rfl, s, g _ _ hd2, fun v G4 H4 t e => q v G4 H4 t e⟩
  have c2 : Ep (L2H.tCallX (fun a dd => sp__law_field dd a) a dd (tCons (tVar 2) tNil)) [x0, x1, some (.ref a), some v1, some v2] G2 (IsV n) := fun G3 H3 g s Q q => ⟨.ref a, rfl, G3, n, rfl, s, g _ _ hd2, fun v G4 H4 t e => q v G4 H4 t e⟩
  have t1 : Et (tAnd (tTest (tOp (rEqD K) (tVar 3) (tVar 4))) (tTest (tOp rEq (tBM K "list" (rCntB K) (tVar 3) (tCons (tC (.bl true)) tNil)) (tC (.int 1))))) [x0, x1, some (.ref a), some v1, some v2] G2 (true && true) := by
    refine et_and ?_ fun _ => ?_
    · have h := ep_eqD (K := K) (ep_var (σ := [x0, x1, some (.ref a), some v1, some v2]) (i := 3) (P := IsL IsB [false, false, true]) rfl (up e2 p1)).dLB (ep_var (i := 4) (P := IsL IsB [false, false, true]) rfl p2).dLB (by decide +kernel) (by decide +kernel)
      rw [show PyData.eqv (.list (([false, false, true] : List Bool).map .bool)) (.list (([false, false, true] : List Bool).map .bool)) = true by simp only [PyData.eqv, eqvAll_bl]; rfl] at h
      exact et_test h
    · exact (et_test (ep_eqI (ep_cntB (bs := [false, false, true]) (ep_var (i := 3) rfl (up e2 p1))) ep_c)).is (by decide)
  refine es_ret (ep_lst1 (ea_cons (P := IsTx "one") (ep_if t1 (fun _ => c1) fun z => nomatch z) (ea_cons c2 ea_nil)) (fun vs H' ⟨_, _, h, _, _, _, h2, _, h3⟩ => by rw [h, h2, h3]; simp) fun p vs H' ⟨v, r, h, hv, w', r2, h2, hw, h3⟩ np => ?_)
  have hv : v = .str "one" := hv
  have hw : w' = n := hw
  rw [h, h2, h3, hv, hw]
  exact ⟨p, n, rfl, upd_same, rfl⟩
end
/-- what may be raised: the class at C, with a rank; the suite's list then goes on to Q -/
def XErr (C : Addr) (Q : VK) : XK := fun cls d H' => cls = .ref C ∧ ∃ dd n G', d = some dd ∧ Same G' H' ∧ G' dd = some (.xd [("rank", n)]) ∧ ∀ v G2 H2, To G' H' G2 H2 → IsWd "one" (IsV n) v G2 → Q v H2
def TTe (C : Addr) (tl : XK → Hp → VK → Prop) (H : Hp) (Q : VK) : Prop := ∀ (E' : XK) (Q' : VK), (∀ cls d H', XErr C Q cls d H' → E' cls d H') → (∀ v H', (∀ p, H' p = none → Q (.ref p) (upd H' p (.lst [.str "told", v]))) → Q' v H') → tl E' H Q'
section
variable {X : Cx} {C g : Addr} {cdv : Value} {q : Str} {k : Nat}
/-- the suite, the exception at a -/
def tsE (K : PySem.W.Frag) (C : Addr) (a : Addr) (cls : Value) (d : Option Addr) : TS := fun D σ H => σ.length = 5 → cls = .ref C ∧ ∃ dd, d = some dd ∧ t_suite K C a dd D σ H
theorem gives_error (T : Txt X.prog X.K X.mg X.base) (TE : TxtE X.K X.mg C) (hex : PySem.W.exmAny X.K (.ref C) [.ref (He.ga X.K "NotRight"), .ref (He.ga X.K "NotKnown"), .ref (He.ga X.K "NotPossible")] = some true)
    (c1 : CalE X.prog X.w X.K X.mg X.base C 1 "_law_class" (fun a dd => sp__law_class dd a)) (c2 : CalE X.prog X.w X.K X.mg X.base C 1 "_law_field" (fun a dd => sp__law_field dd a)) (hk : 1 ≤ k) :
    LamN.Gives X ["_law_act", "_law_found", "_law_e", "_law_bases", "_law_plain"] "_law_error" (defScope st__law_error) g cdv (defBody st__law_error) "_law_act" q (TTe C) k := by
  intro f c' s H Q tl hr call hc' htt
  have mga : ∀ x ∈ excNames, X.mg x = some (.ref (He.ga X.K x)) := fun x hx => by
    obtain ⟨u, h1, h2⟩ := TE.c x hx
    have h2 : u = .ref (He.ga X.K x) := h2
    rw [h1, h2]
  let ts : Addr → Value → Option Addr → TS := tsE X.K C
  let tb : WX → TS := fun W => tAsg (fun σZ HZ Q => σZ[0]? = some (some (.ref f)) ∧ HZ c' = some (LamX.CodeO c' q) ∧ tl (fun cls d H' => ∀ σ', W cls d σ' H') HZ Q) (gName 1)
  refine ⟨tSeq (fun D σ H => tb (L2N.wAs3 X.K [.ref (He.ga X.K "NotRight"), .ref (He.ga X.K "NotKnown"), .ref (He.ga X.K "NotPossible")] 2 ts D) D σ H) (tRet (tLst (tCons (tC (.str "told")) (tCons (tVar 1) tNil)))), ?_, ?_⟩
  · refine pss_cons (L2N.ps_try_as3 (ts := ts) (tb := tb) (i := 2) rfl rfl sc__law_error.nd rfl rfl rfl (mga _ (by decide)) (by decide) rfl (mga _ (by decide)) (by decide) rfl (mga _ (by decide)) (by decide) (fun W pn xe tk _ => ?_) fun a oe cls d pn hz hf => ?_) (pss_one (ps_ret (pe_lst (pa_cons pe_str (pa_cons (pv 1) pa_nil)))))
    · exact pss_one (ps_set (i := 1) sc__law_error.nd rfl (Or.inl rfl) (call W pn xe _ _ _ tk fun cls d σ' H' h => h σ'))
    · refine pss_len (pss_know fun dd e1 e2 => ?_)
      subst e1 e2
      exact ps_suite T TE c1 c2 (hr.mono hk) (hotX_of hz hf)
  · refine ⟨rfl, hc', htt _ _ (fun cls d H' hx σ' => ?_) fun v H' hp => ?_⟩
    · obtain ⟨e1, dd, n, G', e2, sG, hd, hq⟩ := hx
      refine ⟨by rw [e1]; exact hex, fun a na hl => ⟨e1, dd, e2, ?_⟩⟩
      have hl : (σ'.set 2 (some (.ref a))).length = 5 := hl
      rw [List.length_set] at hl
      match σ', hl with
      | [x0, x1, x2, x3, x4], _ => exact suite_pure (K := X.K) TE hd G' H' _ (Same.refl _) sG (fun v G2 H2 t r => hq v G2 H2 t r) fun _ _ _ _ z => z.elim
    · exact ⟨v, rfl, by rw [sizeLine_eq]; exact (by decide : 2 ≤ 16777216), fun p np => hp p np⟩
end
end Bt
/-! ==== W33 ==== -/
set_option Elab.async false
set_option linter.all false
set_option maxRecDepth 100000
set_option maxHeartbeats 2000000
/-! The mug and the table of code objects change, all else stays: steps; slices and sums of tuples; calls by keywords alone. -/
namespace Bt
open PySem PySem.Spec PyProof.Rows L2 SW
open LamX (TabS Tabs ExtN CodeO)
/-! ### without the tables -/
def nt (G : Hp) : Hp := fun b => match G b with
  | some (.tbl _) => none
  | o => o
theorem nt_of {G : Hp} {b : Addr} {o : HO} (h : G b = some o) (n : ∀ ps, o ≠ .tbl ps) : nt G b = some o := by
  unfold nt
  rw [h]
  cases o with
  | tbl ps => exact absurd rfl (n ps)
  | _ => rfl
theorem nt_some {G : Hp} {b : Addr} {o : HO} (h : nt G b = some o) : G b = some o ∧ ∀ ps, o ≠ .tbl ps := by
  unfold nt at h
  cases q : G b with
  | none =>
    rw [q] at h
    cases h
  | some u =>
    rw [q] at h
    cases u with
    | tbl ps => cases h
    | _ =>
      cases h
      exact ⟨rfl, fun ps z => by cases z⟩
class Ntb (P : VP) : Prop where
  to : ∀ v G, P v G → P v (nt G)
theorem SqT.nt {K : PySem.W.Frag} {G : Hp} {a : Addr} {xs : List V} (h : SqT K G a xs) : SqT K (Bt.nt G) a xs := by
  rcases h with (h | ⟨o, h⟩) | h
  · exact .inl (.inl (nt_of h fun _ z => by cases z))
  · exact .inl (.inr ⟨o, nt_of h fun _ z => by cases z⟩)
  · exact .inr h
theorem All2.ntb {α : Type} {R : α → VP} [s : ∀ x, Ntb (R x)] {G : Hp} : ∀ {vs : List V} {xs : List α}, All2 R vs xs G → All2 R vs xs (nt G)
  | [], [], _ => trivial
  | _ :: _, _ :: _, ⟨h1, h2⟩ => ⟨(s _).to _ _ h1, All2.ntb h2⟩
  | [], _ :: _, h => h.elim
  | _ :: _, [], h => h.elim
instance (x : V) : Ntb (IsV x) := ⟨fun _ _ h => h⟩
instance (K : PySem.W.Frag) (q : Rat) : Ntb (IsF K q) := ⟨fun _ _ ⟨p, h1, h2⟩ => ⟨p, h1, SqT.nt h2⟩⟩
instance {α : Type} (R : α → VP) [∀ x, Ntb (R x)] (xs : List α) : Ntb (IsL R xs) := ⟨fun _ _ ⟨p, vs, h1, h2, h3⟩ => ⟨p, vs, h1, nt_of h2 (fun _ z => by cases z), All2.ntb h3⟩⟩
instance {α : Type} (K : PySem.W.Frag) (R : α → VP) [∀ x, Ntb (R x)] (xs : List α) : Ntb (IsT K R xs) := ⟨fun _ _ ⟨p, vs, h1, h2, h3⟩ => ⟨p, vs, h1, SqT.nt h2, All2.ntb h3⟩⟩
theorem IsFr.ntb {K : PySem.W.Frag} {f : Int × List Int} {v : V} {G : Hp} (h : IsFr K f v G) : IsFr K f v (nt G) := by
  obtain ⟨a, dx, pv, h1, h2, h3⟩ := h
  refine ⟨a, dx, pv, h1, nt_of h2 (fun _ z => by cases z), ?_⟩
  obtain ⟨t, v1, v2, e, k1, k2, k3⟩ := h3
  exact ⟨t, v1, v2, e, SqT.nt k1, k2, (inferInstance : Ntb (IsT K IsI f.2)).to _ _ k3⟩
/-! ### what changes in a turn -/
structure Rr (m P : Addr) (q : Str) (H0 G H : Hp) : Prop where
  big : ∀ b o, b ≠ m → b ≠ P → (∀ ps, o ≠ .tbl ps) → H0 b = some o → H b = some o
  in_ : Same G H
  gm : G m = none
  gP : G P = none
  mug : MugAt m H
  tab : TabS H P q
section
variable {m P : Addr} {q : Str} {H0 G H G2 H2 : Hp}
theorem Rr.st (r : Rr m P q H0 G H) : St m G H := ⟨r.in_, r.gm, r.mug⟩
theorem Rr.mP (r : Rr m P q H0 G H) : P ≠ m := fun z => by
  obtain ⟨a, b, c, h⟩ := r.mug
  obtain ⟨ps, h1, _⟩ := r.tab
  rw [z, h] at h1
  cases h1
theorem Rr.to (r : Rr m P q H0 G H) (t : To G H G2 H2) : Rr m P q H0 G2 H2 := by
  obtain ⟨a, b, c, hm⟩ := r.mug
  obtain ⟨ps, h1, _⟩ := r.tab
  exact ⟨fun b o n1 n2 n3 e => t.big _ _ (r.big b o n1 n2 n3 e), t.in_, t.none r.gm hm, t.none r.gP h1, ⟨a, b, c, t.big _ _ hm⟩, r.tab.ext t.big⟩
theorem Rr.td (r : Rr m P q H0 G H) (t : Td m G H G2 H2) : Rr m P q H0 G2 H2 := by
  have hP := r.mP
  obtain ⟨a, b, c, hm⟩ := r.mug
  obtain ⟨ps, h1, h2, h3⟩ := r.tab
  refine ⟨fun b o n1 n2 n3 e => t.big _ _ n1 (r.big b o n1 n2 n3 e), t.in_, t.gm, ?_, t.mug, ps, t.big _ _ hP h1, h2, fun pos cv hc => ?_⟩
  · cases z : G2 P with
    | none => rfl
    | some o =>
      rcases t.new P o z with z | z
      · rw [r.gP] at z
        cases z
      · rw [h1] at z
        cases z
  · obtain ⟨c0, e1, e2⟩ := h3 pos cv hc
    exact ⟨c0, e1, t.big _ _ (fun z => by rw [z, hm] at e2; cases e2) e2⟩
/-- a lambda made -/
theorem Rr.lam (r : Rr m P q H0 G H) (e : ExtN H H2) (t : Tabs [(P, q)] H2) : Rr m P q H0 (nt G) H2 := by
  obtain ⟨a, b, c, hm⟩ := r.mug
  refine ⟨fun b o n1 n2 n3 h => e _ _ (r.big b o n1 n2 n3 h) n3, fun b o h => ?_, ?_, ?_, ⟨a, b, c, e _ _ hm fun ps z => by cases z⟩, t (P, q) (by simp)⟩
  · obtain ⟨h1, h2⟩ := nt_some h
    exact e _ _ (r.in_ _ _ h1) h2
  · unfold nt
    rw [r.gm]
  · unfold nt
    rw [r.gP]
/-- nothing told -/
theorem Rr.drop (r : Rr m P q H0 G H) : Rr m P q H0 (fun _ => none) H := ⟨r.big, fun _ _ e => (by cases e), rfl, rfl, r.mug, r.tab⟩
/-! ### steps -/
variable {te ta tb : TE} {tt : TT} {t u : TS} {D : Ends} {σ : L2.St} {P' P1 P2 : VP} {i j : Nat} {K : PySem.W.Frag} {Q : VK}
theorem r_asg (r : Rr m P q H0 G H) (h : Ep te σ G P') (k : ∀ v G2 H2, Same G G2 → Rr m P q H0 G2 H2 → P' v G2 → u D (σ.set i (some v)) H2) : tSeq (tAsg te (gName i)) u D σ H :=
  h G H (Same.refl G) r.in_ _ fun v G2 H2 t p => k v G2 H2 t.up (r.to t) p
theorem r_asgd (r : Rr m P q H0 G H) (h : Ed m te σ G P') (k : ∀ v G2 H2, Same G G2 → Rr m P q H0 G2 H2 → P' v G2 → u D (σ.set i (some v)) H2) : tSeq (tAsg te (gName i)) u D σ H :=
  h G H (Same.refl G) r.st _ fun v G2 H2 t p => k v G2 H2 t.up (r.td t) p
/-- a, b = x, y by a tuple -/
theorem r_asg2 [Stays P1] [Stays P2] (r : Rr m P q H0 G H) (ha : Ed m ta σ G P1) (hb : Ed m tb σ G P2) (k : ∀ v w G2 H2, Same G G2 → Rr m P q H0 G2 H2 → P1 v G2 → P2 w G2 → u D ((σ.set i (some v)).set j (some w)) H2) :
    tSeq (tAsg (tTup (tCons ta (tCons tb tNil))) (gTup K 2 (gCons (gName i) (gCons (gName j) gNil)))) u D σ H :=
  ha G H (Same.refl G) r.st _ fun v G2 H2 t2 p1 => hb G2 H2 t2.up t2.st _ fun w G3 H3 t3 p2 => ⟨by rw [sizeLine_eq]; exact (by decide : 2 ≤ 16777216), fun p np =>
    ⟨p, [v, w], rfl, SqT.of upd_same, rfl, v, _, rfl, w, _, rfl, rfl, k v w G3 _ (t2.up.trans t3.up) (((r.td t2).td t3).to (To.dull t3.in_ (Same.new np))) (up t3.up p1) p2⟩⟩
theorem r_par [Stays P1] (r : Rr m P q H0 G H) (ha : Ep ta σ G P1) (hb : Ep tb σ G P2) (k : ∀ v w G2 H2, Same G G2 → Rr m P q H0 G2 H2 → P1 v G2 → P2 w G2 → u D ((σ.set i (some v)).set j (some w)) H2) : tSeq (tPar i j (tCons ta (tCons tb tNil))) u D σ H :=
  ha G H (Same.refl G) r.in_ _ fun v G2 H2 t2 p1 => hb G2 H2 t2.up t2.in_ _ fun w G3 H3 t3 p2 => ⟨v, w, rfl, k v w G3 H3 (t2.up.trans t3.up) ((r.to t2).to t3) (up t3.up p1) p2⟩
theorem r_skip (r : Rr m P q H0 G H) (h : Et tt σ G false) (k : ∀ G2 H2, Same G G2 → Rr m P q H0 G2 H2 → u D σ H2) : tSeq (tIfS tt t tNext) u D σ H := h G H (Same.refl G) r.in_ _ fun G2 H2 t => k G2 H2 t.up (r.to t)
theorem r_skipE (r : Rr m P q H0 G H) (h : Et tt σ G false) (k : ∀ G2 H2, Same G G2 → Rr m P q H0 G2 H2 → D.nx σ H2) : tIfS tt t tNext D σ H := h G H (Same.refl G) r.in_ _ fun G2 H2 t => k G2 H2 t.up (r.to t)
theorem r_go (r : Rr m P q H0 G H) (h : Et tt σ G true) (k : ∀ G2 H2, Same G G2 → Rr m P q H0 G2 H2 → t { D with nx := fun σ' H' => u D σ' H' } σ H2) : tSeq (tIfS tt t tNext) u D σ H := h G H (Same.refl G) r.in_ _ fun G2 H2 t => k G2 H2 t.up (r.to t)
end
/-! ### tuples -/
section
variable {ta tb tc te : TE} {σ : L2.St} {G : Hp} {K : PySem.W.Frag} {α : Type} {F : α → VP} {xs ys : List α} [∀ x, Stays (F x)]
theorem ep_catT (ha : Ep ta σ G (IsT K F xs)) (hb : Ep tb σ G (IsT K F ys)) (hl : xs.length + ys.length ≤ 1000) : Ep (tOp (rCatA K) ta tb) σ G (IsT K F (xs ++ ys)) :=
  ep_bin ha hb fun x y G1 H1 Q _ s ⟨p, vs, e1, h1, h2⟩ ⟨q, ws, e2, h3, h4⟩ k => by
    refine ⟨p, q, vs, ws, e1, e2, Same.tup s h1, Same.tup s h3, Nat.le_trans (by rw [h2.len, h4.len]; exact hl) (by decide), fun z => ?_, fun _ z => ?_, fun _ _ r nr => ?_⟩
    · have : xs = [] := List.length_eq_zero_iff.mp (by rw [← h2.len, z]; rfl)
      subst this
      exact k _ _ _ (To.refl s) ⟨q, ws, rfl, h3, h4⟩
    · have : ys = [] := List.length_eq_zero_iff.mp (by rw [← h4.len, z]; rfl)
      subst this
      rw [List.append_nil] at k
      exact k _ _ _ (To.refl s) ⟨p, vs, rfl, h1, h2⟩
    · exact k _ _ _ (To.alloc s nr) ⟨r, _, rfl, SqT.of upd_same, All2.up (Same.new (s.free nr)) (All2.app h2 h4)⟩
theorem ep_uptoT {k : Nat} (ha : Ep ta σ G (IsT K F xs)) (hb : Ep tb σ G (IsI (k : Nat))) (h : k ≤ xs.length) : Ep (tSl (rSlA K) ta tNoPart (tPart tb)) σ G (IsT K F (xs.take k)) := fun G1 H1 e s Q q =>
  ha G1 H1 e s _ fun v G2 H2 t2 pv => hb G2 H2 (e.trans t2.up) t2.in_ _ fun w G3 H3 t3 pw => by
    have pw : w = .int (k : Nat) := pw
    subst pw
    obtain ⟨p, vs, rfl, h1, h2⟩ := up t3.up pv
    have hl := h2.len
    refine ⟨k, rfl, p, vs, rfl, Same.tup t3.in_ h1, fun z => ?_, fun _ r nr => ?_⟩
    · have z := z.2
      rw [HT.sIx_nat, Nat.min_eq_left (by omega)] at z
      have : xs.take k = xs := List.take_of_length_le (by omega)
      exact q _ _ _ (t2.trans t3) ⟨p, vs, rfl, h1, by rw [this]; exact h2⟩
    · refine q _ _ _ ((t2.trans t3).trans (To.alloc t3.in_ nr)) ⟨r, _, rfl, SqT.of upd_same, ?_⟩
      rw [cut_upto vs k (by omega)]
      exact All2.up (Same.new (t3.in_.free nr)) (h2.take k)
theorem ep_fromT {k : Nat} (ha : Ep ta σ G (IsT K F xs)) (hb : Ep tb σ G (IsI (k : Nat))) (h : k ≤ xs.length) : Ep (tSl (rSlA K) ta (tPart tb) tNoPart) σ G (IsT K F (xs.drop k)) := fun G1 H1 e s Q q =>
  ha G1 H1 e s _ fun v G2 H2 t2 pv => hb G2 H2 (e.trans t2.up) t2.in_ _ fun w G3 H3 t3 pw => by
    have pw : w = .int (k : Nat) := pw
    subst pw
    obtain ⟨p, vs, rfl, h1, h2⟩ := up t3.up pv
    have hl := h2.len
    refine ⟨k, rfl, p, vs, rfl, Same.tup t3.in_ h1, fun z => ?_, fun _ r nr => ?_⟩
    · have z := z.1
      rw [HT.sIx_nat, Nat.min_eq_left (by omega)] at z
      subst z
      exact q _ _ _ (t2.trans t3) ⟨p, vs, rfl, h1, h2⟩
    · refine q _ _ _ ((t2.trans t3).trans (To.alloc t3.in_ nr)) ⟨r, _, rfl, SqT.of upd_same, ?_⟩
      rw [cut_from vs k (by omega)]
      exact All2.up (Same.new (t3.in_.free nr)) (h2.drop k)
theorem ep_tupOne {x : α} (h : Ep te σ G (F x)) : Ep (tTup (tCons te tNil)) σ G (IsT K F [x]) :=
  ep_tup1 (ea_cons h ea_nil) (fun vs H' ⟨_, _, h, _, h2⟩ => by rw [h, h2]; simp) fun p vs H' ⟨v, r, h, hv, h2⟩ np => by
    rw [h, h2]
    exact ⟨p, _, rfl, SqT.of upd_same, up (Same.new np) hv, trivial⟩
end
/-! ### calls by keywords alone -/
/-- heights, places, frame handed over by name -/
def gKeyA {α : Type} : List α → List α → List α := fun us ws => match us, ws with
  | [], [h, p, f] => [f, p, h]
  | _, _ => []
abbrev gKey : List V → List V → List V := gKeyA
structure CalK (P : Program) (w : World) (K : PySem.W.Frag) (mg : Str → Option Value) (base : Heap) (k : Nat) (x : Str) (sp : Sp) : Prop where
  ex : ∃ (f : Addr) (fd : FuncData), FnOk P w K mg base C8.CX0 k f fd ["frame", "places", "heights"] sp ∧ mg x = some (.ref f) ∧ PySem.W.keepIn K (.ref f) = true ∧ KBinds K fd ["frame", "places", "heights"] ["heights", "places", "frame"] gKeyA gKeyA
theorem gKey_rel {vs : List V} {us : List Value} {zs : List V} {ws : List Value} (r1 : Vals vs us) (r2 : Vals zs ws) : Vals (gKeyA vs zs) (gKeyA us ws) := by
  cases r1 with
  | cons _ _ => exact .nil
  | nil =>
    cases r2 with
    | nil => exact .nil
    | cons a r =>
      cases r with
      | nil => exact .nil
      | cons b r =>
        cases r with
        | nil => exact .nil
        | cons c r =>
          cases r with
          | nil => exact .cons c (.cons b (.cons a .nil))
          | cons _ _ => exact .nil
section
variable {X : Cx} {j k : Nat} {x : Str} {sp : Sp} {p pos : Pos} {kws : List Keyword} {tk : TA}
theorem pck (c : CalK X.prog X.w X.K X.mg X.base k x sp) (hr : Room j X.A) (hk : k ≤ j) (hg : Gl X x) (hkw : PK X kws tk) (hall : (backToKw pos (keywordEach kws X.env)).all (·.1.isSome) = true := by rfl) (hks : (backToKw pos (keywordEach kws X.env)).filterMap (·.1) = (["heights", "places", "frame"] : List Str) := by rfl)
    (hdb : (x == ("__debug__" : Str)) = false := by decide) (hpl : ((backTo pos (starEach [] X.env)).any (·.1) || (backToKw pos (keywordEach kws X.env)).any (·.1.isNone)) = false := by rfl) :
    PE X (.Call (.Name x p) [] kws pos) (tCallK sp gKey C8.E0 tNil tk) := by
  obtain ⟨f, fd, F, hm, kp, hb⟩ := c.ex
  refine ⟨fun pins s σ H Q I h => ?_⟩
  refine wpAny_Call_Name_kw (ld_glob I hg hm ?_ hdb)
  refine PySem.W.callWith_KW0 (h₀ := X.base) I.ok.mod.kin kp hall (thn (hkw.run pos pins s σ H _ I h) fun ws s2 ⟨zs, H2, I2, rz, q2⟩ => ⟨I2.kIn, ?_⟩) hpl
  rw [hks]
  exact run_fnk (us := []) (vs := []) F (hr.mono hk) hb C8.pass0 I2 .nil rz q2
end
section
variable {P : Program} {w : World} {K : PySem.W.Frag} {mg : Str → Option Value} {base : Heap} {k : Nat} {x : Str} {st : Stmt} {sp : Sp}
theorem FnD.calK (h : FnD P w K mg base k x st ["frame", "places", "heights"] sp) (hb : ∀ (kV doc pm : Value) (an : Option Addr) (cdv ct : Value) (a b c : Value), bindArgs (PySem.W.fnOf x x (defArgs st) (defBody st) (defScope st) .none kV doc pm an cdv ct) ⟨[], (["heights", "places", "frame"] : List Str).zip [a, b, c]⟩ = pure ((["frame", "places", "heights"] : List Str).zip [c, b, a])) :
    CalK P w K mg base k x sp := by
  obtain ⟨f, fd, F, hm, ok⟩ := h.ex
  refine ⟨f, fd, ok, hm, F.kp, fun s us ws _ hl => ?_, gKey_rel⟩
  obtain ⟨oc, od, dV, kV, doc, pm, an, cdv, ct, osl, rfl, lk, hcd, hD, hK⟩ := F.ex
  rcases hD with ⟨_, rfl⟩ | ⟨e, _⟩
  · unfold gKeyA at hl ⊢
    split at hl
    · exact .of_eq (hb kV doc pm an cdv ct _ _ _)
    · simp at hl
  · exact absurd rfl e
theorem calK_nearest (h : FnD P w K mg base k "nearest" st_nearest ["frame", "places", "heights"] sp) : CalK P w K mg base k "nearest" sp := h.calK fun _ _ _ _ _ _ _ _ _ => rfl
theorem calK_miss (h : FnD P w K mg base k "miss" st_miss ["frame", "places", "heights"] sp) : CalK P w K mg base k "miss" sp := h.calK fun _ _ _ _ _ _ _ _ _ => rfl
end
end Bt
/-! ==== W34 ==== -/
set_option Elab.async false
set_option linter.all false
set_option maxRecDepth 100000
set_option maxHeartbeats 4000000
/-! _law_right: the walk's derivation. -/
namespace Bt
open PySem PySem.Spec PyProof.Rows L2 SW
abbrev qLam : Str := (("_law_right" : Str) ++ ".<locals>.") ++ "<lambda>"
abbrev st__law_right : Stmt := top 107
theorem sc__law_right : FnScope ["_law_mug_here", "_law_turn", "_law_draft_here", "_law_many", "_law_grid_here", "_law_full", "_law_least", "_law_found", "_law_bow", "_law_gaps_here", "_law_k", "_law_moved", "_law_drawn", "_law_levels_here", "_law_mine", "_law_sites_here", "_law_row_here"] ["_law_mug_here"] (defScope st__law_right) := ⟨rfl, rfl, rfl, by decide +kernel, rfl, by decide +kernel, by decide +kernel⟩
abbrev N_law_right : List Str := ["_law_mug_here", "_law_turn", "_law_draft_here", "_law_many", "_law_grid_here", "_law_full", "_law_least", "_law_found", "_law_bow", "_law_gaps_here", "_law_k", "_law_moved", "_law_drawn", "_law_levels_here", "_law_mine", "_law_sites_here", "_law_row_here"]
def t_full (K : PySem.W.Frag) : TS := (tSeq (tAsg (tOp (rIxL K) (tVar 7) (tC (.int 1))) (gName 8))
    (tSeq (tIfS (tOr (tTest (tOp rNe (tOp (rIxL K) (tVar 7) (tC (.int 0))) (tC (.str "told")))) (tOr (tNot (tB (tCall (sp__law_is_curve K) [] E0 (tCons (tVar 8) (tCons (tVar 14) (tCons (tVar 3) tNil)))))) (tTest (tOp (rNeG (DIns (He.ga K "Curve") (RQ K (He.ga K "Curve") (DB K)))) (tCallK (sp_nearest K) gKey E0 tNil (tCons (tVar 13) (tCons (tVar 15) (tCons (tVar 14) tNil)))) (tVar 8))))) (tRet (tC (.bl false))) tNext)
    (tSeq (tAsg (tCall (sp__law_gaps K) [] E0 (tCons (tProp (He.ga K "Curve") (sp_Curve_amounts K) [] E0 (tVar 8)) (tCons (tVar 4) (tCons (tVar 13) tNil)))) (gName 9))
    (tSeq (tIfS (tOr (tTest (tOp (rNeD K) (tLc (iRng1 (tCons (tVar 3) tNil)) (gName 10) (tTest (tOp (rNeD K) (tCall (sp__law_dot K) [] E0 (tCons (tVar 9) (tCons (tLc (iList K (tVar 4)) (gName 16) tYes (tOp (rIxL K) (tVar 16) (tVar 10)) [16]) tNil))) (tTup (tCons (tC (.int 0)) (tCons (tC (.int 1)) tNil))))) (tVar 10) [10]) (tLst tNil))) (tTest (tOp (rNeD K) (tCall (sp__law_squares K) [] E0 (tCons (tVar 9) tNil)) (tVar 6)))) (tRet (tC (.bl false))) tNext)
    (tSeq (tAsg (tCall (sp__law_sip K) [] E0 (tCons (tVar 0) (tCons (tVar 3) tNil))) (gName 10))
    (tSeq (tAsg (tOp (rCatA K) (tOp (rCatA K) (tSl (rSlA K) (tProp (He.ga K "Curve") (sp_Curve_amounts K) [] E0 (tVar 8)) tNoPart (tPart (tVar 10))) (tTup (tCons (tCall (sp__law_plus K) [] E0 (tCons (tOp (rIxT K) (tProp (He.ga K "Curve") (sp_Curve_amounts K) [] E0 (tVar 8)) (tVar 10)) (tCons (tTup (tCons (tC (.int 1)) (tCons (tC (.int 5)) tNil))) tNil))) tNil))) (tSl (rSlA K) (tProp (He.ga K "Curve") (sp_Curve_amounts K) [] E0 (tVar 8)) (tPart (tOp rAddI (tVar 10) (tC (.int 1)))) tNoPart)) (gName 11))
    (tIfS (tTest (tOp rLeI (tOp (rIxT K) (tCall (sp__law_less K) [] E0 (tCons (tCall (sp__law_squares K) [] E0 (tCons (tCall (sp__law_gaps K) [] E0 (tCons (tVar 11) (tCons (tVar 4) (tCons (tVar 13) tNil)))) tNil)) (tCons (tVar 6) tNil))) (tC (.int 0))) (tC (.int 0)))) (tRet (tC (.bl false))) tNext)))))))
def t_tail (K : PySem.W.Frag) : TS := (tSeq (tIfS (tTest (tOp (rNeD K) (tCallK (sp_miss K) gKey E0 tNil (tCons (tVar 13) (tCons (tVar 15) (tCons (tVar 14) tNil)))) (tVar 6))) (tRet (tC (.bl false))) tNext)
    (tSeq (tAsg (tCall (sp__law_amounts K) [] E0 (tCons (tVar 0) (tCons (tVar 3) tNil))) (gName 12))
    (tIfS (tTest (tOp rLtI (tOp (rIxT K) (tCall (sp__law_less K) [] E0 (tCons (tCall (sp__law_squares K) [] E0 (tCons (tCall (sp__law_gaps K) [] E0 (tCons (tVar 12) (tCons (tVar 4) (tCons (tVar 13) tNil)))) tNil)) (tCons (tVar 6) tNil))) (tC (.int 0))) (tC (.int 0)))) (tRet (tC (.bl false))) tNext)))
def t_turn (K : PySem.W.Frag) (C P0 : Addr) : TS := (tSeq (tAsg (tCall (sp__law_draft K) [] E0 (tCons (tVar 0) (tCons (tC (.int 5)) (tCons (tCall (sp__law_pick K) [] E0 (tCons (tVar 0) (tCons (tLst (tCons (tC (.int 3)) (tCons (tC (.int 8)) (tCons (tC (.int 20)) (tCons (tOp rPowI (tC (.int 10)) (tC (.int 5))) tNil))))) tNil))) tNil)))) (gName 2))
    (tSeq (tAsg (tTup (tCons (tCall (sp__law_made K) [] E0 (tCons (tVar 2) tNil)) (tCons (tCall (sp__law_hills K) [] E0 (tCons (tVar 2) tNil)) tNil))) (gTup K 2 (gCons (gName 14) (gCons (gName 3) gNil))))
    (tSeq (tAsg (tCall (sp__law_sites K) [] E0 (tCons (tVar 0) (tCons (tVar 2) (tCons (tC (.int 9)) tNil)))) (gName 15))
    (tSeq (tAsg (tTup (tCons (tCall (sp__law_grid K) [] E0 (tCons (tVar 2) (tCons (tVar 15) tNil))) (tCons (tCall (sp__law_levels K) [] E0 (tCons (tVar 0) (tCons (tCB (rLen K) (tCons (tVar 15) tNil)) tNil))) tNil))) (gTup K 2 (gCons (gName 4) (gCons (gName 13) gNil))))
    (tSeq (tPar 5 6 (tCons (tCall (sp__law_rank K) [] E0 (tCons (tVar 4) tNil)) (tCons (tCall (sp_miss K) [] E0 (tCons (tVar 14) (tCons (tVar 15) (tCons (tVar 13) tNil)))) tNil)))
    (tSeq (tIfS (tOr (tTest (tOp rNe (tOp (rEqD K) (tVar 6) (tTup (tCons (tC (.int 0)) (tCons (tC (.int 1)) tNil)))) (tOp rNotNo (tCall (sp_curve_through K) [] E0 (tCons (tVar 14) (tCons (tVar 15) (tCons (tVar 13) tNil)))) (tC .non)))) (tTest (tOp rLtI (tOp (rIxT K) (tVar 6) (tC (.int 0))) (tC (.int 0))))) (tRet (tC (.bl false))) tNext)
    (tSeq (tAsg (LamX.tLam [(P0, qLam)] (TTe C) (fun E => tCall (sp_nearestX K C) [] E (tCons (tVar 14) (tCons (tVar 15) (tCons (tVar 13) tNil))))) (gName 7))
    (tSeq (tIfS (tAnd (tTest (tOp rLtI (tVar 5) (tVar 3))) (tTest (tOp (rNeD K) (tVar 7) (tLst (tCons (tC (.str "one")) (tCons (tVar 5) tNil)))))) (tRet (tC (.bl false))) tNext)
    (tSeq (tIfS (tTest (tOp rEq (tVar 5) (tVar 3))) (t_full K) tNext)
    (t_tail K))))))))))
def t__law_right (K : PySem.W.Frag) (C P0 : Addr) : TS := (tSeq (tFor (iRng1 (tCons (tC (.int 4)) tNil)) (gName 1)
    (t_turn K C P0))
    (tRet (tC (.bl true))))
theorem ps__law_right {P : Program} {w : World} {K : PySem.W.Frag} {mg : Str → Option Value} {base : Heap} {C P0 c : Addr} (T : Txt P K mg base) (c__law_draft : C8.Cal P w K mg base 36 "_law_draft" (sp__law_draft K) []) (c__law_pick : C8.Cal P w K mg base 35 "_law_pick" (sp__law_pick K) []) (c__law_hills : C8.Cal P w K mg base 1 "_law_hills" (sp__law_hills K) []) (c__law_made : C8.Cal P w K mg base 6 "_law_made" (sp__law_made K) []) (c__law_sites : C8.Cal P w K mg base 37 "_law_sites" (sp__law_sites K) []) (c__law_levels : C8.Cal P w K mg base 37 "_law_levels" (sp__law_levels K) []) (c__law_grid : C8.Cal P w K mg base 44 "_law_grid" (sp__law_grid K) []) (c_miss : C8.Cal P w K mg base 46 "miss" (sp_miss K) []) (c__law_rank : C8.Cal P w K mg base 35 "_law_rank" (sp__law_rank K) []) (c_curve_through : C8.Cal P w K mg base 45 "curve_through" (sp_curve_through K) []) (c__law_is_curve : C8.Cal P w K mg base 5 "_law_is_curve" (sp__law_is_curve K) []) (c__law_gaps : C8.Cal P w K mg base 38 "_law_gaps" (sp__law_gaps K) []) (c__law_dot : C8.Cal P w K mg base 36 "_law_dot" (sp__law_dot K) []) (c__law_squares : C8.Cal P w K mg base 37 "_law_squares" (sp__law_squares K) []) (c__law_sip : C8.Cal P w K mg base 34 "_law_sip" (sp__law_sip K) []) (c__law_plus : C8.Cal P w K mg base 35 "_law_plus" (sp__law_plus K) []) (c__law_less : C8.Cal P w K mg base 35 "_law_less" (sp__law_less K) []) (c__law_amounts : C8.Cal P w K mg base 37 "_law_amounts" (sp__law_amounts K) []) (k_nearest : CalK P w K mg base 46 "nearest" (sp_nearest K)) (k_miss : CalK P w K mg base 46 "miss" (sp_miss K)) (n_Curve : NeC P w K mg base 5 (He.ga K "Curve") (DB K)) (p_Curve_amounts : Prp P w K mg base 1 (He.ga K "Curve") "amounts" (sp_Curve_amounts K))
    (cX : CalX P w K mg base 46 "nearest" ["frame", "places", "heights"] (sp_nearestX K C)) (De : Dd K mg "_law_error" st__law_error) (TE : TxtE K mg C) (hex : PySem.W.exmAny K (.ref C) [.ref (He.ga K "NotRight"), .ref (He.ga K "NotKnown"), .ref (He.ga K "NotPossible")] = some true) (c1 : CalE P w K mg base C 1 "_law_class" (fun a dd => sp__law_class dd a)) (c2 : CalE P w K mg base C 1 "_law_field" (fun a dd => sp__law_field dd a)) (TB : LamX.TabB base mg c P0)
    (f : Addr) (A : Around) (outer : List Env) (s : Shared) (H : Hp) (E : XK) (hr : Room 48 (A.deeper (envOfC "_law_right" (defScope st__law_right) s.heap.objs.size f (.ref c)))) : PSs (cxOf C8.CX0 P w K mg base N_law_right "_law_right" (defScope st__law_right) f (.ref c) A outer s H E).nox (defBody st__law_right) (t__law_right K C P0) := by
  obtain ⟨fx, fdx, Fx, mx, kx, bx⟩ := cX.ex
  obtain ⟨fe, fde, Fe, me⟩ := De.ex
  have bE := Fe.bindsN (ps := ["_law_act"]) (fun _ _ _ _ _ _ us hl => match us, hl with | [_], _ => rfl)
  have kpe := Fe.kp
  obtain ⟨oc, od, dV, kV, doc, pm, an, cdv, ct, osl, rfl, lk, hcd, hdv, hkv⟩ := Fe.ex
  exact (pss_cons (ps_for PassesOwn.never rfl (pi_range1 rfl T.f_range (pa_cons pe_int pa_nil)) (pg_name (i := 1) sc__law_right.nd rfl (Or.inl rfl))
    (pss_cons (ps_set (i := 2) sc__law_right.nd rfl (Or.inl rfl) (C8.pe_c c__law_draft hr (by decide) rfl (pa_cons (pv 0) (pa_cons pe_int (pa_cons (C8.pe_c c__law_pick hr (by decide) rfl (pa_cons (pv 0) (pa_cons (pe_lst (pa_cons pe_int (pa_cons pe_int (pa_cons pe_int (pa_cons (pe_op op_pow pe_int pe_int) pa_nil))))) pa_nil))) pa_nil)))))
    (pss_cons (ps_asg (pe_tup (pa_cons (C8.pe_c c__law_made hr (by decide) rfl (pa_cons (pv 2) pa_nil)) (pa_cons (C8.pe_c c__law_hills hr (by decide) rfl (pa_cons (pv 2) pa_nil)) pa_nil))) (pg_tup rfl (pgs_cons (pg_name (i := 14) sc__law_right.nd rfl (Or.inr rfl)) (pgs_cons (pg_name (i := 3) sc__law_right.nd rfl (Or.inl rfl)) pgs_nil))))
    (pss_cons (ps_set (i := 15) sc__law_right.nd rfl (Or.inr rfl) (C8.pe_c c__law_sites hr (by decide) rfl (pa_cons (pv 0) (pa_cons (pv 2) (pa_cons pe_int pa_nil)))))
    (pss_cons (ps_asg (pe_tup (pa_cons (C8.pe_c c__law_grid hr (by decide) rfl (pa_cons (pv 2) (pa_cons (pv 15) pa_nil))) (pa_cons (C8.pe_c c__law_levels hr (by decide) rfl (pa_cons (pv 0) (pa_cons (pe_callB call_len (by rfl) T.f_len (by decide +kernel) (pa_cons (pv 15) pa_nil)) pa_nil))) pa_nil))) (pg_tup rfl (pgs_cons (pg_name (i := 4) sc__law_right.nd rfl (Or.inr rfl)) (pgs_cons (pg_name (i := 13) sc__law_right.nd rfl (Or.inr rfl)) pgs_nil))))
    (pss_cons (ps_par (i := 5) (j := 6) rfl sc__law_right.nd rfl rfl (by decide) rfl rfl (pa_cons (C8.pe_c c__law_rank hr (by decide) rfl (pa_cons (pv 4) pa_nil)) (pa_cons (C8.pe_c c_miss hr (by decide) rfl (pa_cons (pv 14) (pa_cons (pv 15) (pa_cons (pv 13) pa_nil)))) pa_nil)) (by rfl))
    (pss_cons (ps_if (PW.pt (pw_or (pt_cmpR op_ne (pe_cmpR (op_eqD hr.units) (pv 6) (pe_tup (pa_cons pe_int (pa_cons pe_int pa_nil))) (nomark _)) (pe_cmpR op_notN (C8.pe_c c_curve_through hr (by decide) rfl (pa_cons (pv 14) (pa_cons (pv 15) (pa_cons (pv 13) pa_nil)))) pe_non (nomark _)) (nomark _)) (pw_or1 (pt_cmpR op_lt (pe_ix ix_tup (pv 6) pe_int (fun _ _ => rfl)) pe_int (nomark _))))) (pss_one (ps_ret pe_bl)) pss_nil)
    (pss_cons (ps_set (i := 7) sc__law_right.nd rfl (Or.inl rfl) (LamN.pe_lamcall (T := [(P0, qLam)]) (TT := TTe C) (k := 46) rfl me kpe lk hcd bE sc__law_error rfl (Or.inl rfl) (gives_error T TE hex c1 c2 (by decide)) TB rfl (List.mem_singleton.mpr rfl) (fun p hp _ => by have e := List.mem_singleton.mp hp; rw [e]; rfl) hr (LamX.lamS_by (by rfl)) rfl (fun _ _ _ _ _ => rfl) (fun A outer s H E f c2 hr2 => pe_call Fx hr2 rfl mx kx bx .nil (L2N.passes_call (L2N.takes_of rfl rfl rfl rfl) (fun _ _ _ _ h => h)) (pa_cons (pv 14) (pa_cons (pv 15) (pa_cons (pv 13) pa_nil))))))
    (pss_cons (ps_if (PW.pt (pw_and (pt_cmpR op_lt (pv 5) (pv 3) (nomark _)) (pw_and1 (pt_cmpR (op_neD hr.units) (pv 7) (pe_lst (pa_cons pe_str (pa_cons (pv 5) pa_nil))) (nomark _))))) (pss_one (ps_ret pe_bl)) pss_nil)
    (pss_cons (ps_if (pt_cmpR op_eq (pv 5) (pv 3) (nomark _)) (pss_cons (ps_set (i := 8) sc__law_right.nd rfl (Or.inl rfl) (pe_ix ix_list (pv 7) pe_int (fun _ _ => rfl)))
    (pss_cons (ps_if (PW.pt (pw_or (pt_cmpR op_ne (pe_ix ix_list (pv 7) pe_int (fun _ _ => rfl)) pe_str (nomark _)) (pw_or (pt_not (pt_val (C8.pe_c c__law_is_curve hr (by decide) rfl (pa_cons (pv 8) (pa_cons (pv 14) (pa_cons (pv 3) pa_nil)))))) (pw_or1 (pt_cmpR (op_neC n_Curve hr (by decide)) (pck k_nearest hr (by decide) rfl (pk_cons (pv 13) (pk_cons (pv 15) (pk_cons (pv 14) pk_nil)))) (pv 8) (nomark _)))))) (pss_one (ps_ret pe_bl)) pss_nil)
    (pss_cons (ps_set (i := 9) sc__law_right.nd rfl (Or.inr rfl) (C8.pe_c c__law_gaps hr (by decide) rfl (pa_cons (pe_prp p_Curve_amounts hr (by decide) (pv 8) rfl) (pa_cons (pv 4) (pa_cons (pv 13) pa_nil)))))
    (pss_cons (ps_if (PW.pt (pw_or (pt_cmpR (op_neD hr.units) (pe_lc (own := [("_law_k", 10)]) (g := (gName 10)) (tt := (tTest (tOp (rNeD K) (tCall (sp__law_dot K) [] E0 (tCons (tVar 9) (tCons (tLc (iList K (tVar 4)) (gName 16) tYes (tOp (rIxL K) (tVar 16) (tVar 10)) [16]) tNil))) (tTup (tCons (tC (.int 0)) (tCons (tC (.int 1)) tNil)))))) rfl sc__law_right.nd (pi_range1 rfl T.f_range (pa_cons (pv 3) pa_nil)) (blkOk_by (by rfl)) (fun _ _ _ _ _ => (pg_name (i := 10) sc__law_right.nd rfl (Or.inr rfl))) (fun _ _ _ _ _ => (pts_one (pt_cmpR (op_neD hr.units) (C8.pe_c c__law_dot hr (by decide) rfl (pa_cons (pv 9) (pa_cons (pe_lc (own := [("_law_row_here", 16)]) (g := (gName 16)) (tt := tYes) rfl sc__law_right.nd (pi_list (pv 4)) (blkOk_by (by rfl)) (fun _ _ _ _ _ => (pg_name (i := 16) sc__law_right.nd rfl (Or.inl rfl))) (fun _ _ _ _ _ => pts_nil) (fun _ _ _ _ _ => (pe_ix ix_list (pv 16) (pv 10) (fun _ _ => rfl)))) pa_nil))) (pe_tup (pa_cons pe_int (pa_cons pe_int pa_nil))) (nomark _)))) (fun _ _ _ _ _ => (pv 10))) (pe_lst pa_nil) (nomark _)) (pw_or1 (pt_cmpR (op_neD hr.units) (C8.pe_c c__law_squares hr (by decide) rfl (pa_cons (pv 9) pa_nil)) (pv 6) (nomark _))))) (pss_one (ps_ret pe_bl)) pss_nil)
    (pss_cons (ps_set (i := 10) sc__law_right.nd rfl (Or.inl rfl) (C8.pe_c c__law_sip hr (by decide) rfl (pa_cons (pv 0) (pa_cons (pv 3) pa_nil))))
    (pss_cons (ps_set (i := 11) sc__law_right.nd rfl (Or.inl rfl) (pe_op op_catA (pe_op op_catA (pe_slice sl_tupA (pe_prp p_Curve_amounts hr (by decide) (pv 8) rfl) po_none (po_some (pv 10))) (pe_tup (pa_cons (C8.pe_c c__law_plus hr (by decide) rfl (pa_cons (pe_ix ix_tup (pe_prp p_Curve_amounts hr (by decide) (pv 8) rfl) (pv 10) (fun _ _ => rfl)) (pa_cons (pe_tup (pa_cons pe_int (pa_cons pe_int pa_nil))) pa_nil))) pa_nil))) (pe_slice sl_tupA (pe_prp p_Curve_amounts hr (by decide) (pv 8) rfl) (po_some (pe_op op_add (pv 10) pe_int)) po_none)))
    (pss_one (ps_if (pt_cmpR op_le (pe_ix ix_tup (C8.pe_c c__law_less hr (by decide) rfl (pa_cons (C8.pe_c c__law_squares hr (by decide) rfl (pa_cons (C8.pe_c c__law_gaps hr (by decide) rfl (pa_cons (pv 11) (pa_cons (pv 4) (pa_cons (pv 13) pa_nil)))) pa_nil)) (pa_cons (pv 6) pa_nil))) pe_int (fun _ _ => rfl)) pe_int (nomark _)) (pss_one (ps_ret pe_bl)) pss_nil)))))))) pss_nil)
    (pss_cons (ps_if (pt_cmpR (op_neD hr.units) (pck k_miss hr (by decide) rfl (pk_cons (pv 13) (pk_cons (pv 15) (pk_cons (pv 14) pk_nil)))) (pv 6) (nomark _)) (pss_one (ps_ret pe_bl)) pss_nil)
    (pss_cons (ps_set (i := 12) sc__law_right.nd rfl (Or.inl rfl) (C8.pe_c c__law_amounts hr (by decide) rfl (pa_cons (pv 0) (pa_cons (pv 3) pa_nil))))
    (pss_one (ps_if (pt_cmpR op_lt (pe_ix ix_tup (C8.pe_c c__law_less hr (by decide) rfl (pa_cons (C8.pe_c c__law_squares hr (by decide) rfl (pa_cons (C8.pe_c c__law_gaps hr (by decide) rfl (pa_cons (pv 12) (pa_cons (pv 4) (pa_cons (pv 13) pa_nil)))) pa_nil)) (pa_cons (pv 6) pa_nil))) pe_int (fun _ _ => rfl)) pe_int (nomark _)) (pss_one (ps_ret pe_bl)) pss_nil))))))))))))))
    (pss_one (ps_ret pe_bl)))
end Bt
/-! ==== W35 ==== -/
set_option Elab.async false
set_option linter.all false
set_option maxRecDepth 100000
set_option maxHeartbeats 2000000
/-! _law_right: what a turn comes to. -/
namespace Bt
open PySem PySem.Spec PyProof.Rows L2 SW
section
variable {K : PySem.W.Frag} {ta tb tc te : TE} {σ : L2.St} {G : Hp} {P' : VP}
/-- the word, what stands beside it -/
theorem ep_wd0 {w : Str} [Stays P'] (h : Ep ta σ G (IsWd w P')) : Ep (tOp (rIxL K) ta (tC (.int 0))) σ G (IsTx w) :=
  ep_bin h ep_c fun v z G1 H1 Q _ s px py q => by
    obtain ⟨p, u, h1, h2, h3⟩ := px
    exact ⟨p, _, 0, .str w, h1, py, SqL.of (s _ _ h2), rfl, q _ G1 H1 (To.refl s) rfl⟩
theorem ep_wd1 {w : Str} (h : Ep ta σ G (IsWd w P')) [Stays P'] : Ep (tOp (rIxL K) ta (tC (.int 1))) σ G P' :=
  ep_bin h ep_c fun v z G1 H1 Q _ s px py q => by
    obtain ⟨p, u, h1, h2, h3⟩ := px
    exact ⟨p, _, 1, u, h1, py, SqL.of (s _ _ h2), rfl, q _ G1 H1 (To.refl s) h3⟩
/-- handed over by name -/
theorem ep_callK3 {α β γ : Type} {P1 : α → VP} {P2 : β → VP} {P3 : γ → VP} {E : XK} {C : α → β → γ → Prop} {B : α → β → γ → VP} [∀ b, Stays (P2 b)] [∀ c, Stays (P3 c)] (a : α) (b : β) (c : γ) (ha : Ep ta σ G (P1 a)) (hb : Ep tb σ G (P2 b)) (hc' : Ep tc σ G (P3 c)) (hc : C a b c) :
    Ep (tCallK (sp3 P1 P2 P3 C B) gKey E tNil (tCons tc (tCons tb (tCons ta tNil)))) σ G (B a b c) := fun G1 H1 e s Q q =>
  hc' G1 H1 e s _ fun z G2 H2 t2 pz => hb G2 H2 (e.trans t2.up) t2.in_ _ fun y G3 H3 t3 py => ha G3 H3 ((e.trans t2.up).trans t3.up) t3.in_ _ fun x G4 H4 t4 px =>
    ⟨G4, a, b, c, x, y, z, rfl, t4.in_, ⟨px, up t4.up py, up (t3.up.trans t4.up) pz⟩, hc, fun v G5 H5 t5 p => q v G5 H5 (((t2.trans t3).trans t4).trans t5) p⟩
theorem ep_zero : Ep (tTup (tCons (tC (.int 0)) (tCons (tC (.int 1)) tNil))) σ G (IsF K 0) := ep_frac ep_c ep_c
theorem ep_fifth : Ep (tTup (tCons (tC (.int 1)) (tCons (tC (.int 5)) tNil))) σ G (IsF K (1 / 5)) := by
  have e1 : (1 / 5 : Rat).num = 1 := by decide +kernel
  have e2 : (1 / 5 : Rat).den = 5 := by decide +kernel
  refine ep_frac ?_ ?_
  · rw [e1]; exact ep_c
  · rw [e2]; exact ep_c
theorem ep_amounts {vm : V} {c : List Rat} (h : Ep te σ G (IsCv K vm c)) : Ep (tProp (He.ga K "Curve") (sp_Curve_amounts K) [] E0 te) σ G (IsT K (IsF K) c) :=
  ep_prop (P1 := fun (x : V × List Rat) => IsCv K x.1 x.2) (fun (a : V × List Rat) v G (h : IsCv K a.1 a.2 v G) => by
    obtain ⟨x, dx, pv, h1, h2, _⟩ := h
    exact ⟨x, dx, _, h1, h2⟩) (vm, c) h trivial
theorem fit_zero : FitF 0 := (sz_zero (b := 1) (by decide)).fit (by decide)
/-- a list of numbers, the column at k of a grid -/
theorem col_map {f : Int × List Int} {xs : List Int} {k : Nat} (hk : k < nOf f) : ((gridF f xs).map fun r => r.getD k 0) = colF f xs k := by
  unfold gridF colF
  rw [List.map_map]
  conv => lhs; rw [list_range xs 0]
  rw [List.map_map]
  refine List.map_congr_left fun p _ => ?_
  show (rowOf f (xs.getD p 0)).getD k 0 = _
  unfold rowOf
  exact getD_map_range hk
theorem num_pos {q : Rat} (h : 0 < q) : ¬ q.num ≤ 0 := fun z => by
  have : 0 ≤ -q := Rat.num_nonneg.mp (by rw [Rat.neg_num]; omega)
  grind
theorem num_nn {q : Rat} (h : 0 ≤ q) : ¬ q.num < 0 := fun z => by
  have := Rat.num_nonneg.mpr h
  omega
end
/-! ### all that a turn has drawn -/
structure Tn (K : PySem.W.Frag) (f : Int × List Int) (xs ys : List Int) (c : List Rat) (vg vl vy vm vx : V) (G : Hp) : Prop where
  g : IsL (IsL (IsF K)) (gridF f xs) vg G
  l : IsF K (missF f xs ys c) vl G
  y : IsT K IsI ys vy G
  m : IsFr K f vm G
  x : IsT K IsI xs vx G
theorem Tn.up {K : PySem.W.Frag} {f : Int × List Int} {xs ys : List Int} {c : List Rat} {vg vl vy vm vx : V} {G G2 : Hp} (s : Same G G2) (t : Tn K f xs ys c vg vl vy vm vx G) : Tn K f xs ys c vg vl vy vm vx G2 := ⟨Bt.up s t.g, Bt.up s t.l, Bt.up s t.y, Bt.up s t.m, Bt.up s t.x⟩
section
variable {K : PySem.W.Frag} {m P0 C : Addr} {H0 G H : Hp} {f : Int × List Int} {xs ys : List Int} {c : List Rat} {vg vl vy vm vx : V} {a1 a2 a5 a7 a8 a9 a10 a11 a12 a16 : Option V} {D : Ends}
theorem tail_ok (o : Ok f xs ys) (am : amF f xs ys = some c) (r : Rr m P0 qLam H0 G H) (t : Tn K f xs ys c vg vl vy vm vx G)
    (k : ∀ a12 G' H', Same G G' → Rr m P0 qLam H0 G' H' → D.nx [some (.ref m), a1, a2, some (.int (nOf f : Nat)), some vg, a5, some vl, a7, a8, a9, a10, a11, a12, some vy, some vm, some vx, a16] H') :
    t_tail K D [some (.ref m), a1, a2, some (.int (nOf f : Nat)), some vg, a5, some vl, a7, a8, a9, a10, a11, a12, some vy, some vm, some vx, a16] H := by
  have few := o.dr.few
  have hc := am_len am
  unfold t_tail
  refine r_skip r ((et_test (ep_neF (K := K) (p := missF f xs ys ((amF f xs ys).getD [])) (q := missF f xs ys c) (ep_callK3 (E := E0) (P1 := IsFr K) (P2 := IsT K IsI) (P3 := IsT K IsI) (C := fun f xs ys => ∃ c, MiOk f xs ys c) (B := fun f xs ys => IsF K (missF f xs ys ((amF f xs ys).getD []))) f xs ys (ep_var (i := 14) rfl t.m) (ep_var (i := 15) rfl t.x) (ep_var (i := 13) rfl t.y) ⟨c, o.mi am⟩) (ep_var (i := 6) rfl t.l))).is (by rw [am]; simp)) fun G1 H1 s1 r1 => ?_
  refine r_asgd r1 (P' := IsE (fun d => (∀ q ∈ d, AmOk q) ∧ d.length = nOf f) (IsT K (IsF K))) (ed_draw (i := 0) (C2 := fun n : Nat => n = nOf f) rfl ((Ed.of (ep_v (i := 3) rfl)).to fun v _ _ p => ⟨nOf f, rfl, p⟩) (fun b hb => by rw [hb]; omega) fun b v G' hb p => by rw [hb] at p; exact p) fun v G2 H2 s2 r2 ⟨d, ⟨hd, hdl⟩, p⟩ => ?_
  have gd := o.gp hdl (Ok.drawn hd)
  have gc := o.gp hc fun q hq => (o.am am q hq).mono (by omega)
  have t2 := t.up (s1.trans s2)
  have hle := miss_least o.len am hdl
  have e1 : Ep (tCall (sp__law_less K) [] E0 (tCons (tCall (sp__law_squares K) [] E0 (tCons (tCall (sp__law_gaps K) [] E0 (tCons (tVar 12) (tCons (tVar 4) (tCons (tVar 13) tNil)))) tNil)) (tCons (tVar 6) tNil))) [some (.ref m), a1, a2, some (.int (nOf f : Nat)), some vg, a5, some vl, a7, a8, a9, a10, a11, some v, some vy, some vm, some vx, a16] G2 (IsF K (gdot (gapsF f xs ys d) (gapsF f xs ys d) - missF f xs ys c)) :=
    ep_call2 (gdot (gapsF f xs ys d) (gapsF f xs ys d)) (missF f xs ys c) (ep_call1 (gapsF f xs ys d) (ep_call3 (P1 := IsS K (IsF K)) (P2 := IsL (IsL (IsF K))) (P3 := IsT K IsI) (C := GapOk) (B := fun c rows ys => IsL (IsF K) (gapsL c rows ys)) d (gridF f xs) ys (Ep.sT (ep_var (i := 12) rfl p)) (ep_var (i := 4) rfl t2.g) (ep_var (i := 13) rfl t2.y) gd.gap) gd.sq) (ep_var (i := 6) rfl t2.l) ⟨gd.one, by rw [miss_gaps]; exact gc.one⟩
  refine r_skipE r2 ((et_test (ep_lt (ep_num e1) ep_c)).is (decide_eq_false (num_nn ?_))) fun G3 H3 s3 r3 => k (some v) G3 H3 ((s1.trans s2).trans s3) r3
  rw [← miss_gaps]
  grind
theorem full_ok (o : Ok f xs ys) (am : amF f xs ys = some c) (full : rankF f xs = nOf f) (r : Rr m P0 qLam H0 G H) (t : Tn K f xs ys c vg vl vy vm vx G) {vf : V} (hf : IsWd "told" (IsCv K vm c) vf G)
    (k : ∀ a8 a9 a10 a11 G' H', Same G G' → Rr m P0 qLam H0 G' H' → D.nx [some (.ref m), a1, a2, some (.int (nOf f : Nat)), some vg, a5, some vl, some vf, a8, a9, a10, a11, a12, some vy, some vm, some vx, a16] H') :
    t_full K D [some (.ref m), a1, a2, some (.int (nOf f : Nat)), some vg, a5, some vl, some vf, a8, a9, a10, a11, a12, some vy, some vm, some vx, a16] H := by
  have few := o.dr.few
  have one := o.dr.one
  have hc := am_len am
  have hl := o.len
  have gc := o.gp hc fun q hq => (o.am am q hq).mono (by omega)
  obtain ⟨am_, dxm, pvm, evm, _, _⟩ := id t.m
  subst evm
  unfold t_full
  refine r_asg r (ep_wd1 (ep_var (i := 7) rfl hf)) fun vb G1 H1 s1 r1 pb => ?_
  have t1 := t.up s1
  refine r_skip r1 ((et_or (et_test (ep_ne (ep_wd0 (ep_var (i := 7) rfl (up s1 hf))) ep_c rfl)) fun _ => et_or (et_not (et_B (ep_call3 (P1 := fun (x : V × List Rat) => IsCv K x.1 x.2) (P2 := IsFrV K) (P3 := IsI) (C := fun x y m => x.1 = y.1 ∧ (x.2.length : Int) = m ∧ x.2.length ≤ 1000) (B := fun _ _ _ => IsB true) (.ref am_, c) (.ref am_, f) (nOf f : Int) (ep_var (i := 8) rfl pb) (ep_var (P := IsFrV K (.ref am_, f)) (i := 14) rfl ⟨rfl, t1.m⟩) (ep_v (i := 3) rfl) ⟨rfl, by rw [hc], show c.length ≤ 1000 by omega⟩))) fun _ => et_test (ep_neCv (am := c) ?_ (ep_var (i := 8) rfl pb))).is (by simp)) fun G2 H2 s2 r2 => ?_
  · have q := ep_callK3 (E := E0) (P1 := IsFrV K) (P2 := IsT K IsI) (P3 := IsT K IsI) (C := fun x xs ys => PtOk x.2 xs ys ∧ rankF x.2 xs = nOf x.2 ∧ ∃ c, amF x.2 xs ys = some c) (B := fun x xs ys => IsCv K x.1 ((amF x.2 xs ys).getD [])) (ta := tVar 14) (tb := tVar 15) (tc := tVar 13) (σ := [some (.ref m), a1, a2, some (.int (nOf f : Nat)), some vg, a5, some vl, some vf, some vb, a9, a10, a11, a12, some vy, some (.ref am_), some vx, a16]) (G := G1) (.ref am_, f) xs ys (ep_var rfl ⟨rfl, t1.m⟩) (ep_var rfl t1.x) (ep_var rfl t1.y) ⟨o.pt, full, c, am⟩
    rw [am] at q
    exact q
  have t2 := t1.up s2
  have pb2 : IsCv K (.ref am_) c vb G2 := up s2 pb
  refine r_asg r2 (P' := IsL (IsF K) (gapsF f xs ys c)) (ep_call3 (P1 := IsS K (IsF K)) (P2 := IsL (IsL (IsF K))) (P3 := IsT K IsI) (C := GapOk) (B := fun c rows ys => IsL (IsF K) (gapsL c rows ys)) c (gridF f xs) ys (Ep.sT (ep_amounts (ep_var (i := 8) rfl pb2))) (ep_var (i := 4) rfl t2.g) (ep_var (i := 13) rfl t2.y) gc.gap) fun v9 G3 H3 s3 r3 p9 => ?_
  have t3 := t2.up s3
  have pb3 : IsCv K (.ref am_) c vb G3 := up s3 pb2
  have hright : ∀ (i : Nat) (x : Int) (v : V) (G4 : Hp), (rng 0 (nOf f : Nat))[i]? = some x → Same G3 G4 → IsI x v G4 → ∃ σ2, Gb (gName 10) v (wipe [some (.ref m), a1, a2, some (.int (nOf f : Nat)), some vg, a5, some vl, some vf, some vb, some v9, a10, a11, a12, some vy, some (.ref am_), some vx, a16] [10]) G4 σ2 ∧ wipe σ2 [10] = wipe [some (.ref m), a1, a2, some (.int (nOf f : Nat)), some vg, a5, some vl, some vf, some vb, some v9, a10, a11, a12, some vy, some (.ref am_), some vx, a16] [10] ∧
      Et (tTest (tOp (rNeD K) (tCall (sp__law_dot K) [] E0 (tCons (tVar 9) (tCons (tLc (iList K (tVar 4)) (gName 16) tYes (tOp (rIxL K) (tVar 16) (tVar 10)) [16]) tNil))) (tTup (tCons (tC (.int 0)) (tCons (tC (.int 1)) tNil))))) σ2 G4 false ∧ (false = true → Ep (tVar 10) σ2 G4 (IsI x)) := fun i x v G4 hi s4 hv => by
    obtain ⟨hin, hx⟩ := rng_get hi
    have hx : x = (i : Nat) := by omega
    subst hx
    have hv : v = .int (i : Nat) := hv
    subst hv
    refine ⟨_, gb_name, rfl, ?_, fun z => nomatch z⟩
    have t4 := t3.up s4
    have hcol : Ep (tLc (iList K (tVar 4)) (gName 16) tYes (tOp (rIxL K) (tVar 16) (tVar 10)) [16]) [some (.ref m), a1, a2, some (.int (nOf f : Nat)), some vg, a5, some vl, some vf, some vb, some v9, some (.int (i : Nat)), a11, a12, some vy, some (.ref am_), some vx, a16] G4 (IsL (IsF K) (colF f xs i)) := by
      have q := ep_lm (R := IsF K) (te := tOp (rIxL K) (tVar 16) (tVar 10)) (g := gName 16) (vs := [16]) (σ := [some (.ref m), a1, a2, some (.int (nOf f : Nat)), some vg, a5, some vl, some vf, some vb, some v9, some (.int (i : Nat)), a11, a12, some vy, some (.ref am_), some vx, a16]) (fun r : List Rat => r.getD i 0) (it_list (K := K) (F := IsL (IsF K)) (ep_var (i := 4) rfl t4.g)) (by have := o.sc.1; omega) fun j row v G5 hj s5 hv => ?_
      · rw [col_map hin] at q
        exact q
      · have hr := (o.row (List.mem_of_getElem? hj)).2
        exact ⟨_, gb_name, rfl, ep_ixL (F := IsF K) (i := i) (ep_var (i := 16) rfl hv) (ep_v (i := 10) rfl) (by rw [List.getD_eq_getElem?_getD, List.getElem?_eq_getElem (by omega)]; rfl)⟩
    refine (et_test (ep_neF (p := gdot (gapsF f xs ys c) (colF f xs i)) (q := 0) (ep_call2 (gapsF f xs ys c) (colF f xs i) (Ep.sL (ep_var (i := 9) rfl (up s4 p9))) (Ep.sL hcol) (gc.col i)) ep_zero)).is ?_
    rw [gaps_right hl am hin]
    simp
  refine r_skip r3 ((et_or (et_test (ep_neLI (xs := ((rng 0 (nOf f : Nat)).filter fun _ => false).map fun x => x) (ys := []) (ep_lc (R := IsI) (fun _ => false) (fun x => x) (it_rng1 (n := (nOf f : Nat)) (ep_v (i := 3) rfl) (by omega) (by omega)) (by rw [rng_len]; omega) hright) ep_nilL)) fun _ => et_test (ep_neF (p := gdot (gapsF f xs ys c) (gapsF f xs ys c)) (q := missF f xs ys c) (ep_call1 (P1 := IsL (IsF K)) (C := fun gs => FitD gs gs) (B := fun gs => IsF K (gdot gs gs)) (gapsF f xs ys c) (ep_var (i := 9) rfl p9) gc.sq) (ep_var (i := 6) rfl t3.l))).is (by rw [miss_gaps]; simp)) fun G4 H4 s4 r4 => ?_
  have t4 := t3.up s4
  have pb4 : IsCv K (.ref am_) c vb G4 := up s4 pb3
  refine r_asgd r4 (P' := IsE (fun z => 0 ≤ z ∧ z < (nOf f : Int)) IsI) (ed_draw (i := 0) (C2 := fun z => z = (nOf f : Int)) rfl ((Ed.of (ep_v (i := 3) rfl)).one rfl) (fun b hb => by rw [hb]; omega) fun b v G' hb p => by rw [hb] at p; exact p) fun v10 G5 H5 s5 r5 ⟨z, ⟨z0, z1⟩, p10⟩ => ?_
  obtain ⟨k0, rfl⟩ := Int.eq_ofNat_of_zero_le z0
  have hk : k0 < nOf f := by omega
  have p10 : v10 = .int (k0 : Nat) := p10
  subst p10
  have t5 := t4.up s5
  have pb5 : IsCv K (.ref am_) c vb G5 := up s5 pb4
  have hck : c[k0]? = some (c.getD k0 0) := by rw [List.getD_eq_getElem?_getD, List.getElem?_eq_getElem (by omega)]; rfl
  have am5 : Ep (tProp (He.ga K "Curve") (sp_Curve_amounts K) [] E0 (tVar 8)) [some (.ref m), a1, a2, some (.int (nOf f : Nat)), some vg, a5, some vl, some vf, some vb, some v9, some (.int (k0 : Nat)), a11, a12, some vy, some (.ref am_), some vx, a16] G5 (IsT K (IsF K) c) := ep_amounts (ep_var rfl pb5)
  have fck : FitF (c.getD k0 0) := (o.am am _ (List.mem_of_getElem? hck)).fit (by decide)
  have ffifth : FitF (1 / 5 : Rat) := (sz_div (n := 3) (a := 1) (b := 5) (by decide) (by decide) (by decide)).fit (by decide)
  refine r_asg r5 (P' := IsT K (IsF K) (movedF c k0)) ?_ fun v11 G6 H6 s6 r6 p11 => ?_
  · have q := ep_catT (K := K) (F := IsF K) (ep_catT (ep_uptoT am5 (ep_v (i := 10) rfl) (by omega)) (ep_tupOne (F := IsF K) (x := c.getD k0 0 + 1 / 5) (ep_call2 (E := E0) (P1 := IsF K) (P2 := IsF K) (C := fun x y => FitF x ∧ FitF y) (B := fun x y => IsF K (x + y)) (c.getD k0 0) (1 / 5) (ep_ixT (F := IsF K) am5 (ep_v (i := 10) rfl) hck) ep_fifth ⟨fck, ffifth⟩)) (by simp; omega)) (ep_fromT (k := k0 + 1) am5 ((ep_add (a := (k0 : Nat)) (b := 1) (ep_v (i := 10) rfl) ep_c).is (by simp)) (by omega)) (by simp; omega)
    rw [List.append_assoc] at q
    exact q
  have t6 := t5.up s6
  have hml : (movedF c k0).length = nOf f := by rw [moved_len (by omega), hc]
  have gm := o.gp hml (o.moved am k0)
  have hlt := miss_strict o.dr.fr one hl am full hk
  have e1 : Ep (tCall (sp__law_less K) [] E0 (tCons (tCall (sp__law_squares K) [] E0 (tCons (tCall (sp__law_gaps K) [] E0 (tCons (tVar 11) (tCons (tVar 4) (tCons (tVar 13) tNil)))) tNil)) (tCons (tVar 6) tNil))) [some (.ref m), a1, a2, some (.int (nOf f : Nat)), some vg, a5, some vl, some vf, some vb, some v9, some (.int (k0 : Nat)), some v11, a12, some vy, some (.ref am_), some vx, a16] G6 (IsF K (gdot (gapsF f xs ys (movedF c k0)) (gapsF f xs ys (movedF c k0)) - missF f xs ys c)) :=
    ep_call2 (gdot (gapsF f xs ys (movedF c k0)) (gapsF f xs ys (movedF c k0))) (missF f xs ys c) (ep_call1 (gapsF f xs ys (movedF c k0)) (ep_call3 (P1 := IsS K (IsF K)) (P2 := IsL (IsL (IsF K))) (P3 := IsT K IsI) (C := GapOk) (B := fun c rows ys => IsL (IsF K) (gapsL c rows ys)) (movedF c k0) (gridF f xs) ys (Ep.sT (ep_var (i := 11) rfl p11)) (ep_var (i := 4) rfl t6.g) (ep_var (i := 13) rfl t6.y) gm.gap) gm.sq) (ep_var (i := 6) rfl t6.l) ⟨gm.one, by rw [miss_gaps]; exact gc.one⟩
  refine r_skipE r6 ((et_test (ep_le (ep_num e1) ep_c)).is (decide_eq_false (num_pos ?_))) fun G7 H7 s7 r7 => k (some vb) (some v9) (some (.int (k0 : Nat))) (some v11) G7 H7 ((((((s1.trans s2).trans s3).trans s4).trans s5).trans s6).trans s7) r7
  rw [← miss_gaps]
  grind
end
end Bt
/-! ==== W36 ==== -/
set_option Elab.async false
set_option linter.all false
set_option maxRecDepth 100000
set_option maxHeartbeats 2000000
/-! _law_right: a turn, all four; the def's promise. -/
namespace Bt
open PySem PySem.Spec PyProof.Rows L2 SW
open LamX (TabS Tabs ExtN CodeO)
section
variable {K : PySem.W.Frag} {m : Addr} {ta tb tc td te : TE} {σ : L2.St} {G : Hp}
theorem ed_draft {i : Nat} (hm : σ[i]? = some (some (.ref m))) (h : Ed m te σ G (IsE (fun M => 0 ≤ M ∧ M ≤ 100000) IsI)) : Ed m (tCall (sp__law_draft K) [] E0 (tCons (tVar i) (tCons (tC (.int 5)) (tCons te tNil)))) σ G (IsE DrOk (IsDr K)) := fun G1 H1 g s Q q =>
  ⟨_, hm, h G1 H1 g s _ fun y G2 H2 t2 ⟨M, cM, py⟩ => by
    have py : y = .int M := py
    subst py
    exact ⟨G2, m, M, rfl, t2.st, cM, fun v G3 H3 t3 p => q v G3 H3 (t2.trans s.mug t3) p⟩⟩
theorem ed_sites {i j : Nat} {f : Int × List Int} {v : V} (hm : σ[i]? = some (some (.ref m))) (hv : σ[j]? = some (some v)) (hd : IsDr K f v G) (ok : DrOk f) : Ed m (tCall (sp__law_sites K) [] E0 (tCons (tVar i) (tCons (tVar j) (tCons (tC (.int 9)) tNil)))) σ G (IsE SiOk (IsT K IsI)) := fun G1 H1 g s Q q =>
  ⟨_, hm, _, hv, G1, m, f, v, rfl, s, up g hd, ok, fun v G3 H3 t3 p => q v G3 H3 t3 p⟩
theorem ep_lst4I {a b c d : Int} (ha : Ep ta σ G (IsI a)) (hb : Ep tb σ G (IsI b)) (hc : Ep tc σ G (IsI c)) (hd : Ep td σ G (IsI d)) : Ep (tLst (tCons ta (tCons tb (tCons tc (tCons td tNil))))) σ G (IsL IsI [a, b, c, d]) :=
  ep_lst1 (ea_cons ha (ea_cons hb (ea_cons hc (ea_cons hd ea_nil)))) (fun vs G' ⟨_, _, h, _, _, _, h2, _, _, _, h3, _, _, _, h4, _, h5⟩ => by rw [h, h2, h3, h4, h5]; simp) fun p vs G' ⟨_, _, h, e1, _, _, h2, e2, _, _, h3, e3, _, _, h4, e4, h5⟩ np => by
    rw [h, h2, h3, h4, h5]
    exact ⟨p, _, rfl, upd_same, e1, e2, e3, e4, trivial⟩
theorem ep_word {w : Str} {n : Int} (h : Ep te σ G (IsI n)) : Ep (tLst (tCons (tC (.str w)) (tCons te tNil))) σ G (IsWd w (IsI n)) :=
  ep_lst1 (ea_cons (P := IsTx w) ep_c (ea_cons h ea_nil)) (fun vs H' ⟨_, _, h, _, _, _, h2, _, h3⟩ => by rw [h, h2, h3]; simp) fun p vs H' ⟨v, r, h, hv, w', r2, h2, hw, h3⟩ np => by
    have hv : v = .str w := hv
    rw [h, h2, h3, hv]
    exact ⟨p, w', rfl, upd_same, hw⟩
theorem d_wd {w : Str} {n : Int} {v : V} (h : IsWd w (IsI n) v G) : IsD K (.list [.str w, .int n]) v G := by
  obtain ⟨p, u, rfl, h1, h2⟩ := h
  have h2 : u = .int n := h2
  subst h2
  exact .lst (SqL.of h1) (.cons (.str _) (.cons (.int _) .nil))
theorem ep_neWd {w : Str} {n : Int} (hw : PyData.strOk w = true) (ha : Ep ta σ G (IsWd w (IsI n))) (hb : Ep tb σ G (IsWd w (IsI n))) : Ep (tOp (rNeD K) ta tb) σ G (IsB false) := by
  have h := ep_neD (K := K) (ha.to fun _ _ _ => d_wd) (hb.to fun _ _ _ => d_wd) (by simp [SeqAt.shaped, PyData.canLay0, PyData.canLayAll0, PyData.depth, PyData.depthAll, hw]) (by simp [SeqAt.shaped, PyData.canLay0, PyData.canLayAll0, PyData.depth, PyData.depthAll, hw])
  rw [show PyData.eqv (.list [.str w, .int n]) (.list [.str w, .int n]) = true by simp [PyData.eqv, PyData.eqvAll]] at h
  exact h
end
section
variable {K : PySem.W.Frag} {m P0 C : Addr} {H0 G H : Hp} {D : Ends}
/-- the lambda of nearest, handed to _law_error -/
theorem lam_ok {f : Int × List Int} {xs ys : List Int} {c : List Rat} {vg vl vy vm vx : V} {σ : L2.St} {Q : VK} (o : Ok f xs ys) (am : amF f xs ys = some c) (r : Rr m P0 qLam H0 G H) (t : Tn K f xs ys c vg vl vy vm vx G) (s13 : σ[13]? = some (some vy)) (s14 : σ[14]? = some (some vm)) (s15 : σ[15]? = some (some vx))
    (k1 : rankF f xs < nOf f → ∀ v G2 H2, Rr m P0 qLam H0 G2 H2 → Tn K f xs ys c vg vl vy vm vx G2 → IsWd "one" (IsI (rankF f xs : Nat)) v G2 → Q v H2)
    (k2 : ¬ rankF f xs < nOf f → ∀ v G2 H2, Rr m P0 qLam H0 G2 H2 → Tn K f xs ys c vg vl vy vm vx G2 → IsWd "told" (IsCv K vm c) v G2 → Q v H2) :
    LamX.tLam [(P0, qLam)] (TTe C) (fun E => tCall (sp_nearestX K C) [] E (tCons (tVar 14) (tCons (tVar 15) (tCons (tVar 13) tNil)))) σ H Q := by
  refine ⟨fun p hp => by rw [List.mem_singleton.mp hp]; exact r.tab, fun H1 e tt E' Q' hE hQ => ?_⟩
  have r1 := r.lam e tt
  have t1 : Tn K f xs ys c vg vl vy vm vx (nt G) := ⟨(inferInstance : Ntb (IsL (IsL (IsF K)) (gridF f xs))).to _ _ t.g, (inferInstance : Ntb (IsF K (missF f xs ys c))).to _ _ t.l, (inferInstance : Ntb (IsT K IsI ys)).to _ _ t.y, IsFr.ntb t.m, (inferInstance : Ntb (IsT K IsI xs)).to _ _ t.x⟩
  refine ⟨vm, s14, vx, s15, vy, s13, nt G, (vm, f), xs, ys, vm, vx, vy, rfl, r1.in_, ⟨⟨rfl, t1.m⟩, t1.x, t1.y⟩, o.pt, fun hlt d G2 H2 t2 nd => hE _ _ _ ?_, fun hn => ⟨⟨c, am⟩, fun v G2 H2 t2 pv => hQ v H2 fun p np => ?_⟩⟩
  · have r2 := r1.to t2
    have ta := To.alloc (o := .xd [("rank", .int (rankF f xs : Nat))]) t2.in_ nd
    refine ⟨rfl, d, .int (rankF f xs : Nat), upd G2 d (.xd [("rank", .int (rankF f xs : Nat))]), rfl, ta.in_, upd_same, fun v G3 H3 t3 hw => k1 hlt v G3 H3 ((r2.to ta).to t3) (t1.up ((t2.up.trans ta.up).trans t3.up)) hw⟩
  · have r2 := r1.to t2
    have ta := To.alloc (o := .lst [.str "told", v]) t2.in_ np
    have pv : IsCv K vm ((amF f xs ys).getD []) v G2 := pv
    rw [am] at pv
    exact k2 hn _ _ _ (r2.to ta) (t1.up (t2.up.trans ta.up)) ⟨p, v, rfl, upd_same, up ta.up pv⟩
theorem turn_ok {a1 a2 a3 a4 a5 a6 a7 a8 a9 a10 a11 a12 a13 a14 a15 a16 : Option V} (r : Rr m P0 qLam H0 G H)
    (k : ∀ σ' G' H', (∃ b1 b2 b3 b4 b5 b6 b7 b8 b9 b10 b11 b12 b13 b14 b15 b16, σ' = [some (.ref m), b1, b2, b3, b4, b5, b6, b7, b8, b9, b10, b11, b12, b13, b14, b15, b16]) → Rr m P0 qLam H0 G' H' → D.nx σ' H') :
    t_turn K C P0 D [some (.ref m), a1, a2, a3, a4, a5, a6, a7, a8, a9, a10, a11, a12, a13, a14, a15, a16] H := by
  unfold t_turn
  have e5 : (10 : Int) ^ (5 : Int).toNat = 100000 := by decide
  refine r_asgd r (P' := IsE DrOk (IsDr K)) (ed_draft rfl (ed_draw (i := 0) (P2 := IsL IsI) (C2 := fun ns => ns = ([3, 8, 20, 100000] : List Int)) rfl (Ed.of ((ep_lst4I ep_c ep_c ep_c ((ep_pow ep_c ep_c ⟨by decide, by decide, by decide⟩).is (by rw [e5]))).to fun v _ _ p => ⟨_, rfl, p⟩)) (fun b hb => by rw [hb]; exact ⟨by simp, by decide⟩) fun b v G' hb ⟨z, hz, p⟩ => ⟨z, by
    rw [hb] at hz
    simp only [List.mem_cons, List.not_mem_nil, or_false] at hz
    omega, p⟩)) fun v2 G1 H1 s1 r1 ⟨f, dr, p2⟩ => ?_
  have few := dr.few
  have one := dr.one
  refine r_asg2 r1 (P1 := IsFr K f) (P2 := IsI (nOf f : Nat)) (Ed.of (ep_call1 f (ep_var (i := 2) rfl p2) dr.fr)) (Ed.of (ep_call1 f (ep_var (i := 2) rfl p2) dr.fr)) fun vm v3 G2 H2 s2 r2 pm p3 => ?_
  have p3 : v3 = .int (nOf f : Nat) := p3
  subst p3
  have p2 : IsDr K f v2 G2 := up s2 p2
  refine r_asgd r2 (P' := IsE SiOk (IsT K IsI)) (ed_sites (i := 0) (j := 2) rfl rfl p2 dr) fun vx G3 H3 s3 r3 ⟨xs, si, px⟩ => ?_
  have nine := si.few
  have p2 : IsDr K f v2 G3 := up s3 p2
  have pm : IsFr K f vm G3 := up s3 pm
  refine r_asg2 r3 (P1 := IsL (IsL (IsF K)) (gridF f xs)) (P2 := IsE (fun c => (∀ q ∈ c, LvOk q) ∧ c.length = xs.length) (IsT K IsI)) (Ed.of (ep_call2 f xs (ep_var (i := 2) rfl p2) (ep_var (i := 15) rfl px) ⟨dr.fr, si.pl.lo, by omega⟩)) (ed_draw (i := 0) (P2 := fun n : Nat => IsI n) (C2 := fun n : Nat => n = xs.length) rfl ((Ed.of (ep_len (K := K) (F := IsI) (Ep.sT (ep_var (i := 15) rfl px)))).to fun v _ _ p => ⟨_, rfl, p⟩) (fun b hb => by rw [hb]; omega) fun b v G' hb p => by rw [hb] at p; exact p) fun vg vy G4 H4 s4 r4 pg ⟨ys, ⟨lv, ly⟩, py⟩ => ?_
  have o : Ok f xs ys := ⟨dr, si, lv, ly⟩
  obtain ⟨c, am⟩ := am_some (f := f) (xs := xs) ly
  have hc := am_len am
  have pm : IsFr K f vm G4 := up s4 pm
  have px : IsT K IsI xs vx G4 := up s4 px
  refine r_par r4 (P1 := IsI (rankF f xs : Nat)) (P2 := IsF K (missF f xs ys c)) ?_ ?_ fun v5 vl G5 H5 s5 r5 p5 pl => ?_
  · have q := ep_call1 (E := E0) (P1 := IsL (IsL (IsF K))) (C := fun rows => (rows.length ≤ 100 ∧ ∀ row ∈ rows, ScOk row) ∧ ∃ n b, RkOk (rows.map scaleOf) n b) (B := fun rows => IsI (rankL (rows.map scaleOf) : Nat)) (ta := tVar 4) (σ := [some (.ref m), a1, some v2, some (.int (nOf f : Nat)), some vg, a5, a6, a7, a8, a9, a10, a11, a12, some vy, some vm, some vx, a16]) (gridF f xs) (ep_var (i := 4) rfl pg) ⟨o.sc, o.rk⟩
    rw [rank_law dr.fr one si.pl.up] at q
    exact q
  · have q := ep_call3 (E := E0) (P1 := IsFr K) (P2 := IsT K IsI) (P3 := IsT K IsI) (C := fun f xs ys => ∃ c, MiOk f xs ys c) (B := fun f xs ys => IsF K (missF f xs ys ((amF f xs ys).getD []))) (ta := tVar 14) (tb := tVar 15) (tc := tVar 13) (σ := [some (.ref m), a1, some v2, some (.int (nOf f : Nat)), some vg, a5, a6, a7, a8, a9, a10, a11, a12, some vy, some vm, some vx, a16]) f xs ys (ep_var (i := 14) rfl pm) (ep_var (i := 15) rfl px) (ep_var (i := 13) rfl py) ⟨c, o.mi am⟩
    rw [am] at q
    exact q
  have p5 : v5 = .int (rankF f xs : Nat) := p5
  subst p5
  have t5 : Tn K f xs ys c vg vl vy vm vx G5 := ⟨up s5 pg, pl, up s5 py, up s5 pm, up s5 px⟩
  obtain ⟨am_, dxm, pvm, evm, _, _⟩ := id pm
  subst evm
  have thr : Ep (tOp rNotNo (tCall (sp_curve_through K) [] E0 (tCons (tVar 14) (tCons (tVar 15) (tCons (tVar 13) tNil)))) (tC .non)) [some (.ref m), a1, some v2, some (.int (nOf f : Nat)), some vg, some (.int (rankF f xs : Nat)), some vl, a7, a8, a9, a10, a11, a12, some vy, some (.ref am_), some vx, a16] G5 (IsB (decide (missF f xs ys c = 0))) := by
    have q := ep_call3 (E := E0) (P1 := IsFrV K) (P2 := IsT K IsI) (P3 := IsT K IsI) (C := fun x xs ys => PtOk x.2 xs ys ∧ SolOk (gMx x.2 xs) (goalsF ys) (nOf x.2)) (B := fun x xs ys => IsThr K x.1 (thrF x.2 xs ys)) (ta := tVar 14) (tb := tVar 15) (tc := tVar 13) (σ := [some (.ref m), a1, some v2, some (.int (nOf f : Nat)), some vg, some (.int (rankF f xs : Nat)), some vl, a7, a8, a9, a10, a11, a12, some vy, some (.ref am_), some vx, a16]) (G := G5) (.ref am_, f) xs ys (ep_var rfl ⟨rfl, t5.m⟩) (ep_var rfl t5.x) (ep_var rfl t5.y) ⟨o.pt, o.thr⟩
    have hi := thr_miss (f := f) (xs := xs) ly am
    cases hq : thrF f xs ys with
    | none =>
      have hne : ¬ missF f xs ys c = 0 := fun z => by
        obtain ⟨e, he⟩ := hi.mpr z
        rw [hq] at he
        cases he
      rw [decide_eq_false hne]
      refine notNo_non (q.to fun v G' _ p => ?_)
      have p : IsThr K (.ref am_) (thrF f xs ys) v G' := p
      rw [hq] at p
      exact p
    | some e =>
      rw [decide_eq_true (hi.mp ⟨e, hq⟩)]
      refine notNo_ref (P' := IsCv K (.ref am_) e) (q.to fun v G' _ p => ?_) fun v G' ⟨p, _, _, h, _⟩ => ⟨p, h⟩
      have p : IsThr K (.ref am_) (thrF f xs ys) v G' := p
      rw [hq] at p
      exact p
  refine r_skip r5 ((et_or (et_test (ep_ne (x := .bl (decide (missF f xs ys c = 0))) (y := .bl (decide (missF f xs ys c = 0))) (ep_eqF (p := missF f xs ys c) (q := 0) (ep_var (i := 6) rfl t5.l) ep_zero) thr rfl)) fun _ => et_test (ep_lt (ep_num (ep_var (i := 6) rfl t5.l)) ep_c)).is ?_) fun G6 H6 s6 r6 => ?_
  · rw [decide_eq_true rfl, decide_eq_false (num_nn (miss_nonneg (f := f) ly hc))]
    rfl
  have t6 := t5.up s6
  refine lam_ok (Q := fun x H1 => gName 7 x _ H1 _) o am r6 t6 rfl rfl rfl (fun hlt vf G7 H7 r7 t7 hf => ?_) fun hn vf G7 H7 r7 t7 hf => ?_
  · show tSeq _ _ _ [some (.ref m), a1, some v2, some (.int (nOf f : Nat)), some vg, some (.int (rankF f xs : Nat)), some vl, some vf, a8, a9, a10, a11, a12, some vy, some (.ref am_), some vx, a16] H7
    refine r_skip r7 ((et_and (et_test (ep_lt (ep_v (i := 5) rfl) (ep_v (i := 3) rfl))) fun _ => et_test (ep_neWd (by decide +kernel) (ep_var (i := 7) rfl hf) (ep_word (ep_v (i := 5) rfl)))).is (by simp)) fun G8 H8 s8 r8 => ?_
    refine r_skip r8 ((et_test (ep_eqI (ep_v (i := 5) rfl) (ep_v (i := 3) rfl))).is (decide_eq_false (by omega))) fun G9 H9 s9 r9 => ?_
    exact tail_ok o am r9 (t7.up (s8.trans s9)) fun a12 G' H' _ r' => k _ G' H' ⟨_, _, _, _, _, _, _, _, _, _, _, _, _, _, _, _, rfl⟩ r'
  · show tSeq _ _ _ [some (.ref m), a1, some v2, some (.int (nOf f : Nat)), some vg, some (.int (rankF f xs : Nat)), some vl, some vf, a8, a9, a10, a11, a12, some vy, some (.ref am_), some vx, a16] H7
    have hrk : rankF f xs = nOf f := by
      have : rankF f xs ≤ nOf f := lng_le (nOf f) xs
      omega
    refine r_skip r7 ((et_and (d := false) (et_test (ep_lt (ep_v (i := 5) rfl) (ep_v (i := 3) rfl))) fun z => absurd (of_decide_eq_true z) (by omega)).is (by simp)) fun G8 H8 s8 r8 => ?_
    refine r_go r8 ((et_test (ep_eqI (ep_v (i := 5) rfl) (ep_v (i := 3) rfl))).is (decide_eq_true (by omega))) fun G9 H9 s9 r9 => ?_
    refine full_ok o am hrk r9 (t7.up (s8.trans s9)) (up (s8.trans s9) hf) fun b8 b9 b10 b11 G' H' s' r' => ?_
    exact tail_ok o am r' (t7.up ((s8.trans s9).trans s')) fun a12 G' H' _ r' => k _ G' H' ⟨_, _, _, _, _, _, _, _, _, _, _, _, _, _, _, _, rfl⟩ r'
end
end Bt
/-! ==== W37 ==== -/
set_option Elab.async false
set_option linter.all false
set_option maxRecDepth 100000
set_option maxHeartbeats 2000000
/-! _law_right as a def. -/
namespace Bt
open PySem PySem.Spec PyProof.Rows L2 SW
open LamX (TabS Tabs ExtN CodeO)
def sp__law_right (P0 : Addr) : Sp := fun vs H Q _ => ∃ m, vs = [.ref m] ∧ MugAt m H ∧ TabS H P0 qLam ∧ ∀ H', (∀ b o, b ≠ m → b ≠ P0 → (∀ ps, o ≠ .tbl ps) → H b = some o → H' b = some o) → TabS H' P0 qLam → Q (.bl true) H'
theorem right_pure {K : PySem.W.Frag} {P0 C : Addr} {vs : List V} {H : Hp} {Q : VK} {E : XK} (h : sp__law_right P0 vs H Q E) : t__law_right K C P0 { nx := fun _ H' => Q .non H', rt := Q } (start N_law_right vs) H := by
  obtain ⟨m, rfl, hm, ht, k⟩ := h
  have r0 : Rr m P0 qLam H (fun _ => none) H := ⟨fun _ _ _ _ _ e => e, fun _ _ e => (by cases e), rfl, rfl, hm, ht⟩
  unfold t__law_right
  refine ⟨4, rfl, by decide, by decide, fun i j σ H' => j = 4 - i ∧ i ≤ 4 ∧ (∃ b1 b2 b3 b4 b5 b6 b7 b8 b9 b10 b11 b12 b13 b14 b15 b16, σ = [some (.ref m), b1, b2, b3, b4, b5, b6, b7, b8, b9, b10, b11, b12, b13, b14, b15, b16]) ∧ ∃ G, Rr m P0 qLam H G H', ⟨4, rfl, by omega, ⟨_, _, _, _, _, _, _, _, _, _, _, _, _, _, _, _, rfl⟩, _, r0⟩, fun i j σ H' ⟨hj, hi, ⟨b1, b2, b3, b4, b5, b6, b7, b8, b9, b10, b11, b12, b13, b14, b15, b16, hσ⟩, G, r⟩ => ?_⟩
  subst hσ
  rcases Nat.lt_or_ge i 4 with hl | hl
  · refine .inr ⟨hl, fun σ' H'' => (∃ b1 b2 b3 b4 b5 b6 b7 b8 b9 b10 b11 b12 b13 b14 b15 b16, σ' = [some (.ref m), b1, b2, b3, b4, b5, b6, b7, b8, b9, b10, b11, b12, b13, b14, b15, b16]) ∧ ∃ G, Rr m P0 qLam H G H'', fun σ' H'' ⟨x, y⟩ => ⟨4 - (i + 1), by omega, rfl, by omega, x, y⟩, fun v H'' y => ?_⟩
    obtain ⟨rfl, rfl⟩ := y
    exact turn_ok (K := K) (C := C) (a1 := some (.int (0 + (i : Nat)))) r fun σ' G' H' hs r' => ⟨hs, G', r'⟩
  · exact .inl ⟨hl, k H' r.big r.tab⟩
/-- a def whose code object is known -/
structure DdC (K : PySem.W.Frag) (mg : Str → Option Value) (x : Str) (st : Stmt) (c : Addr) : Prop where
  ex : ∃ f fd, FunD K x x (defArgs st) (defBody st) (defScope st) [] [] f fd ∧ mg x = some (.ref f) ∧ fd.code = .ref c
theorem cal__law_right {P : Program} {w : World} {K : PySem.W.Frag} {mg : Str → Option Value} {base : Heap} {C P0 c : Addr} (Dr : DdC K mg "_law_right" st__law_right c) (TB : LamX.TabB base mg c P0)
    (hps : ∀ (f : Addr) (A : Around) (outer : List Env) (s : Shared) (H : Hp) (E : XK) (hr : Room 48 (A.deeper (envOfC "_law_right" (defScope st__law_right) s.heap.objs.size f (.ref c)))), PSs (cxOf C8.CX0 P w K mg base N_law_right "_law_right" (defScope st__law_right) f (.ref c) A outer s H E).nox (defBody st__law_right) (t__law_right K C P0)) :
    C8.Cal P w K mg base 49 "_law_right" (sp__law_right P0) [] := by
  obtain ⟨f, fd, F, hm, hcode⟩ := Dr.ex
  have b := F.bindsN (ps := ["_law_mug_here"]) (fun _ _ _ _ _ _ us hl => match us, hl with | [_], _ => rfl)
  have kp := F.kp
  obtain ⟨oc, od, dV, kV, doc, pm, an, cdv, ct, osl, rfl, lk, hcd, hdv, hkv⟩ := F.ex
  have hcode : cdv = .ref c := hcode
  subst hcode
  exact ⟨f, _, ["_law_mug_here"], [], fn_of lk hcd sc__law_right (fun vs H Q E ⟨_, e, _⟩ => by rw [e]; rfl) fun A outer s H vs Q E hr hs => ⟨t__law_right K C P0, (hps f A outer s H E hr).nox, right_pure hs⟩, hm, kp, b, .nil⟩
end Bt
/-! ==== W38 ==== -/
set_option Elab.async false
set_option linter.all false
set_option maxRecDepth 100000
set_option maxHeartbeats 4000000
/-! law. -/
namespace Bt
open PySem PySem.Spec PyProof.Rows L2 SW
open LamX (TabS Tabs ExtN CodeO)
abbrev st_law : Stmt := top 108
theorem sc_law : FnScope ["_law_script", "_law_ramp", "_law_turn"] ["_law_script"] (defScope st_law) := ⟨rfl, rfl, rfl, by decide +kernel, rfl, by decide +kernel, by decide +kernel⟩
def t_law (K : PySem.W.Frag) (P0 : Addr) : TS := (tSeq (tAsg (tMake (He.ga K "Frame") (sp_Frame K) [] E0 (tCons (tC (.int 1)) (tCons (tTup (tCons (tC (.int 0)) (tCons (tC (.int 2)) (tCons (tC (.int 4)) (tCons (tC (.int 6)) tNil))))) tNil))) (gName 1))
    (tSeq (tIfS (tTest (tOp (rNeD K) (tProp (He.ga K "Curve") (sp_Curve_amounts K) [] E0 (tCall (sp_nearest K) [] E0 (tCons (tVar 1) (tCons (tTup (tCons (tC (.int 1)) (tCons (tC (.int 2)) (tCons (tC (.int 5)) tNil)))) (tCons (tTup (tCons (tC (.int 1)) (tCons (tC (.int 1)) (tCons (tC (.int 1)) tNil)))) tNil))))) (tTup (tCons (tTup (tCons (tC (.int 6)) (tCons (tC (.int 5)) tNil))) (tCons (tTup (tCons (tC (.int 2)) (tCons (tC (.int 1)) tNil))) tNil))))) (tRet (tC (.bl false))) tNext)
    (tSeq (tIfS (tTest (tOp (rNeD K) (tLst (tCons (tCall (sp_miss K) [] E0 (tCons (tVar 1) (tCons (tTup (tCons (tC (.int 1)) (tCons (tC (.int 2)) (tCons (tC (.int 5)) tNil)))) (tCons (tTup (tCons (tC (.int 1)) (tCons (tC (.int 1)) (tCons (tC (.int 1)) tNil)))) tNil)))) (tCons (tCall (sp_miss K) [] E0 (tCons (tVar 1) (tCons (tTup (tCons (tC (.int 1)) (tCons (tC (.int 2)) tNil))) (tCons (tTup (tCons (tC (.int 1)) (tCons (tC (.int 2)) tNil))) tNil)))) (tCons (tCall (sp_miss K) [] E0 (tCons (tVar 1) (tCons (tTup (tCons (tC (.int 7)) tNil)) (tCons (tTup (tCons (tC (.int 3)) tNil)) tNil)))) (tCons (tCall (sp_miss K) [] E0 (tCons (tVar 1) (tCons (tTup (tCons (tC (.int 1)) (tCons (tC (.int 2)) tNil))) (tCons (tTup (tCons (tC (.int 1)) (tCons (tC (.int 1)) tNil))) tNil)))) tNil))))) (tLst (tCons (tTup (tCons (tC (.int 1)) (tCons (tC (.int 5)) tNil))) (tCons (tTup (tCons (tC (.int 0)) (tCons (tC (.int 1)) tNil))) (tCons (tTup (tCons (tC (.int 9)) (tCons (tC (.int 1)) tNil))) (tCons (tTup (tCons (tC (.int 1)) (tCons (tC (.int 5)) tNil))) tNil))))))) (tRet (tC (.bl false))) tNext)
    (tRet (tCB (rAll K) (tCons (tLc (iRng1 (tCons (tCB rMax2 (tCons (tC (.int 2)) (tCons (tCB rMin2 (tCons (tCB (rLen K) (tCons (tVar 0) tNil)) (tCons (tC (.int 4)) tNil))) tNil))) tNil)) (gName 2) tYes (tCall (sp__law_right P0) [] E0 (tCons (tCall (sp__law_mug K) [] E0 (tCons (tVar 0) (tCons (tVar 2) tNil))) tNil)) [2]) tNil))))))
theorem ps_law {P : Program} {w : World} {K : PySem.W.Frag} {mg : Str → Option Value} {base : Heap} {P0 : Addr} (T : Txt P K mg base) (c_Frame : C8.Mak P w K mg base 4 "Frame" (He.ga K "Frame") (sp_Frame K) []) (c_nearest : C8.Cal P w K mg base 46 "nearest" (sp_nearest K) []) (c_miss : C8.Cal P w K mg base 46 "miss" (sp_miss K) []) (p_Curve_amounts : Prp P w K mg base 1 (He.ga K "Curve") "amounts" (sp_Curve_amounts K)) (c__law_right : C8.Cal P w K mg base 49 "_law_right" (sp__law_right P0) []) (c__law_mug : C8.Cal P w K mg base 34 "_law_mug" (sp__law_mug K) []) : Hps P w K mg base 49 "law" st_law ["_law_script", "_law_ramp", "_law_turn"] (t_law K P0) := fun f cdv A outer s H E hr =>
  (pss_cons (ps_set (i := 1) sc_law.nd rfl (Or.inl rfl) (C8.pe_mk c_Frame hr (by decide) rfl (pa_cons pe_int (pa_cons (pe_tup (pa_cons pe_int (pa_cons pe_int (pa_cons pe_int (pa_cons pe_int pa_nil))))) pa_nil))))
    (pss_cons (ps_if (pt_cmpR (op_neD hr.units) (pe_prp p_Curve_amounts hr (by decide) (C8.pe_c c_nearest hr (by decide) rfl (pa_cons (pv 1) (pa_cons (pe_tup (pa_cons pe_int (pa_cons pe_int (pa_cons pe_int pa_nil)))) (pa_cons (pe_tup (pa_cons pe_int (pa_cons pe_int (pa_cons pe_int pa_nil)))) pa_nil)))) rfl) (pe_tup (pa_cons (pe_tup (pa_cons pe_int (pa_cons pe_int pa_nil))) (pa_cons (pe_tup (pa_cons pe_int (pa_cons pe_int pa_nil))) pa_nil))) (nomark _)) (pss_one (ps_ret pe_bl)) pss_nil)
    (pss_cons (ps_if (pt_cmpR (op_neD hr.units) (pe_lst (pa_cons (C8.pe_c c_miss hr (by decide) rfl (pa_cons (pv 1) (pa_cons (pe_tup (pa_cons pe_int (pa_cons pe_int (pa_cons pe_int pa_nil)))) (pa_cons (pe_tup (pa_cons pe_int (pa_cons pe_int (pa_cons pe_int pa_nil)))) pa_nil)))) (pa_cons (C8.pe_c c_miss hr (by decide) rfl (pa_cons (pv 1) (pa_cons (pe_tup (pa_cons pe_int (pa_cons pe_int pa_nil))) (pa_cons (pe_tup (pa_cons pe_int (pa_cons pe_int pa_nil))) pa_nil)))) (pa_cons (C8.pe_c c_miss hr (by decide) rfl (pa_cons (pv 1) (pa_cons (pe_tup (pa_cons pe_int pa_nil)) (pa_cons (pe_tup (pa_cons pe_int pa_nil)) pa_nil)))) (pa_cons (C8.pe_c c_miss hr (by decide) rfl (pa_cons (pv 1) (pa_cons (pe_tup (pa_cons pe_int (pa_cons pe_int pa_nil))) (pa_cons (pe_tup (pa_cons pe_int (pa_cons pe_int pa_nil))) pa_nil)))) pa_nil))))) (pe_lst (pa_cons (pe_tup (pa_cons pe_int (pa_cons pe_int pa_nil))) (pa_cons (pe_tup (pa_cons pe_int (pa_cons pe_int pa_nil))) (pa_cons (pe_tup (pa_cons pe_int (pa_cons pe_int pa_nil))) (pa_cons (pe_tup (pa_cons pe_int (pa_cons pe_int pa_nil))) pa_nil))))) (nomark _)) (pss_one (ps_ret pe_bl)) pss_nil)
    (pss_one (ps_ret (pe_callB (cr_all rfl) (by rfl) T.f_all (by decide +kernel) (pa_cons (pe_lc (own := [("_law_turn", 2)]) (g := (gName 2)) (tt := tYes) rfl sc_law.nd (pi_range1 rfl T.f_range (pa_cons (pe_callB (call_max2 rfl) (by rfl) T.f_max (by decide +kernel) (pa_cons pe_int (pa_cons (pe_callB (call_min2 rfl) (by rfl) T.f_min (by decide +kernel) (pa_cons (pe_callB call_len (by rfl) T.f_len (by decide +kernel) (pa_cons (pv 0) pa_nil)) (pa_cons pe_int pa_nil))) pa_nil))) pa_nil)) (blkOk_by (by rfl)) (fun _ _ _ _ _ => (pg_name (i := 2) sc_law.nd rfl (Or.inl rfl))) (fun _ _ _ _ _ => pts_nil) (fun _ _ _ _ _ => (C8.pe_c c__law_right hr (by decide) rfl (pa_cons (C8.pe_c c__law_mug hr (by decide) rfl (pa_cons (pv 0) (pa_cons (pv 2) pa_nil))) pa_nil)))) pa_nil)))))))
/-! ### the ramp -/
def ramp : Int × List Int := (1, [0, 2, 4, 6])
theorem ramp_fr : FrOk ramp := by
  refine ⟨by decide, by decide, by decide, by decide, by decide, fun i a b h1 h2 => ?_, fun i a b h1 h2 => ?_⟩
  · match i with
    | 0 => cases h1; cases h2; decide
    | 1 => cases h1; cases h2; decide
    | 2 => cases h1; cases h2; decide
    | 3 => cases h2
    | i + 4 => cases h1
  · match i with
    | 0 => cases h1; cases h2; decide
    | 1 => cases h1; cases h2; decide
    | 2 => cases h2
    | 3 => cases h2
    | i + 4 => cases h1
theorem ramp_ok {xs ys : List Int} (h1 : xs ≠ []) (h2 : xs.length ≤ 9) (h3 : xs.Pairwise (· < ·)) (h4 : ∀ x ∈ xs, 0 ≤ x ∧ x ≤ 1000000) (h5 : ∀ y ∈ ys, 0 ≤ y ∧ y ≤ 100) (h6 : ys.length = xs.length) : Ok ramp xs ys :=
  ⟨⟨ramp_fr, by decide, by decide, by decide⟩, ⟨⟨h1, by omega, h3, h4⟩, h2⟩, fun y hy => by have := h5 y hy; exact ⟨by omega, by omega⟩, h6⟩
theorem ok1 : Ok ramp [1, 2, 5] [1, 1, 1] := ramp_ok (by decide) (by decide) (by decide) (by decide) (by decide) rfl
theorem ok2 : Ok ramp [1, 2] [1, 2] := ramp_ok (by decide) (by decide) (by decide) (by decide) (by decide) rfl
theorem ok3 : Ok ramp [7] [3] := ramp_ok (by decide) (by decide) (by decide) (by decide) (by decide) rfl
theorem ok4 : Ok ramp [1, 2] [1, 1] := ramp_ok (by decide) (by decide) (by decide) (by decide) (by decide) rfl
theorem am1 : amF ramp [1, 2, 5] [1, 1, 1] = some [6 / 5, 2] := by decide +kernel
theorem rk1 : rankF ramp [1, 2, 5] = nOf ramp := by
  generalize hU : (fun (i : Nat) (x : Int) => isUp ramp.2 ramp.1.toNat i x) = U
  have u1 : U 0 1 = true := by rw [← hU]; decide
  have u2 : U 1 5 = true := by rw [← hU]; decide
  have e : rankF ramp [1, 2, 5] = lng U 2 2 [1, 2, 5] := by rw [← hU]; rfl
  have a := lng_row (U := U) (n := 2) 1 2 [5]
  have b := lng_take (U := U) (n := 2) (d := 0) (r := 5) (rs := []) u2
  have c := lng_le (U := U) (n := 2) 1 [2, 5]
  have d := lng_le (U := U) (n := 2) 0 []
  have f := lng_take (U := U) (n := 2) (d := 1) (r := 1) (rs := [2, 5]) u1
  have g : nOf ramp = 2 := rfl
  rw [e, g, f]
  have b2 : 1 ≤ lng U 2 1 [5] := by rw [b]; exact Nat.le_add_left _ _
  have b3 := Nat.le_antisymm c (Nat.le_trans b2 a)
  rw [b3]
theorem mi1 : missF ramp [1, 2, 5] [1, 1, 1] ((amF ramp [1, 2, 5] [1, 1, 1]).getD []) = 1 / 5 := by decide +kernel
theorem mi2 : missF ramp [1, 2] [1, 2] ((amF ramp [1, 2] [1, 2]).getD []) = 0 := by decide +kernel
theorem mi3 : missF ramp [7] [3] ((amF ramp [7] [3]).getD []) = 9 := by decide +kernel
theorem mi4 : missF ramp [1, 2] [1, 1] ((amF ramp [1, 2] [1, 1]).getD []) = 1 / 5 := by decide +kernel
/-! ### its reading -/
def spLaw (K : PySem.W.Frag) (P0 : Addr) : Sp := fun vs H Q _ => ∃ ns v, vs = [v] ∧ IsSc K ns v H ∧ TabS H P0 qLam ∧ ∀ H', Q (.bl true) H'
section
variable {K : PySem.W.Frag} {ta tb tc td te : TE} {σ : L2.St} {G : Hp}
theorem ea_is {t : TA} {L L' : LP} (h : Ea t σ G L) (f : ∀ vs G', L vs G' → L' vs G') : Ea t σ G L' := fun G1 H1 g s Q q => h G1 H1 g s Q fun v G2 H2 t l => q v G2 H2 t (f v G2 l)
theorem ep_tI1 {a : Int} : Ep (tTup (tCons (tC (.int a)) tNil)) σ G (IsT K IsI [a]) :=
  ep_tup1 (ea_cons (P := IsI a) ep_c ea_nil) (fun vs H' ⟨_, _, h, _, h2⟩ => by rw [h, h2]; simp) fun p vs H' ⟨v, r, h, e1, h2⟩ np => by
    rw [h, h2]
    exact ⟨p, _, rfl, SqT.of upd_same, e1, trivial⟩
theorem ep_tI2 {a b : Int} : Ep (tTup (tCons (tC (.int a)) (tCons (tC (.int b)) tNil))) σ G (IsT K IsI [a, b]) :=
  ep_tup1 (ea_cons (P := IsI a) ep_c (ea_cons (P := IsI b) ep_c ea_nil)) (fun vs H' ⟨_, _, h, _, _, _, h2, _, h3⟩ => by rw [h, h2, h3]; simp) fun p vs H' ⟨v, r, h, e1, _, _, h2, e2, h3⟩ np => by
    rw [h, h2, h3]
    exact ⟨p, _, rfl, SqT.of upd_same, e1, e2, trivial⟩
theorem ep_tI3 {a b c : Int} : Ep (tTup (tCons (tC (.int a)) (tCons (tC (.int b)) (tCons (tC (.int c)) tNil)))) σ G (IsT K IsI [a, b, c]) :=
  ep_tup1 (ea_cons (P := IsI a) ep_c (ea_cons (P := IsI b) ep_c (ea_cons (P := IsI c) ep_c ea_nil))) (fun vs H' ⟨_, _, h, _, _, _, h2, _, _, _, h3, _, h4⟩ => by rw [h, h2, h3, h4]; simp) fun p vs H' ⟨v, r, h, e1, _, _, h2, e2, _, _, h3, e3, h4⟩ np => by
    rw [h, h2, h3, h4]
    exact ⟨p, _, rfl, SqT.of upd_same, e1, e2, e3, trivial⟩
theorem ep_tI4 {a b c d : Int} : Ep (tTup (tCons (tC (.int a)) (tCons (tC (.int b)) (tCons (tC (.int c)) (tCons (tC (.int d)) tNil))))) σ G (IsT K IsI [a, b, c, d]) :=
  ep_tup1 (ea_cons (P := IsI a) ep_c (ea_cons (P := IsI b) ep_c (ea_cons (P := IsI c) ep_c (ea_cons (P := IsI d) ep_c ea_nil)))) (fun vs H' ⟨_, _, h, _, _, _, h2, _, _, _, h3, _, _, _, h4, _, h5⟩ => by rw [h, h2, h3, h4, h5]; simp) fun p vs H' ⟨v, r, h, e1, _, _, h2, e2, _, _, h3, e3, _, _, h4, e4, h5⟩ np => by
    rw [h, h2, h3, h4, h5]
    exact ⟨p, _, rfl, SqT.of upd_same, e1, e2, e3, e4, trivial⟩
theorem ep_q {a b : Int} {q : Rat} (h1 : q.num = a) (h2 : (q.den : Int) = b) : Ep (tTup (tCons (tC (.int a)) (tCons (tC (.int b)) tNil))) σ G (IsF K q) := by
  subst h1 h2
  exact ep_frac ep_c ep_c
theorem ep_tF2 {p q : Rat} (ha : Ep ta σ G (IsF K p)) (hb : Ep tb σ G (IsF K q)) : Ep (tTup (tCons ta (tCons tb tNil))) σ G (IsT K (IsF K) [p, q]) :=
  ep_tup1 (ea_cons ha (ea_cons hb ea_nil)) (fun vs H' ⟨_, _, h, _, _, _, h2, _, h3⟩ => by rw [h, h2, h3]; simp) fun r vs H' ⟨v, _, h, e1, _, _, h2, e2, h3⟩ np => by
    rw [h, h2, h3]
    exact ⟨r, _, rfl, SqT.of upd_same, up (Same.new np) e1, up (Same.new np) e2, trivial⟩
theorem ep_lF4 {p q r s : Rat} (ha : Ep ta σ G (IsF K p)) (hb : Ep tb σ G (IsF K q)) (hc : Ep tc σ G (IsF K r)) (hd : Ep td σ G (IsF K s)) : Ep (tLst (tCons ta (tCons tb (tCons tc (tCons td tNil))))) σ G (IsL (IsF K) [p, q, r, s]) :=
  ep_lst1 (ea_cons ha (ea_cons hb (ea_cons hc (ea_cons hd ea_nil)))) (fun vs H' ⟨_, _, h, _, _, _, h2, _, _, _, h3, _, _, _, h4, _, h5⟩ => by rw [h, h2, h3, h4, h5]; simp) fun x vs H' ⟨v, _, h, e1, _, _, h2, e2, _, _, h3, e3, _, _, h4, e4, h5⟩ np => by
    rw [h, h2, h3, h4, h5]
    exact ⟨x, _, rfl, upd_same, up (Same.new np) e1, up (Same.new np) e2, up (Same.new np) e3, up (Same.new np) e4, trivial⟩
theorem ep_neTF {xs : List Rat} (ha : Ep ta σ G (IsT K (IsF K) xs)) (hb : Ep tb σ G (IsT K (IsF K) xs)) : Ep (tOp (rNeD K) ta tb) σ G (IsB false) := by
  have h := ep_neD (K := K) (ha.to fun _ _ _ => d_T (F := IsF K) (g := fD) fun _ _ => d_F) (hb.to fun _ _ _ => d_T (F := IsF K) (g := fD) fun _ _ => d_F) (sh_TF xs) (sh_TF xs)
  rw [show PyData.eqv (.tuple (xs.map fD)) (.tuple (xs.map fD)) = decide (xs = xs) by simp only [PyData.eqv, eqvAll_F]] at h
  rw [decide_eq_true rfl] at h
  exact h
theorem ep_neLF {xs : List Rat} (ha : Ep ta σ G (IsL (IsF K) xs)) (hb : Ep tb σ G (IsL (IsF K) xs)) : Ep (tOp (rNeD K) ta tb) σ G (IsB false) := by
  have h := ep_neD (K := K) (ha.to fun _ _ _ => d_L (F := IsF K) (g := fD) fun _ _ => d_F) (hb.to fun _ _ _ => d_L (F := IsF K) (g := fD) fun _ _ => d_F) (sh_LF xs) (sh_LF xs)
  rw [show PyData.eqv (.list (xs.map fD)) (.list (xs.map fD)) = decide (xs = xs) by simp only [PyData.eqv, eqvAll_F]] at h
  rw [decide_eq_true rfl] at h
  exact h
theorem ep_missR {xs ys : List Int} {q : Rat} (o : Ok ramp xs ys) (hq : missF ramp xs ys ((amF ramp xs ys).getD []) = q) (hf : Ep ta σ G (IsFr K ramp)) (hx : Ep tb σ G (IsT K IsI xs)) (hy : Ep tc σ G (IsT K IsI ys)) : Ep (tCall (sp_miss K) [] E0 (tCons ta (tCons tb (tCons tc tNil)))) σ G (IsF K q) := by
  obtain ⟨c, am⟩ := am_some (f := ramp) (xs := xs) o.len
  have h := ep_call3 (E := E0) (P1 := IsFr K) (P2 := IsT K IsI) (P3 := IsT K IsI) (C := fun f xs ys => ∃ c, MiOk f xs ys c) (B := fun f xs ys => IsF K (missF f xs ys ((amF f xs ys).getD []))) ramp xs ys hf hx hy ⟨c, o.mi am⟩
  rw [hq] at h
  exact h
end
section
variable {K : PySem.W.Frag} {P0 : Addr}
/-- the script stands as long as its object does -/
theorem sc_keep {H4 H' : Hp} {a : Addr} {xs : List V} (h : SqL K H4 a xs) (k : ∀ o, H4 a = some o → (∀ ps, o ≠ .tbl ps) → H' a = some o) : SqL K H' a xs := by
  rcases h with (h | ⟨o, h⟩) | h
  · exact .inl (.inl (k _ h fun _ z => by cases z))
  · exact .inl (.inr ⟨o, k _ h fun _ z => by cases z⟩)
  · exact .inr h
theorem law_pure {vs : List V} {H : Hp} {Q : VK} {E : XK} (h : spLaw K P0 vs H Q E) : t_law K P0 { nx := fun _ H' => Q .non H', rt := Q } (start ["_law_script", "_law_ramp", "_law_turn"] vs) H := by
  obtain ⟨ns, v, rfl, hs, ht, k⟩ := h
  have e0 : Same (fun _ => none : Hp) H := fun _ _ e => by cases e
  have hmk : Ep (tMake (He.ga K "Frame") (sp_Frame K) [] E0 (tCons (tC (.int 1)) (tCons (tTup (tCons (tC (.int 0)) (tCons (tC (.int 2)) (tCons (tC (.int 4)) (tCons (tC (.int 6)) tNil))))) tNil))) (start ["_law_script", "_law_ramp", "_law_turn"] [v]) (fun _ => none) (IsFr K ramp) :=
    ep_make2 (E := E0) (P1 := IsI) (P2 := IsT K IsI) (Cc := Knots) (B := fun g ks => IsP K IsI (IsT K IsI) (g, ks)) (C := He.ga K "Frame") (f := "parts") 1 [0, 2, 4, 6] ep_c ep_tI4 ramp_fr
  unfold t_law
  refine h_asgN hmk e0 fun vf G1 H1 t1 p1 => ?_
  obtain ⟨fa, dxf, pvf, evf, _, _⟩ := id p1
  subst evf
  have hn : Ep (tCall (sp_nearest K) [] E0 (tCons (tVar 1) (tCons (tTup (tCons (tC (.int 1)) (tCons (tC (.int 2)) (tCons (tC (.int 5)) tNil)))) (tCons (tTup (tCons (tC (.int 1)) (tCons (tC (.int 1)) (tCons (tC (.int 1)) tNil)))) tNil)))) [some v, some (.ref fa), none] G1 (IsCv K (.ref fa) [6 / 5, 2]) := by
    have q := ep_call3 (E := E0) (P1 := IsFrV K) (P2 := IsT K IsI) (P3 := IsT K IsI) (C := fun x xs ys => PtOk x.2 xs ys ∧ rankF x.2 xs = nOf x.2 ∧ ∃ c, amF x.2 xs ys = some c) (B := fun x xs ys => IsCv K x.1 ((amF x.2 xs ys).getD [])) (ta := tVar 1) (σ := [some v, some (.ref fa), none]) (G := G1) (.ref fa, ramp) [1, 2, 5] [1, 1, 1] (ep_var (i := 1) rfl ⟨rfl, p1⟩) ep_tI3 ep_tI3 ⟨ok1.pt, rk1, _, am1⟩
    rw [am1] at q
    exact q
  refine h_skip (et_test (ep_neTF (ep_amounts hn) (ep_tF2 (ep_q (q := 6 / 5) (by decide +kernel) (by decide +kernel)) (ep_q (q := 2) (by decide +kernel) (by decide +kernel))))) t1.in_ fun G2 H2 t2 => ?_
  have p2 : IsFr K ramp (.ref fa) G2 := up t2.up p1
  have fr : ∀ {G3 : Hp}, Same G2 G3 → Ep (tVar 1) [some v, some (.ref fa), none] G3 (IsFr K ramp) := fun s => ep_var rfl (up s p2)
  refine h_skip (et_test (ep_neLF (xs := [1 / 5, 0, 9, 1 / 5]) (ep_lF4 (ep_missR ok1 mi1 (fr (Same.refl _)) ep_tI3 ep_tI3) (ep_missR ok2 mi2 (fr (Same.refl _)) ep_tI2 ep_tI2) (ep_missR ok3 mi3 (fr (Same.refl _)) ep_tI1 ep_tI1) (ep_missR ok4 mi4 (fr (Same.refl _)) ep_tI2 ep_tI2)) (ep_lF4 ep_fifth ep_zero (ep_q (q := 9) (by decide +kernel) (by decide +kernel)) ep_fifth))) t2.in_ fun G3 H3 t3 => ?_
  have t03 := (t1.trans t2).trans t3
  have hs3 : IsSc K ns v H3 := by
    obtain ⟨a, e, h⟩ := hs
    exact ⟨a, e, Same.seq t03.big h⟩
  have ht3 : TabS H3 P0 qLam := ht.ext t03.big
  have hr : Ep (tCB rMax2 (tCons (tC (.int 2)) (tCons (tCB rMin2 (tCons (tCB (rLen K) (tCons (tVar 0) tNil)) (tCons (tC (.int 4)) tNil))) tNil))) [some v, some (.ref fa), none] H3 (IsI (max 2 (min (ns.length : Int) 4))) := ep_max ep_c (ep_min (ep_lenSc (ep_var (i := 0) rfl hs3)) ep_c)
  refine hr H3 H3 (Same.refl _) (Same.refl _) _ fun x G4 H4 t4 px => ?_
  have px : x = .int (max 2 (min (ns.length : Int) 4)) := px
  subst px
  have hs4 : IsSc K ns v H4 := by
    obtain ⟨a, e, h⟩ := hs3
    exact ⟨a, e, Same.seq t4.big h⟩
  have ht4 : TabS H4 P0 qLam := ht3.ext t4.big
  refine ⟨_, rfl, by omega, by omega, ?_⟩
  obtain ⟨n, hn⟩ : ∃ n : Nat, (max 2 (min (ns.length : Int) 4)).toNat = n := ⟨_, rfl⟩
  have n4 : n ≤ 4 := by omega
  rw [hn]
  intro D nD
  obtain ⟨a, rfl, hsq⟩ := hs4
  have aD : ∀ {o : HO}, H4 a = some o → a ≠ D := fun e => ne_of_none e nD
  refine ⟨fun i j H' => i ≤ n ∧ j = n - i ∧ H' D = some (.lst ((List.replicate i true).map V.bl)) ∧ (∀ o, H4 a = some o → (∀ ps, o ≠ .tbl ps) → H' a = some o) ∧ TabS H' P0 qLam, ⟨n, Nat.zero_le _, rfl, upd_same, fun o e _ => by rw [upd_ne (aD e)]; exact e, ht4.ext (Same.new nD)⟩, fun i j H' ⟨hi, hj, hD, hsc, htb⟩ => ?_⟩
  rcases Nat.lt_or_ge i n with hl | hl
  · refine .inr ⟨hl, fun H'' => H'' D = some (.lst ((List.replicate (i + 1) true).map V.bl)) ∧ (∀ o, H4 a = some o → (∀ ps, o ≠ .tbl ps) → H'' a = some o) ∧ TabS H'' P0 qLam, fun H'' ⟨z1, z2, z3⟩ => ⟨n - (i + 1), by omega, hl, rfl, z1, z2, z3⟩, fun u H'' y => ?_⟩
    obtain ⟨rfl, rfl⟩ := y
    refine ⟨rfl, ?_⟩
    unfold tYes
    dsimp only
    rw [if_pos rfl]
    refine ⟨.ref a, rfl, _, rfl, ns, .ref a, i, by rw [Int.zero_add]; rfl, ⟨a, rfl, sc_keep hsq hsc⟩, fun m H5 s5 nm hm => ?_⟩
    refine ⟨m, rfl, hm, htb.ext s5, fun H6 keep ht6 => ?_⟩
    have Dm : D ≠ m := ne_of_none hD nm
    have nP : ∀ {b : Addr} {o : HO}, H'' b = some o → (∀ ps, o ≠ .tbl ps) → b ≠ P0 := fun e n z => by
      obtain ⟨ps, h1, _⟩ := htb
      rw [z, h1] at e
      exact n ps (Option.some.inj e).symm
    have hD6 := keep D _ Dm (nP hD fun ps z => by cases z) (fun ps z => by cases z) (s5 _ _ hD)
    refine ⟨_, hD6, small1000 (by simp; omega), ?_, fun o e n => ?_, ?_⟩
    · rw [upd_same, List.replicate_succ', List.map_append]
      rfl
    · rw [upd_ne (aD e)]
      have e2 := hsc o e n
      exact keep a o (ne_of_none e2 nm) (nP e2 n) n (s5 _ _ e2)
    · obtain ⟨ps, h1, h2, h3⟩ := ht6
      have DP : P0 ≠ D := fun z => by
        rw [z, hD6] at h1
        cases h1
      refine ⟨ps, by rw [upd_ne DP]; exact h1, h2, fun pos cv hc => ?_⟩
      obtain ⟨c0, e1, e2⟩ := h3 pos cv hc
      refine ⟨c0, e1, ?_⟩
      rw [upd_ne fun z => by rw [z, hD6] at e2; cases e2]
      exact e2
  · have : i = n := Nat.le_antisymm hi hl
    subst this
    refine .inl ⟨hl, D, List.replicate i true, rfl, SqL.of hD, ?_⟩
    have : (List.replicate i true).all id = true := by simp
    rw [this]
    exact k _
end
end Bt
/-! ==== W39 ==== -/
set_option Elab.async false
set_option linter.all false
set_option maxRecDepth 100000
set_option maxHeartbeats 2000000
/-! From the head's facts to law's promise. -/
namespace Bt
open PySem PySem.Spec PyProof.Rows L2 SW
/-- all that the head tells -/
structure Facts (P : Program) (K : PySem.W.Frag) (mg : Str → Option Value) (base : Heap) (C DD fI c P0 : Addr) : Prop where
  T : Txt P K mg base
  d_common : Dd K mg "common" st_common
  d_ratio : Dd K mg "ratio" st_ratio
  d_plus : Dd K mg "plus" st_plus
  d_minus : Dd K mg "minus" st_minus
  d_times : Dd K mg "times" st_times
  d_over : Dd K mg "over" st_over
  d_total : Dd K mg "total" st_total
  d_joined : Dd K mg "joined" st_joined
  d__law_gcd : Dd K mg "_law_gcd" st__law_gcd
  d__law_low : Dd K mg "_law_low" st__law_low
  d__law_plus : Dd K mg "_law_plus" st__law_plus
  d__law_less : Dd K mg "_law_less" st__law_less
  d__law_mult : Dd K mg "_law_mult" st__law_mult
  d__law_dot : Dd K mg "_law_dot" st__law_dot
  d_is_integer : Dd K mg "is_integer" st_is_integer
  d_is_between : Dd K mg "is_between" st_is_between
  d_is_place : Dd K mg "is_place" st_is_place
  d_is_height : Dd K mg "is_height" st_is_height
  d_places_fault : Dd K mg "places_fault" st_places_fault
  d_check_places : Dd K mg "check_places" st_check_places
  d_heights_fault : Dd K mg "heights_fault" st_heights_fault
  d_check_heights : Dd K mg "check_heights" st_check_heights
  d_knots_fault : Dd K mg "knots_fault" st_knots_fault
  di_Frame : Di K mg "Frame" "Frame.__init__" st_Frame___init__
  dg_Frame_degree : Dg K "Frame" "degree" "Frame.degree" st_Frame_degree
  dg_Frame_knots : Dg K "Frame" "knots" "Frame.knots" st_Frame_knots
  dg_Frame_hills : Dg K "Frame" "hills" "Frame.hills" st_Frame_hills
  d_check_frame : Dd K mg "check_frame" st_check_frame
  d_is_ratio : Dd K mg "is_ratio" st_is_ratio
  d_amounts_fault : Dd K mg "amounts_fault" st_amounts_fault
  di_Curve : Di K mg "Curve" "Curve.__init__" st_Curve___init__
  dg_Curve_frame : Dg K "Curve" "frame" "Curve.frame" st_Curve_frame
  dg_Curve_amounts : Dg K "Curve" "amounts" "Curve.amounts" st_Curve_amounts
  d_bump : Dd K mg "bump" st_bump
  d_row_at : Dd K mg "row_at" st_row_at
  d_is_up : Dd K mg "is_up" st_is_up
  d_grid_of : Dd K mg "grid_of" st_grid_of
  d_goals_of : Dd K mg "goals_of" st_goals_of
  d_check_both : Dd K mg "check_both" st_check_both
  d_check_points : Dd K mg "check_points" st_check_points
  d_cleared : Dd K mg "cleared" st_cleared
  d_reduced : Dd K mg "reduced" st_reduced
  d_solved : Dd K mg "solved" st_solved
  d_turned : Dd K mg "turned" st_turned
  d_lengths_from : Dd K mg "lengths_from" st_lengths_from
  d_rank_of : Dd K mg "rank_of" st_rank_of
  d_nearest_amounts : Dd K mg "nearest_amounts" st_nearest_amounts
  d_nearest : Dd K mg "nearest" st_nearest
  d_miss : Dd K mg "miss" st_miss
  d_curve_through : Dd K mg "curve_through" st_curve_through
  d__law_bump : Dd K mg "_law_bump" st__law_bump
  d__law_row : Dd K mg "_law_row" st__law_row
  d__law_made : Dd K mg "_law_made" st__law_made
  d__law_hills : Dd K mg "_law_hills" st__law_hills
  d__law_grid : Dd K mg "_law_grid" st__law_grid
  d__law_spread : Dd K mg "_law_spread" st__law_spread
  d__law_gaps : Dd K mg "_law_gaps" st__law_gaps
  d__law_squares : Dd K mg "_law_squares" st__law_squares
  d__law_scaled : Dd K mg "_law_scaled" st__law_scaled
  d__law_rank : Dd K mg "_law_rank" st__law_rank
  d__law_mug : Dd K mg "_law_mug" st__law_mug
  d__law_sip : Dd K mg "_law_sip" st__law_sip
  d__law_pick : Dd K mg "_law_pick" st__law_pick
  d__law_amounts : Dd K mg "_law_amounts" st__law_amounts
  d__law_levels : Dd K mg "_law_levels" st__law_levels
  d__law_draft : Dd K mg "_law_draft" st__law_draft
  d__law_sites : Dd K mg "_law_sites" st__law_sites
  d__law_is_curve : Dd K mg "_law_is_curve" st__law_is_curve
  d__law_error : Dd K mg "_law_error" st__law_error
  d__law_class : Dd K mg "_law_class" st__law_class
  d__law_field : Dd K mg "_law_field" st__law_field
  d_law : Dd K mg "law" st_law
  oF : ∃ f fd, OwnQ K "Frame" "Frame.__eq__" st_Frame_eq f fd
  oC : ∃ f fd, OwnQ K "Curve" "Curve.__eq__" st_Curve_eq f fd
  one : PySem.AeX.OneTxt K mg C DD fI
  te : TxtE K mg C
  hex : PySem.W.exmAny K (.ref C) [.ref (He.ga K "NotRight"), .ref (He.ga K "NotKnown"), .ref (He.ga K "NotPossible")] = some true
  dr : DdC K mg "_law_right" st__law_right c
  TB : LamX.TabB base mg c P0
section
variable {P : Program} {w : World} {K : PySem.W.Frag} {mg : Str → Option Value} {base : Heap} {C DD fI c P0 : Addr}
theorem law_ok {f : Addr} {fd : FuncData} (F : Facts P K mg base C DD fI c P0) (FL : FunD K "law" "law" (defArgs st_law) (defBody st_law) (defScope st_law) [] [] f fd) : FnOk P w K mg base C8.CX0 50 f fd ["_law_script"] (spLaw K P0) := by
  have h_common : C8.Cal P w K mg base 1 "common" (sp_common K) [] := cal_common F.d_common F.T
  have h_ratio : C8.Cal P w K mg base 34 "ratio" (sp_ratio K) [] := cal_ratio F.d_ratio F.T h_common
  have h_plus : C8.Cal P w K mg base 35 "plus" (sp_plus K) [] := cal_plus F.d_plus F.T h_ratio
  have h_minus : C8.Cal P w K mg base 35 "minus" (sp_minus K) [] := cal_minus F.d_minus F.T h_ratio
  have h_times : C8.Cal P w K mg base 35 "times" (sp_times K) [] := cal_times F.d_times F.T h_ratio
  have h_over : C8.Cal P w K mg base 35 "over" (sp_over K) [] := cal_over F.d_over F.T h_ratio
  have h_total : C8.Cal P w K mg base 36 "total" (sp_total K) [] := cal_total F.d_total F.T h_plus
  have h_joined : C8.Cal P w K mg base 37 "joined" (sp_joined K) [] := cal_joined F.d_joined F.T h_total h_times
  have h__law_gcd : C8.Cal P w K mg base 1 "_law_gcd" (sp__law_gcd K) [] := cal__law_gcd F.d__law_gcd F.T
  have h__law_low : C8.Cal P w K mg base 34 "_law_low" (sp__law_low K) [] := cal__law_low F.d__law_low F.T h__law_gcd
  have h__law_plus : C8.Cal P w K mg base 35 "_law_plus" (sp__law_plus K) [] := cal__law_plus F.d__law_plus F.T h__law_low
  have h__law_less : C8.Cal P w K mg base 35 "_law_less" (sp__law_less K) [] := cal__law_less F.d__law_less F.T h__law_low
  have h__law_mult : C8.Cal P w K mg base 35 "_law_mult" (sp__law_mult K) [] := cal__law_mult F.d__law_mult F.T h__law_low
  have h__law_dot : C8.Cal P w K mg base 36 "_law_dot" (sp__law_dot K) [] := cal__law_dot F.d__law_dot F.T h__law_plus h__law_mult
  have h_is_integer : C8.Cal P w K mg base 1 "is_integer" (sp_is_integer K) [] := cal_is_integer F.d_is_integer F.T
  have h_is_between : C8.Cal P w K mg base 2 "is_between" (sp_is_between K) [] := cal_is_between F.d_is_between F.T h_is_integer
  have h_is_place : C8.Cal P w K mg base 3 "is_place" (sp_is_place K) [] := cal_is_place F.d_is_place F.T h_is_between
  have h_is_height : C8.Cal P w K mg base 3 "is_height" (sp_is_height K) [] := cal_is_height F.d_is_height F.T h_is_between
  have h_places_fault : C8.Cal P w K mg base 4 "places_fault" (sp_places_fault K) [] := cal_places_fault F.d_places_fault F.T h_is_place
  have h_check_places : C8.Cal P w K mg base 5 "check_places" (sp_check_places K) [] := cal_check_places F.d_check_places F.T h_places_fault
  have h_heights_fault : C8.Cal P w K mg base 4 "heights_fault" (sp_heights_fault K) [] := cal_heights_fault F.d_heights_fault F.T h_is_height
  have h_check_heights : C8.Cal P w K mg base 5 "check_heights" (sp_check_heights K) [] := cal_check_heights F.d_check_heights F.T h_heights_fault
  have h_knots_fault : C8.Cal P w K mg base 3 "knots_fault" (sp_knots_fault K) [] := cal_knots_fault F.d_knots_fault F.T h_is_between
  have h_Frame : C8.Mak P w K mg base 4 "Frame" (He.ga K "Frame") (sp_Frame K) [] := cal_Frame F.di_Frame F.T h_is_between h_knots_fault
  have p_Frame_degree : Prp P w K mg base 1 (He.ga K "Frame") "degree" (sp_Frame_degree K) := prp_Frame_degree F.dg_Frame_degree F.T
  have p_Frame_knots : Prp P w K mg base 1 (He.ga K "Frame") "knots" (sp_Frame_knots K) := prp_Frame_knots F.dg_Frame_knots F.T
  have p_Frame_hills : Prp P w K mg base 1 (He.ga K "Frame") "hills" (sp_Frame_hills K) := prp_Frame_hills F.dg_Frame_hills F.T
  have h_check_frame : C8.Cal P w K mg base 1 "check_frame" (sp_check_frame K) [] := cal_check_frame F.d_check_frame F.T
  have h_is_ratio : C8.Cal P w K mg base 2 "is_ratio" (sp_is_ratio K) [] := cal_is_ratio F.d_is_ratio F.T h_is_integer h_common
  have h_amounts_fault : C8.Cal P w K mg base 3 "amounts_fault" (sp_amounts_fault K) [] := cal_amounts_fault F.d_amounts_fault F.T h_is_ratio
  have h_Curve : C8.Mak P w K mg base 5 "Curve" (He.ga K "Curve") (sp_Curve K) [] := cal_Curve F.di_Curve F.T h_check_frame h_amounts_fault p_Frame_hills
  have p_Curve_frame : Prp P w K mg base 1 (He.ga K "Curve") "frame" (sp_Curve_frame K) := prp_Curve_frame F.dg_Curve_frame F.T
  have p_Curve_amounts : Prp P w K mg base 1 (He.ga K "Curve") "amounts" (sp_Curve_amounts K) := prp_Curve_amounts F.dg_Curve_amounts F.T
  have h_bump : C8.Cal P w K mg base 42 "bump" (sp_bump K 5) [] := cal_bump F.d_bump F.T h_times h_ratio h_plus 5
  have h_row_at : C8.Cal P w K mg base 43 "row_at" (sp_row_at K) [] := cal_row_at F.d_row_at F.T h_bump p_Frame_hills p_Frame_degree p_Frame_knots
  have h_is_up : C8.Cal P w K mg base 3 "is_up" (sp_is_up K) [] := cal_is_up F.d_is_up F.T p_Frame_degree p_Frame_knots
  have h_grid_of : C8.Cal P w K mg base 44 "grid_of" (sp_grid_of K) [] := cal_grid_of F.d_grid_of F.T h_row_at
  have h_goals_of : C8.Cal P w K mg base 35 "goals_of" (sp_goals_of K) [] := cal_goals_of F.d_goals_of F.T h_ratio
  have h_check_both : C8.Cal P w K mg base 6 "check_both" (sp_check_both K) [] := cal_check_both F.d_check_both F.T h_check_frame h_check_places
  have h_check_points : C8.Cal P w K mg base 7 "check_points" (sp_check_points K) [] := cal_check_points F.d_check_points F.T h_check_both h_check_heights
  have h_cleared : C8.Cal P w K mg base 36 "cleared" (sp_cleared K) [] := cal_cleared F.d_cleared F.T h_minus h_times
  have h_reduced : C8.Cal P w K mg base 37 "reduced" (sp_reduced K) [] := cal_reduced F.d_reduced F.T h_over h_cleared
  have h_solved : C8.Cal P w K mg base 38 "solved" (sp_solved K) [] := cal_solved F.d_solved F.T h_reduced
  have h_turned : C8.Cal P w K mg base 1 "turned" (sp_turned K) [] := cal_turned F.d_turned F.T
  have h_lengths_from : C8.Cal P w K mg base 4 "lengths_from" (sp_lengths_from K) [] := cal_lengths_from F.d_lengths_from F.T h_is_up p_Frame_hills
  have h_rank_of : C8.Cal P w K mg base 5 "rank_of" (sp_rank_of K) [] := cal_rank_of F.d_rank_of F.T h_lengths_from
  have h_nearest_amounts : C8.Cal P w K mg base 45 "nearest_amounts" (sp_nearest_amounts K) [] := cal_nearest_amounts F.d_nearest_amounts F.T h_goals_of h_turned h_grid_of h_joined h_solved p_Frame_hills
  have f_nearest : FnD P w K mg base 46 "nearest" st_nearest ["frame", "places", "heights"] (sp_nearest K) := fnd_nearest F.d_nearest F.T h_check_points h_rank_of h_Curve h_nearest_amounts p_Frame_hills
  have h_nearest : C8.Cal P w K mg base 46 "nearest" (sp_nearest K) [] := cal_nearest F.d_nearest F.T h_check_points h_rank_of h_Curve h_nearest_amounts p_Frame_hills
  have f_miss : FnD P w K mg base 46 "miss" st_miss ["frame", "places", "heights"] (sp_miss K) := fnd_miss F.d_miss F.T h_check_points h_nearest_amounts h_grid_of h_goals_of h_minus h_joined h_total h_times
  have h_miss : C8.Cal P w K mg base 46 "miss" (sp_miss K) [] := cal_miss F.d_miss F.T h_check_points h_nearest_amounts h_grid_of h_goals_of h_minus h_joined h_total h_times
  have h_curve_through : C8.Cal P w K mg base 45 "curve_through" (sp_curve_through K) [] := cal_curve_through F.d_curve_through F.T h_check_points h_solved h_grid_of h_goals_of h_Curve p_Frame_hills
  have h__law_bump : C8.Cal P w K mg base 42 "_law_bump" (sp__law_bump K 5) [] := cal__law_bump F.d__law_bump F.T h__law_mult h__law_low h__law_plus 5
  have h__law_row : C8.Cal P w K mg base 43 "_law_row" (sp__law_row K) [] := cal__law_row F.d__law_row F.T h__law_bump
  have h__law_made : C8.Cal P w K mg base 6 "_law_made" (sp__law_made K) [] := cal__law_made F.d__law_made F.T h_Frame
  have h__law_hills : C8.Cal P w K mg base 1 "_law_hills" (sp__law_hills K) [] := cal__law_hills F.d__law_hills F.T
  have h__law_grid : C8.Cal P w K mg base 44 "_law_grid" (sp__law_grid K) [] := cal__law_grid F.d__law_grid F.T h__law_row
  have h__law_spread : C8.Cal P w K mg base 37 "_law_spread" (sp__law_spread K) [] := cal__law_spread F.d__law_spread F.T h__law_dot
  have h__law_gaps : C8.Cal P w K mg base 38 "_law_gaps" (sp__law_gaps K) [] := cal__law_gaps F.d__law_gaps F.T h__law_less h__law_spread
  have h__law_squares : C8.Cal P w K mg base 37 "_law_squares" (sp__law_squares K) [] := cal__law_squares F.d__law_squares F.T h__law_dot
  have h__law_scaled : C8.Cal P w K mg base 34 "_law_scaled" (sp__law_scaled K) [] := cal__law_scaled F.d__law_scaled F.T h__law_gcd
  have h__law_rank : C8.Cal P w K mg base 35 "_law_rank" (sp__law_rank K) [] := cal__law_rank F.d__law_rank F.T h__law_scaled h__law_gcd
  have h__law_mug : C8.Cal P w K mg base 34 "_law_mug" (sp__law_mug K) [] := cal__law_mug F.d__law_mug F.T
  have h__law_sip : C8.Cal P w K mg base 34 "_law_sip" (sp__law_sip K) [] := cal__law_sip F.d__law_sip F.T
  have h__law_pick : C8.Cal P w K mg base 35 "_law_pick" (sp__law_pick K) [] := cal__law_pick F.d__law_pick F.T h__law_sip
  have h__law_amounts : C8.Cal P w K mg base 37 "_law_amounts" (sp__law_amounts K) [] := cal__law_amounts F.d__law_amounts F.T h__law_low h__law_pick h__law_sip
  have h__law_levels : C8.Cal P w K mg base 37 "_law_levels" (sp__law_levels K) [] := cal__law_levels F.d__law_levels F.T h__law_pick h__law_sip
  have h__law_draft : C8.Cal P w K mg base 36 "_law_draft" (sp__law_draft K) [] := cal__law_draft F.d__law_draft F.T h__law_sip h__law_pick
  have h__law_sites : C8.Cal P w K mg base 37 "_law_sites" (sp__law_sites K) [] := cal__law_sites F.d__law_sites F.T h__law_sip h__law_pick
  obtain ⟨fqF, fdF, oqF⟩ := F.oF
  obtain ⟨fqC, fdC, oqC⟩ := F.oC
  have n_Frame := ne_Frame (P := P) (w := w) (mg := mg) (base := base) oqF F.T
  have n_Curve := ne_Curve (P := P) (w := w) (mg := mg) (base := base) oqC F.T
  have h__law_is_curve : C8.Cal P w K mg base 5 "_law_is_curve" (sp__law_is_curve K) [] := cal__law_is_curve F.d__law_is_curve F.T h__law_gcd p_Curve_frame p_Curve_amounts n_Frame
  have cX := calX_nearest (P := P) (w := w) (base := base) F.d_nearest F.T F.one h_check_points h_rank_of h_Curve h_nearest_amounts p_Frame_hills
  have e1 := calE_class (P := P) (w := w) (base := base) F.d__law_class F.T F.te
  have e2 := calE_field (P := P) (w := w) (base := base) F.d__law_field F.T F.te
  have h__law_right : C8.Cal P w K mg base 49 "_law_right" (sp__law_right P0) [] := cal__law_right (C := C) F.dr F.TB fun f A outer s H E hr => ps__law_right F.T h__law_draft h__law_pick h__law_hills h__law_made h__law_sites h__law_levels h__law_grid h_miss h__law_rank h_curve_through h__law_is_curve h__law_gaps h__law_dot h__law_squares h__law_sip h__law_plus h__law_less h__law_amounts (calK_nearest f_nearest) (calK_miss f_miss) n_Curve p_Curve_amounts cX F.d__law_error F.te F.hex e1 e2 F.TB f A outer s H E hr
  exact FL.ok sc_law (fun vs H Q E ⟨_, _, e, _⟩ => by rw [e]; rfl) fun cdv A outer s H vs Q E hr h => ⟨t_law K P0, (ps_law F.T h_Frame h_nearest h_miss p_Curve_amounts h__law_right h__law_mug f cdv A outer s H E hr).nox, law_pure h⟩
end
end Bt
/-! ==== H1 ==== -/
set_option Elab.async false
set_option linter.all false
set_option maxRecDepth 100000
set_option maxHeartbeats 2000000
/-! The head: what is looked at behind the top, what follows from it. -/
namespace Bt
open PySem PySem.Spec PyProof.Rows L2
open He (ga ma fAd ba eqO eqO_ok frT asD FnW AlD)
abbrev st_NotOne : Stmt := inClass (top 17) 0
def hfn : List He.DefD := [⟨("common", none), "common", "common", defArgs st_common, defBody st_common, defScope st_common, [], []⟩,
  ⟨("ratio", none), "ratio", "ratio", defArgs st_ratio, defBody st_ratio, defScope st_ratio, [], []⟩,
  ⟨("plus", none), "plus", "plus", defArgs st_plus, defBody st_plus, defScope st_plus, [], []⟩,
  ⟨("minus", none), "minus", "minus", defArgs st_minus, defBody st_minus, defScope st_minus, [], []⟩,
  ⟨("times", none), "times", "times", defArgs st_times, defBody st_times, defScope st_times, [], []⟩,
  ⟨("over", none), "over", "over", defArgs st_over, defBody st_over, defScope st_over, [], []⟩,
  ⟨("total", none), "total", "total", defArgs st_total, defBody st_total, defScope st_total, [], []⟩,
  ⟨("joined", none), "joined", "joined", defArgs st_joined, defBody st_joined, defScope st_joined, [], []⟩,
  ⟨("_law_gcd", none), "_law_gcd", "_law_gcd", defArgs st__law_gcd, defBody st__law_gcd, defScope st__law_gcd, [], []⟩,
  ⟨("_law_low", none), "_law_low", "_law_low", defArgs st__law_low, defBody st__law_low, defScope st__law_low, [], []⟩,
  ⟨("_law_plus", none), "_law_plus", "_law_plus", defArgs st__law_plus, defBody st__law_plus, defScope st__law_plus, [], []⟩,
  ⟨("_law_less", none), "_law_less", "_law_less", defArgs st__law_less, defBody st__law_less, defScope st__law_less, [], []⟩,
  ⟨("_law_mult", none), "_law_mult", "_law_mult", defArgs st__law_mult, defBody st__law_mult, defScope st__law_mult, [], []⟩,
  ⟨("_law_dot", none), "_law_dot", "_law_dot", defArgs st__law_dot, defBody st__law_dot, defScope st__law_dot, [], []⟩,
  ⟨("is_integer", none), "is_integer", "is_integer", defArgs st_is_integer, defBody st_is_integer, defScope st_is_integer, [], []⟩,
  ⟨("is_between", none), "is_between", "is_between", defArgs st_is_between, defBody st_is_between, defScope st_is_between, [], []⟩,
  ⟨("is_place", none), "is_place", "is_place", defArgs st_is_place, defBody st_is_place, defScope st_is_place, [], []⟩,
  ⟨("is_height", none), "is_height", "is_height", defArgs st_is_height, defBody st_is_height, defScope st_is_height, [], []⟩,
  ⟨("places_fault", none), "places_fault", "places_fault", defArgs st_places_fault, defBody st_places_fault, defScope st_places_fault, [], []⟩,
  ⟨("check_places", none), "check_places", "check_places", defArgs st_check_places, defBody st_check_places, defScope st_check_places, [], []⟩,
  ⟨("heights_fault", none), "heights_fault", "heights_fault", defArgs st_heights_fault, defBody st_heights_fault, defScope st_heights_fault, [], []⟩,
  ⟨("check_heights", none), "check_heights", "check_heights", defArgs st_check_heights, defBody st_check_heights, defScope st_check_heights, [], []⟩,
  ⟨("knots_fault", none), "knots_fault", "knots_fault", defArgs st_knots_fault, defBody st_knots_fault, defScope st_knots_fault, [], []⟩,
  ⟨("check_frame", none), "check_frame", "check_frame", defArgs st_check_frame, defBody st_check_frame, defScope st_check_frame, [], []⟩,
  ⟨("is_ratio", none), "is_ratio", "is_ratio", defArgs st_is_ratio, defBody st_is_ratio, defScope st_is_ratio, [], []⟩,
  ⟨("amounts_fault", none), "amounts_fault", "amounts_fault", defArgs st_amounts_fault, defBody st_amounts_fault, defScope st_amounts_fault, [], []⟩,
  ⟨("bump", none), "bump", "bump", defArgs st_bump, defBody st_bump, defScope st_bump, [], []⟩,
  ⟨("row_at", none), "row_at", "row_at", defArgs st_row_at, defBody st_row_at, defScope st_row_at, [], []⟩,
  ⟨("is_up", none), "is_up", "is_up", defArgs st_is_up, defBody st_is_up, defScope st_is_up, [], []⟩,
  ⟨("grid_of", none), "grid_of", "grid_of", defArgs st_grid_of, defBody st_grid_of, defScope st_grid_of, [], []⟩,
  ⟨("goals_of", none), "goals_of", "goals_of", defArgs st_goals_of, defBody st_goals_of, defScope st_goals_of, [], []⟩,
  ⟨("check_both", none), "check_both", "check_both", defArgs st_check_both, defBody st_check_both, defScope st_check_both, [], []⟩,
  ⟨("check_points", none), "check_points", "check_points", defArgs st_check_points, defBody st_check_points, defScope st_check_points, [], []⟩,
  ⟨("cleared", none), "cleared", "cleared", defArgs st_cleared, defBody st_cleared, defScope st_cleared, [], []⟩,
  ⟨("reduced", none), "reduced", "reduced", defArgs st_reduced, defBody st_reduced, defScope st_reduced, [], []⟩,
  ⟨("solved", none), "solved", "solved", defArgs st_solved, defBody st_solved, defScope st_solved, [], []⟩,
  ⟨("turned", none), "turned", "turned", defArgs st_turned, defBody st_turned, defScope st_turned, [], []⟩,
  ⟨("lengths_from", none), "lengths_from", "lengths_from", defArgs st_lengths_from, defBody st_lengths_from, defScope st_lengths_from, [], []⟩,
  ⟨("rank_of", none), "rank_of", "rank_of", defArgs st_rank_of, defBody st_rank_of, defScope st_rank_of, [], []⟩,
  ⟨("nearest_amounts", none), "nearest_amounts", "nearest_amounts", defArgs st_nearest_amounts, defBody st_nearest_amounts, defScope st_nearest_amounts, [], []⟩,
  ⟨("nearest", none), "nearest", "nearest", defArgs st_nearest, defBody st_nearest, defScope st_nearest, [], []⟩,
  ⟨("miss", none), "miss", "miss", defArgs st_miss, defBody st_miss, defScope st_miss, [], []⟩,
  ⟨("curve_through", none), "curve_through", "curve_through", defArgs st_curve_through, defBody st_curve_through, defScope st_curve_through, [], []⟩,
  ⟨("_law_bump", none), "_law_bump", "_law_bump", defArgs st__law_bump, defBody st__law_bump, defScope st__law_bump, [], []⟩,
  ⟨("_law_row", none), "_law_row", "_law_row", defArgs st__law_row, defBody st__law_row, defScope st__law_row, [], []⟩,
  ⟨("_law_made", none), "_law_made", "_law_made", defArgs st__law_made, defBody st__law_made, defScope st__law_made, [], []⟩,
  ⟨("_law_hills", none), "_law_hills", "_law_hills", defArgs st__law_hills, defBody st__law_hills, defScope st__law_hills, [], []⟩,
  ⟨("_law_grid", none), "_law_grid", "_law_grid", defArgs st__law_grid, defBody st__law_grid, defScope st__law_grid, [], []⟩,
  ⟨("_law_spread", none), "_law_spread", "_law_spread", defArgs st__law_spread, defBody st__law_spread, defScope st__law_spread, [], []⟩,
  ⟨("_law_gaps", none), "_law_gaps", "_law_gaps", defArgs st__law_gaps, defBody st__law_gaps, defScope st__law_gaps, [], []⟩,
  ⟨("_law_squares", none), "_law_squares", "_law_squares", defArgs st__law_squares, defBody st__law_squares, defScope st__law_squares, [], []⟩,
  ⟨("_law_scaled", none), "_law_scaled", "_law_scaled", defArgs st__law_scaled, defBody st__law_scaled, defScope st__law_scaled, [], []⟩,
  ⟨("_law_rank", none), "_law_rank", "_law_rank", defArgs st__law_rank, defBody st__law_rank, defScope st__law_rank, [], []⟩,
  ⟨("_law_mug", none), "_law_mug", "_law_mug", defArgs st__law_mug, defBody st__law_mug, defScope st__law_mug, [], []⟩,
  ⟨("_law_sip", none), "_law_sip", "_law_sip", defArgs st__law_sip, defBody st__law_sip, defScope st__law_sip, [], []⟩,
  ⟨("_law_pick", none), "_law_pick", "_law_pick", defArgs st__law_pick, defBody st__law_pick, defScope st__law_pick, [], []⟩,
  ⟨("_law_amounts", none), "_law_amounts", "_law_amounts", defArgs st__law_amounts, defBody st__law_amounts, defScope st__law_amounts, [], []⟩,
  ⟨("_law_levels", none), "_law_levels", "_law_levels", defArgs st__law_levels, defBody st__law_levels, defScope st__law_levels, [], []⟩,
  ⟨("_law_draft", none), "_law_draft", "_law_draft", defArgs st__law_draft, defBody st__law_draft, defScope st__law_draft, [], []⟩,
  ⟨("_law_sites", none), "_law_sites", "_law_sites", defArgs st__law_sites, defBody st__law_sites, defScope st__law_sites, [], []⟩,
  ⟨("_law_is_curve", none), "_law_is_curve", "_law_is_curve", defArgs st__law_is_curve, defBody st__law_is_curve, defScope st__law_is_curve, [], []⟩,
  ⟨("_law_error", none), "_law_error", "_law_error", defArgs st__law_error, defBody st__law_error, defScope st__law_error, [], []⟩,
  ⟨("_law_class", none), "_law_class", "_law_class", defArgs st__law_class, defBody st__law_class, defScope st__law_class, [], []⟩,
  ⟨("_law_field", none), "_law_field", "_law_field", defArgs st__law_field, defBody st__law_field, defScope st__law_field, [], []⟩,
  ⟨("law", none), "law", "law", defArgs st_law, defBody st_law, defScope st_law, [], []⟩,
  ⟨("_law_right", none), "_law_right", "_law_right", defArgs st__law_right, defBody st__law_right, defScope st__law_right, [], []⟩,
  ⟨("Frame", some "__init__"), "__init__", "Frame.__init__", defArgs st_Frame___init__, defBody st_Frame___init__, defScope st_Frame___init__, [], []⟩,
  ⟨("Curve", some "__init__"), "__init__", "Curve.__init__", defArgs st_Curve___init__, defBody st_Curve___init__, defScope st_Curve___init__, [], []⟩,
  ⟨("Frame", some "__eq__"), "__eq__", "Frame.__eq__", defArgs st_Frame_eq, defBody st_Frame_eq, defScope st_Frame_eq, [], []⟩,
  ⟨("Curve", some "__eq__"), "__eq__", "Curve.__eq__", defArgs st_Curve_eq, defBody st_Curve_eq, defScope st_Curve_eq, [], []⟩,
  ⟨("NotOne", some "__init__"), "__init__", "NotOne.__init__", defArgs st_NotOne, defBody st_NotOne, defScope st_NotOne, [], []⟩]
def hfa : List He.Fa := [.glo "common", .glo "ratio", .glo "plus", .glo "minus", .glo "times", .glo "over", .glo "total", .glo "joined", .glo "_law_gcd", .glo "_law_low", .glo "_law_plus", .glo "_law_less", .glo "_law_mult", .glo "_law_dot", .glo "is_integer", .glo "is_between", .glo "is_place", .glo "is_height", .glo "places_fault", .glo "check_places", .glo "heights_fault", .glo "check_heights", .glo "knots_fault", .glo "check_frame", .glo "is_ratio", .glo "amounts_fault", .glo "bump", .glo "row_at", .glo "is_up", .glo "grid_of", .glo "goals_of", .glo "check_both", .glo "check_points", .glo "cleared", .glo "reduced", .glo "solved", .glo "turned", .glo "lengths_from", .glo "rank_of", .glo "nearest_amounts", .glo "nearest", .glo "miss", .glo "curve_through", .glo "_law_bump", .glo "_law_row", .glo "_law_made", .glo "_law_hills", .glo "_law_grid", .glo "_law_spread", .glo "_law_gaps", .glo "_law_squares", .glo "_law_scaled", .glo "_law_rank", .glo "_law_mug", .glo "_law_sip", .glo "_law_pick", .glo "_law_amounts", .glo "_law_levels", .glo "_law_draft", .glo "_law_sites", .glo "_law_is_curve", .glo "_law_error", .glo "_law_class", .glo "_law_field", .glo "law", .glo "_law_right", .glo "Frame", .glo "Curve", .glo "NONE", .glo "ONE", .glo "NotRight", .glo "NotKnown", .glo "NotPossible", .glo "InvalidText", .glo "InvalidNumber", .glo "InvalidDegree", .glo "InvalidKnots", .glo "NotAFrame", .glo "NotACurve", .glo "InvalidAmounts", .glo "InvalidPlaces", .glo "InvalidHeights", .glo "InvalidIndex", .glo "InvalidKnot", .glo "InvalidOffers", .glo "NotOne", .glo "TooMany", .glo "Broken", .free "abs", .free "zip", .free "len", .free "range", .free "enumerate", .free "max", .free "min", .free "int", .free "bool", .free "tuple", .free "list", .free "set", .free "sorted", .free "any", .free "all", .free "isinstance", .free "ValueError", .free "LookupError", .free "ArithmeticError", .int "MOST_KNOT" 1000000, .int "MOST_PLACES" 12, .int "MOST_HEIGHT" 100000000000000000000, .int "MOST_HILLS" 10, .int "MOST_DEGREE" 4, .cls "Frame", .noat "Frame" "parts", .mkr "Frame", .cls "Curve", .noat "Curve" "parts", .mkr "Curve"]
/-! ### checks -/
def insB (K : PySem.W.Frag) (x : Str) : Bool := eqO (PySem.W.findIn K (.ref (ga K x)) "__class__") (some (some (.builtin "object.__class__"))) && (eqO (PySem.W.specialIn K (.builtin "object.__class__") "__get__") (some (some (.builtin "getset_descriptor.__get__"))) && (decide (PySem.W.takesIn K (.builtin "object.__class__") = some true) && (decide (PySem.W.mroIn K (ga K x) (.type "object") = some true) && decide (PySem.W.kitOne K (.ref (ga K x)) (.ref (ga K x)) = some true))))
theorem insB_ok {K : PySem.W.Frag} {x : Str} (cl : Cls K (ga K x)) (h : insB K x = true) : C8.InsC K (ga K x) := by
  obtain ⟨h1, h⟩ := ba h
  obtain ⟨h2, h⟩ := ba h
  obtain ⟨h3, h⟩ := ba h
  obtain ⟨h4, h5⟩ := ba h
  exact ⟨cl, eqO_ok h1, eqO_ok h2, of_decide_eq_true h3, of_decide_eq_true h4, of_decide_eq_true h5⟩
/-- a property's object, its getter -/
def pAd (K : PySem.W.Frag) (x a : Str) : Addr := ma K (ga K x) a
def gAd (K : PySem.W.Frag) (x a : Str) : Addr := match PySem.W.recIn K (pAd K x a) "property" with
  | some (.ref g :: _) => g
  | _ => 0
def prpB (K : PySem.W.Frag) (x a : Str) : Bool := eqO (PySem.W.findIn K (.ref (ga K x)) a) (some (some (.ref (pAd K x a)))) && (eqO (PySem.W.specialIn K (.ref (pAd K x a)) "__get__") (some (some (.builtin "property.__get__"))) && (decide (PySem.W.takesIn K (.ref (pAd K x a)) = some true) && (match PySem.W.recIn K (pAd K x a) "property" with
  | some (.ref _ :: _) => true
  | _ => false)))
theorem prpB_ok {K : PySem.W.Frag} {x a : Str} (h : prpB K x a = true) : PropOf K (ga K x) a (pAd K x a) (gAd K x a) := by
  obtain ⟨h1, h⟩ := ba h
  obtain ⟨h2, h⟩ := ba h
  obtain ⟨h3, h4⟩ := ba h
  refine ⟨eqO_ok h1, eqO_ok h2, of_decide_eq_true h3, ?_⟩
  unfold gAd
  split at h4
  · rename_i g r e
    rw [e]
    exact ⟨r, rfl⟩
  · cases h4
/-- a function at an address -/
def fnWA (K : PySem.W.Frag) (f : Addr) : FnW := match K.lookup f with
  | some ⟨_, _, .func fd, _⟩ => some (fd.name, fd.qualname, fd.params, fd.body, fd.scope, fd.globals, fd.closure, fd.builtins)
  | _ => none
def okA (K : PySem.W.Frag) (f : Addr) (q : Str) : Bool := PySem.W.keepIn K (.ref f) && (match K.lookup f with
  | some ⟨_, _, .func fd, _⟩ => PySem.W.codeIn K fd.code q && decide (fd.defaults = .none)
  | _ => false)
theorem funD_at {K : PySem.W.Frag} {f : Addr} {x q : Str} {st : Stmt} (e : fnWA K f = some (x, q, defArgs st, .stmts (defBody st), defScope st, mainGlobals, [], builtinsNs)) (h : okA K f q = true) : ∃ fd, FunD K x q (defArgs st) (defBody st) (defScope st) [] [] f fd := by
  obtain ⟨kp, c2⟩ := ba h
  unfold fnWA at e
  cases y : K.lookup f with
  | none =>
    rw [y] at c2
    cases c2
  | some o =>
    obtain ⟨oc, od, dt, osl⟩ := o
    rw [y] at c2 e
    cases dt with
    | func fd =>
      obtain ⟨n1, n2, n3, n4, n5, n6, n7, n8, n9, n10, n11, n12, n13, n14, n15⟩ := fd
      have e2 : (some (n1, n2, n3, n4, n5, n6, n7, n15) : FnW) = some (x, q, defArgs st, .stmts (defBody st), defScope st, mainGlobals, [], builtinsNs) := e
      simp only [Option.some.injEq, Prod.mk.injEq] at e2
      obtain ⟨h1, h2, h3, h4, h5, h6, h7, h8⟩ := e2
      subst h1 h2 h3 h4 h5 h6 h7 h8
      have c3 : (PySem.W.codeIn K n13 n2 && decide (n8 = .none)) = true := c2
      obtain ⟨k1, k2⟩ := ba c3
      have k2 : n8 = .none := of_decide_eq_true k2
      subst k2
      exact ⟨_, ⟨oc, od, .none, n9, n10, n11, n12, n13, n14, osl, rfl, y, k1, .inl ⟨rfl, rfl⟩, .inl rfl⟩, kp⟩
    | _ => cases c2
/-- a class with its own __eq__, no __ne__ -/
def ownB (K : PySem.W.Frag) (x : Str) : Bool := eqO (PySem.W.findIn K (.ref (ga K x)) "__eq__") (some (some (.ref (fAd K (x, some "__eq__"))))) && (PySem.W.isFn K (.ref (fAd K (x, some "__eq__"))) && ((match K.lookup (fAd K (x, some "__eq__")) with
  | some o => decide (o.cls = .type "function")
  | none => false) && (match K.lookup (ga K x) with
  | some ⟨.type "type", _, .cls cd, sl⟩ => (match cd.mro, sl.toList with
    | .ref C' :: bm, [_, _, _, _, some (.builtin _), _] => decide (C' = ga K x) && (decide (bm = [.type "object"]) && (cd.hasDict && (!cd.hasDel && (match K.lookup cd.ns with
      | some ⟨_, _, .dict es _, _⟩ => (es.all fun e => match e.key with
        | .str _ _ => true
        | _ => false) && (decide (nsFind es "__eq__" = some (.ref (fAd K (x, some "__eq__")))) && decide (nsFind es "__ne__" = none))
      | _ => false))))
    | _, _ => false)
  | _ => false)))
theorem strKeys_of {es : Array DictEntry} (h : (es.all fun e => match e.key with
    | .str _ _ => true
    | _ => false) = true) : StrKeys es := fun e he => by
  have q := Array.all_eq_true'.mp h e he
  cases k : e.key with
  | str n t => exact ⟨n, t, rfl⟩
  | _ =>
    rw [k] at q
    cases q
theorem ownB_ok {K : PySem.W.Frag} {x q : Str} {st : Stmt} {fd : FuncData} (F : FunD K "__eq__" q (defArgs st) (defBody st) (defScope st) [] [] (fAd K (x, some "__eq__")) fd) (h : ownB K x = true) : OwnQ K x q st (fAd K (x, some "__eq__")) fd := by
  obtain ⟨h1, h⟩ := ba h
  obtain ⟨h2, h⟩ := ba h
  obtain ⟨h3, h⟩ := ba h
  refine ⟨F, eqO_ok h1, h2, ?_, ?_⟩
  · split at h
    · rename_i dd cd sl ho
      split at h
      · rename_i C' bm k0 k1 k2 k3 n k5 hm hs
        obtain ⟨e1, y2⟩ := ba h
        obtain ⟨e2, y3⟩ := ba y2
        obtain ⟨e3, y4⟩ := ba y3
        obtain ⟨e4, y5⟩ := ba y4
        clear h y2 y3 y4
        have e1 : C' = ga K x := of_decide_eq_true e1
        have e2 : bm = [.type "object"] := of_decide_eq_true e2
        subst e2
        obtain ⟨nm, bs, mro, ns, qn, hd, sn, sub, ab, col, del⟩ := cd
        dsimp only at hm e3 e4 y5
        have e4 : del = false := by
          cases del with
          | false => rfl
          | true => cases e4
        rw [e1] at hm
        subst hm e3 e4
        have hsl : sl = #[k0, k1, k2, k3, some (.builtin n), k5] := by
          obtain ⟨l⟩ := sl
          simp only at hs
          rw [hs]
        subst hsl
        refine ⟨nm, qn, ns, bs, sn, sub, ab, col, dd, k0, k1, k2, k3, k5, n, ho, ?_⟩
        split at y5
        · rename_i oc od es ep osl hN
          obtain ⟨z1, y6⟩ := ba y5
          obtain ⟨z2, z3⟩ := ba y6
          exact ⟨_, es, ep, hN, rfl, strKeys_of z1, of_decide_eq_true z2, of_decide_eq_true z3⟩
        · cases y5
      · cases h
    · cases h
  · cases y : K.lookup (fAd K (x, some "__eq__")) with
    | none =>
      rw [y] at h3
      cases h3
    | some o =>
      rw [y] at h3
      exact ⟨o, rfl, of_decide_eq_true h3⟩
/-- an exception's class -/
def xcB (K : PySem.W.Frag) (D : Addr) : Bool := eqO (PySem.W.findIn K (.ref D) "__getattribute__") (some (some (.builtin "BaseException.__getattribute__"))) && (eqO (PySem.W.findIn K (.ref D) "__getattr__") (some none) && (decide (PySem.W.subIn K (.ref D) (.type "BaseException") = some true) && (PySem.W.hasDictIn K D && (eqO (PySem.W.findIn K (.ref D) "__class__") (some (some (.builtin "object.__class__"))) && (eqO (PySem.W.specialIn K (.builtin "object.__class__") "__get__") (some (some (.builtin "getset_descriptor.__get__"))) && (decide (PySem.W.takesIn K (.builtin "object.__class__") = some true) && decide (PySem.W.mroIn K D (.type "object") = some true)))))))
theorem xcB_ok {K : PySem.W.Frag} {D : Addr} (h : xcB K D = true) : ExcC K D := by
  obtain ⟨h1, h⟩ := ba h
  obtain ⟨h2, h⟩ := ba h
  obtain ⟨h3, h⟩ := ba h
  obtain ⟨h4, h⟩ := ba h
  obtain ⟨h5, h⟩ := ba h
  obtain ⟨h6, h⟩ := ba h
  obtain ⟨h7, h8⟩ := ba h
  exact ⟨eqO_ok h1, eqO_ok h2, of_decide_eq_true h3, h4, eqO_ok h5, eqO_ok h6, of_decide_eq_true h7, of_decide_eq_true h8⟩
def oneClsB (K : PySem.W.Frag) (C D : Addr) : Bool := match K.lookup C with
  | some ⟨.type "type", _, .cls cd, sl⟩ => (match cd.mro, sl.toList with
    | .ref C' :: bm, [_, _, _, _, some (.builtin n), _] => decide (C' = C) && (decide (n = "ArithmeticError.__new__") && (decide (bm = .ref D :: PySem.AeX.aeTail) && (cd.hasDict && !cd.hasDel)))
    | _, _ => false)
  | _ => false
theorem oneClsB_ok {K : PySem.W.Frag} {C D : Addr} (h : oneClsB K C D = true) : ∃ nm q N bs sn sub ab col dd k0 k1 k2 k3 k5, K.lookup C = some (excClassObj nm q C N bs (.ref D :: PySem.AeX.aeTail) true sn sub ab col dd k0 k1 k2 k3 k5 "ArithmeticError.__new__") := by
  unfold oneClsB at h
  split at h
  · rename_i dd cd sl ho
    split at h
    · rename_i C' bm k0 k1 k2 k3 n k5 hm hs
      obtain ⟨e1, h⟩ := ba h
      obtain ⟨e0, h⟩ := ba h
      obtain ⟨e2, h⟩ := ba h
      obtain ⟨e3, e4⟩ := ba h
      have e1 : C' = C := of_decide_eq_true e1
      have e0 : n = "ArithmeticError.__new__" := of_decide_eq_true e0
      have e2 : bm = .ref D :: PySem.AeX.aeTail := of_decide_eq_true e2
      subst e0 e2
      obtain ⟨nm, bs, mro, ns, qn, hd, sn, sub, ab, col, del⟩ := cd
      dsimp only at hm e3 e4
      have e4 : del = false := by
        cases del with
        | false => rfl
        | true => cases e4
      rw [e1] at hm
      subst hm e3 e4
      have hsl : sl = #[k0, k1, k2, k3, some (.builtin "ArithmeticError.__new__"), k5] := by
        obtain ⟨l⟩ := sl
        simp only at hs
        rw [hs]
      subst hsl
      exact ⟨nm, qn, ns, bs, sn, sub, ab, col, dd, k0, k1, k2, k3, k5, ho⟩
    · cases h
  · cases h
def kwNone (K : PySem.W.Frag) (f : Addr) : Bool := match K.lookup f with
  | some ⟨_, _, .func fd, _⟩ => decide (fd.kwdefaults = .none)
  | _ => false
def oneB (K : PySem.W.Frag) : Bool := oneClsB K (ga K "NotOne") (ga K "NotPossible") && (eqO (PySem.W.findIn K (.ref (ga K "NotOne")) "__setattr__") (some (some (.builtin "object.__setattr__"))) && (eqO (PySem.W.findIn K (.ref (ga K "NotOne")) "rank") (some none) && (eqO (PySem.W.findIn K (.ref (ga K "NotOne")) "__init__") (some (some (.ref (fAd K ("NotOne", some "__init__"))))) && (decide (PySem.W.typeIn K (.ref (fAd K ("NotOne", some "__init__"))) = some (.type "function")) && (PySem.W.keepIn K (.ref (ga K "NotOne")) && (xcB K (ga K "NotOne") && (decide (PySem.W.typeIn K (.ref (ga K "NotOne")) = some (.type "type")) && kwNone K (fAd K ("NotOne", some "__init__")))))))))
theorem oneB_ok {K : PySem.W.Frag} {mg : Str → Option Value} {fd : FuncData} (hg : mg "NotOne" = some (.ref (ga K "NotOne"))) (F : FunD K "__init__" "NotOne.__init__" (defArgs st_NotOne) (defBody st_NotOne) (defScope st_NotOne) [] [] (fAd K ("NotOne", some "__init__")) fd) (h : oneB K = true) : PySem.AeX.OneTxt K mg (ga K "NotOne") (ga K "NotPossible") (fAd K ("NotOne", some "__init__")) := by
  obtain ⟨h1, h⟩ := ba h
  obtain ⟨h2, h⟩ := ba h
  obtain ⟨h3, h⟩ := ba h
  obtain ⟨h4, h⟩ := ba h
  obtain ⟨h5, h⟩ := ba h
  obtain ⟨h6, h⟩ := ba h
  obtain ⟨h7, h⟩ := ba h
  obtain ⟨h8, h9⟩ := ba h
  refine ⟨hg, oneClsB_ok h1, eqO_ok h2, eqO_ok h3, eqO_ok h4, of_decide_eq_true h5, h6, xcB_ok h7, of_decide_eq_true h8, ?_⟩
  obtain ⟨oc, od, dV, kV, doc, pm, an, cdv, ct, osl, rfl, lk, hcd, hdv, hkv⟩ := F.ex
  unfold kwNone at h9
  rw [lk] at h9
  have h9 : kV = .none := of_decide_eq_true h9
  subst h9
  rcases hdv with ⟨_, rfl⟩ | ⟨e, _⟩
  · exact ⟨oc, od, doc, pm, an, cdv, ct, osl, _, _, _, _, _, _, lk, hcd⟩
  · exact absurd rfl e
def teB (K : PySem.W.Frag) : Bool := (excNames.all fun x => decide (PySem.W.kitOne K (.ref (ga K "NotOne")) (.ref (ga K x)) = some (decide (x = "NotOne" ∨ x = "NotPossible")))) && (decide (PySem.W.kitOne K (.ref (ga K "NotOne")) (.type "ValueError") = some false) && (decide (PySem.W.kitOne K (.ref (ga K "NotOne")) (.type "LookupError") = some false) && decide (PySem.W.kitOne K (.ref (ga K "NotOne")) (.type "ArithmeticError") = some true)))
def hexB (K : PySem.W.Frag) : Bool := decide (PySem.W.exmAny K (.ref (ga K "NotOne")) [.ref (ga K "NotRight"), .ref (ga K "NotKnown"), .ref (ga K "NotPossible")] = some true)
def hasB (K : PySem.W.Frag) (a : Addr) : Bool := (K.lookup a).isSome
/-- a dict of text keys that has none of these -/
def lackB (K : PySem.W.Frag) (a : Addr) (ks : List Str) : Bool := match K.lookup a with
  | some ⟨_, _, .dict es _, _⟩ => (es.all fun e => match e.key with
    | .str _ _ => true
    | _ => false) && ks.all fun k => decide (nsFind es k = none)
  | _ => false
theorem lackB_ok {K : PySem.W.Frag} {a : Addr} {ks : List Str} (h : lackB K a ks = true) {base : Heap} (KB : K.In base) : ∃ m, base.Ns a m ∧ ∀ k ∈ ks, m k = none := by
  unfold lackB at h
  split at h
  · rename_i oc od es ep osl ho
    obtain ⟨h1, h2⟩ := ba h
    exact ⟨nsFind es, ⟨_, es, ep, KB _ _ ho, rfl, strKeys_of h1, fun _ => rfl⟩, fun k hk => of_decide_eq_true (List.all_eq_true.mp h2 k hk)⟩
  · cases h
def gets : List (Str × Str × Str × Stmt) := [("Frame", "degree", "Frame.degree", st_Frame_degree), ("Frame", "knots", "Frame.knots", st_Frame_knots), ("Frame", "hills", "Frame.hills", st_Frame_hills), ("Curve", "frame", "Curve.frame", st_Curve_frame), ("Curve", "amounts", "Curve.amounts", st_Curve_amounts)]
def exB (K : PySem.W.Frag) : Bool := insB K "Frame" && (insB K "Curve" && (ownB K "Frame" && (ownB K "Curve" && (oneB K && (teB K && (hexB K && (He.tupB K "NONE" [.int 0, .int 1] && (He.tupB K "ONE" [.int 1, .int 1] && (lackB K cStatics ["sys.audit-hooks", "sys.dict"] && (lackB K sysModules ["_pylong"] && (hasB K builtinsNs && (gets.all fun d => prpB K d.1 d.2.1 && okA K (gAd K d.1 d.2.1) d.2.2.1))))))))))))
/-! ### the Hook -/
def htf : List He.Defn := [("_law_right", none)]
/-- where that stands which is looked at (QN.lean prints it) -/
def adB : List Addr := [3, 6, 4, 24, 23, 22, 25, 44, 43, 41, 40, 42, 63, 62, 60, 59, 61, 82, 81, 79, 78, 80, 101, 100, 98, 97, 99, 120, 119, 117, 116, 118, 139, 138, 136, 135, 137, 158, 157, 155, 154, 156, 177, 176, 174, 173, 175, 196, 195, 193, 192, 194, 215, 214, 212, 211, 213, 234, 233, 231, 230, 232, 253, 252, 250, 249, 251, 265, 264, 263, 266, 278, 277, 276, 279, 298, 297, 295, 294, 296, 317, 316, 314, 313, 315, 336, 335, 333, 332, 334, 345, 344, 352, 351, 359, 358, 364, 363, 371, 370, 378, 377, 385, 384, 392, 391, 397, 396, 404, 403, 405, 412, 411, 488, 487, 426, 425, 433, 431, 430, 442, 441, 440, 450, 449, 448, 458, 457, 456, 464, 463, 462, 471, 470, 478, 477, 485, 484, 486, 489, 490, 499, 498, 500, 501, 508, 507, 515, 514, 522, 521, 529, 528, 536, 535, 543, 542, 550, 549, 555, 554, 562, 561, 569, 568, 576, 575, 581, 580, 586, 585, 633, 632, 600, 599, 608, 607, 606, 616, 615, 614, 623, 622, 630, 629, 631, 634, 635, 642, 641, 647, 646, 652, 651, 657, 656, 662, 661, 669, 668, 676, 675, 681, 680, 688, 687, 693, 692, 700, 699, 705, 704, 712, 711, 717, 716, 724, 723, 731, 730, 738, 737, 745, 744, 752, 751, 759, 758, 766, 765, 773, 772, 780, 779, 787, 786, 792, 791, 797, 796, 804, 803, 811, 810, 816, 815, 821, 820, 826, 825, 831, 830, 836, 835, 841, 840, 848, 847, 853, 852, 860, 859, 867, 866, 874, 873, 879, 878, 886, 885, 891, 890, 896, 895, 0, 1, 2]
abbrev frB (g : Addr → Option Obj) : PySem.W.Frag := frT g adB
abbrev AlB : Type := AlD × (Bool × List FnW)
abbrev Gt : Type := Str × Str × Str × Stmt
def gtV (d : Gt) : FnW := some (d.2.1, d.2.2.1, defArgs d.2.2.2, .stmts (defBody d.2.2.2), defScope d.2.2.2, mainGlobals, [], builtinsNs)
section
variable (fa : List He.Fa) (fn : List He.DefD) (gs : List Gt) (tf : List He.Defn) (ex : PySem.W.Frag → Bool)
def obsG (g : Addr → Option Obj) : AlB := (He.obsD fa fn (frB g), ex (frB g) && He.tabsB g tf (frB g), gs.map fun d => fnWA (frB g) (gAd (frB g) d.1 d.2.1))
def valG : AlB := (He.valD fn, true, gs.map gtV)
structure SaysG (h : Heap) (K : PySem.W.Frag) : Prop where
  d : He.SaysD fa fn K
  ex : ex K = true
  gt : (gs.map fun d => fnWA K (gAd K d.1 d.2.1)) = gs.map gtV
  hd : ∀ p ∈ tf, PySem.W.codeHdIn K (He.cT K p).1 (He.cT K p).2 = true
  out : ∀ p ∈ tf, K.lookup (He.cT K p).2 = none
  empty : ∀ p ∈ tf, h.get? (He.cT K p).2 = some { cls := .none, data := .fields #[] }
variable {fa fn gs tf ex}
theorem saysG_of {h : Heap} (e : obsG fa fn gs tf ex h.get? = valG fn gs) : SaysG fa fn gs tf ex h (frB h.get?) := by
  have e1 : He.obsD fa fn (frB h.get?) = He.valD fn := congrArg (fun z : AlB => z.1) e
  have e2 : (ex (frB h.get?) && He.tabsB h.get? tf (frB h.get?)) = true := congrArg (fun z : AlB => z.2.1) e
  have e3 : (gs.map fun d => fnWA (frB h.get?) (gAd (frB h.get?) d.1 d.2.1)) = gs.map gtV := congrArg (fun z : AlB => z.2.2) e
  obtain ⟨h1, h2⟩ := ba e2
  have key : ∀ p ∈ tf, PySem.W.codeHdIn (frB h.get?) (He.cT (frB h.get?) p).1 (He.cT (frB h.get?) p).2 = true ∧ ∃ o, h.get? (He.cT (frB h.get?) p).2 = some o ∧ He.emptyTab o = true := fun p hp => by
    obtain ⟨h3, h4⟩ := ba (List.all_eq_true.mp h2 p hp)
    refine ⟨h3, ?_⟩
    cases q : h.get? (He.cT (frB h.get?) p).2 with
    | none =>
      rw [q] at h4
      cases h4
    | some o =>
      rw [q] at h4
      exact ⟨o, rfl, h4⟩
  exact ⟨e1, h1, e3, fun p hp => (key p hp).1, fun p hp => by
    obtain ⟨_, o, q, z⟩ := key p hp
    exact He.frT_none q z, fun p hp => by
    obtain ⟨_, o, q, z⟩ := key p hp
    rw [q, He.emptyTab_eq z]⟩
variable (fa fn gs tf ex)
def hookG : PySem.W.Hook where
  α := AlB
  obs := fun s => obsG fa fn gs tf ex s.heap.get?
  val := fun _ => valG fn gs
  says := fun _ h => ∃ K : PySem.W.Frag, K.In h ∧ SaysG fa fn gs tf ex h K
  of := fun _ _ e => ⟨_, He.frT_in, saysG_of e⟩
  keeps := fun _ _ _ ⟨K, hK, c⟩ k => ⟨K, PySem.W.Frag.In.keeps hK k, ⟨c.d, c.ex, c.gt, c.hd, c.out, fun p hp => k _ _ (c.empty p hp)⟩⟩
theorem obsG_eq (s : PySem.W.SharedT) : obsG fa fn gs tf ex (HandSHeadRun.getT s) = (hookG fa fn gs tf ex).obs s.abs := by
  have e : HandSHeadRun.getT s = s.abs.heap.get? := funext fun a => HandSHeadRun.getT_eq s a
  show obsG fa fn gs tf ex (HandSHeadRun.getT s) = obsG fa fn gs tf ex s.abs.heap.get?
  rw [e]
end
abbrev hookB : PySem.W.Hook := hookG hfa hfn gets htf exB
abbrev ob (s : PySem.W.SharedT) : AlB := obsG hfa hfn gets htf exB (HandSHeadRun.getT s)
abbrev R : PySem.W.OpenRow := PySem.W.OpenLaw.row PySem.Challenge.rw_bentthrough_k30_whole_nearest_curves

def loose0 : List Str := ["NotRight", "InvalidText", "InvalidNumber", "InvalidIndex", "InvalidDegree", "InvalidKnot", "NotAFrame", "NotACurve", "InvalidKnots", "InvalidAmounts", "InvalidPlaces", "InvalidHeights", "InvalidOffers", "NotKnown", "NotPossible", "TooMany", "NotOne", "Broken", "MOST_DEGREE", "MOST_KNOT", "MOST_HILLS", "MOST_PLACES", "MOST_HEIGHT", "FIGURES", "MOST_FIGURES", "is_integer", "is_between", "check_number", "number_in", "is_place"]
def loose1 : List Str := ["is_height", "places_fault", "check_places", "heights_fault", "check_heights", "HEAD", "knots_fault", "Frame", "check_frame", "NONE", "ONE", "common", "ratio", "plus", "minus", "times", "over", "total", "joined", "is_ratio", "bump", "is_up", "row_at", "amounts_fault", "Curve", "reduced", "cleared", "solved", "turned", "lengths_from"]
def loose2 : List Str := ["rank_of", "check_both", "grid_of", "check_points", "goals_of", "curve_through", "nearest_amounts", "nearest", "miss", "_law_mug", "_law_sip", "_law_pick", "_law_gcd", "_law_low", "_law_plus", "_law_less", "_law_mult", "_law_dot", "_law_bump", "_law_row", "_law_draft", "_law_made", "_law_hills", "_law_sites", "_law_grid", "_law_scaled", "_law_rank", "_law_amounts", "_law_levels", "_law_error"]
def loose3 : List Str := ["_law_class", "_law_field", "_law_spread", "_law_is_curve", "_law_gaps", "_law_squares", "_law_right"]
def loose : List Str := loose0 ++ loose1 ++ loose2 ++ loose3
/-! ### what follows -/
theorem dd_of {K : PySem.W.Frag} {mg : Str → Option Value} {x : Str} {st : Stmt} (h : ∃ fd, FunD K x x (defArgs st) (defBody st) (defScope st) [] [] (ga K x) fd) (hm : mg x = some (.ref (ga K x))) : Dd K mg x st := by
  obtain ⟨fd, F⟩ := h
  exact ⟨_, fd, F, hm⟩
theorem di_of {K : PySem.W.Frag} {mg : Str → Option Value} {x q : Str} {st : Stmt} (h : ∃ fd, FunD K "__init__" q (defArgs st) (defBody st) (defScope st) [] [] (ma K (ga K x) "__init__") fd) (M : Mk K (ga K x) (ma K (ga K x) "__init__")) (hm : mg x = some (.ref (ga K x))) : Di K mg x q st := by
  obtain ⟨fd, F⟩ := h
  exact ⟨_, fd, F, M, hm⟩
theorem ddC_of {K : PySem.W.Frag} {mg : Str → Option Value} {x : Str} {st : Stmt} (h : ∃ fd, FunD K x x (defArgs st) (defBody st) (defScope st) [] [] (fAd K (x, none)) fd) (hm : mg x = some (.ref (ga K x))) : DdC K mg x st (He.codeOf K (x, none)) := by
  obtain ⟨fd, F⟩ := h
  refine ⟨_, fd, F, hm, ?_⟩
  obtain ⟨oc, od, dV, kV, doc, pm, an, cdv, ct, osl, e, lk, hcd, hdv, hkv⟩ := F.ex
  subst e
  obtain ⟨c, ec⟩ := He.codeIn_ref hcd
  have e2 : (PySem.W.fnOf x x (defArgs st) (defBody st) (defScope st) dV kV doc pm an cdv ct).code = .ref c := ec
  rw [e2, He.codeOf_eq lk e2]
theorem dg_of {K : PySem.W.Frag} {gs : List Gt} (hg : (gs.map fun d => fnWA K (gAd K d.1 d.2.1)) = gs.map gtV) (hb : (gs.all fun d => prpB K d.1 d.2.1 && okA K (gAd K d.1 d.2.1) d.2.2.1) = true) (i : Nat) {x a q : Str} {st : Stmt} (hi : gs[i]? = some (x, a, q, st)) (cl : Cls K (ga K x)) : Dg K x a q st := by
  have e : (gs.map fun d => fnWA K (gAd K d.1 d.2.1))[i]? = (gs.map gtV)[i]? := by rw [hg]
  rw [List.getElem?_map, List.getElem?_map, hi] at e
  have e := Option.some.inj e
  obtain ⟨h1, h2⟩ := ba (List.all_eq_true.mp hb _ (List.mem_of_getElem? hi))
  obtain ⟨fd, F⟩ := funD_at e h2
  exact ⟨_, _, fd, F, cl, prpB_ok h1⟩
theorem int_rel {u : Option Value} {i : Int} (h : ∃ t, u = some (.int i t)) : ∃ v, u = some v ∧ RelV (.int i) v := by
  obtain ⟨t, e⟩ := h
  exact ⟨_, e, t, rfl⟩
/-- nothing has looked -/
theorem noSeer_of {h base : Heap} {K : PySem.W.Frag} {mg mb : Str → Option Value} {c P : Addr} (NB : h.Ns builtinsNs mb) (hb : ∀ x : Str, x ≠ "__name__" → mb x = bootBuiltins x) (KX : K.In h) (KB : K.In base) (h1 : lackB K cStatics ["sys.audit-hooks", "sys.dict"] = true) (h2 : lackB K sysModules ["_pylong"] = true) (h3 : hasB K builtinsNs = true) (G : base.Ns mainGlobals mg) (TB : LamX.TabB base mg c P) : base.NoSeer := by
  refine ⟨?_, ?_, ?_, ?_⟩
  · obtain ⟨m, n, k⟩ := lackB_ok h1 KB
    exact ⟨m, n, k _ (by simp), k _ (by simp)⟩
  · obtain ⟨m, n, k⟩ := lackB_ok h2 KB
    exact ⟨m, n, k _ (by simp)⟩
  · obtain ⟨o, es, ep, e, d, r⟩ := NB
    unfold hasB at h3
    cases q : K.lookup builtinsNs with
    | none =>
      rw [q] at h3
      cases h3
    | some o2 =>
      have e2 := KX _ _ q
      rw [e] at e2
      cases e2
      exact ⟨mb, ⟨o, es, ep, KB _ _ q, d, r⟩, hb⟩
  · obtain ⟨bm, ob, b1, b2, b3, b4, b5, b6, b7, b8⟩ := TB.bm
    exact ⟨mg, bm, ob, G, b1, b5, b6, b7⟩
theorem facts_of {P : Program} (hP : P.given.tree = none) {h base : Heap} {K : PySem.W.Frag} {mg : Str → Option Value} (c : SaysG hfa hfn gets htf exB h K) (KB : K.In base) (G : base.Ns mainGlobals mg) (NS : base.NoSeer) (TB : LamX.TabB base mg (He.codeOf K ("_law_right", none)) (He.tabOf K (He.codeOf K ("_law_right", none)))) :
    Facts P K mg base (ga K "NotOne") (ga K "NotPossible") (fAd K ("NotOne", some "__init__")) (He.codeOf K ("_law_right", none)) (He.tabOf K (He.codeOf K ("_law_right", none))) := by
  have cx : exB K = true := c.ex
  unfold exB at cx
  obtain ⟨x1, y⟩ := ba cx
  obtain ⟨x2, y⟩ := ba y
  obtain ⟨x3, y⟩ := ba y
  obtain ⟨x4, y⟩ := ba y
  obtain ⟨x5, y⟩ := ba y
  obtain ⟨x6, y⟩ := ba y
  obtain ⟨x7, y⟩ := ba y
  obtain ⟨x8, y⟩ := ba y
  obtain ⟨x9, y⟩ := ba y
  obtain ⟨xa, y⟩ := ba y
  obtain ⟨xb, y⟩ := ba y
  obtain ⟨xc, xd⟩ := ba y
  obtain ⟨t1, y⟩ := ba x6
  obtain ⟨t2, y⟩ := ba y
  obtain ⟨t3, t4⟩ := ba y
  have cF := He.cls_ok (c.d.fact 112 (f := .cls "Frame") rfl)
  have cC := He.cls_ok (c.d.fact 115 (f := .cls "Curve") rfl)
  obtain ⟨fdF, FqF⟩ := (c.d.def_ 68 (d := ⟨("Frame", some "__eq__"), "__eq__", "Frame.__eq__", defArgs st_Frame_eq, defBody st_Frame_eq, defScope st_Frame_eq, [], []⟩) rfl)
  obtain ⟨fdC, FqC⟩ := (c.d.def_ 69 (d := ⟨("Curve", some "__eq__"), "__eq__", "Curve.__eq__", defArgs st_Curve_eq, defBody st_Curve_eq, defScope st_Curve_eq, [], []⟩) rfl)
  obtain ⟨fdO, FO⟩ := (c.d.def_ 70 (d := ⟨("NotOne", some "__init__"), "__init__", "NotOne.__init__", defArgs st_NotOne, defBody st_NotOne, defScope st_NotOne, [], []⟩) rfl)
  have T : Txt P K mg base := ⟨NS, hP, ⟨_, (He.glo_ok KB G (c.d.fact 68 (f := .glo "NONE") rfl)), rfl⟩, fun H => He.tupB_ok x8 H, ⟨_, (He.glo_ok KB G (c.d.fact 69 (f := .glo "ONE") rfl)), rfl⟩, fun H => He.tupB_ok x9 H, int_rel (He.int_ok KB G (c.d.fact 107 (f := .int "MOST_KNOT" 1000000) rfl)), int_rel (He.int_ok KB G (c.d.fact 108 (f := .int "MOST_PLACES" 12) rfl)), int_rel (He.int_ok KB G (c.d.fact 109 (f := .int "MOST_HEIGHT" 100000000000000000000) rfl)), int_rel (He.int_ok KB G (c.d.fact 110 (f := .int "MOST_HILLS" 10) rfl)), int_rel (He.int_ok KB G (c.d.fact 111 (f := .int "MOST_DEGREE" 4) rfl)), ⟨_, (He.glo_ok KB G (c.d.fact 66 (f := .glo "Frame") rfl)), rfl⟩, ⟨_, (He.glo_ok KB G (c.d.fact 67 (f := .glo "Curve") rfl)), rfl⟩, insB_ok cF x1, insB_ok cC x2, He.noat_ok (c.d.fact 113 (f := .noat "Frame" "parts") rfl), He.noat_ok (c.d.fact 116 (f := .noat "Curve" "parts") rfl), He.free_ok KB G (c.d.fact 88 (f := .free "abs") rfl), He.free_ok KB G (c.d.fact 89 (f := .free "zip") rfl), He.free_ok KB G (c.d.fact 90 (f := .free "len") rfl), He.free_ok KB G (c.d.fact 91 (f := .free "range") rfl), He.free_ok KB G (c.d.fact 92 (f := .free "enumerate") rfl), He.free_ok KB G (c.d.fact 93 (f := .free "max") rfl), He.free_ok KB G (c.d.fact 94 (f := .free "min") rfl), He.free_ok KB G (c.d.fact 95 (f := .free "int") rfl), He.free_ok KB G (c.d.fact 96 (f := .free "bool") rfl), He.free_ok KB G (c.d.fact 97 (f := .free "tuple") rfl), He.free_ok KB G (c.d.fact 98 (f := .free "list") rfl), He.free_ok KB G (c.d.fact 99 (f := .free "set") rfl), He.free_ok KB G (c.d.fact 100 (f := .free "sorted") rfl), He.free_ok KB G (c.d.fact 101 (f := .free "any") rfl), He.free_ok KB G (c.d.fact 102 (f := .free "all") rfl), He.free_ok KB G (c.d.fact 103 (f := .free "isinstance") rfl), He.free_ok KB G (c.d.fact 104 (f := .free "ValueError") rfl), He.free_ok KB G (c.d.fact 105 (f := .free "LookupError") rfl), He.free_ok KB G (c.d.fact 106 (f := .free "ArithmeticError") rfl)⟩
  refine { T := T,
           d_common := dd_of (c.d.def_ 0 (d := ⟨("common", none), "common", "common", defArgs st_common, defBody st_common, defScope st_common, [], []⟩) rfl) (He.glo_ok KB G (c.d.fact 0 (f := .glo "common") rfl)),
           d_ratio := dd_of (c.d.def_ 1 (d := ⟨("ratio", none), "ratio", "ratio", defArgs st_ratio, defBody st_ratio, defScope st_ratio, [], []⟩) rfl) (He.glo_ok KB G (c.d.fact 1 (f := .glo "ratio") rfl)),
           d_plus := dd_of (c.d.def_ 2 (d := ⟨("plus", none), "plus", "plus", defArgs st_plus, defBody st_plus, defScope st_plus, [], []⟩) rfl) (He.glo_ok KB G (c.d.fact 2 (f := .glo "plus") rfl)),
           d_minus := dd_of (c.d.def_ 3 (d := ⟨("minus", none), "minus", "minus", defArgs st_minus, defBody st_minus, defScope st_minus, [], []⟩) rfl) (He.glo_ok KB G (c.d.fact 3 (f := .glo "minus") rfl)),
           d_times := dd_of (c.d.def_ 4 (d := ⟨("times", none), "times", "times", defArgs st_times, defBody st_times, defScope st_times, [], []⟩) rfl) (He.glo_ok KB G (c.d.fact 4 (f := .glo "times") rfl)),
           d_over := dd_of (c.d.def_ 5 (d := ⟨("over", none), "over", "over", defArgs st_over, defBody st_over, defScope st_over, [], []⟩) rfl) (He.glo_ok KB G (c.d.fact 5 (f := .glo "over") rfl)),
           d_total := dd_of (c.d.def_ 6 (d := ⟨("total", none), "total", "total", defArgs st_total, defBody st_total, defScope st_total, [], []⟩) rfl) (He.glo_ok KB G (c.d.fact 6 (f := .glo "total") rfl)),
           d_joined := dd_of (c.d.def_ 7 (d := ⟨("joined", none), "joined", "joined", defArgs st_joined, defBody st_joined, defScope st_joined, [], []⟩) rfl) (He.glo_ok KB G (c.d.fact 7 (f := .glo "joined") rfl)),
           d__law_gcd := dd_of (c.d.def_ 8 (d := ⟨("_law_gcd", none), "_law_gcd", "_law_gcd", defArgs st__law_gcd, defBody st__law_gcd, defScope st__law_gcd, [], []⟩) rfl) (He.glo_ok KB G (c.d.fact 8 (f := .glo "_law_gcd") rfl)),
           d__law_low := dd_of (c.d.def_ 9 (d := ⟨("_law_low", none), "_law_low", "_law_low", defArgs st__law_low, defBody st__law_low, defScope st__law_low, [], []⟩) rfl) (He.glo_ok KB G (c.d.fact 9 (f := .glo "_law_low") rfl)),
           d__law_plus := dd_of (c.d.def_ 10 (d := ⟨("_law_plus", none), "_law_plus", "_law_plus", defArgs st__law_plus, defBody st__law_plus, defScope st__law_plus, [], []⟩) rfl) (He.glo_ok KB G (c.d.fact 10 (f := .glo "_law_plus") rfl)),
           d__law_less := dd_of (c.d.def_ 11 (d := ⟨("_law_less", none), "_law_less", "_law_less", defArgs st__law_less, defBody st__law_less, defScope st__law_less, [], []⟩) rfl) (He.glo_ok KB G (c.d.fact 11 (f := .glo "_law_less") rfl)),
           d__law_mult := dd_of (c.d.def_ 12 (d := ⟨("_law_mult", none), "_law_mult", "_law_mult", defArgs st__law_mult, defBody st__law_mult, defScope st__law_mult, [], []⟩) rfl) (He.glo_ok KB G (c.d.fact 12 (f := .glo "_law_mult") rfl)),
           d__law_dot := dd_of (c.d.def_ 13 (d := ⟨("_law_dot", none), "_law_dot", "_law_dot", defArgs st__law_dot, defBody st__law_dot, defScope st__law_dot, [], []⟩) rfl) (He.glo_ok KB G (c.d.fact 13 (f := .glo "_law_dot") rfl)),
           d_is_integer := dd_of (c.d.def_ 14 (d := ⟨("is_integer", none), "is_integer", "is_integer", defArgs st_is_integer, defBody st_is_integer, defScope st_is_integer, [], []⟩) rfl) (He.glo_ok KB G (c.d.fact 14 (f := .glo "is_integer") rfl)),
           d_is_between := dd_of (c.d.def_ 15 (d := ⟨("is_between", none), "is_between", "is_between", defArgs st_is_between, defBody st_is_between, defScope st_is_between, [], []⟩) rfl) (He.glo_ok KB G (c.d.fact 15 (f := .glo "is_between") rfl)),
           d_is_place := dd_of (c.d.def_ 16 (d := ⟨("is_place", none), "is_place", "is_place", defArgs st_is_place, defBody st_is_place, defScope st_is_place, [], []⟩) rfl) (He.glo_ok KB G (c.d.fact 16 (f := .glo "is_place") rfl)),
           d_is_height := dd_of (c.d.def_ 17 (d := ⟨("is_height", none), "is_height", "is_height", defArgs st_is_height, defBody st_is_height, defScope st_is_height, [], []⟩) rfl) (He.glo_ok KB G (c.d.fact 17 (f := .glo "is_height") rfl)),
           d_places_fault := dd_of (c.d.def_ 18 (d := ⟨("places_fault", none), "places_fault", "places_fault", defArgs st_places_fault, defBody st_places_fault, defScope st_places_fault, [], []⟩) rfl) (He.glo_ok KB G (c.d.fact 18 (f := .glo "places_fault") rfl)),
           d_check_places := dd_of (c.d.def_ 19 (d := ⟨("check_places", none), "check_places", "check_places", defArgs st_check_places, defBody st_check_places, defScope st_check_places, [], []⟩) rfl) (He.glo_ok KB G (c.d.fact 19 (f := .glo "check_places") rfl)),
           d_heights_fault := dd_of (c.d.def_ 20 (d := ⟨("heights_fault", none), "heights_fault", "heights_fault", defArgs st_heights_fault, defBody st_heights_fault, defScope st_heights_fault, [], []⟩) rfl) (He.glo_ok KB G (c.d.fact 20 (f := .glo "heights_fault") rfl)),
           d_check_heights := dd_of (c.d.def_ 21 (d := ⟨("check_heights", none), "check_heights", "check_heights", defArgs st_check_heights, defBody st_check_heights, defScope st_check_heights, [], []⟩) rfl) (He.glo_ok KB G (c.d.fact 21 (f := .glo "check_heights") rfl)),
           d_knots_fault := dd_of (c.d.def_ 22 (d := ⟨("knots_fault", none), "knots_fault", "knots_fault", defArgs st_knots_fault, defBody st_knots_fault, defScope st_knots_fault, [], []⟩) rfl) (He.glo_ok KB G (c.d.fact 22 (f := .glo "knots_fault") rfl)),
           d_check_frame := dd_of (c.d.def_ 23 (d := ⟨("check_frame", none), "check_frame", "check_frame", defArgs st_check_frame, defBody st_check_frame, defScope st_check_frame, [], []⟩) rfl) (He.glo_ok KB G (c.d.fact 23 (f := .glo "check_frame") rfl)),
           d_is_ratio := dd_of (c.d.def_ 24 (d := ⟨("is_ratio", none), "is_ratio", "is_ratio", defArgs st_is_ratio, defBody st_is_ratio, defScope st_is_ratio, [], []⟩) rfl) (He.glo_ok KB G (c.d.fact 24 (f := .glo "is_ratio") rfl)),
           d_amounts_fault := dd_of (c.d.def_ 25 (d := ⟨("amounts_fault", none), "amounts_fault", "amounts_fault", defArgs st_amounts_fault, defBody st_amounts_fault, defScope st_amounts_fault, [], []⟩) rfl) (He.glo_ok KB G (c.d.fact 25 (f := .glo "amounts_fault") rfl)),
           d_bump := dd_of (c.d.def_ 26 (d := ⟨("bump", none), "bump", "bump", defArgs st_bump, defBody st_bump, defScope st_bump, [], []⟩) rfl) (He.glo_ok KB G (c.d.fact 26 (f := .glo "bump") rfl)),
           d_row_at := dd_of (c.d.def_ 27 (d := ⟨("row_at", none), "row_at", "row_at", defArgs st_row_at, defBody st_row_at, defScope st_row_at, [], []⟩) rfl) (He.glo_ok KB G (c.d.fact 27 (f := .glo "row_at") rfl)),
           d_is_up := dd_of (c.d.def_ 28 (d := ⟨("is_up", none), "is_up", "is_up", defArgs st_is_up, defBody st_is_up, defScope st_is_up, [], []⟩) rfl) (He.glo_ok KB G (c.d.fact 28 (f := .glo "is_up") rfl)),
           d_grid_of := dd_of (c.d.def_ 29 (d := ⟨("grid_of", none), "grid_of", "grid_of", defArgs st_grid_of, defBody st_grid_of, defScope st_grid_of, [], []⟩) rfl) (He.glo_ok KB G (c.d.fact 29 (f := .glo "grid_of") rfl)),
           d_goals_of := dd_of (c.d.def_ 30 (d := ⟨("goals_of", none), "goals_of", "goals_of", defArgs st_goals_of, defBody st_goals_of, defScope st_goals_of, [], []⟩) rfl) (He.glo_ok KB G (c.d.fact 30 (f := .glo "goals_of") rfl)),
           d_check_both := dd_of (c.d.def_ 31 (d := ⟨("check_both", none), "check_both", "check_both", defArgs st_check_both, defBody st_check_both, defScope st_check_both, [], []⟩) rfl) (He.glo_ok KB G (c.d.fact 31 (f := .glo "check_both") rfl)),
           d_check_points := dd_of (c.d.def_ 32 (d := ⟨("check_points", none), "check_points", "check_points", defArgs st_check_points, defBody st_check_points, defScope st_check_points, [], []⟩) rfl) (He.glo_ok KB G (c.d.fact 32 (f := .glo "check_points") rfl)),
           d_cleared := dd_of (c.d.def_ 33 (d := ⟨("cleared", none), "cleared", "cleared", defArgs st_cleared, defBody st_cleared, defScope st_cleared, [], []⟩) rfl) (He.glo_ok KB G (c.d.fact 33 (f := .glo "cleared") rfl)),
           d_reduced := dd_of (c.d.def_ 34 (d := ⟨("reduced", none), "reduced", "reduced", defArgs st_reduced, defBody st_reduced, defScope st_reduced, [], []⟩) rfl) (He.glo_ok KB G (c.d.fact 34 (f := .glo "reduced") rfl)),
           d_solved := dd_of (c.d.def_ 35 (d := ⟨("solved", none), "solved", "solved", defArgs st_solved, defBody st_solved, defScope st_solved, [], []⟩) rfl) (He.glo_ok KB G (c.d.fact 35 (f := .glo "solved") rfl)),
           d_turned := dd_of (c.d.def_ 36 (d := ⟨("turned", none), "turned", "turned", defArgs st_turned, defBody st_turned, defScope st_turned, [], []⟩) rfl) (He.glo_ok KB G (c.d.fact 36 (f := .glo "turned") rfl)),
           d_lengths_from := dd_of (c.d.def_ 37 (d := ⟨("lengths_from", none), "lengths_from", "lengths_from", defArgs st_lengths_from, defBody st_lengths_from, defScope st_lengths_from, [], []⟩) rfl) (He.glo_ok KB G (c.d.fact 37 (f := .glo "lengths_from") rfl)),
           d_rank_of := dd_of (c.d.def_ 38 (d := ⟨("rank_of", none), "rank_of", "rank_of", defArgs st_rank_of, defBody st_rank_of, defScope st_rank_of, [], []⟩) rfl) (He.glo_ok KB G (c.d.fact 38 (f := .glo "rank_of") rfl)),
           d_nearest_amounts := dd_of (c.d.def_ 39 (d := ⟨("nearest_amounts", none), "nearest_amounts", "nearest_amounts", defArgs st_nearest_amounts, defBody st_nearest_amounts, defScope st_nearest_amounts, [], []⟩) rfl) (He.glo_ok KB G (c.d.fact 39 (f := .glo "nearest_amounts") rfl)),
           d_nearest := dd_of (c.d.def_ 40 (d := ⟨("nearest", none), "nearest", "nearest", defArgs st_nearest, defBody st_nearest, defScope st_nearest, [], []⟩) rfl) (He.glo_ok KB G (c.d.fact 40 (f := .glo "nearest") rfl)),
           d_miss := dd_of (c.d.def_ 41 (d := ⟨("miss", none), "miss", "miss", defArgs st_miss, defBody st_miss, defScope st_miss, [], []⟩) rfl) (He.glo_ok KB G (c.d.fact 41 (f := .glo "miss") rfl)),
           d_curve_through := dd_of (c.d.def_ 42 (d := ⟨("curve_through", none), "curve_through", "curve_through", defArgs st_curve_through, defBody st_curve_through, defScope st_curve_through, [], []⟩) rfl) (He.glo_ok KB G (c.d.fact 42 (f := .glo "curve_through") rfl)),
           d__law_bump := dd_of (c.d.def_ 43 (d := ⟨("_law_bump", none), "_law_bump", "_law_bump", defArgs st__law_bump, defBody st__law_bump, defScope st__law_bump, [], []⟩) rfl) (He.glo_ok KB G (c.d.fact 43 (f := .glo "_law_bump") rfl)),
           d__law_row := dd_of (c.d.def_ 44 (d := ⟨("_law_row", none), "_law_row", "_law_row", defArgs st__law_row, defBody st__law_row, defScope st__law_row, [], []⟩) rfl) (He.glo_ok KB G (c.d.fact 44 (f := .glo "_law_row") rfl)),
           d__law_made := dd_of (c.d.def_ 45 (d := ⟨("_law_made", none), "_law_made", "_law_made", defArgs st__law_made, defBody st__law_made, defScope st__law_made, [], []⟩) rfl) (He.glo_ok KB G (c.d.fact 45 (f := .glo "_law_made") rfl)),
           d__law_hills := dd_of (c.d.def_ 46 (d := ⟨("_law_hills", none), "_law_hills", "_law_hills", defArgs st__law_hills, defBody st__law_hills, defScope st__law_hills, [], []⟩) rfl) (He.glo_ok KB G (c.d.fact 46 (f := .glo "_law_hills") rfl)),
           d__law_grid := dd_of (c.d.def_ 47 (d := ⟨("_law_grid", none), "_law_grid", "_law_grid", defArgs st__law_grid, defBody st__law_grid, defScope st__law_grid, [], []⟩) rfl) (He.glo_ok KB G (c.d.fact 47 (f := .glo "_law_grid") rfl)),
           d__law_spread := dd_of (c.d.def_ 48 (d := ⟨("_law_spread", none), "_law_spread", "_law_spread", defArgs st__law_spread, defBody st__law_spread, defScope st__law_spread, [], []⟩) rfl) (He.glo_ok KB G (c.d.fact 48 (f := .glo "_law_spread") rfl)),
           d__law_gaps := dd_of (c.d.def_ 49 (d := ⟨("_law_gaps", none), "_law_gaps", "_law_gaps", defArgs st__law_gaps, defBody st__law_gaps, defScope st__law_gaps, [], []⟩) rfl) (He.glo_ok KB G (c.d.fact 49 (f := .glo "_law_gaps") rfl)),
           d__law_squares := dd_of (c.d.def_ 50 (d := ⟨("_law_squares", none), "_law_squares", "_law_squares", defArgs st__law_squares, defBody st__law_squares, defScope st__law_squares, [], []⟩) rfl) (He.glo_ok KB G (c.d.fact 50 (f := .glo "_law_squares") rfl)),
           d__law_scaled := dd_of (c.d.def_ 51 (d := ⟨("_law_scaled", none), "_law_scaled", "_law_scaled", defArgs st__law_scaled, defBody st__law_scaled, defScope st__law_scaled, [], []⟩) rfl) (He.glo_ok KB G (c.d.fact 51 (f := .glo "_law_scaled") rfl)),
           d__law_rank := dd_of (c.d.def_ 52 (d := ⟨("_law_rank", none), "_law_rank", "_law_rank", defArgs st__law_rank, defBody st__law_rank, defScope st__law_rank, [], []⟩) rfl) (He.glo_ok KB G (c.d.fact 52 (f := .glo "_law_rank") rfl)),
           d__law_mug := dd_of (c.d.def_ 53 (d := ⟨("_law_mug", none), "_law_mug", "_law_mug", defArgs st__law_mug, defBody st__law_mug, defScope st__law_mug, [], []⟩) rfl) (He.glo_ok KB G (c.d.fact 53 (f := .glo "_law_mug") rfl)),
           d__law_sip := dd_of (c.d.def_ 54 (d := ⟨("_law_sip", none), "_law_sip", "_law_sip", defArgs st__law_sip, defBody st__law_sip, defScope st__law_sip, [], []⟩) rfl) (He.glo_ok KB G (c.d.fact 54 (f := .glo "_law_sip") rfl)),
           d__law_pick := dd_of (c.d.def_ 55 (d := ⟨("_law_pick", none), "_law_pick", "_law_pick", defArgs st__law_pick, defBody st__law_pick, defScope st__law_pick, [], []⟩) rfl) (He.glo_ok KB G (c.d.fact 55 (f := .glo "_law_pick") rfl)),
           d__law_amounts := dd_of (c.d.def_ 56 (d := ⟨("_law_amounts", none), "_law_amounts", "_law_amounts", defArgs st__law_amounts, defBody st__law_amounts, defScope st__law_amounts, [], []⟩) rfl) (He.glo_ok KB G (c.d.fact 56 (f := .glo "_law_amounts") rfl)),
           d__law_levels := dd_of (c.d.def_ 57 (d := ⟨("_law_levels", none), "_law_levels", "_law_levels", defArgs st__law_levels, defBody st__law_levels, defScope st__law_levels, [], []⟩) rfl) (He.glo_ok KB G (c.d.fact 57 (f := .glo "_law_levels") rfl)),
           d__law_draft := dd_of (c.d.def_ 58 (d := ⟨("_law_draft", none), "_law_draft", "_law_draft", defArgs st__law_draft, defBody st__law_draft, defScope st__law_draft, [], []⟩) rfl) (He.glo_ok KB G (c.d.fact 58 (f := .glo "_law_draft") rfl)),
           d__law_sites := dd_of (c.d.def_ 59 (d := ⟨("_law_sites", none), "_law_sites", "_law_sites", defArgs st__law_sites, defBody st__law_sites, defScope st__law_sites, [], []⟩) rfl) (He.glo_ok KB G (c.d.fact 59 (f := .glo "_law_sites") rfl)),
           d__law_is_curve := dd_of (c.d.def_ 60 (d := ⟨("_law_is_curve", none), "_law_is_curve", "_law_is_curve", defArgs st__law_is_curve, defBody st__law_is_curve, defScope st__law_is_curve, [], []⟩) rfl) (He.glo_ok KB G (c.d.fact 60 (f := .glo "_law_is_curve") rfl)),
           d__law_error := dd_of (c.d.def_ 61 (d := ⟨("_law_error", none), "_law_error", "_law_error", defArgs st__law_error, defBody st__law_error, defScope st__law_error, [], []⟩) rfl) (He.glo_ok KB G (c.d.fact 61 (f := .glo "_law_error") rfl)),
           d__law_class := dd_of (c.d.def_ 62 (d := ⟨("_law_class", none), "_law_class", "_law_class", defArgs st__law_class, defBody st__law_class, defScope st__law_class, [], []⟩) rfl) (He.glo_ok KB G (c.d.fact 62 (f := .glo "_law_class") rfl)),
           d__law_field := dd_of (c.d.def_ 63 (d := ⟨("_law_field", none), "_law_field", "_law_field", defArgs st__law_field, defBody st__law_field, defScope st__law_field, [], []⟩) rfl) (He.glo_ok KB G (c.d.fact 63 (f := .glo "_law_field") rfl)),
           d_law := dd_of (c.d.def_ 64 (d := ⟨("law", none), "law", "law", defArgs st_law, defBody st_law, defScope st_law, [], []⟩) rfl) (He.glo_ok KB G (c.d.fact 64 (f := .glo "law") rfl)),
           di_Frame := di_of (c.d.def_ 66 (d := ⟨("Frame", some "__init__"), "__init__", "Frame.__init__", defArgs st_Frame___init__, defBody st_Frame___init__, defScope st_Frame___init__, [], []⟩) rfl) (He.mkr_ok (c.d.fact 114 (f := .mkr "Frame") rfl)) (He.glo_ok KB G (c.d.fact 66 (f := .glo "Frame") rfl)),
           di_Curve := di_of (c.d.def_ 67 (d := ⟨("Curve", some "__init__"), "__init__", "Curve.__init__", defArgs st_Curve___init__, defBody st_Curve___init__, defScope st_Curve___init__, [], []⟩) rfl) (He.mkr_ok (c.d.fact 117 (f := .mkr "Curve") rfl)) (He.glo_ok KB G (c.d.fact 67 (f := .glo "Curve") rfl)),
           dg_Frame_degree := dg_of c.gt xd 0 rfl cF,
           dg_Frame_knots := dg_of c.gt xd 1 rfl cF,
           dg_Frame_hills := dg_of c.gt xd 2 rfl cF,
           dg_Curve_frame := dg_of c.gt xd 3 rfl cC,
           dg_Curve_amounts := dg_of c.gt xd 4 rfl cC,
           oF := ⟨_, fdF, ownB_ok FqF x3⟩,
           oC := ⟨_, fdC, ownB_ok FqC x4⟩,
           one := oneB_ok (He.glo_ok KB G (c.d.fact 85 (f := .glo "NotOne") rfl)) FO x5,
           te := ⟨fun x hx => ?te, fun x hx => of_decide_eq_true (List.all_eq_true.mp t1 x hx), ⟨of_decide_eq_true t2, of_decide_eq_true t3, of_decide_eq_true t4⟩, xcB_ok (ba (ba (ba (ba (ba (ba (ba x5).2).2).2).2).2).2).1, eqO_ok (ba (ba (ba x5).2).2).1⟩,
           hex := of_decide_eq_true x7,
           dr := ddC_of (c.d.def_ 65 (d := ⟨("_law_right", none), "_law_right", "_law_right", defArgs st__law_right, defBody st__law_right, defScope st__law_right, [], []⟩) rfl) (He.glo_ok KB G (c.d.fact 65 (f := .glo "_law_right") rfl)),
           TB := TB }
  simp only [excNames, List.mem_cons, List.not_mem_nil, or_false] at hx
  rcases hx with rfl | rfl | rfl | rfl | rfl | rfl | rfl | rfl | rfl | rfl | rfl | rfl | rfl | rfl | rfl | rfl | rfl | rfl
  · exact ⟨_, (He.glo_ok KB G (c.d.fact 70 (f := .glo "NotRight") rfl)), rfl⟩
  · exact ⟨_, (He.glo_ok KB G (c.d.fact 71 (f := .glo "NotKnown") rfl)), rfl⟩
  · exact ⟨_, (He.glo_ok KB G (c.d.fact 72 (f := .glo "NotPossible") rfl)), rfl⟩
  · exact ⟨_, (He.glo_ok KB G (c.d.fact 73 (f := .glo "InvalidText") rfl)), rfl⟩
  · exact ⟨_, (He.glo_ok KB G (c.d.fact 74 (f := .glo "InvalidNumber") rfl)), rfl⟩
  · exact ⟨_, (He.glo_ok KB G (c.d.fact 75 (f := .glo "InvalidDegree") rfl)), rfl⟩
  · exact ⟨_, (He.glo_ok KB G (c.d.fact 76 (f := .glo "InvalidKnots") rfl)), rfl⟩
  · exact ⟨_, (He.glo_ok KB G (c.d.fact 77 (f := .glo "NotAFrame") rfl)), rfl⟩
  · exact ⟨_, (He.glo_ok KB G (c.d.fact 78 (f := .glo "NotACurve") rfl)), rfl⟩
  · exact ⟨_, (He.glo_ok KB G (c.d.fact 79 (f := .glo "InvalidAmounts") rfl)), rfl⟩
  · exact ⟨_, (He.glo_ok KB G (c.d.fact 80 (f := .glo "InvalidPlaces") rfl)), rfl⟩
  · exact ⟨_, (He.glo_ok KB G (c.d.fact 81 (f := .glo "InvalidHeights") rfl)), rfl⟩
  · exact ⟨_, (He.glo_ok KB G (c.d.fact 82 (f := .glo "InvalidIndex") rfl)), rfl⟩
  · exact ⟨_, (He.glo_ok KB G (c.d.fact 83 (f := .glo "InvalidKnot") rfl)), rfl⟩
  · exact ⟨_, (He.glo_ok KB G (c.d.fact 84 (f := .glo "InvalidOffers") rfl)), rfl⟩
  · exact ⟨_, (He.glo_ok KB G (c.d.fact 85 (f := .glo "NotOne") rfl)), rfl⟩
  · exact ⟨_, (He.glo_ok KB G (c.d.fact 86 (f := .glo "TooMany") rfl)), rfl⟩
  · exact ⟨_, (He.glo_ok KB G (c.d.fact 87 (f := .glo "Broken") rfl)), rfl⟩
/-- the law's address, its promise -/
theorem law_at {P : Program} {w : World} (hP : P.given.tree = none) {h base : Heap} {K : PySem.W.Frag} {mg mb : Str → Option Value} {fa : Addr} (c : SaysG hfa hfn gets htf exB h K) (NB : h.Ns builtinsNs mb) (hb : ∀ x : Str, x ≠ "__name__" → mb x = bootBuiltins x) (KX : K.In h) (Gh : h.Ns mainGlobals mg) (hmg : mg "law" = some (.ref fa)) :
    ∃ fd : FuncData, (∀ (s : Shared) (v : Value), BindsTo s fd ⟨[v], []⟩ [("_law_script", v)]) ∧ ∀ base : Heap, K.In base → base.Ns mainGlobals mg → LamX.TabB base mg (He.codeOf K ("_law_right", none)) (He.tabOf K (He.codeOf K ("_law_right", none))) → FnOk P w K mg base C8.CX0 50 fa fd ["_law_script"] (spLaw K (He.tabOf K (He.codeOf K ("_law_right", none)))) := by
  obtain ⟨fd, F⟩ := (c.d.def_ 64 (d := ⟨("law", none), "law", "law", defArgs st_law, defBody st_law, defScope st_law, [], []⟩) rfl)
  have e := hmg.symm.trans (He.glo_ok KX Gh (c.d.fact 64 (f := .glo "law") rfl))
  cases e
  have b := FunD.bindsA (ps := ["_law_script"]) F fun _ _ _ _ _ _ us hl => match us, hl with | [_], _ => rfl
  have cx : exB K = true := c.ex
  unfold exB at cx
  have y := (ba (ba (ba (ba (ba (ba (ba (ba (ba cx).2).2).2).2).2).2).2).2).2
  obtain ⟨xa, y⟩ := ba y
  obtain ⟨xb, y⟩ := ba y
  obtain ⟨xc, _⟩ := ba y
  exact ⟨fd, fun s v => b s [v] rfl, fun base KB G TB => law_ok (facts_of hP c KB G (noSeer_of NB hb KX KB xa xb xc G TB) TB) F⟩
end Bt
/-! ==== H2 ==== -/
set_option Elab.async false
set_option linter.all false
set_option maxRecDepth 100000
set_option maxHeartbeats 0
/-! The head's run, piece by piece; the law. -/
namespace Bt
open PySem PySem.W PySem.Calls PyProof.Rows HandSHeadRun
abbrev qv : Program := view R.prog [108]
theorem run1 (w : World) (os : OsState) : (endF (stepQ (denQ tabQ) R.prog w) 9000 R.prog w os).map (fun s => looksF R.prog (boot_heap w.params) s.abs) = some true := by
  kernel_rfl
theorem run2 (w : World) (os : OsState) : (endF (stepQ (denQ tabQ) R.prog w) 9000 R.prog w os).map (fun s => seenQ qv loose (importedModules R.prog.main.body) (fun s => xlAt qv [] s && recOk R.toRowW.records s) s.abs) = some (PySem.W.openGood qv loose) := by
  kernel_rfl
theorem run3 (w : World) (os : OsState) : (endF (stepQ (denQ tabQ) R.prog w) 9000 R.prog w os).map (fun s => (ob s).1.1) = some true := by
  kernel_rfl
theorem run4 (w : World) (os : OsState) : (endF (stepQ (denQ tabQ) R.prog w) 9000 R.prog w os).map (fun s => (ob s).1.2) = some (hfn.map He.DefD.val) := by
  kernel_rfl
theorem run5 (w : World) (os : OsState) : (endF (stepQ (denQ tabQ) R.prog w) 9000 R.prog w os).map (fun s => (ob s).2.1) = some true := by
  kernel_rfl
theorem run6 (w : World) (os : OsState) : (endF (stepQ (denQ tabQ) R.prog w) 9000 R.prog w os).map (fun s => (ob s).2.2) = some (gets.map gtV) := by
  kernel_rfl
theorem join6 {S A1 A2 B1 L1 B2 L2 : Type} {X : Option S} {f1 : S → A1} {f2 : S → A2} {o : S → (B1 × L1) × (B2 × L2)} {v1 : A1} {v2 : A2} {b1 : B1} {l1 : L1} {b2 : B2} {l2 : L2} (h1 : X.map f1 = some v1) (h2 : X.map f2 = some v2) (h3 : X.map (fun s => (o s).1.1) = some b1) (h4 : X.map (fun s => (o s).1.2) = some l1) (h5 : X.map (fun s => (o s).2.1) = some b2) (h6 : X.map (fun s => (o s).2.2) = some l2) : X.map (fun s => (f1 s, f2 s, o s)) = some (v1, v2, ((b1, l1), (b2, l2))) := by
  cases X with
  | none => cases h1
  | some s =>
    have h1 := Option.some.inj h1
    have h2 := Option.some.inj h2
    have h3 := Option.some.inj h3
    have h4 := Option.some.inj h4
    have h5 := Option.some.inj h5
    have h6 := Option.some.inj h6
    show some (f1 s, f2 s, o s) = _
    subst h1 h2 h3 h4 h5 h6
    rfl
theorem run (w : World) : RunEq R qv hookB ob 9000 loose w := fun os => join6 (run1 w os) (run2 w os) (run3 w os) (run4 w os) (run5 w os) (run6 w os)
end Bt
/-! ==== H3 ==== -/
set_option Elab.async false
set_option linter.all false
set_option maxRecDepth 100000
set_option maxHeartbeats 0
/-! The law holds. -/
namespace Bt
open PySem PySem.Spec PyProof.Rows L2
theorem walk {XP : (Str → Option Value) → Heap → Prop} : PySem.W.WalkO qv loose XP hookB.says R.toRowW (HandSHeadRun.topDef R.prog 108) [] (fun f vs => PySem.call f vs) := by
  refine Att.attach_callB (l := PySem.Challenge.rw_bentthrough_k30_whole_nearest_curves) (n := 63) rfl (by kernel_rfl) fun w s₀ s₁ mg mb fa o pm cd doc a vs ns G Y ho hd hcd hmg hobj hints hlen hbits hg => ?_
  obtain ⟨K, KX, c⟩ := Y
  have hmg : mg ("law" : Str) = some (.ref fa) := by
    have e : (HandSHeadRun.topDef R.prog 108).name = ("law" : Str) := by kernel_rfl
    rw [← e]
    exact hmg
  obtain ⟨fd, hb, hF⟩ := law_at (P := PySem.Challenge.rw_bentthrough_k30_whole_nearest_curves.prog) (w := w) (base := s₁.heap) rfl c G.T.b G.T.builtins KX G.T.g hmg
  have mem : ∀ p : Addr × Addr, p ∈ [He.cT K ("_law_right", none)] → p = He.cT K ("_law_right", none) := fun p hp => List.mem_singleton.mp hp
  have tf : (("_law_right", none) : He.Defn) ∈ htf := List.mem_singleton.mpr rfl
  refine LamX.law_callTs (cs := [He.cT K ("_law_right", none)]) (CX := C8.CX0) (k := 50) (x := "_law_script") (sp := spLaw K (He.tabOf K (He.codeOf K ("_law_right", none)))) KX G.T.g G.T.b G.T.builtins G.T.nolimit hg (fun p hp => ?_) (fun p hp => ?_) (fun p hp => ?_) G.T.bmain hobj hints (Nat.le_trans hlen (by decide)) ⟨rfl, by decide, by decide⟩ (fun base KB Gb TB => hF base KB Gb (TB _ (List.mem_singleton.mpr rfl))) hb (fun H hH hS => ⟨ns, .ref a, rfl, ⟨a, rfl, hS⟩, LamX.TabS.nil (hH _ (List.mem_singleton.mpr rfl)), fun _ => rfl⟩) fun _ _ _ z => z.elim
  · rw [mem p hp]
    exact c.empty _ tf
  · rw [mem p hp]
    exact c.out _ tf
  · rw [mem p hp]
    exact PySem.W.codeHd_of_K KX (c.hd _ tf)
end Bt
open PySem PySem.W PySem.Calls PyProof.Rows
theorem PySem.Challenge.cw_bentthrough_k30_whole_nearest_curves_holds : PySem.Challenge.rw_bentthrough_k30_whole_nearest_curves.Holds := by
  w_on; o_law
  refine HandSHeadRun.head_any (r := Bt.R) (q := Bt.qv) (H := Bt.hookB) (ob := Bt.ob) (M := 9000) (loose := Bt.loose) (d := HandSHeadRun.topDef Bt.R.prog 108) (kwd := []) (Bt.obsG_eq _ _ _ _ _)
    (by kernel_rfl) (fun s => by kernel_rfl) Bt.run (by kernel_rfl) (by kernel_rfl) (by kernel_rfl) (by rfl) (by first | assumption | decide +kernel) (by decide +kernel) ⟨rfl, rfl, rfl, rfl, rfl, by decide +kernel⟩ ?hw ?hc
  case hw => w_witness2
  case hc => exact Bt.walk

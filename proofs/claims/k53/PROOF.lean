import PyProof.Rows.All
import Wide.All
import OpenK.AllK
import Wide.FinOn
import HandS.ForMost
import HandS.Wide
import HandS.WideBits
import HandS.SortInts
import HandS.Conv
import HandS.Deep
import HandS.IsInst
import HandS.Style
import HandS.NoneIn
import KE.GoesEnumKw
import KE.KDictZip
import HandS.SortKw
import HandS.Text
import PySem.Challenge.RW_anyplaces_k53_whole_alarms
set_option Elab.async false
set_option linter.all false
set_option maxRecDepth 100000
set_option maxHeartbeats 4000000
/-! K53Math: what the program and the law compute, as plain functions, and the mathematics of it. -/
namespace K53

theorem snoc_ind {α : Type} {M : List α → Prop} (h0 : M []) (h1 : ∀ l a, M l → M (l ++ [a])) : ∀ l, M l := by
  intro l
  have h : ∀ r : List α, M r.reverse := by
    intro r
    induction r with
    | nil => exact h0
    | cons a r ih =>
      rw [List.reverse_cons]
      exact h1 _ _ ih
  have q := h l.reverse
  rw [List.reverse_reverse] at q
  exact q

/-! ### twos -/
def twF : Nat → Int → Nat
  | 0, _ => 0
  | f + 1, n => if n % 2 = 1 then 0 else twF f (n / 2) + 1
def tw (n : Int) : Nat := twF 900 n
theorem twF_spec : ∀ (f : Nat) (n : Int), n ≠ 0 → n.natAbs < 2 ^ f → ∃ q : Int, n = 2 ^ twF f n * q ∧ q % 2 = 1
  | 0, n, h0, hb => by omega
  | f + 1, n, h0, hb => by
    unfold twF
    by_cases h : n % 2 = 1
    · rw [if_pos h]
      exact ⟨n, by omega, h⟩
    · rw [if_neg h]
      have hb2 : n.natAbs < 2 ^ f * 2 := by rw [← Nat.pow_succ]; exact hb
      obtain ⟨q, e, hq⟩ := twF_spec f (n / 2) (by omega) (by omega)
      refine ⟨q, ?_, hq⟩
      rw [Int.pow_succ, Int.mul_assoc, Int.mul_comm 2 q, ← Int.mul_assoc, ← e]
      omega
theorem tw_spec {n : Int} (h0 : n ≠ 0) (hb : n.natAbs < 2 ^ 900) : ∃ q : Int, n = 2 ^ tw n * q ∧ q % 2 = 1 := twF_spec 900 n h0 hb

/-! ### products and sums over a list of places -/
def pr (l : List Int) (x : Int) : Int := l.foldl (fun f a => f * (x - a)) 1
def sT (l : List Int) (x : Int) : Nat := (l.map fun a => tw (x - a)).sum
theorem pr_nil (x : Int) : pr [] x = 1 := rfl
theorem pr_snoc (l : List Int) (a x : Int) : pr (l ++ [a]) x = pr l x * (x - a) := by
  unfold pr
  rw [List.foldl_append]
  rfl
theorem sT_nil (x : Int) : sT [] x = 0 := rfl
theorem sT_snoc (l : List Int) (a x : Int) : sT (l ++ [a]) x = sT l x + tw (x - a) := by
  unfold sT
  rw [List.map_append, List.sum_append]
  simp
/-- the differences have twos -/
def Apart (l : List Int) (x : Int) : Prop := ∀ a ∈ l, x - a ≠ 0 ∧ (x - a).natAbs < 2 ^ 900
theorem odd_mul {a b : Int} (ha : a % 2 = 1) (hb : b % 2 = 1) : (a * b) % 2 = 1 := by
  rw [Int.mul_emod, ha, hb] <;> rfl
theorem pr_spec {x : Int} : ∀ (l : List Int), Apart l x → ∃ q : Int, pr l x = 2 ^ sT l x * q ∧ q % 2 = 1 := by
  refine snoc_ind (fun _ => ⟨1, by rw [pr_nil, sT_nil] <;> rfl, rfl⟩) fun l a ih h => ?_
  · obtain ⟨q, e, hq⟩ := ih fun b hb => h b (List.mem_append_left _ hb)
    obtain ⟨h0, hb⟩ := h a (by simp)
    obtain ⟨r, e2, hr⟩ := tw_spec h0 hb
    refine ⟨q * r, ?_, odd_mul hq hr⟩
    rw [pr_snoc, sT_snoc, e, Int.pow_add]
    conv => lhs; rw [e2]
    grind
theorem pr_zero {x : Int} : ∀ (l : List Int), x ∈ l → pr l x = 0 := by
  refine snoc_ind (fun h => by cases h) fun l a ih h => ?_
  · rw [pr_snoc]
    rcases List.mem_append.mp h with h | h
    · rw [ih h, Int.zero_mul]
    · rw [List.mem_singleton.mp h, Int.sub_self, Int.mul_zero]
end K53

namespace K53

/-! ### the first of the least -/
def amin : List Nat → Nat
  | [] => 0
  | [_] => 0
  | x :: y :: r => if x ≤ (y :: r).getD (amin (y :: r)) 0 then 0 else amin (y :: r) + 1
structure FirstMin (l : List Nat) (j : Nat) : Prop where
  lt : j < l.length
  le : ∀ i, i < l.length → l.getD j 0 ≤ l.getD i 0
  first : ∀ i, i < j → l.getD j 0 < l.getD i 0
theorem amin_spec : ∀ (l : List Nat), l ≠ [] → FirstMin l (amin l)
  | [], h => absurd rfl h
  | [x], _ => ⟨by simp [amin], fun i hi => by
      have : i = 0 := by simp at hi; exact hi
      subst this
      exact Nat.le_refl _, fun i hi => by simp [amin] at hi⟩
  | x :: y :: r, _ => by
    have ih := amin_spec (y :: r) (by simp)
    unfold amin
    by_cases h : x ≤ (y :: r).getD (amin (y :: r)) 0
    · rw [if_pos h]
      refine ⟨by simp, fun i hi => ?_, fun i hi => by omega⟩
      cases i with
      | zero => exact Nat.le_refl _
      | succ i =>
        have q := ih.le i (by simpa using hi)
        show x ≤ (y :: r).getD i 0
        omega
    · rw [if_neg h]
      refine ⟨by have := ih.lt; simp at this ⊢; omega, fun i hi => ?_, fun i hi => ?_⟩
      · cases i with
        | zero =>
          show (y :: r).getD (amin (y :: r)) 0 ≤ x
          omega
        | succ i => exact ih.le i (by simpa using hi)
      · cases i with
        | zero =>
          show (y :: r).getD (amin (y :: r)) 0 < x
          omega
        | succ i => exact ih.first i (by omega)
theorem FirstMin.uniq {l : List Nat} {i j : Nat} (a : FirstMin l i) (b : FirstMin l j) : i = j := by
  rcases Nat.lt_trichotomy i j with h | h | h
  · have h1 := b.first i h
    have h2 := a.le j b.lt
    omega
  · exact h
  · have h1 := a.first j h
    have h2 := b.le i a.lt
    omega
theorem FirstMin.amin {l : List Nat} {j : Nat} (a : FirstMin l j) : j = amin l :=
  a.uniq (amin_spec l (by rintro rfl; exact absurd a.lt (Nat.not_lt_zero _)))

/-! ### good orders -/
def grow : Nat → List Int → List Nat → List Int → List Int × List Nat
  | 0, o, n, _ => (o, n)
  | f + 1, o, n, l => match l with
    | [] => (o, n)
    | _ :: _ => grow f (o ++ [l.getD (amin (l.map (sT o))) 0]) (n ++ [(l.map (sT o)).getD (amin (l.map (sT o))) 0]) (l.eraseIdx (amin (l.map (sT o))))
def good (places : List Int) : List Int × List Nat := grow places.length [] [] places
/-- what is known of a part of a good order: o, n so far, l left -/
structure Part (places o : List Int) (n : List Nat) (l : List Int) : Prop where
  perm : (o ++ l).Perm places
  len : n.length = o.length
  val : ∀ k, k < o.length → n.getD k 0 = sT (o.take k) (o.getD k 0)
  min : ∀ k, k < o.length → ∀ x, x ∈ o.drop k ++ l → n.getD k 0 ≤ sT (o.take k) x
theorem getD_append_left {α : Type} {l r : List α} {d : α} {i : Nat} (h : i < l.length) : (l ++ r).getD i d = l.getD i d := by
  rw [List.getD_eq_getElem?_getD, List.getD_eq_getElem?_getD, List.getElem?_append_left h]
theorem getD_append_len {α : Type} {l : List α} {a d : α} : (l ++ [a]).getD l.length d = a := by
  rw [List.getD_eq_getElem?_getD, List.getElem?_append_right (Nat.le_refl _), Nat.sub_self] <;> rfl
theorem getD_lt {α : Type} {l : List α} {d : α} {i : Nat} (h : i < l.length) : l[i]? = some (l.getD i d) := by
  rw [List.getD_eq_getElem?_getD, List.getElem?_eq_getElem h] <;> rfl
theorem getD_mem {α : Type} {l : List α} {d : α} {i : Nat} (h : i < l.length) : l.getD i d ∈ l := List.mem_of_getElem? (getD_lt h)
theorem getD_map {α β : Type} {l : List α} {f : α → β} {d : α} {e : β} {i : Nat} (h : i < l.length) : (l.map f).getD i e = f (l.getD i d) := by
  rw [List.getD_eq_getElem?_getD, List.getElem?_map, getD_lt (d := d) h] <;> rfl
theorem perm_erase {l : List Int} : ∀ {j : Nat}, j < l.length → (l.getD j 0 :: l.eraseIdx j).Perm l := by
  induction l with
  | nil => intro j h; exact absurd h (Nat.not_lt_zero _)
  | cons a r ih =>
    intro j h
    cases j with
    | zero => exact List.Perm.refl _
    | succ j =>
      have q := ih (j := j) (by simpa using h)
      show (r.getD j 0 :: a :: r.eraseIdx j).Perm (a :: r)
      exact (List.Perm.swap _ _ _).trans (q.cons a)
theorem Part.step {places o l : List Int} {n : List Nat} (p : Part places o n l) {j : Nat} (m : FirstMin (l.map (sT o)) j) :
    Part places (o ++ [l.getD j 0]) (n ++ [(l.map (sT o)).getD j 0]) (l.eraseIdx j) := by
  have hj : j < l.length := by have := m.lt; rwa [List.length_map] at this
  have hv : (l.map (sT o)).getD j 0 = sT o (l.getD j 0) := getD_map hj
  refine ⟨?_, by simp [p.len], fun k hk => ?_, fun k hk x hx => ?_⟩
  · rw [List.append_assoc]
    exact ((perm_erase hj).append_left o).trans p.perm
  · by_cases h : k < o.length
    · rw [getD_append_left h, getD_append_left (by rw [p.len]; exact h), List.take_append_of_le_length (Nat.le_of_lt h)]
      exact p.val k h
    · have e : k = o.length := by simp at hk; omega
      subst e
      rw [getD_append_len, ← p.len, getD_append_len, hv, p.len, List.take_append_of_le_length (Nat.le_refl _), List.take_length]
  · by_cases h : k < o.length
    · rw [getD_append_left (by rw [p.len]; exact h), List.take_append_of_le_length (Nat.le_of_lt h)]
      refine p.min k h x ?_
      rw [List.drop_append_of_le_length (Nat.le_of_lt h), List.append_assoc] at hx
      rcases List.mem_append.mp hx with hx | hx
      · exact List.mem_append_left _ hx
      · exact List.mem_append_right _ ((perm_erase hj).subset hx)
    · have e : k = o.length := by simp at hk; omega
      subst e
      have hx2 : x ∈ l := by
        rw [List.drop_append_of_le_length (Nat.le_refl _), List.drop_length, List.nil_append] at hx
        exact (perm_erase hj).subset hx
      rw [← p.len, getD_append_len, p.len, List.take_append_of_le_length (Nat.le_refl _), List.take_length]
      obtain ⟨i, hi, e⟩ := List.getElem_of_mem hx2
      have q := m.le i (by rw [List.length_map]; exact hi)
      rw [getD_map (d := (0 : Int)) hi] at q
      have e3 : l.getD i 0 = x := by rw [List.getD_eq_getElem?_getD, List.getElem?_eq_getElem hi, e] <;> rfl
      rw [e3] at q
      exact q
theorem grow_part {places : List Int} : ∀ (f : Nat) (o : List Int) (n : List Nat) (l : List Int), Part places o n l → f = l.length → Part places (grow f o n l).1 (grow f o n l).2 []
  | 0, o, n, l, p, h => by
    have e : l = [] := List.length_eq_zero_iff.mp h.symm
    subst e
    exact p
  | f + 1, o, n, [], p, h => by cases h
  | f + 1, o, n, a :: r, p, h => by
    have m := amin_spec ((a :: r).map (sT o)) (by simp)
    have hj : amin ((a :: r).map (sT o)) < (a :: r).length := by have := m.lt; rwa [List.length_map] at this
    show Part places (grow f _ _ _).1 (grow f _ _ _).2 []
    exact grow_part f _ _ _ (p.step m) (by rw [List.length_eraseIdx_of_lt hj]; simp at h ⊢; omega)
theorem good_part (places : List Int) : Part places (good places).1 (good places).2 [] :=
  grow_part _ _ _ _ ⟨List.Perm.refl _, rfl, fun k h => absurd h (Nat.not_lt_zero _), fun k h => absurd h (Nat.not_lt_zero _)⟩ rfl

/-- a good order of places that lie apart -/
structure Good (places o : List Int) (n : List Nat) : Prop where
  perm : o.Perm places
  nodup : o.Nodup
  len : n.length = o.length
  val : ∀ k, k < o.length → n.getD k 0 = sT (o.take k) (o.getD k 0)
  min : ∀ k j, k ≤ j → j < o.length → n.getD k 0 ≤ sT (o.take k) (o.getD j 0)
  apart : ∀ k j, k ≤ j → j < o.length → Apart (o.take k) (o.getD j 0)
theorem good_good {places : List Int} (nd : places.Nodup) (hb : ∀ x ∈ places, ∀ y ∈ places, (x - y).natAbs < 2 ^ 900) : Good places (good places).1 (good places).2 := by
  have p := good_part places
  generalize (good places).1 = o at *
  generalize (good places).2 = n at *
  have pe : o.Perm places := by have := p.perm; rwa [List.append_nil] at this
  have ndo : o.Nodup := pe.nodup_iff.mpr nd
  refine ⟨pe, ndo, p.len, p.val, fun k j hk hj => ?_, fun k j hk hj a ha => ?_⟩
  · refine p.min k (by omega) _ ?_
    rw [List.append_nil]
    have e : (o.drop k).getD (j - k) 0 = o.getD j 0 := by
      rw [List.getD_eq_getElem?_getD, List.getD_eq_getElem?_getD, List.getElem?_drop, Nat.add_sub_cancel' hk]
    rw [← e]
    exact getD_mem (by rw [List.length_drop]; omega)
  · obtain ⟨i, hi, e⟩ := List.getElem_of_mem ha
    have hik : i < k := by rw [List.length_take] at hi; omega
    have hio : i < o.length := by omega
    rw [List.getElem_take] at e
    have ej : o.getD j 0 = o[j] := by rw [List.getD_eq_getElem?_getD, List.getElem?_eq_getElem hj] <;> rfl
    refine ⟨fun h => ?_, hb _ (pe.subset (getD_mem hj)) _ (pe.subset (by rw [← e]; exact List.getElem_mem _))⟩
    have e2 : o[j] = o[i] := by rw [e]; rw [ej] at h; omega
    have := (List.getElem_inj ndo).mp e2
    omega
theorem Good.mono {places o : List Int} {n : List Nat} (g : Good places o n) {k : Nat} (h : k + 1 < o.length) : n.getD k 0 ≤ n.getD (k + 1) 0 := by
  have h1 := g.min k (k + 1) (by omega) h
  rw [g.val (k + 1) h]
  have e : o.take (k + 1) = o.take k ++ [o.getD k 0] := by
    rw [List.take_add_one, getD_lt (d := (0 : Int)) (show k < o.length by omega)] <;> rfl
  rw [e, sT_snoc]
  omega
theorem Good.mono' {places o : List Int} {n : List Nat} (g : Good places o n) {k : Nat} : ∀ {j : Nat}, k ≤ j → j < o.length → n.getD k 0 ≤ n.getD j 0 := by
  intro j
  induction j with
  | zero => intro h _; rw [Nat.le_zero.mp h]; exact Nat.le_refl _
  | succ j ih =>
    intro h hj
    by_cases e : k = j + 1
    · rw [e]; exact Nat.le_refl _
    · exact Nat.le_trans (ih (by omega) (by omega)) (g.mono hj)
/-- at the places behind k the product of k has the twos of k at least -/
theorem Good.dvd {places o : List Int} {n : List Nat} (g : Good places o n) {k j : Nat} (hk : k < o.length) (hj : j < o.length) : ∃ q : Int, pr (o.take k) (o.getD j 0) = 2 ^ n.getD k 0 * q := by
  by_cases h : k ≤ j
  · obtain ⟨q, e, _⟩ := pr_spec _ (g.apart k j h hj)
    have h1 := g.min k j h hj
    refine ⟨2 ^ (sT (o.take k) (o.getD j 0) - n.getD k 0) * q, ?_⟩
    rw [e, ← Int.mul_assoc, ← Int.pow_add, Nat.add_sub_cancel' h1]
  · refine ⟨0, ?_⟩
    rw [Int.mul_zero]
    refine pr_zero _ ?_
    have e : (o.take k).getD j 0 = o.getD j 0 := by
      rw [List.getD_eq_getElem?_getD, List.getD_eq_getElem?_getD, List.getElem?_take_of_lt (by omega)]
    rw [← e]
    exact getD_mem (by rw [List.length_take]; omega)
theorem Good.zero {places o : List Int} {n : List Nat} (_g : Good places o n) {k j : Nat} (h : j < k) (hj : j < o.length) : pr (o.take k) (o.getD j 0) = 0 := by
  refine pr_zero _ ?_
  have e : (o.take k).getD j 0 = o.getD j 0 := by
    rw [List.getD_eq_getElem?_getD, List.getD_eq_getElem?_getD, List.getElem?_take_of_lt (by omega)]
  rw [← e]
  exact getD_mem (by rw [List.length_take]; omega)
theorem Good.diag {places o : List Int} {n : List Nat} (g : Good places o n) {k : Nat} (hk : k < o.length) : ∃ q : Int, pr (o.take k) (o.getD k 0) = 2 ^ n.getD k 0 * q ∧ q % 2 = 1 := by
  obtain ⟨q, e, hq⟩ := pr_spec _ (g.apart k k (Nat.le_refl _) hk)
  exact ⟨q, by rw [e, g.val k hk], hq⟩
end K53

namespace K53

/-! ### sums -/
def sm : Nat → (Nat → Int) → Int
  | 0, _ => 0
  | n + 1, f => sm n f + f n
theorem sm_congr {f g : Nat → Int} : ∀ {n : Nat}, (∀ k, k < n → f k = g k) → sm n f = sm n g
  | 0, _ => rfl
  | n + 1, h => by
    show sm n f + f n = sm n g + g n
    rw [sm_congr fun k hk => h k (by omega), h n (by omega)]
theorem sm_add {f g : Nat → Int} : ∀ {n : Nat}, sm n (fun k => f k + g k) = sm n f + sm n g
  | 0 => rfl
  | n + 1 => by
    show sm n (fun k => f k + g k) + (f n + g n) = (sm n f + f n) + (sm n g + g n)
    rw [sm_add (n := n)]
    omega
theorem sm_sub {f g : Nat → Int} : ∀ {n : Nat}, sm n (fun k => f k - g k) = sm n f - sm n g
  | 0 => rfl
  | n + 1 => by
    show sm n (fun k => f k - g k) + (f n - g n) = (sm n f + f n) - (sm n g + g n)
    rw [sm_sub (n := n)]
    omega
theorem sm_mul {f : Nat → Int} {c : Int} : ∀ {n : Nat}, sm n (fun k => c * f k) = c * sm n f
  | 0 => by show (0 : Int) = c * 0; rw [Int.mul_zero]
  | n + 1 => by
    show sm n (fun k => c * f k) + c * f n = c * (sm n f + f n)
    rw [sm_mul (n := n), Int.mul_add]
theorem sm_zero {f : Nat → Int} : ∀ {n : Nat}, (∀ k, k < n → f k = 0) → sm n f = 0
  | 0, _ => rfl
  | n + 1, h => by
    show sm n f + f n = 0
    rw [sm_zero fun k hk => h k (by omega), h n (by omega)] <;> rfl
theorem sm_dvd {f : Nat → Int} {N : Int} : ∀ {n : Nat}, (∀ k, k < n → N ∣ f k) → N ∣ sm n f
  | 0, _ => Int.dvd_zero N
  | n + 1, h => Int.dvd_add (sm_dvd fun k hk => h k (by omega)) (h n (by omega))
theorem sm_swap {f : Nat → Nat → Int} {m : Nat} : ∀ {n : Nat}, sm n (fun j => sm m (fun k => f j k)) = sm m (fun k => sm n (fun j => f j k))
  | 0 => by
    show (0 : Int) = sm m (fun _ => 0)
    rw [sm_zero fun _ _ => rfl]
  | n + 1 => by
    show sm n (fun j => sm m (fun k => f j k)) + sm m (fun k => f n k) = sm m (fun k => sm n (fun j => f j k) + f n k)
    rw [sm_add, sm_swap (n := n)]
theorem sm_split {f : Nat → Int} {a : Nat} : ∀ {b : Nat}, sm (a + b) f = sm a f + sm b (fun i => f (a + i))
  | 0 => by show sm a f = sm a f + 0; omega
  | b + 1 => by
    show sm (a + b) f + f (a + b) = sm a f + (sm b (fun i => f (a + i)) + f (a + b))
    rw [sm_split (b := b)]
    omega
theorem sm_single {f : Nat → Int} {i : Nat} : ∀ {n : Nat}, i < n → (∀ k, k < n → k ≠ i → f k = 0) → sm n f = f i
  | 0, h, _ => absurd h (Nat.not_lt_zero _)
  | n + 1, h, h0 => by
    show sm n f + f n = f i
    by_cases e : i = n
    · subst e
      rw [sm_zero fun k hk => h0 k (by omega) (by omega)]
      omega
    · rw [sm_single (by omega) fun k hk => h0 k (by omega), h0 n (by omega) (by omega)]
      omega
theorem sm_left {f : Nat → Int} {b : Nat} : sm (b + 1) f = f 0 + sm b (fun i => f (i + 1)) := by
  have h : sm (1 + b) f = sm 1 f + sm b (fun i => f (1 + i)) := sm_split
  rw [Nat.add_comm 1 b] at h
  rw [h]
  show 0 + f 0 + _ = _
  rw [Int.zero_add]
  congr 1
  exact sm_congr fun k _ => by rw [Nat.add_comm]

/-! ### the undoing of an odd number -/
def inv7 (n by_ : Int) : Int := (List.range 7).foldl (fun f _ => f * (2 - n * f) % by_) 1
theorem two_pow_pos (k : Nat) : (0 : Int) < 2 ^ k := Int.pow_pos (by decide)
theorem inv_step {n f M N B : Int} (hM : M ∣ 1 - n * f) (hN : N ∣ M * M) (hB : N ∣ B) : N ∣ 1 - n * (f * (2 - n * f) % B) := by
  obtain ⟨q, e⟩ := hM
  obtain ⟨r, e2⟩ := hN
  obtain ⟨b, e4⟩ := hB
  have e3 : f * (2 - n * f) = B * (f * (2 - n * f) / B) + f * (2 - n * f) % B := (Int.mul_ediv_add_emod _ _).symm
  refine ⟨r * q * q + n * (b * (f * (2 - n * f) / B)), ?_⟩
  grind
theorem pow_dvd {a b : Nat} (h : a ≤ b) : (2 : Int) ^ a ∣ 2 ^ b := ⟨2 ^ (b - a), by rw [← Int.pow_add, Nat.add_sub_cancel' h]⟩
theorem inv_turn {n f : Int} {e k : Nat} (hf : (2 : Int) ^ min k e ∣ 1 - n * f) : (2 : Int) ^ min (k + k) e ∣ 1 - n * (f * (2 - n * f) % 2 ^ e) :=
  inv_step hf (by rw [← Int.pow_add]; exact pow_dvd (by omega)) (pow_dvd (Nat.min_le_right _ _))
theorem inv7_dvd {n : Int} (h : n % 2 = 1) {e : Nat} (he : e ≤ 64) : (2 : Int) ^ e ∣ 1 - n * inv7 n (2 ^ e) := by
  have h1 : (2 : Int) ^ min 1 e ∣ 1 - n * 1 := by
    have h2 : (2 : Int) ^ 1 ∣ 1 - n * 1 := ⟨(1 - n) / 2, by omega⟩
    exact Int.dvd_trans (pow_dvd (Nat.min_le_left _ _)) h2
  have h64 := inv_turn (inv_turn (inv_turn (inv_turn (inv_turn (inv_turn (inv_turn h1))))))
  rw [Nat.min_eq_right (by omega)] at h64
  exact h64

/-! ### the triangle -/
def P (o : List Int) (k : Nat) (x : Int) : Int := pr (o.take k) x
def stp (w c : Nat) (n : List Nat) (k : Nat) : Int := if k < c ∧ n.getD k 0 < w then 2 ^ (w - n.getD k 0) else 1
def cnt (w c : Nat) (n : List Nat) : Nat := ((n.take c).filter fun x => decide (x < w)).length
/-- the product that a row's factor at `at_` makes good -/
def due (w c : Nat) (o : List Int) (n : List Nat) (last m : Nat) (fs : List Int) (at_ : Nat) : Int :=
  stp w c n last * P o at_ (o.getD last 0) + sm (m - (at_ + 1)) fun i => fs.getD (at_ + 1 + i) 0 * P o at_ (o.getD (at_ + 1 + i) 0)
def coef (w c : Nat) (o : List Int) (n : List Nat) (last m : Nat) (fs : List Int) (at_ : Nat) : Int :=
  -(due w c o n last m fs at_ % 2 ^ w / 2 ^ n.getD at_ 0) * inv7 (P o at_ (o.getD at_ 0) / 2 ^ n.getD at_ 0) (stp w c n at_) % stp w c n at_
def rowL (w c : Nat) (o : List Int) (n : List Nat) (last m : Nat) : Nat → List Int → List Int
  | 0, fs => fs
  | at_ + 1, fs => rowL w c o n last m at_ (fs.set at_ (coef w c o n last m fs at_))
def row0 (w c : Nat) (o : List Int) (n : List Nat) (last : Nat) : List Int := (List.replicate o.length 0).set last (stp w c n last % 2 ^ w)
def row (w c : Nat) (o : List Int) (n : List Nat) (last : Nat) : List Int :=
  rowL w c o n last (min last (cnt w c n)) (min last (cnt w c n)) (row0 w c o n last)
def tri (w c : Nat) (o : List Int) (n : List Nat) : List (List Int) := (List.range o.length).map (row w c o n)

theorem filter_sorted {w : Nat} : ∀ {l : List Nat}, (∀ i j, i ≤ j → j < l.length → l.getD i 0 ≤ l.getD j 0) → ∀ k, k < (l.filter fun x => decide (x < w)).length ↔ k < l.length ∧ l.getD k 0 < w
  | [], _, k => by simp
  | x :: r, h, k => by
    have hr : ∀ i j, i ≤ j → j < r.length → r.getD i 0 ≤ r.getD j 0 := fun i j hij hj => h (i + 1) (j + 1) (by omega) (by simp; omega)
    by_cases hx : x < w
    · rw [List.filter_cons_of_pos (by simpa using hx)]
      cases k with
      | zero =>
        show 0 < _ + 1 ↔ 0 < r.length + 1 ∧ x < w
        omega
      | succ k =>
        have ih := filter_sorted (w := w) hr k
        show k + 1 < _ + 1 ↔ k + 1 < r.length + 1 ∧ r.getD k 0 < w
        omega
    · rw [List.filter_cons_of_neg (by simpa using hx)]
      have hall : (r.filter fun x => decide (x < w)) = [] := by
        rw [List.filter_eq_nil_iff]
        intro y hy
        obtain ⟨i, hi, e⟩ := List.getElem_of_mem hy
        have q := h 0 (i + 1) (by omega) (by simp; omega)
        have e2 : (x :: r).getD (i + 1) 0 = y := by
          show r.getD i 0 = y
          rw [List.getD_eq_getElem?_getD, List.getElem?_eq_getElem hi, e] <;> rfl
        rw [e2] at q
        have q2 : x ≤ y := q
        simp
        omega
      rw [hall]
      constructor
      · intro z
        exact absurd z (Nat.not_lt_zero _)
      · rintro ⟨h1, h2⟩
        have q := h 0 k (Nat.zero_le _) h1
        have q2 : x ≤ (x :: r).getD k 0 := q
        omega
theorem getD_take {α : Type} {l : List α} {d : α} {k c : Nat} (h : k < c) : (l.take c).getD k d = l.getD k d := by
  rw [List.getD_eq_getElem?_getD, List.getD_eq_getElem?_getD, List.getElem?_take_of_lt h]
theorem lt_cnt {places o : List Int} {n : List Nat} (g : Good places o n) {w c k : Nat} : k < cnt w c n ↔ k < o.length ∧ k < c ∧ n.getD k 0 < w := by
  unfold cnt
  rw [filter_sorted (fun i j hij hj => by
    rw [List.length_take] at hj
    rw [getD_take (by omega), getD_take (by omega)]
    exact g.mono' hij (by rw [← g.len]; omega))]
  rw [List.length_take, g.len]
  constructor
  · rintro ⟨h1, h2⟩
    rw [getD_take (by omega)] at h2
    omega
  · rintro ⟨h1, h2, h3⟩
    rw [getD_take (by omega)]
    omega
theorem cnt_le {places o : List Int} {n : List Nat} (g : Good places o n) {w c : Nat} : cnt w c n ≤ o.length := by
  cases h : cnt w c n with
  | zero => exact Nat.zero_le _
  | succ k =>
    have := (lt_cnt g (w := w) (c := c) (k := k)).mp (by omega)
    omega
theorem getD_set_ne {l : List Int} {i j : Nat} {x : Int} (h : i ≠ j) : (l.set i x).getD j 0 = l.getD j 0 := by
  rw [List.getD_eq_getElem?_getD, List.getD_eq_getElem?_getD, List.getElem?_set_ne h]
theorem getD_set_self {l : List Int} {i : Nat} {x : Int} (h : i < l.length) : (l.set i x).getD i 0 = x := by
  rw [List.getD_eq_getElem?_getD, List.getElem?_set_self h] <;> rfl
theorem rowL_len {w c : Nat} {o : List Int} {n : List Nat} {last m : Nat} : ∀ (t : Nat) (fs : List Int), (rowL w c o n last m t fs).length = fs.length
  | 0, _ => rfl
  | t + 1, fs => by
    show (rowL w c o n last m t _).length = _
    rw [rowL_len t, List.length_set]
theorem rowL_keep {w c : Nat} {o : List Int} {n : List Nat} {last m : Nat} : ∀ (t : Nat) (fs : List Int) (j : Nat), t ≤ j → (rowL w c o n last m t fs).getD j 0 = fs.getD j 0
  | 0, _, _, _ => rfl
  | t + 1, fs, j, h => by
    show (rowL w c o n last m t _).getD j 0 = _
    rw [rowL_keep t _ j (by omega), getD_set_ne (by omega)]
/-- the factor makes the sum nought -/
theorem coef_good {places o : List Int} {n : List Nat} (g : Good places o n) {w c last m t : Nat} (hw : w ≤ 64) (hlast : last < o.length) (ht : t < cnt w c n) (hm : m ≤ o.length) (fs : List Int) :
    (2 : Int) ^ w ∣ due w c o n last m fs t + coef w c o n last m fs t * P o t (o.getD t 0) := by
  obtain ⟨h1, h2, h3⟩ := (lt_cnt g).mp ht
  obtain ⟨r, er, hr⟩ := g.diag h1
  have es : stp w c n t = 2 ^ (w - n.getD t 0) := if_pos ⟨h2, h3⟩
  have eN : (2 : Int) ^ w = 2 ^ n.getD t 0 * 2 ^ (w - n.getD t 0) := by rw [← Int.pow_add, Nat.add_sub_cancel' (Nat.le_of_lt h3)]
  have hd : (2 : Int) ^ n.getD t 0 ∣ due w c o n last m fs t := by
    refine Int.dvd_add ?_ (sm_dvd fun i hi => ?_)
    · obtain ⟨q, e⟩ := g.dvd (k := t) (j := last) h1 hlast
      exact ⟨stp w c n last * q, by show stp w c n last * pr (o.take t) (o.getD last 0) = _; rw [e]; grind⟩
    · obtain ⟨q, e⟩ := g.dvd (k := t) (j := t + 1 + i) h1 (by omega)
      exact ⟨fs.getD (t + 1 + i) 0 * q, by show fs.getD (t + 1 + i) 0 * pr (o.take t) (o.getD (t + 1 + i) 0) = _; rw [e]; grind⟩
  obtain ⟨q, eq⟩ := hd
  have p2 : (0 : Int) < 2 ^ n.getD t 0 := two_pow_pos _
  have e1 : due w c o n last m fs t % 2 ^ w / 2 ^ n.getD t 0 = q % 2 ^ (w - n.getD t 0) := by
    rw [eq, eN, Int.mul_emod_mul_of_pos _ _ p2, Int.mul_ediv_cancel_left _ (Int.ne_of_gt p2)]
  have e2 : P o t (o.getD t 0) / 2 ^ n.getD t 0 = r := by
    show pr (o.take t) (o.getD t 0) / _ = r
    rw [er, Int.mul_ediv_cancel_left _ (Int.ne_of_gt p2)]
  have hinv := inv7_dvd hr (show w - n.getD t 0 ≤ 64 by omega)
  unfold coef
  rw [e1, e2, es]
  show _ ∣ _ + _ * pr (o.take t) (o.getD t 0)
  rw [er, eq]
  generalize inv7 r (2 ^ (w - n.getD t 0)) = v at *
  generalize (2 : Int) ^ (w - n.getD t 0) = S at *
  generalize (2 : Int) ^ n.getD t 0 = T at *
  rw [eN]
  obtain ⟨i, ei⟩ := hinv
  have m1 := Int.mul_ediv_add_emod q S
  have m2 := Int.mul_ediv_add_emod (-(q % S) * v) S
  generalize q % S = q1 at *
  generalize q / S = q2 at *
  generalize (-q1 * v) % S = z1 at *
  generalize (-q1 * v) / S = z2 at *
  refine ⟨q2 - z2 * r + q1 * i, ?_⟩
  grind
theorem rowL_good {places o : List Int} {n : List Nat} (g : Good places o n) {w c last m : Nat} (hw : w ≤ 64) (hlast : last < o.length) (hm : m ≤ cnt w c n) : ∀ (t : Nat) (fs : List Int), t ≤ m → fs.length = o.length → ∀ k, k < t →
    (2 : Int) ^ w ∣ stp w c n last * P o k (o.getD last 0) + sm (m - k) fun i => (rowL w c o n last m t fs).getD (k + i) 0 * P o k (o.getD (k + i) 0)
  | 0, _, _, _, k, hk => absurd hk (Nat.not_lt_zero _)
  | t + 1, fs, ht, hl, k, hk => by
    have hco : cnt w c n ≤ o.length := cnt_le g
    have e : rowL w c o n last m (t + 1) fs = rowL w c o n last m t (fs.set t (coef w c o n last m fs t)) := rfl
    rw [e]
    by_cases h : k < t
    · exact rowL_good g hw hlast hm t _ (by omega) (by rw [List.length_set]; exact hl) k h
    · have ek : k = t := by omega
      subst ek
      have cg := coef_good g (c := c) (m := m) hw hlast (show k < cnt w c n by omega) (by omega) fs
      have es : m - k = (m - (k + 1)) + 1 := by omega
      rw [es, sm_left]
      have e0 : (rowL w c o n last m k (fs.set k (coef w c o n last m fs k))).getD (k + 0) 0 = coef w c o n last m fs k := by
        rw [Nat.add_zero, rowL_keep k _ k (Nat.le_refl _), getD_set_self (by omega)]
      have e1 : (sm (m - (k + 1)) fun i => (rowL w c o n last m k (fs.set k (coef w c o n last m fs k))).getD (k + (i + 1)) 0 * P o k (o.getD (k + (i + 1)) 0)) =
          sm (m - (k + 1)) fun i => fs.getD (k + 1 + i) 0 * P o k (o.getD (k + 1 + i) 0) := sm_congr fun i _ => by
        rw [rowL_keep k _ _ (by omega), getD_set_ne (by omega), show k + (i + 1) = k + 1 + i by omega]
      rw [e0, e1, Nat.add_zero]
      unfold due at cg
      have e3 : ∀ a b c' : Int, a + (c' + b) = a + b + c' := fun a b c' => by omega
      rw [e3]
      exact cg
end K53

namespace K53

/-! ### the rows of the triangle -/
section
variable {places o : List Int} {n : List Nat} {w c last : Nat}
theorem row0_len : (row0 w c o n last).length = o.length := by
  unfold row0
  rw [List.length_set, List.length_replicate]
theorem row_len : (row w c o n last).length = o.length := by
  unfold row
  rw [rowL_len, row0_len]
theorem getD_replicate (a j : Nat) : (List.replicate a (0 : Int)).getD j 0 = 0 := by
  rw [List.getD_eq_getElem?_getD, List.getElem?_replicate]
  split <;> rfl
theorem row_out {j : Nat} (h : min last (cnt w c n) ≤ j) (hj : j ≠ last) : (row w c o n last).getD j 0 = 0 := by
  unfold row
  rw [rowL_keep _ _ _ h]
  unfold row0
  rw [getD_set_ne (Ne.symm hj), getD_replicate]
theorem row_at (hl : last < o.length) : (row w c o n last).getD last 0 = stp w c n last % 2 ^ w := by
  unfold row
  rw [rowL_keep _ _ _ (Nat.min_le_left _ _)]
  unfold row0
  rw [getD_set_self (by rw [List.length_replicate]; exact hl)]
theorem mod_dvd (a N : Int) : N ∣ a - a % N := ⟨a / N, by have := Int.mul_ediv_add_emod a N; omega⟩
/-- the checks of the triangle are checks: of every product of an item, and of every product below the count -/
theorem annih (g : Good places o n) (hw : w ≤ 64) (hl : last < o.length) {k : Nat} (hk : k < c) :
    (2 : Int) ^ w ∣ sm o.length fun j => (row w c o n last).getD j 0 * P o k (o.getD j 0) := by
  by_cases hko : k < o.length
  · by_cases hn : n.getD k 0 < w
    · have hkK : k < cnt w c n := (lt_cnt g).mpr ⟨hko, hk, hn⟩
      have hcl : cnt w c n ≤ o.length := cnt_le g
      rcases Nat.lt_trichotomy k last with h | h | h
      · have hkm : k < min last (cnt w c n) := by omega
        have good := rowL_good g (c := c) (m := min last (cnt w c n)) hw hl (Nat.min_le_right _ _) (min last (cnt w c n)) (row0 w c o n last) (Nat.le_refl _) row0_len k hkm
        have e : o.length = k + ((min last (cnt w c n) - k) + (o.length - min last (cnt w c n))) := by omega
        have s0 : (sm k fun j => (row w c o n last).getD j 0 * P o k (o.getD j 0)) = 0 := sm_zero fun j hj => by
          show _ * pr (o.take k) (o.getD j 0) = 0
          rw [g.zero hj (by omega), Int.mul_zero]
        have s2 : (sm (o.length - min last (cnt w c n)) fun i => (row w c o n last).getD (k + (min last (cnt w c n) - k + i)) 0 * P o k (o.getD (k + (min last (cnt w c n) - k + i)) 0)) = stp w c n last % 2 ^ w * P o k (o.getD last 0) := by
          rw [sm_single (i := last - min last (cnt w c n)) (by omega) fun i hi hne => ?_]
          · rw [show k + (min last (cnt w c n) - k + (last - min last (cnt w c n))) = last by omega, row_at hl]
          · rw [row_out (by omega) (by omega), Int.zero_mul]
        rw [e, sm_split, s0, sm_split, s2]
        have md := mod_dvd (stp w c n last) (2 ^ w)
        have g2 : (2 : Int) ^ w ∣ stp w c n last * P o k (o.getD last 0) + sm (min last (cnt w c n) - k) fun i => (row w c o n last).getD (k + i) 0 * P o k (o.getD (k + i) 0) := good
        obtain ⟨a, ea⟩ := md
        obtain ⟨b, eb⟩ := g2
        generalize (sm (min last (cnt w c n) - k) fun i => (row w c o n last).getD (k + i) 0 * P o k (o.getD (k + i) 0)) = S at *
        generalize stp w c n last % 2 ^ w = s1 at *
        refine ⟨b - a * P o k (o.getD last 0), ?_⟩
        grind
      · subst h
        rw [sm_single hl fun j hj hne => ?_]
        · rw [row_at hl]
          obtain ⟨r, er, _⟩ := g.diag hl
          have es : stp w c n k = 2 ^ (w - n.getD k 0) := if_pos ⟨hk, hn⟩
          have eN : (2 : Int) ^ w = 2 ^ n.getD k 0 * 2 ^ (w - n.getD k 0) := by rw [← Int.pow_add, Nat.add_sub_cancel' (Nat.le_of_lt hn)]
          have md := mod_dvd (stp w c n k) (2 ^ w)
          obtain ⟨a, ea⟩ := md
          show _ ∣ _ * pr (o.take k) (o.getD k 0)
          rw [er]
          generalize stp w c n k % 2 ^ w = s1 at *
          refine ⟨r - a * (2 ^ n.getD k 0 * r), ?_⟩
          rw [es] at ea
          grind
        · by_cases h2 : j < k
          · show _ * pr (o.take k) (o.getD j 0) = 0
            rw [g.zero h2 hj, Int.mul_zero]
          · rw [row_out (by omega) hne, Int.zero_mul]
      · rw [sm_zero fun j hj => ?_]
        · exact Int.dvd_zero _
        · by_cases h2 : j ≤ last
          · show _ * pr (o.take k) (o.getD j 0) = 0
            rw [g.zero (by omega) hj, Int.mul_zero]
          · rw [row_out (by omega) (by omega), Int.zero_mul]
    · refine sm_dvd fun j hj => ?_
      obtain ⟨q, e⟩ := g.dvd hko hj
      show _ ∣ _ * pr (o.take k) (o.getD j 0)
      rw [e]
      have eN : (2 : Int) ^ n.getD k 0 = 2 ^ w * 2 ^ (n.getD k 0 - w) := by rw [← Int.pow_add, Nat.add_sub_cancel' (by omega)]
      rw [eN]
      exact ⟨(row w c o n last).getD j 0 * (2 ^ (n.getD k 0 - w) * q), by grind⟩
  · rw [sm_zero fun j hj => ?_]
    · exact Int.dvd_zero _
    · show _ * pr (o.take k) (o.getD j 0) = 0
      rw [pr_zero _ (by rw [List.take_of_length_le (by omega)]; exact getD_mem hj), Int.mul_zero]

/-! ### alarms -/
/-- the sum of words (by the place's number in the order) with the factors of check k -/
def al (w c : Nat) (o : List Int) (n : List Nat) (k : Nat) (W : Nat → Int) : Int := sm o.length fun j => W j * (row w c o n k).getD j 0
def Cd (o : List Int) (K : Nat) (d : Nat → Int) (x : Int) : Int := sm K fun k => d k * P o k x
theorem al_sub {k : Nat} {W V : Nat → Int} : al w c o n k (fun j => W j - V j) = al w c o n k W - al w c o n k V := by
  unfold al
  rw [← sm_sub]
  exact sm_congr fun j _ => Int.sub_mul _ _ _
theorem al_code (g : Good places o n) (hw : w ≤ 64) {k K : Nat} (hk : k < o.length) (hK : K ≤ c) (d : Nat → Int) : (2 : Int) ^ w ∣ al w c o n k fun j => Cd o K d (o.getD j 0) := by
  unfold al Cd
  have e : (sm o.length fun j => (sm K fun k => d k * P o k (o.getD j 0)) * (row w c o n k).getD j 0) = sm K fun i => d i * sm o.length fun j => (row w c o n k).getD j 0 * P o i (o.getD j 0) := by
    have e1 : (sm o.length fun j => (sm K fun k => d k * P o k (o.getD j 0)) * (row w c o n k).getD j 0) = sm o.length fun j => sm K fun i => d i * ((row w c o n k).getD j 0 * P o i (o.getD j 0)) := sm_congr fun j _ => by
      rw [Int.mul_comm, ← sm_mul]
      exact sm_congr fun i _ => by grind
    rw [e1, sm_swap]
    exact sm_congr fun i _ => sm_mul
  rw [e]
  exact sm_dvd fun i hi => Int.dvd_mul_of_dvd_right (annih g hw hk (by omega))
/-- words that agree by the modulus at the places up to k have the same alarm k -/
theorem al_agree {k : Nat} {W V : Nat → Int} (h : ∀ j, j ≤ k → j < o.length → (2 : Int) ^ w ∣ W j - V j) : (2 : Int) ^ w ∣ al w c o n k W - al w c o n k V := by
  rw [← al_sub]
  refine sm_dvd fun j hj => ?_
  by_cases hjk : j ≤ k
  · exact Int.dvd_mul_of_dvd_left (h j hjk hj)
  · rw [row_out (by omega) (by omega), Int.mul_zero]
    exact Int.dvd_zero _
theorem Cd_put {K m : Nat} (h : m < K) {d : Nat → Int} {t x : Int} : Cd o K (fun k => if k = m then d k + t else d k) x = Cd o K d x + t * P o m x := by
  unfold Cd
  have e : (sm K fun k => (if k = m then d k + t else d k) * P o k x) = sm K fun k => d k * P o k x + (if k = m then t * P o k x else 0) := sm_congr fun k _ => by
    by_cases e : k = m
    · rw [if_pos e, if_pos e, Int.add_mul]
    · rw [if_neg e, if_neg e, Int.add_zero]
  rw [e, sm_add, sm_single (f := fun k => if k = m then t * P o k x else 0) h fun k _ hne => if_neg hne]
  rw [if_pos rfl]
/-- how far a codeword goes along with words: as far as there is no alarm -/
theorem prefix_iff (g : Good places o n) (hw : w ≤ 64) (W : Nat → Int) : ∀ m, m ≤ o.length →
    ((∃ d : Nat → Int, ∀ j, j < m → (2 : Int) ^ w ∣ W j - Cd o (cnt w c n) d (o.getD j 0)) ↔ ∀ k, k < m → (2 : Int) ^ w ∣ al w c o n k W) := by
  have hKc : cnt w c n ≤ c := by
    cases h : cnt w c n with
    | zero => exact Nat.zero_le _
    | succ k =>
      have := (lt_cnt g (w := w) (c := c) (k := k)).mp (by omega)
      omega
  intro m hm
  constructor
  · rintro ⟨d, hd⟩ k hk
    have h1 := al_agree (w := w) (c := c) (o := o) (n := n) (k := k) (W := W) (V := fun j => Cd o (cnt w c n) d (o.getD j 0)) fun j hj _ => hd j (by omega)
    have h2 := al_code g hw (k := k) (by omega) hKc d
    have h3 := Int.dvd_add h1 h2
    rwa [Int.sub_add_cancel] at h3
  · induction m with
    | zero => exact fun _ => ⟨fun _ => 0, fun j hj => absurd hj (Nat.not_lt_zero _)⟩
    | succ m ih =>
      intro h
      obtain ⟨d, hd⟩ := ih (by omega) fun k hk => h k (by omega)
      have hmo : m < o.length := by omega
      -- what is left at the place m
      have hR : (2 : Int) ^ w ∣ (W m - Cd o (cnt w c n) d (o.getD m 0)) * stp w c n m := by
        have h1 := h m (by omega)
        have h2 := al_code g hw (k := m) hmo hKc d
        have h3 := Int.dvd_sub h1 h2
        rw [← al_sub] at h3
        unfold al at h3
        have e : o.length = m + (1 + (o.length - m - 1)) := by omega
        rw [e, sm_split, sm_split] at h3
        have z : (sm (o.length - m - 1) fun i => (W (m + (1 + i)) - Cd o (cnt w c n) d (o.getD (m + (1 + i)) 0)) * (row w c o n m).getD (m + (1 + i)) 0) = 0 := sm_zero fun i _ => by
          rw [row_out (by omega) (by omega), Int.mul_zero]
        have f : (2 : Int) ^ w ∣ sm m fun j => (W j - Cd o (cnt w c n) d (o.getD j 0)) * (row w c o n m).getD j 0 := sm_dvd fun j hj => Int.dvd_mul_of_dvd_left (hd j hj)
        rw [z] at h3
        have h4 := Int.dvd_sub h3 f
        have e5 : ∀ a b : Int, a + (b + 0) - a = b := fun a b => by omega
        rw [e5] at h4
        have e6 : (sm 1 fun i => (W (m + i) - Cd o (cnt w c n) d (o.getD (m + i) 0)) * (row w c o n m).getD (m + i) 0) = (W m - Cd o (cnt w c n) d (o.getD m 0)) * (row w c o n m).getD m 0 := by
          show 0 + _ = _
          rw [Int.zero_add] <;> rfl
        rw [e6, row_at hmo] at h4
        obtain ⟨a, ea⟩ := mod_dvd (stp w c n m) (2 ^ w)
        obtain ⟨b, eb⟩ := h4
        generalize stp w c n m % 2 ^ w = s1 at *
        refine ⟨b + (W m - Cd o (cnt w c n) d (o.getD m 0)) * a, ?_⟩
        grind
      by_cases hK : m < cnt w c n
      · obtain ⟨h1, h2, h3⟩ := (lt_cnt g).mp hK
        have es : stp w c n m = 2 ^ (w - n.getD m 0) := if_pos ⟨h2, h3⟩
        have eN : (2 : Int) ^ w = 2 ^ n.getD m 0 * 2 ^ (w - n.getD m 0) := by rw [← Int.pow_add, Nat.add_sub_cancel' (Nat.le_of_lt h3)]
        obtain ⟨q, eq, hq⟩ := g.diag h1
        have pS := two_pow_pos (w - n.getD m 0)
        rw [es, eN] at hR
        have hR2 := Int.dvd_of_mul_dvd_mul_right (Int.ne_of_gt pS) hR
        obtain ⟨r, er⟩ := hR2
        obtain ⟨i, ei⟩ := inv7_dvd hq hw
        refine ⟨fun k => if k = m then d k + r * inv7 q (2 ^ w) else d k, fun j hj => ?_⟩
        rw [Cd_put hK]
        by_cases hjm : j = m
        · subst hjm
          show _ ∣ W j - (_ + _ * pr (o.take j) (o.getD j 0))
          rw [eq]
          generalize inv7 q (2 ^ w) = v at *
          generalize (2 : Int) ^ w = N at *
          refine ⟨2 ^ n.getD j 0 * r * i, ?_⟩
          grind
        · show _ ∣ W j - (_ + _ * pr (o.take m) (o.getD j 0))
          rw [g.zero (show j < m by omega) (by omega), Int.mul_zero, Int.add_zero]
          exact hd j (by omega)
      · have es : stp w c n m = 1 := if_neg fun z => hK ((lt_cnt g).mpr ⟨hmo, z⟩)
        rw [es, Int.mul_one] at hR
        refine ⟨d, fun j hj => ?_⟩
        by_cases hjm : j = m
        · subst hjm
          exact hR
        · exact hd j (by omega)
end
end K53

namespace K53

/-! ### lists and sums -/
theorem sum_map_sm {α : Type} {d : α} {f : α → Int} : ∀ l : List α, (l.map f).sum = sm l.length fun j => f (l.getD j d)
  | [] => rfl
  | a :: r => by
    rw [List.map_cons, List.sum_cons, sum_map_sm r]
    show _ = sm (r.length + 1) _
    rw [sm_left] <;> rfl
theorem perm_sum {f : Int → Int} {l r : List Int} (h : l.Perm r) : (l.map f).sum = (r.map f).sum := by
  induction h with
  | nil => rfl
  | cons x _ ih => rw [List.map_cons, List.map_cons, List.sum_cons, List.sum_cons, ih]
  | swap x y l => simp only [List.map_cons, List.sum_cons]; omega
  | trans _ _ a b => exact a.trans b
def dot (a b : List Int) : Int := (List.zipWith (fun x y => x * y) a b).sum
theorem dot_comm : ∀ a b : List Int, dot a b = dot b a
  | [], [] => rfl
  | [], _ :: _ => rfl
  | _ :: _, [] => rfl
  | x :: a, y :: b => by
    have ih := dot_comm a b
    unfold dot at ih ⊢
    rw [List.zipWith_cons_cons, List.zipWith_cons_cons, List.sum_cons, List.sum_cons, ih, Int.mul_comm]
theorem dot_sm : ∀ a b : List Int, a.length = b.length → dot a b = sm a.length fun i => a.getD i 0 * b.getD i 0
  | [], [], _ => rfl
  | [], _ :: _, h => by cases h
  | _ :: _, [], h => by cases h
  | x :: a, y :: b, h => by
    have ih := dot_sm a b (by simpa using h)
    unfold dot at ih ⊢
    rw [List.zipWith_cons_cons, List.sum_cons, ih]
    show _ = sm (a.length + 1) _
    rw [sm_left] <;> rfl
theorem idxOf_getD {l : List Int} (nd : l.Nodup) {i : Nat} (h : i < l.length) : l.idxOf (l.getD i 0) = i := by
  have h1 : l.getD i 0 ∈ l := getD_mem h
  have h2 : l.idxOf (l.getD i 0) < l.length := List.idxOf_lt_length_iff.mpr h1
  have h3 : l[l.idxOf (l.getD i 0)] = l.getD i 0 := List.getElem_idxOf h2
  have h4 : l[i] = l.getD i 0 := by rw [List.getD_eq_getElem?_getD, List.getElem?_eq_getElem h] <;> rfl
  exact (List.getElem_inj nd).mp (h3.trans h4.symm)
theorem getD_idxOf {l : List Int} {x : Int} (h : x ∈ l) : l.getD (l.idxOf x) 0 = x := by
  have h2 : l.idxOf x < l.length := List.idxOf_lt_length_iff.mpr h
  rw [List.getD_eq_getElem?_getD, List.getElem?_eq_getElem h2]
  exact List.getElem_idxOf h2

/-! ### the program's alarms -/
/-- factors in the good order, told in the places' order -/
def inPl (places o fs : List Int) : List Int := places.map fun p => fs.getD (o.idxOf p) 0
def triP (w c : Nat) (places o : List Int) (n : List Nat) : List (List Int) := (tri w c o n).map (inPl places o)
def alarmsM (w : Nat) (rows : List (List Int)) (ws : List Int) : List Int := rows.map fun r => dot ws r % 2 ^ w
/-- a list's word at the k-th place of the order -/
def wd (places o ws : List Int) (j : Nat) : Int := ws.getD (places.idxOf (o.getD j 0)) 0
section
variable {places o : List Int} {n : List Nat} {w c : Nat}
theorem Good.leno (g : Good places o n) : o.length = places.length := g.perm.length_eq
theorem Good.ndp (g : Good places o n) : places.Nodup := g.perm.nodup_iff.mp g.nodup
theorem dot_inPl (g : Good places o n) {ws fs : List Int} (hl : ws.length = places.length) : dot ws (inPl places o fs) = sm o.length fun j => wd places o ws j * fs.getD j 0 := by
  rw [dot_sm _ _ (by unfold inPl; rw [List.length_map, hl]), hl]
  have e1 : (sm places.length fun i => ws.getD i 0 * (inPl places o fs).getD i 0) = sm places.length fun i => (fun p => ws.getD (places.idxOf p) 0 * fs.getD (o.idxOf p) 0) (places.getD i 0) := sm_congr fun i hi => by
    show _ = ws.getD (places.idxOf (places.getD i 0)) 0 * fs.getD (o.idxOf (places.getD i 0)) 0
    rw [idxOf_getD g.ndp hi]
    unfold inPl
    rw [getD_map (d := (0 : Int)) hi]
  rw [e1, ← sum_map_sm (d := (0 : Int)) (f := fun p => ws.getD (places.idxOf p) 0 * fs.getD (o.idxOf p) 0), ← perm_sum g.perm, sum_map_sm (d := (0 : Int))]
  exact sm_congr fun j hj => by
    show _ * fs.getD (o.idxOf (o.getD j 0)) 0 = _
    rw [idxOf_getD g.nodup hj] <;> rfl
theorem tri_len : (tri w c o n).length = o.length := by
  unfold tri
  rw [List.length_map, List.length_range]
theorem triP_len : (triP w c places o n).length = o.length := by
  unfold triP
  rw [List.length_map, tri_len]
theorem alarms_len {ws : List Int} : (alarmsM w (triP w c places o n) ws).length = o.length := by
  unfold alarmsM
  rw [List.length_map, triP_len]
theorem alarms_at (g : Good places o n) {ws : List Int} (hl : ws.length = places.length) {k : Nat} (hk : k < o.length) : (alarmsM w (triP w c places o n) ws).getD k 0 = al w c o n k (wd places o ws) % 2 ^ w := by
  unfold alarmsM
  rw [getD_map (d := ([] : List Int)) (by rw [triP_len]; exact hk)]
  have e : (triP w c places o n).getD k [] = inPl places o (row w c o n k) := by
    unfold triP
    rw [getD_map (d := ([] : List Int)) (by rw [tri_len]; exact hk)]
    unfold tri
    rw [getD_map (d := (0 : Nat)) (by rw [List.length_range]; exact hk)]
    rw [List.getD_eq_getElem?_getD, List.getElem?_range hk] <;> rfl
  rw [e, dot_inPl g hl] <;> rfl
theorem mod_zero_iff {a : Int} : a % 2 ^ w = 0 ↔ (2 : Int) ^ w ∣ a := ⟨Int.dvd_of_emod_eq_zero, Int.emod_eq_zero_of_dvd⟩
theorem mod_eq_iff {a b : Int} : a % 2 ^ w = b % 2 ^ w ↔ (2 : Int) ^ w ∣ a - b := by
  rw [Int.emod_eq_emod_iff_emod_sub_eq_zero, mod_zero_iff]

/-! ### the law's codewords, listed -/
def newLines (w : Nat) (places o : List Int) (n : List Nat) (k : Nat) (found : List (List Int)) : List (List Int) :=
  (List.range (2 ^ (w - n.getD k 0))).flatMap fun (item : Nat) => found.map fun line => List.zipWith (fun word one => (word + (item : Int) * one) % 2 ^ w) line (places.map (P o k))
def linesN (w : Nat) (places o : List Int) (n : List Nat) : Nat → List (List Int)
  | 0 => [List.replicate places.length 0]
  | m + 1 => newLines w places o n m (linesN w places o n m)
def lines (w c : Nat) (places o : List Int) (n : List Nat) : List (List Int) := linesN w places o n (cnt w c n)
def lineOf (w : Nat) (places o : List Int) (m : Nat) (d : Nat → Int) : List Int := places.map fun x => Cd o m d x % 2 ^ w
theorem zip_maps {f g : Int → Int} {h : Int → Int → Int} : ∀ l : List Int, List.zipWith h (l.map f) (l.map g) = l.map fun x => h (f x) (g x)
  | [] => rfl
  | a :: r => by
    rw [List.map_cons, List.map_cons, List.zipWith_cons_cons, List.map_cons, zip_maps r]
theorem Good.dvdP (g : Good places o n) {k : Nat} (hk : k < o.length) {x : Int} (hx : x ∈ places) : ∃ q : Int, P o k x = 2 ^ n.getD k 0 * q := by
  have hx2 : x ∈ o := g.perm.symm.subset hx
  have h2 : o.idxOf x < o.length := List.idxOf_lt_length_iff.mpr hx2
  have q := g.dvd hk h2
  rw [getD_idxOf hx2] at q
  exact q
theorem mem_linesN (g : Good places o n) : ∀ m, m ≤ cnt w c n → ∀ line, line ∈ linesN w places o n m ↔ ∃ d : Nat → Int, line = lineOf w places o m d
  | 0, _, line => by
    have e : ∀ d, lineOf w places o 0 d = List.replicate places.length 0 := fun d => by
      unfold lineOf
      rw [List.eq_replicate_iff]
      refine ⟨by rw [List.length_map], fun b hb => ?_⟩
      obtain ⟨x, _, e⟩ := List.mem_map.mp hb
      rw [← e]
      show (0 : Int) % 2 ^ w = 0
      exact Int.zero_emod _
    show line ∈ [List.replicate places.length 0] ↔ _
    rw [List.mem_singleton]
    exact ⟨fun h => ⟨fun _ => 0, by rw [e]; exact h⟩, fun ⟨d, h⟩ => by rw [h, e]⟩
  | m + 1, hm, line => by
    have ih := mem_linesN g m (by omega)
    obtain ⟨hmo, hmc, hmw⟩ := (lt_cnt g).mp (show m < cnt w c n by omega)
    show line ∈ newLines w places o n m (linesN w places o n m) ↔ _
    unfold newLines
    rw [List.mem_flatMap]
    have add : ∀ (d : Nat → Int) (t x : Int), Cd o (m + 1) d x = Cd o m d x + d m * P o m x := fun d t x => rfl
    constructor
    · rintro ⟨item, _, h2⟩
      obtain ⟨l0, h3, e⟩ := List.mem_map.mp h2
      obtain ⟨d, rfl⟩ := (ih l0).mp h3
      refine ⟨fun k => if k = m then (item : Int) else d k, ?_⟩
      rw [← e]
      unfold lineOf
      rw [zip_maps]
      refine List.map_congr_left fun x _ => ?_
      rw [add _ 0 x]
      have e2 : Cd o m (fun k => if k = m then (item : Int) else d k) x = Cd o m d x := sm_congr fun k hk => by
        show (if k = m then (item : Int) else d k) * _ = _
        rw [if_neg (by omega)]
      show _ = (Cd o m _ x + (if m = m then (item : Int) else d m) * P o m x) % 2 ^ w
      rw [e2, if_pos rfl, Int.emod_add_emod]
    · rintro ⟨d, rfl⟩
      refine ⟨(d m % 2 ^ (w - n.getD m 0)).toNat, List.mem_range.mpr ?_, List.mem_map.mpr ⟨lineOf w places o m d, (ih _).mpr ⟨d, rfl⟩, ?_⟩⟩
      · have p := two_pow_pos (w - n.getD m 0)
        have h1 := Int.emod_lt_of_pos (d m) p
        have h2 := Int.emod_nonneg (d m) (Int.ne_of_gt p)
        have e : ((2 ^ (w - n.getD m 0) : Nat) : Int) = 2 ^ (w - n.getD m 0) := by norm_cast
        omega
      · unfold lineOf
        rw [zip_maps]
        refine List.map_congr_left fun x hx => ?_
        rw [add _ 0 x, Int.emod_add_emod, mod_eq_iff]
        obtain ⟨q, eq⟩ := g.dvdP hmo hx
        have p := two_pow_pos (w - n.getD m 0)
        have h2 := Int.emod_nonneg (d m) (Int.ne_of_gt p)
        rw [Int.toNat_of_nonneg h2, eq]
        have eN : (2 : Int) ^ w = 2 ^ n.getD m 0 * 2 ^ (w - n.getD m 0) := by rw [← Int.pow_add, Nat.add_sub_cancel' (Nat.le_of_lt hmw)]
        obtain ⟨a, ea⟩ := mod_dvd (d m) (2 ^ (w - n.getD m 0))
        rw [eN]
        generalize d m % 2 ^ (w - n.getD m 0) = z at *
        generalize (2 : Int) ^ (w - n.getD m 0) = S at *
        refine ⟨-(a * q), ?_⟩
        grind
theorem mem_lines (g : Good places o n) {line : List Int} : line ∈ lines w c places o n ↔ ∃ d : Nat → Int, line = lineOf w places o (cnt w c n) d := mem_linesN (c := c) g _ (Nat.le_refl _) line
theorem lineOf_wd (g : Good places o n) {d : Nat → Int} {m j : Nat} (hj : j < o.length) : wd places o (lineOf w places o m d) j = Cd o m d (o.getD j 0) % 2 ^ w := by
  have hm : o.getD j 0 ∈ places := g.perm.subset (getD_mem hj)
  unfold wd lineOf
  rw [getD_map (d := (0 : Int)) (List.idxOf_lt_length_iff.mpr hm), getD_idxOf hm]
/-- words are such -/
def IsWords (w : Nat) (places ws : List Int) : Prop := ws.length = places.length ∧ ∀ x ∈ ws, 0 ≤ x ∧ x < 2 ^ w
theorem wd_range (g : Good places o n) {ws : List Int} (hw : IsWords w places ws) {j : Nat} (hj : j < o.length) : 0 ≤ wd places o ws j ∧ wd places o ws j < 2 ^ w := by
  refine hw.2 _ (getD_mem ?_)
  rw [hw.1]
  exact List.idxOf_lt_length_iff.mpr (g.perm.subset (getD_mem hj))
/-- a line goes along with words as far as there is no alarm -/
theorem agree_iff (g : Good places o n) (h64 : w ≤ 64) {ws : List Int} (hw : IsWords w places ws) {m : Nat} (hm : m ≤ o.length) :
    (∃ line ∈ lines w c places o n, ∀ j, j < m → wd places o line j = wd places o ws j) ↔ ∀ k, k < m → (alarmsM w (triP w c places o n) ws).getD k 0 = 0 := by
  have e : (∃ line ∈ lines w c places o n, ∀ j, j < m → wd places o line j = wd places o ws j) ↔ ∃ d : Nat → Int, ∀ j, j < m → (2 : Int) ^ w ∣ wd places o ws j - Cd o (cnt w c n) d (o.getD j 0) := by
    have one : ∀ (d : Nat → Int) (j : Nat), j < m → (wd places o (lineOf w places o (cnt w c n) d) j = wd places o ws j ↔ (2 : Int) ^ w ∣ wd places o ws j - Cd o (cnt w c n) d (o.getD j 0)) := fun d j hj => by
      rw [lineOf_wd g (by omega), ← mod_eq_iff]
      obtain ⟨h1, h2⟩ := wd_range g hw (show j < o.length by omega)
      rw [Int.emod_eq_of_lt h1 h2]
      exact eq_comm
    constructor
    · rintro ⟨line, hl, ha⟩
      obtain ⟨d, rfl⟩ := (mem_lines g).mp hl
      exact ⟨d, fun j hj => (one d j hj).mp (ha j hj)⟩
    · rintro ⟨d, ha⟩
      exact ⟨_, (mem_lines g).mpr ⟨d, rfl⟩, fun j hj => (one d j hj).mpr (ha j hj)⟩
  rw [e, prefix_iff g h64 _ m hm]
  constructor
  · intro h k hk
    rw [alarms_at g hw.1 (by omega)]
    exact mod_zero_iff.mpr (h k hk)
  · intro h k hk
    have q := h k hk
    rw [alarms_at g hw.1 (by omega)] at q
    exact mod_zero_iff.mp q
theorem wd_ext (g : Good places o n) {a b : List Int} (ha : a.length = places.length) (hb : b.length = places.length) (h : ∀ j, j < o.length → wd places o a j = wd places o b j) : a = b := by
  refine List.ext_getElem (ha.trans hb.symm) fun i h1 h2 => ?_
  have hi : i < places.length := by omega
  have hm : places.getD i 0 ∈ o := g.perm.symm.subset (getD_mem hi)
  have q := h _ (List.idxOf_lt_length_iff.mpr hm)
  unfold wd at q
  rw [getD_idxOf hm, idxOf_getD g.ndp hi] at q
  rw [List.getD_eq_getElem?_getD, List.getD_eq_getElem?_getD, List.getElem?_eq_getElem h1, List.getElem?_eq_getElem h2] at q
  exact q
theorem line_len {line : List Int} (g : Good places o n) (h : line ∈ lines w c places o n) : line.length = places.length := by
  obtain ⟨d, rfl⟩ := (mem_lines g).mp h
  unfold lineOf
  rw [List.length_map]
theorem line_words {line : List Int} (g : Good places o n) (h : line ∈ lines w c places o n) : IsWords w places line := by
  refine ⟨line_len g h, fun x hx => ?_⟩
  obtain ⟨d, rfl⟩ := (mem_lines g).mp h
  unfold lineOf at hx
  obtain ⟨y, _, e⟩ := List.mem_map.mp hx
  rw [← e]
  exact ⟨Int.emod_nonneg _ (Int.ne_of_gt (two_pow_pos w)), Int.emod_lt_of_pos _ (two_pow_pos w)⟩
/-- words are a line exactly if they make no alarm -/
theorem mem_iff (g : Good places o n) (h64 : w ≤ 64) {ws : List Int} (hw : IsWords w places ws) : ws ∈ lines w c places o n ↔ ∀ k, k < o.length → (alarmsM w (triP w c places o n) ws).getD k 0 = 0 := by
  rw [← agree_iff g h64 hw (Nat.le_refl _)]
  constructor
  · exact fun h => ⟨ws, h, fun _ _ => rfl⟩
  · rintro ⟨line, hl, ha⟩
    rw [← wd_ext g (line_len g hl) hw.1 ha]
    exact hl
theorem getD_zipWith {f : Int → Int → Int} {a b : List Int} {i : Nat} (ha : i < a.length) (hb : i < b.length) : (List.zipWith f a b).getD i 0 = f (a.getD i 0) (b.getD i 0) := by
  rw [List.getD_eq_getElem?_getD, List.getElem?_zipWith, getD_lt (d := (0 : Int)) ha, getD_lt (d := (0 : Int)) hb] <;> rfl
def gap (w : Nat) (a b : List Int) : List Int := List.zipWith (fun x y => (x - y) % 2 ^ w) a b
theorem gap_words {a b : List Int} (ha : a.length = places.length) (hb : b.length = places.length) : IsWords w places (gap w a b) := by
  unfold gap
  refine ⟨by rw [List.length_zipWith, ha, hb, Nat.min_self], fun x hx => ?_⟩
  obtain ⟨i, hi, e⟩ := List.getElem_of_mem hx
  rw [List.getElem_zipWith] at e
  rw [← e]
  exact ⟨Int.emod_nonneg _ (Int.ne_of_gt (two_pow_pos w)), Int.emod_lt_of_pos _ (two_pow_pos w)⟩
/-- words with the same alarms, and only these, are unlike by a line -/
theorem gap_iff (g : Good places o n) (h64 : w ≤ 64) {a b : List Int} (ha : a.length = places.length) (hb : b.length = places.length) :
    gap w a b ∈ lines w c places o n ↔ alarmsM w (triP w c places o n) a = alarmsM w (triP w c places o n) b := by
  rw [mem_iff g h64 (gap_words ha hb)]
  have key : ∀ k, k < o.length → ((alarmsM w (triP w c places o n) (gap w a b)).getD k 0 = 0 ↔ (alarmsM w (triP w c places o n) a).getD k 0 = (alarmsM w (triP w c places o n) b).getD k 0) := fun k hk => by
    rw [alarms_at g (gap_words (w := w) ha hb).1 hk, alarms_at g ha hk, alarms_at g hb hk, mod_zero_iff, mod_eq_iff, ← al_sub]
    have h1 : (2 : Int) ^ w ∣ al w c o n k (wd places o (gap w a b)) - al w c o n k fun j => wd places o a j - wd places o b j := al_agree fun j _ hj => by
      have e : wd places o (gap w a b) j = (wd places o a j - wd places o b j) % 2 ^ w := by
        unfold wd gap
        exact getD_zipWith (by rw [ha]; exact List.idxOf_lt_length_iff.mpr (g.perm.subset (getD_mem hj))) (by rw [hb]; exact List.idxOf_lt_length_iff.mpr (g.perm.subset (getD_mem hj)))
      rw [e]
      have q := mod_dvd (wd places o a j - wd places o b j) (2 ^ w)
      rw [← Int.dvd_neg] at q
      rwa [Int.neg_sub] at q
    constructor
    · intro h
      have := Int.dvd_sub h h1
      rwa [show ∀ x y : Int, x - (x - y) = y from fun x y => by omega] at this
    · intro h
      have := Int.dvd_add h1 h
      rwa [Int.sub_add_cancel] at this
  constructor
  · intro h
    refine List.ext_getElem (by rw [alarms_len, alarms_len]) fun k h1 h2 => ?_
    have hk : k < o.length := by rwa [alarms_len] at h1
    have q := (key k hk).mp (h k hk)
    rw [List.getD_eq_getElem?_getD, List.getD_eq_getElem?_getD, List.getElem?_eq_getElem h1, List.getElem?_eq_getElem h2] at q
    exact q
  · intro h k hk
    rw [key k hk, h]

/-! ### words of polynomials -/
def hor (N x : Int) (qs : List Int) : Int := qs.foldl (fun v q => (v * x + q) % N) 0
theorem P_succ (g : Good places o n) (k : Nat) {j : Nat} (hj : j < o.length) : o.getD j 0 * P o k (o.getD j 0) = P o (k + 1) (o.getD j 0) + o.getD k 0 * P o k (o.getD j 0) := by
  unfold P
  by_cases hk : k < o.length
  · have e : o.take (k + 1) = o.take k ++ [o.getD k 0] := by
      rw [List.take_add_one, getD_lt (d := (0 : Int)) hk] <;> rfl
    rw [e, pr_snoc]
    generalize pr (o.take k) (o.getD j 0) = p
    grind
  · rw [pr_zero (o.take k) (by rw [List.take_of_length_le (by omega)]; exact getD_mem hj), pr_zero (o.take (k + 1)) (by rw [List.take_of_length_le (by omega)]; exact getD_mem hj), Int.mul_zero, Int.mul_zero] <;> rfl
theorem hor_span (g : Good places o n) : ∀ qs : List Int, ∃ e : Nat → Int, ∀ j, j < o.length → (2 : Int) ^ w ∣ hor (2 ^ w) (o.getD j 0) qs - Cd o qs.length e (o.getD j 0) := by
  refine snoc_ind ⟨fun _ => 0, fun j _ => ?_⟩ fun qs q ih => ?_
  · show _ ∣ (0 : Int) - 0
    exact Int.dvd_zero _
  · obtain ⟨e, he⟩ := ih
    have el : (qs ++ [q]).length = qs.length + 1 := by simp
    refine ⟨fun k => (if k = 0 then q else e (k - 1)) + (if k < qs.length then o.getD k 0 * e k else 0), fun j hj => ?_⟩
    have eh : hor (2 ^ w) (o.getD j 0) (qs ++ [q]) = (hor (2 ^ w) (o.getD j 0) qs * o.getD j 0 + q) % 2 ^ w := by
      unfold hor
      rw [List.foldl_append] <;> rfl
    rw [eh, el]
    have ec : Cd o (qs.length + 1) (fun k => (if k = 0 then q else e (k - 1)) + (if k < qs.length then o.getD k 0 * e k else 0)) (o.getD j 0) = q + o.getD j 0 * Cd o qs.length e (o.getD j 0) := by
      unfold Cd
      have e1 : (sm (qs.length + 1) fun k => ((if k = 0 then q else e (k - 1)) + (if k < qs.length then o.getD k 0 * e k else 0)) * P o k (o.getD j 0)) =
          (sm (qs.length + 1) fun k => (if k = 0 then q else e (k - 1)) * P o k (o.getD j 0)) + sm (qs.length + 1) fun k => (if k < qs.length then o.getD k 0 * e k else 0) * P o k (o.getD j 0) := by
        rw [← sm_add]
        exact sm_congr fun k _ => Int.add_mul _ _ _
      have e2 : (sm (qs.length + 1) fun k => (if k < qs.length then o.getD k 0 * e k else 0) * P o k (o.getD j 0)) = sm qs.length fun k => o.getD k 0 * e k * P o k (o.getD j 0) := by
        show sm qs.length _ + (if qs.length < qs.length then _ else 0) * _ = _
        rw [if_neg (Nat.lt_irrefl _), Int.zero_mul, Int.add_zero]
        exact sm_congr fun k hk => by rw [if_pos hk]
      have e3 : (sm (qs.length + 1) fun k => (if k = 0 then q else e (k - 1)) * P o k (o.getD j 0)) = q + sm qs.length fun k => e k * P o (k + 1) (o.getD j 0) := by
        rw [sm_left, if_pos rfl]
        have p0 : P o 0 (o.getD j 0) = 1 := rfl
        rw [p0, Int.mul_one]
        congr 1
      rw [e1, e2, e3, ← sm_mul, Int.add_assoc, ← sm_add]
      congr 1
      exact sm_congr fun k _ => by
        have p := P_succ g k hj
        generalize P o (k + 1) (o.getD j 0) = A at *
        generalize P o k (o.getD j 0) = B at *
        generalize o.getD j 0 = x at *
        grind
    rw [ec]
    obtain ⟨a, ea⟩ := he j hj
    obtain ⟨b, eb⟩ := mod_dvd (hor (2 ^ w) (o.getD j 0) qs * o.getD j 0 + q) (2 ^ w)
    generalize (hor (2 ^ w) (o.getD j 0) qs * o.getD j 0 + q) % 2 ^ w = r at *
    generalize o.getD j 0 = x at *
    generalize hor (2 ^ w) x qs = h at *
    generalize Cd o qs.length e x = C at *
    refine ⟨a * x - b, ?_⟩
    grind
/-- words of a polynomial with as many coefficients as the count make no alarm -/
theorem poly_calm (g : Good places o n) (h64 : w ≤ 64) {qs : List Int} (hq : qs.length = c) : alarmsM w (triP w c places o n) (places.map fun x => hor (2 ^ w) x qs) = List.replicate o.length 0 := by
  rw [List.eq_replicate_iff]
  refine ⟨alarms_len, fun b hb => ?_⟩
  obtain ⟨k, hk, e⟩ := List.getElem_of_mem hb
  have hko : k < o.length := by rwa [alarms_len] at hk
  have e2 : (alarmsM w (triP w c places o n) (places.map fun x => hor (2 ^ w) x qs)).getD k 0 = b := by
    rw [List.getD_eq_getElem?_getD, List.getElem?_eq_getElem hk, e] <;> rfl
  rw [← e2, alarms_at g (by rw [List.length_map]) hko, mod_zero_iff]
  obtain ⟨d, hd⟩ := hor_span (w := w) g qs
  have h1 : (2 : Int) ^ w ∣ al w c o n k (wd places o (places.map fun x => hor (2 ^ w) x qs)) - al w c o n k fun j => Cd o qs.length d (o.getD j 0) := al_agree fun j _ hj => by
    have hm : o.getD j 0 ∈ places := g.perm.subset (getD_mem hj)
    have e : wd places o (places.map fun x => hor (2 ^ w) x qs) j = hor (2 ^ w) (o.getD j 0) qs := by
      unfold wd
      rw [getD_map (d := (0 : Int)) (List.idxOf_lt_length_iff.mpr hm), getD_idxOf hm]
    rw [e]
    exact hd j hj
  have h2 := al_code g h64 (c := c) (k := k) hko (show qs.length ≤ c by omega) d
  have h3 := Int.dvd_add h1 h2
  rwa [Int.sub_add_cancel] at h3
end
end K53

/-! K53ExtA: rules that the layer lacks: ** of a wide base, xs[::0 - 1], repr of data, a def that asks for an empty repr stack, keywords alone. -/
namespace K53
open PySem PySem.Spec PyProof.Rows L2

/-! ### ** of a base of any size -/
def CPowW (i j : Int) : Prop := 0 ≤ j ∧ (Builtin.Int.intBits i : Int) * j ≤ 2 ^ 27
theorem op_powW {X : Cx} : OpR X (binaryOp .Pow) (rI CPowW fun i j => .int (i ^ j.toNat)) := opI fun _ _ _ _ _ _ _ hc q => pow_int hc.1 hc.2 q

/-! ### xs[::0 - 1] -/
section
variable {X : Cx}
theorem pe_revB {e : Expr} {te : TE} {k k2 : Nat} {p1 p2 p4 p3 pos : Pos} (he : PE X e te) :
    PE X (.Subscript e (.Slice none none (some (.BinOp (.Constant (.int 0) k p1) .Sub (.Constant (.int 1) k2 p4) p2)) p3) pos) (tRevL X.K te) := by
  constructor
  intro pins s σ H Q I h
  apply Subscript_
  apply thn (he.run pins s σ H _ I h)
  rintro v s1 ⟨x, H1, I1, r1, a, xs, rfl, hx, q⟩
  cases r1
  have step : PO X (some (.BinOp (.Constant (.int 0) k p1) .Sub (.Constant (.int 1) k2 p4) p2)) (tPart (tOp (rI0 fun i j => .int (i - j)) (tC (.int 0)) (tC (.int 1)))) := po_some (pe_op op_sub pe_int pe_int)
  apply wpAny_Slice
  apply thn (po_none.run pins s1 σ H1 (fun o H2 => o = none ∧ H2 = H1) I1 ⟨rfl, rfl⟩)
  rintro vl s2 ⟨l, H2, I2, pl, rfl, rfl⟩
  apply thn (po_none.run pins s2 σ H2 (fun o H3 => o = none ∧ H3 = H2) I2 ⟨rfl, rfl⟩)
  rintro vu s3 ⟨u, H3, I3, pu, rfl, rfl⟩
  apply thn (step.run pins s3 σ H3 (fun o H4 => o = some (-1) ∧ H4 = H3) I3 ⟨0, 1, rfl, rfl, -1, rfl, rfl, rfl⟩)
  rintro vs s4 ⟨o, H4, I4, ps, rfl, rfl⟩
  have I5 : Inv X pins σ H4 { s4 with heap := s4.heap.push { cls := .type "slice", data := .fields #[vl, vu, vs] } } := I4.kept (t' := s4.toks) fun _ _ z => Heap.get?_push_of_some _ z
  obtain ⟨its, r, ht, hz⟩ := I5.list hx
  have hlen := r.length
  refine tail_any (ops := [.ref a, .ref s4.heap.objs.size]) ht.isList.typeIs PySem.slot_list_getitem.lookup ?_ (by with_unfolding_all rfl)
  refine wpAny_getItem_list_slice ht.isList (Heap.IsSliceOf.new _ vl vu vs) pl pu ps (by decide) ?_ (by rw [List.size_toArray]; omega)
  rw [PySem.W.krv_pick]
  have new := I5.hok.fresh (Nat.le_refl _)
  refine ⟨.ref _, _, I5.laid (t' := s4.toks) (o := .lst xs.reverse) (fun _ _ z => Heap.get?_push_of_some _ z) (Nat.le_refl _) ?_, rfl, q _ new⟩
  exact ⟨by simpa using hz, _, 0, r.reverse, Heap.get?_push_size _ rfl⟩
/-! ### repr of data -/
def rRepr (K : PySem.W.Frag) : List V → Hp → VK → Prop := fun xs H Q => ∃ v d, xs = [v] ∧ ((v = .non ∧ d = PyData.none) ∨ ∃ a, v = .ref a) ∧ Dp K H v d ∧ d.showable = true ∧ d.hasDict = false ∧ d.depth ≤ 8 ∧ d.shown.length ≤ sizeLine ∧ Q (.str d.shown) H
theorem cr_repr (hg : X.A.guards = some []) (hu : X.A.units + 64 < cLine) : CallR X (.builtin "repr") (rRepr X.K) := by
  rintro pins s σ H xs us Q I r ⟨v, d, rfl, hv, hd, hs, hn, hdp, hz, q⟩
  cases r with
  | cons r rr =>
    cases rr
    rcases hv with ⟨rfl, rfl⟩ | ⟨a, rfl⟩
    · cases r
      refine PySem.P.repr_of_none ?_
      have e : PyData.shown .none = "None" := by simp only [PyData.shown]
      rw [e] at q
      exact ⟨.str "None", H, I.tok _, ⟨_, rfl⟩, q⟩
    · obtain ⟨as, hr⟩ := Dp.reads I d _ _ hd r
      cases r
      refine repr_of_reads' hr hs (fun z => absurd z (by rw [hn]; exact Bool.false_ne_true)) hg (by omega) (fun _ _ e => e) (fun h' u tk keep => ?_) hz
      exact ⟨.str d.shown, H, I.kept (t' := tk) keep, ⟨_, rfl⟩, q⟩

/-! ### a call by keywords alone -/
theorem pe_kwOnly {CX : CXT} {k : Nat} {f : Addr} {fd : FuncData} {ps ks : List Str} {sp : Sp} {E : XK} {x : Str} {p pos : Pos} {kws : List Keyword} {tk : TA} {g : List Value → List Value → List Value} {gV : List V → List V → List V}
    (F : FnOk X.prog X.w X.K X.mg X.base CX k f fd ps sp) (hr : Room k X.A) (hg : Gl X x) (hm : X.mg x = some (.ref f)) (hk : PySem.W.keepIn X.K (.ref f) = true) (hb : KBinds X.K fd ps ks g gV) (hx : Passes CX X E) (hkw : PK X kws tk)
    (hall : (backToKw pos (keywordEach kws X.env)).all (·.1.isSome) = true := by rfl) (hks : (backToKw pos (keywordEach kws X.env)).filterMap (·.1) = ks := by rfl) (hdb : (x == ("__debug__" : Str)) = false := by decide)
    (hpl : ((backTo pos (starEach [] X.env)).any (·.1) || (backToKw pos (keywordEach kws X.env)).any (·.1.isNone)) = false := by rfl) :
    PE X (.Call (.Name x p) [] kws pos) (tCallK sp gV E tNil tk) := by
  constructor
  intro pins s σ H Q I h
  refine wpAny_Call_Name_kw (ld_glob I hg hm ?_ hdb)
  refine PySem.W.callWith_KW0 (h₀ := X.base) I.ok.mod.kin hk hall ?_ hpl
  apply thn (hkw.run pos pins s σ H _ I h)
  rintro ws s2 ⟨zs, H2, I2, rz, q2⟩
  refine ⟨I2.kIn, ?_⟩
  rw [hks]
  exact run_fnk (us := []) (vs := []) F hr hb hx I2 .nil rz q2
end

/-! ### a def that asks that no repr is under way -/
structure FnG (P : Program) (w : World) (K : PySem.W.Frag) (mg : Str → Option Value) (base : Heap) (k : Nat) (f : Addr) (fd : FuncData) (ps : List Str) (sp : Sp) : Prop where
  len : ∀ vs H Q E, sp vs H Q E → vs.length = ps.length
  run : ∀ (A : Around) (outer : List Env) (s : Shared) (H : Hp) (args : Args) (us : List Value) (vs : List V) (Q : VK) (E : XK), A.guards = some [] → Room k A → Env0 P w K mg base A outer s H → BindsTo s fd args (ps.zip us) →
    Vals vs us → sp vs H Q E → codeAny (model P w) A (.call (.ref f) args) (CR CX0 outer P w H s Q E) s
section
variable {P : Program} {w : World} {K : PySem.W.Frag} {mg : Str → Option Value} {base : Heap}
theorem okG {x qual : Str} {st : Stmt} {f : Addr} {fd : FuncData} {N ps : List Str} {k : Nat} {sp : Sp} (F : Fun K x qual st f fd) (S : FnScope N ps (defScope st)) (len : ∀ vs H Q E, sp vs H Q E → vs.length = ps.length)
    (body : ∀ (cdv : Value) (A : Around) (outer : List Env) (s : Shared) (H : Hp) (vs : List V) (Q : VK) (E : XK), A.guards = some [] → Room k (A.deeper (envOfC qual (defScope st) s.heap.objs.size f cdv)) → sp vs H Q E →
      ∃ t, PSs (cxOf CX0 P w K mg base N qual (defScope st) f cdv A outer s H E).nox (defBody st) t ∧ t { nx := fun _ H' => Q .non H', rt := Q } (start N vs) H) : FnG P w K mg base (k + 1) f fd ps sp := by
  obtain ⟨oc, od, kV, doc, pm, an, cdv, ct, osl, rfl, lk, hcd⟩ := F.ex
  refine ⟨len, fun A outer s H args us vs Q E hg hr e0 hb r hsp => ?_⟩
  have hl := len _ _ _ _ hsp
  have KX : K.In s.heap := e0.mod.kin.keeps fun b o e => (e0.bs b o e).1
  have lim : s.heap.NoLimit := e0.mod.nolimit.keeps fun b o e => (e0.bs b o e).1
  have kinds : ∀ y ∈ ps.zip us, (defScope st).names.lookup y.1 = some .local ∨ ((defScope st).names.lookup y.1 = some .cell ∧ ((cellsFrom (s.heap.objs.size + 1) (defScope st).names []).lookup y.1).isSome = true) := by
    rintro ⟨n, v⟩ hy
    exact (S.par n (List.of_mem_zip hy).1).imp id fun q => ⟨q, PySem.W.cellsFrom_some _ _ _ (.inl q)⟩
  apply codeAny_call_function hr.depth (KX _ _ lk) rfl S.co S.gen rfl (PySem.W.codeRec_of KX hcd) (hb _ _ _ _ _)
  apply wpAny_newFunctionEnv_cells S.kind kinds
  rintro env rfl s1 x
  refine ⟨lim.keeps x.toInCall.keep, codeAny_func ?_⟩
  obtain ⟨t, ht, hq⟩ := body cdv A outer s H vs Q E hg (hr.deeper _) hsp
  have I : Inv (cxOf CX0 P w K mg base N qual (defScope st) f cdv A outer s H E) [] (start N vs) H s1 := inv_start S hr.hd e0 hl r x
  refine wpAny_mono (ht.nox.run [] s1 (start N vs) H _ I hq) (fun fl s' hs => ?_) fun _ _ z => z
  cases fl with
  | ret u =>
    obtain ⟨v, σ', H', J, rv, q⟩ := hs
    exact ⟨v, H', J.os, J.bare, J.base, J.hok, rv, q⟩
  | next =>
    obtain ⟨σ', H', J, q⟩ := hs
    exact ⟨V.non, H', J.os, J.bare, J.base, J.hok, rfl, q⟩
  | brk => exact hs.elim fun _ z => z.elim fun _ z => (show False from z.2).elim
  | cont => exact hs.elim fun _ z => z.elim fun _ z => (show False from z.2).elim
end
section
variable {X : Cx}
theorem pe_callG {k : Nat} {f : Addr} {fd : FuncData} {ps : List Str} {sp : Sp} {x : Str} {p pos : Pos} {e : Expr} {es : List Expr} {t : TA}
    (F : FnG X.prog X.w X.K X.mg X.base k f fd ps sp) (hA : X.A.guards = some []) (hr : Room k X.A) (hg : Gl X x) (hm : X.mg x = some (.ref f)) (hk : PySem.W.keepIn X.K (.ref f) = true) (hb : Binds X.K fd ps []) (ha : PA X (e :: es) t)
    (hdb : (x == ("__debug__" : Str)) = false := by decide) (he : starEach (e :: es) X.env = (false, eval e X.env) :: starEach es X.env := by rfl) (hpl : (backTo pos (starEach es X.env)).any (·.1) = false := by rfl) :
    PE X (.Call (.Name x p) (e :: es) [] pos) (tCall sp [] E0 t) := by
  constructor
  intro pins s σ H Q I h
  refine wpAny_Call_Name_kw (ld_glob I hg hm ?_ hdb)
  refine PySem.W.callWith_K (h₀ := X.base) I.ok.mod.kin hk (thn (ha.run pos pins s σ H _ I h) fun us s1 ⟨vs, H1, I1, r, q⟩ => ⟨I1.kIn, ?_⟩) he hpl
  have r2 : Vals (vs ++ []) (us ++ []) := r.append .nil
  have hl : (us ++ []).length = ps.length := by rw [← r2.length]; exact F.len _ _ _ _ q
  refine wpAny_call (codeAny_mono (F.run X.A X.stack s1 H1 ⟨us, []⟩ (us ++ []) (vs ++ []) Q E0 hA hr I1.env0 (hb s1 us I1.kIn hl) r2 q) fun r s' hq => ?_)
  cases r with
  | error e => exact hq.elim
  | ok fl =>
    cases fl with
    | ret u => exact I1.after hq
    | next => exact hq.elim
    | brk => exact hq.elim
    | cont => exact hq.elim
end
end K53

/-! K53ExtB: the law's call, for a law that asks that no repr is under way. -/
namespace K53
open PySem PySem.Spec PyProof.Rows L2

/-- the abstract heap at the law's entry: the script, locked, or nothing -/
def scriptOnly (a : Addr) (o : Obj) (xs : List V) : Hp := fun b => if b = a then some (.frz o (.lst xs)) else none
theorem callG {P : Program} {w : World} {K : PySem.W.Frag} {mg mb : Str → Option Value} {k : Nat} {fa a : Addr} {fd : FuncData} {x : Str} {sp : Sp} {s : Shared} {H : Hp}
    (KX : K.In s.heap) (hns : s.heap.Ns mainGlobals mg) (hb : s.heap.Ns builtinsNs mb) (hbb : ∀ x : Str, x ≠ "__name__" → mb x = bootBuiltins x) (hlim : s.heap.NoLimit) (hg : s.gens = #[]) (hr : Room k callerA)
    (F : ∀ base : Heap, K.In base → base.Ns mainGlobals mg → FnG P w K mg base k fa fd [x] sp) (hbind : ∀ (s : Shared) (u : Value), BindsTo s fd ⟨[u], []⟩ [(x, u)])
    (ok : HOk P w H s.heap) (sole : ∀ b u, H b = some u → ∃ o xs, u = .frz o (.lst xs) ∧ (∃ vs, s.heap.get? b = some { cls := .type "list", data := .seq vs }) ∧ K.lookup b = none)
    (hsp : sp [.ref a] H (fun v _ => v = .bl true) fun _ _ _ => False) :
    codeAny (model P w) callerA (.call (.ref fa) ⟨[.ref a], []⟩) (fun r s' => r = .ok (.ret (.bool true)) ∧ OldK s.heap s'.heap ∧ s'.os = s.os ∧ AllBare s'.gens) s := by
  have notDict : ∀ {b : Addr} {o : Obj} {es : Array DictEntry} {ep : Nat}, s.heap.get? b = some o → o.data = .dict es ep → H b = none := by
    intro b o es ep e d
    cases q : H b with
    | none => rfl
    | some u =>
      obtain ⟨_, _, _, ⟨vs, e2⟩, _⟩ := sole b u q
      rw [e] at e2
      cases e2
      cases d
  have ns : ∀ {b : Addr} {m : Str → Option Value}, s.heap.Ns b m → (hidT s.heap H).Ns b m := by
    rintro b m ⟨o, es, ep, e, d, r⟩
    exact ⟨o, es, ep, hidT_get e (notDict e d), d, r⟩
  have KB : K.In (hidT s.heap H) := by
    intro b o e
    refine hidT_get (KX b o e) ?_
    cases q : H b with
    | none => rfl
    | some u =>
      obtain ⟨_, _, _, _, z⟩ := sole b u q
      rw [e] at z
      cases z
  obtain ⟨mc, l1, l2⟩ := hlim
  have M : Mod K mg (hidT s.heap H) := ⟨KB, ns hns, ⟨mb, ns hb, hbb⟩, mc, ns l1, l2⟩
  have none_in : ∀ b : Addr, b ∉ ([] : List Addr) := fun b z => nomatch z
  have e0 : Env0 P w K mg (hidT s.heap H) callerA [] s H := ⟨rfl, M, fun b o e => of_hidT e, Nat.le_of_eq (hidT_size _ _), trivial, fun b z => absurd z (none_in b), ok, .of_eq hg⟩
  refine codeAny_mono ((F _ KB (ns hns)).run callerA [] s H ⟨[.ref a], []⟩ [.ref a] [.ref a] _ _ rfl hr e0 (hbind s (.ref a)) (.cons rfl .nil) hsp) fun r s' h => ?_
  cases r with
  | error e => exact h.elim
  | ok fl =>
    cases fl with
    | next => exact h.elim
    | brk => exact h.elim
    | cont => exact h.elim
    | ret u =>
      obtain ⟨v, H', os, bare, un, ok', r', q⟩ := h
      obtain rfl : v = .bl true := q
      obtain rfl : u = Value.bool true := r'
      refine ⟨rfl, OldK.of_keep fun b o e => ?_, os, bare⟩
      cases q : H b with
      | none => exact un.keep b o e q (none_in b) (none_in b)
      | some u =>
        obtain ⟨ob, xs, rfl, _, _⟩ := sole b u q
        obtain ⟨z1, _⟩ := ok b _ q
        obtain ⟨z2, _⟩ := ok' b _ (un.frzs b ob _ q)
        rw [e] at z1
        cases z1
        exact z2
/-- what k_head leaves, from such a promise -/
theorem walkG {l : PySem.W.OpenLaw} {n k : Nat} {q : Program} {loose : List Str} {XP : (Str → Option Value) → Heap → Prop} {YP : World → Heap → Prop} {d : DefRec} {K : Params → PySem.W.Frag} {sp : PySem.W.Frag → Sp} {x : Str}
    (hn : l.most = some n) (hn2 : n ≤ sizeLine) (hdf : d.params.defaults = []) (hr : Room k callerA) (hY : ∀ (w : World) (h : Heap), YP w h → (K w.params).In h)
    (F : ∀ (w : World) (mg : Str → Option Value) (fa : Addr) (h : Heap), (K w.params).In h → h.Ns mainGlobals mg → mg d.name = some (.ref fa) →
      ∃ fd : FuncData, (∀ (s : Shared) (u : Value), BindsTo s fd ⟨[u], []⟩ [(x, u)]) ∧ ∀ base : Heap, (K w.params).In base → base.Ns mainGlobals mg → FnG l.prog w (K w.params) mg base k fa fd [x] (sp (K w.params)))
    (hsp : ∀ (K : PySem.W.Frag) (H : Hp) (a : Addr) (ns : List Int), ns.length ≤ n → SqL K H a (ns.map V.int) → sp K [.ref a] H (fun v _ => v = .bl true) fun _ _ _ => False) :
    PySem.W.WalkO q loose XP YP l.row.toRowW d [] (fun f vs => PySem.call f vs) := by
  refine Att.attach_call hn hdf fun w s₀ s₁ mg mb fa o pm cd doc a vs ns G Y ho hd hcd hmg hobj hints hlen hg => ?_
  have KX := hY w _ Y
  obtain ⟨fd, hb, hF⟩ := F w mg fa _ KX G.T.g hmg
  have rv := vals_ints hints
  have hz : (ns.map V.int).length ≤ sizeLine := by rw [List.length_map]; exact Nat.le_trans hlen hn2
  cases hk : (K w.params).lookup a with
  | some o =>
    have e := KX a o hk
    rw [hobj] at e
    cases e
    refine callG (H := fun _ => none) KX G.T.g G.T.b G.T.builtins G.T.nolimit hg hr hF hb (fun b u z => nomatch z) (fun b u z => nomatch z) (hsp _ _ a ns hlen ?_)
    exact .inr ⟨_, vs.toArray, _, hk, rfl, rfl, rfl, by rw [List.size_toArray, ← rv.length]; exact hz, by simpa using rv⟩
  | none =>
    refine callG (H := scriptOnly a { cls := .type "list", data := .seq vs.toArray } (ns.map V.int)) KX G.T.g G.T.b G.T.builtins G.T.nolimit hg hr hF hb (fun b u z => ?_) (fun b u z => ?_) (hsp _ _ a ns hlen (.inl (.inr ⟨_, if_pos rfl⟩)))
    all_goals
      unfold scriptOnly at z
      by_cases hb : b = a
      · subst hb
        rw [if_pos rfl] at z
        cases z
        first
          | exact ⟨hobj, hz, vs, _, rv, hobj⟩
          | exact ⟨_, _, rfl, ⟨_, hobj⟩, hk⟩
      · rw [if_neg hb] at z
        cases z
end K53

/-! K53ExtC: zip(xs, ys, strict=True) over two lists of one length: its draws. -/
namespace K53
open PySem PySem.Spec PyProof.Rows L2

/-- a zip that is strict: f0 the tuple that is out, f1 that this is known to it -/
abbrev SZip (h : Heap) (z TI TO : Addr) (f0 : Value) (f1 : Bool) : Prop :=
  h.get? z = some { cls := .type "zip", dict := none, data := .fields #[f0, .bool f1, .bool true, .ref TI, .ref TO], slots := #[] }
section
variable {prog : Program} {w : World} {A : Around} {E : Value → Shared → Prop} {s : Shared}

theorem draw_item {it l : Addr} {i : Nat} {items : Array Value} {x : Value} {Q : Option Value → Shared → Prop} (hit : s.heap.IsListIter it l i) (hl : s.heap.IsList l items) (hx : items[i]? = some x)
    (hQ : ∀ h', h'.IsListIter it l (i + 1) → Heap.SameBut it s.heap h' → Q (some x) { s with heap := h' }) : wpAny (model prog w) A (Builtin.SmallTypes.nextOrEnd (.ref it)) Q E s := by
  unfold Builtin.SmallTypes.nextOrEnd
  exact wpAny_bind (wpAny_attempt (wpAny_nextOf_list_item hit hl hx fun h' a b => wpAny_pure (hQ h' a b)))
theorem draw_end {it l : Addr} {i : Nat} {items : Array Value} {Q : Option Value → Shared → Prop} (hh : A.handled = none) (hit : s.heap.IsListIter it l i) (hl : s.heap.IsList l items) (hx : items[i]? = none)
    (hQ : ∀ h', Heap.ExtBut it s.heap h' → Q none { s with heap := h' }) : wpAny (model prog w) A (Builtin.SmallTypes.nextOrEnd (.ref it)) Q E s := by
  unfold Builtin.SmallTypes.nextOrEnd
  refine wpAny_bind (wpAny_attempt (wpAny_nextOf_list_end hh hit hl hx fun h' e keep he => ?_))
  obtain ⟨o, ho, hc⟩ := he
  exact wpAny_bind (wpAny_isInstance (T := "StopIteration") (b := true) ⟨o, ho, hc⟩ isSubtype_stop (wpAny_pure (hQ h' keep)))
theorem stop_new {α : Type} {Q : α → Shared → Prop} (hh : A.handled = none) (hE : ∀ h' e, (∀ b o, s.heap.get? b = some o → h'.get? b = some o) → (∃ o, h'.get? e = some o ∧ o.cls = .type "StopIteration") → E (.ref e) { s with heap := h' }) :
    wpAny (model prog w) A (Builtin.SmallTypes.stopIteration : Sem α) Q E s := by
  unfold Builtin.SmallTypes.stopIteration
  refine wpAny_bind ?_
  simp only [newExc, newTuple]
  refine wpAny_bind (wpAny_newObj_type ?_ (by size_fits))
  refine wpAny_bind (m := firstArgMember _ _) (wpAny_of_eq (a := Value.none) (by first | rfl | (simp only [firstArgMember]; rfl)) ?_)
  refine wpAny_newObj_type ?_ (by size_fits)
  simp only [raiseNew]
  refine wpAny_bind (wpAny_handled ?_)
  rw [hh]
  refine wpAny_bind (wpAny_pure (wpAny_throw ?_))
  exact hE _ _ (fun b o q => Heap.get?_push_of_some _ (Heap.get?_push_of_some _ q)) ⟨_, Heap.get?_push_size _ rfl, rfl⟩

variable {z TI TO i1 i2 l1 l2 : Addr} {k : Nat} {xs ys : Array Value}
theorem szip_item_free {x y a b : Value} {f : Bool} {Q : Value → Shared → Prop} (D : ZipApart z TI TO i1 i2 l1 l2)
    (hz : SZip s.heap z TI TO .none f) (hTI : IsPair s.heap TI (.ref i1) (.ref i2)) (hTO : IsPair s.heap TO a b)
    (h1 : s.heap.IsListIter i1 l1 k) (h2 : s.heap.IsListIter i2 l2 k) (hl1 : s.heap.IsList l1 xs) (hl2 : s.heap.IsList l2 ys) (hx : xs[k]? = some x) (hy : ys[k]? = some y)
    (hQ : ∀ h', (∃ f', SZip h' z TI TO (rawInt s.heap.objs.size) f') → IsPair h' TO x y → h'.IsListIter i1 l1 (k + 1) → h'.IsListIter i2 l2 (k + 1) → IsPair h' s.heap.objs.size x y → h'.objs.size = s.heap.objs.size + 1 →
      (∀ c o, c ≠ z → c ≠ TO → c ≠ i1 → c ≠ i2 → s.heap.get? c = some o → h'.get? c = some o) → Q (.ref s.heap.objs.size) { s with heap := h' }) :
    wpAny (model prog w) A (Builtin.«zip.__next__» ⟨[.ref z], []⟩) (fun fin s' => ∃ v, fin = .done (.ret v) ∧ Q v s') E s := by
  show wpAny _ _ (field (.ref z) 2 >>= _) _ _ _
  apply wpAny_bind
  apply wpAny_field hz rfl (x := .bool true) rfl
  show wpAny _ _ (field (.ref z) 3 >>= _) _ _ _
  apply wpAny_bind
  apply wpAny_field hz rfl (x := .ref TI) rfl
  apply wpAny_bind
  apply wpAny_seqItems hTI rfl
  show wpAny _ _ (Builtin.SmallTypes.ownedTupleIsFree (.ref z) >>= _) _ _ _
  apply wpAny_bind
  unfold Builtin.SmallTypes.ownedTupleIsFree
  apply wpAny_bind
  apply wpAny_field hz rfl (x := .none) rfl
  apply wpAny_pure
  simp only [if_true]
  apply wpAny_bind
  apply wpAny_rule
  apply wpAny_bind
  apply wpAny_field hz rfl (x := .ref TO) rfl
  apply wpAny_bind
  refine wpAny_setField_rec hz (by simp) fun g1 z1 s1 => ?_
  replace z1 : SZip g1 z TI TO .ellipsis f := z1
  apply wpAny_bind
  simp only [List.zipIdx_cons, List.zipIdx_nil, List.forIn_cons, List.forIn_nil]
  -- the first
  apply wpAny_bind
  apply wpAny_bind
  apply wpAny_onRaise
  show wpAny _ _ (Builtin.SmallTypes.nextOrEnd (.ref i1)) _ _ _
  refine draw_item (h1.extBut s1.extBut D.i1z) (hl1.extBut s1.extBut D.l1z) hx fun g2 it2 s2 => ?_
  have TO2 : IsPair g2 TO a b := s2.extBut _ _ D.TOi1 (s1.extBut _ _ D.TOz hTO)
  apply wpAny_bind
  apply wpAny_seqItems TO2 rfl
  apply wpAny_bind
  refine wpAny_updateSeq_pair TO2 fun g3 TO3 s3 => ?_
  replace TO3 : IsPair g3 TO x b := TO3
  apply wpAny_bind
  apply wpAny_letGo
  apply wpAny_pure
  -- the second
  apply wpAny_bind
  apply wpAny_bind
  apply wpAny_onRaise
  show wpAny _ _ (Builtin.SmallTypes.nextOrEnd (.ref i2)) _ _ _
  refine draw_item (((h2.extBut s1.extBut D.i2z).extBut s2.extBut D.i12.symm).extBut s3.extBut D.TOi2.symm) (((hl2.extBut s1.extBut D.l2z).extBut s2.extBut D.l2i1).extBut s3.extBut D.l2TO) hy fun g4 it4 s4 => ?_
  have TO4 : IsPair g4 TO x b := s4.extBut _ _ D.TOi2 TO3
  apply wpAny_bind
  apply wpAny_seqItems TO4 rfl
  apply wpAny_bind
  refine wpAny_updateSeq_pair TO4 fun g5 TO5 s5 => ?_
  replace TO5 : IsPair g5 TO x y := TO5
  apply wpAny_bind
  apply wpAny_letGo
  apply wpAny_pure
  apply wpAny_pure
  -- the tuple
  apply wpAny_bind
  apply wpAny_seqItems TO5 rfl
  refine wpAny_bind (wpAny_newTuple ?_)
  have sz : g5.objs.size = s.heap.objs.size := by rw [s5.1, s4.1, s3.1, s2.1, s1.1]
  have z5 : SZip g5 z TI TO .ellipsis f := s5.extBut _ _ D.TOz.symm (s4.extBut _ _ D.i2z.symm (s3.extBut _ _ D.TOz.symm (s2.extBut _ _ D.i1z.symm z1)))
  have k5 : ∀ c o, c ≠ z → c ≠ TO → c ≠ i1 → c ≠ i2 → s.heap.get? c = some o → g5.get? c = some o := fun c o c1 c2 c3 c4 e =>
    s5.extBut _ _ c2 (s4.extBut _ _ c4 (s3.extBut _ _ c2 (s2.extBut _ _ c3 (s1.extBut _ _ c1 e))))
  have a1 : g5.IsListIter i1 l1 (k + 1) := ((it2.extBut s3.extBut D.TOi1.symm).extBut s4.extBut D.i12).extBut s5.extBut D.TOi1.symm
  have a2 : g5.IsListIter i2 l2 (k + 1) := it4.extBut s5.extBut D.TOi2.symm
  have zlt : z < g5.objs.size := Heap.lt_size z5
  show wpAny _ _ (Builtin.SmallTypes.ownedTupleHandOut (.ref z) (.ref g5.objs.size) >>= _) _ _ _
  apply wpAny_bind
  unfold Builtin.SmallTypes.ownedTupleHandOut
  have z6 : SZip (g5.push { cls := .type "tuple", data := .seq #[x, y] }) z TI TO .ellipsis f := Heap.get?_push_of_some _ z5
  apply wpAny_bind
  refine wpAny_setField_rec z6 (by simp) fun g7 z7 s7 => ?_
  refine wpAny_setField_rec z7 (by simp) fun g8 z8 s8 => ?_
  have up : ∀ c o, c ≠ z → g5.get? c = some o → g8.get? c = some o := fun c o c1 e => s8.extBut _ _ c1 (s7.extBut _ _ c1 (Heap.get?_push_of_some _ e))
  have T8 : IsPair g8 g5.objs.size x y := s8.extBut _ _ (Nat.ne_of_gt zlt) (s7.extBut _ _ (Nat.ne_of_gt zlt) (Heap.get?_push_size _ rfl))
  have n8 : g8.objs.size = g5.objs.size + 1 := by rw [s8.1, s7.1, Heap.size_push]
  have z8' : ∃ f', SZip g8 z TI TO (rawInt g5.objs.size) f' := ⟨_, z8⟩
  rw [sz] at z8' T8 n8
  refine wpAny_pure ⟨_, rfl, ?_⟩
  show Q (.ref g5.objs.size) _
  rw [sz]
  exact hQ g8 z8' (up _ _ D.TOz TO5) (a1.at fun o e => up _ o D.i1z e) (a2.at fun o e => up _ o D.i2z e) T8 n8 fun c o c1 c2 c3 c4 e => up c o c1 (k5 c o c1 c2 c3 c4 e)

theorem free_held {T : Addr} {f : Bool} {oT : Obj} {Q : Bool → Shared → Prop} (hz : SZip s.heap z TI TO (rawInt T) f) (hT : s.heap.get? T = some oT)
    (h : ∀ h', SZip h' z TI TO (rawInt T) true → Heap.SameBut z s.heap h' → Q false { s with heap := h' }) : wpAny (model prog w) A (Builtin.SmallTypes.ownedTupleIsFree (.ref z)) Q E s := by
  unfold Builtin.SmallTypes.ownedTupleIsFree
  apply wpAny_bind
  apply wpAny_field hz rfl (x := rawInt T) rfl
  show wpAny _ _ (loadIfAlive ((T : Int).toNat) >>= _) _ _ _
  rw [Int.toNat_natCast]
  apply wpAny_bind
  apply PySem.W.kdx_alive hT
  simp only [Option.isNone_some, Bool.false_eq_true, if_false]
  apply wpAny_bind
  apply wpAny_field hz rfl (x := .bool f) rfl
  cases f with
  | true =>
    rw [if_neg (show ¬ ((Value.bool true != Value.bool true) = true) from Bool.false_ne_true)]
    exact wpAny_pure (h s.heap hz (Heap.SameBut.refl _ _))
  | false =>
    rw [if_pos (show (Value.bool false != Value.bool true) = true from rfl)]
    exact wpAny_bind (wpAny_setField_rec hz (by simp) fun g1 z1 s1 => wpAny_pure (h g1 z1 s1))
theorem szip_item_held {T : Addr} {oT : Obj} {x y : Value} {f : Bool} {Q : Value → Shared → Prop} (D : ZipApart z TI TO i1 i2 l1 l2)
    (hz : SZip s.heap z TI TO (rawInt T) f) (hT : s.heap.get? T = some oT) (hTI : IsPair s.heap TI (.ref i1) (.ref i2))
    (h1 : s.heap.IsListIter i1 l1 k) (h2 : s.heap.IsListIter i2 l2 k) (hl1 : s.heap.IsList l1 xs) (hl2 : s.heap.IsList l2 ys) (hx : xs[k]? = some x) (hy : ys[k]? = some y)
    (hQ : ∀ h', SZip h' z TI TO (rawInt T) true → h'.IsListIter i1 l1 (k + 1) → h'.IsListIter i2 l2 (k + 1) → IsPair h' s.heap.objs.size x y → h'.objs.size = s.heap.objs.size + 1 →
      (∀ c o, c ≠ z → c ≠ i1 → c ≠ i2 → s.heap.get? c = some o → h'.get? c = some o) → Q (.ref s.heap.objs.size) { s with heap := h' }) :
    wpAny (model prog w) A (Builtin.«zip.__next__» ⟨[.ref z], []⟩) (fun fin s' => ∃ v, fin = .done (.ret v) ∧ Q v s') E s := by
  show wpAny _ _ (field (.ref z) 2 >>= _) _ _ _
  apply wpAny_bind
  apply wpAny_field hz rfl (x := .bool true) rfl
  show wpAny _ _ (field (.ref z) 3 >>= _) _ _ _
  apply wpAny_bind
  apply wpAny_field hz rfl (x := .ref TI) rfl
  apply wpAny_bind
  apply wpAny_seqItems hTI rfl
  show wpAny _ _ (Builtin.SmallTypes.ownedTupleIsFree (.ref z) >>= _) _ _ _
  apply wpAny_bind
  refine free_held hz hT fun g1 z1 s1 => ?_
  simp only [Bool.false_eq_true, if_false]
  apply wpAny_bind
  rw [← Array.forIn_toList]
  simp only [List.forIn_cons, List.forIn_nil]
  apply wpAny_bind
  apply wpAny_bind
  apply wpAny_holding
  show wpAny _ _ (Builtin.SmallTypes.nextOrEnd (.ref i1)) _ _ _
  refine draw_item (s := { s with heap := g1 }) (h1.extBut s1.extBut D.i1z) (hl1.extBut s1.extBut D.l1z) hx fun g2 it2 s2 => ?_
  apply wpAny_pure
  apply wpAny_bind
  apply wpAny_bind
  apply wpAny_holding
  show wpAny _ _ (Builtin.SmallTypes.nextOrEnd (.ref i2)) _ _ _
  refine draw_item (s := { s with heap := g2 }) ((h2.extBut s1.extBut D.i2z).extBut s2.extBut D.i12.symm) ((hl2.extBut s1.extBut D.l2z).extBut s2.extBut D.l2i1) hy fun g3 it3 s3 => ?_
  apply wpAny_pure
  apply wpAny_pure
  show wpAny _ _ (newTuple [x, y] >>= _) _ _ _
  refine wpAny_bind (wpAny_newTuple ?_)
  have sz : g3.objs.size = s.heap.objs.size := by rw [s3.1, s2.1, s1.1]
  have z3 : SZip g3 z TI TO (rawInt T) true := s3.extBut _ _ D.i2z.symm (s2.extBut _ _ D.i1z.symm z1)
  have kk : ∀ c o, c ≠ z → c ≠ i1 → c ≠ i2 → s.heap.get? c = some o → g3.get? c = some o := fun c o c1 c2 c3 e => s3.extBut _ _ c3 (s2.extBut _ _ c2 (s1.extBut _ _ c1 e))
  have it1 : g3.IsListIter i1 l1 (k + 1) := it2.extBut s3.extBut D.i12
  refine wpAny_pure ⟨_, rfl, ?_⟩
  show Q (.ref g3.objs.size) _
  have hp : IsPair (g3.push { cls := .type "tuple", data := .seq #[x, y] }) g3.objs.size x y := Heap.get?_push_size _ rfl
  have n4 : (g3.push { cls := .type "tuple", data := .seq #[x, y] }).objs.size = g3.objs.size + 1 := Heap.size_push ..
  rw [sz] at hp n4 ⊢
  exact hQ _ (Heap.get?_push_of_some _ z3) (it1.at fun o e => Heap.get?_push_of_some _ e) (it3.at fun o e => Heap.get?_push_of_some _ e) hp n4 fun c o c1 c2 c3 e => Heap.get?_push_of_some _ (kk c o c1 c2 c3 e)

theorem szip_end {a b f0 : Value} {f : Bool} {Q : Fin → Shared → Prop} (hh : A.handled = none) (D : ZipApart z TI TO i1 i2 l1 l2)
    (hz : SZip s.heap z TI TO f0 f) (hf : f0 = .none ∨ ∃ T oT, f0 = rawInt (T : Nat) ∧ s.heap.get? T = some oT) (hTI : IsPair s.heap TI (.ref i1) (.ref i2)) (hTO : IsPair s.heap TO a b)
    (h1 : s.heap.IsListIter i1 l1 k) (h2 : s.heap.IsListIter i2 l2 k) (hl1 : s.heap.IsList l1 xs) (hl2 : s.heap.IsList l2 ys) (hx : xs[k]? = none) (hy : ys[k]? = none)
    (hE : ∀ h' e, (∀ c o, c ≠ z → c ≠ TO → c ≠ i1 → c ≠ i2 → s.heap.get? c = some o → h'.get? c = some o) → (∃ o, h'.get? e = some o ∧ o.cls = .type "StopIteration") → E (.ref e) { s with heap := h' }) :
    wpAny (model prog w) A (Builtin.«zip.__next__» ⟨[.ref z], []⟩) Q E s := by
  show wpAny _ _ (field (.ref z) 2 >>= _) _ _ _
  apply wpAny_bind
  apply wpAny_field hz rfl (x := .bool true) rfl
  show wpAny _ _ (field (.ref z) 3 >>= _) _ _ _
  apply wpAny_bind
  apply wpAny_field hz rfl (x := .ref TI) rfl
  apply wpAny_bind
  apply wpAny_seqItems hTI rfl
  show wpAny _ _ (Builtin.SmallTypes.ownedTupleIsFree (.ref z) >>= _) _ _ _
  apply wpAny_bind
  rcases hf with rfl | ⟨T, oT, rfl, hT⟩
  · unfold Builtin.SmallTypes.ownedTupleIsFree
    apply wpAny_bind
    apply wpAny_field hz rfl (x := .none) rfl
    apply wpAny_pure
    simp only [if_true]
    apply wpAny_bind
    apply wpAny_rule
    apply wpAny_bind
    apply wpAny_field hz rfl (x := .ref TO) rfl
    apply wpAny_bind
    refine wpAny_setField_rec hz (by simp) fun g1 z1 s1 => ?_
    replace z1 : SZip g1 z TI TO .ellipsis f := z1
    apply wpAny_bind
    simp only [List.zipIdx_cons, List.zipIdx_nil, List.forIn_cons, List.forIn_nil]
    apply wpAny_bind
    apply wpAny_bind
    apply wpAny_onRaise
    show wpAny _ _ (Builtin.SmallTypes.nextOrEnd (.ref i1)) _ _ _
    refine draw_end hh (h1.extBut s1.extBut D.i1z) (hl1.extBut s1.extBut D.l1z) hx fun g2 s2 => ?_
    have z2 : SZip g2 z TI TO .ellipsis f := s2 _ _ D.i1z.symm z1
    apply wpAny_bind
    refine wpAny_setField_rec z2 (by simp) fun g3 z3 s3 => ?_
    apply wpAny_bind
    show wpAny _ _ (forIn [((Value.ref i2 : Value), 1)] PUnit.unit _ >>= _) _ _ _
    simp only [List.forIn_cons, List.forIn_nil]
    apply wpAny_bind
    apply wpAny_bind
    apply wpAny_bind
    refine draw_end hh (((h2.extBut s1.extBut D.i2z).extBut s2 D.i12.symm).extBut s3.extBut D.i2z) (((hl2.extBut s1.extBut D.l2z).extBut s2 D.l2i1).extBut s3.extBut D.l2z) hy fun g4 s4 => ?_
    simp only [Option.isSome_none, Bool.false_eq_true, if_false]
    apply wpAny_pure
    apply wpAny_pure
    apply wpAny_bind
    apply wpAny_rule
    refine stop_new hh fun h' e keep he => hE h' e (fun c o c1 c2 c3 c4 q => keep c o (s4 c o c4 (s3.extBut c o c1 (s2 c o c3 (s1.extBut c o c1 q))))) he
  · refine free_held hz hT fun g1 z1 s1 => ?_
    simp only [Bool.false_eq_true, if_false]
    apply wpAny_bind
    rw [← Array.forIn_toList]
    simp only [List.forIn_cons, List.forIn_nil]
    apply wpAny_bind
    apply wpAny_bind
    apply wpAny_holding
    show wpAny _ _ (Builtin.SmallTypes.nextOrEnd (.ref i1)) _ _ _
    refine draw_end (s := { s with heap := g1 }) hh (h1.extBut s1.extBut D.i1z) (hl1.extBut s1.extBut D.l1z) hx fun g2 s2 => ?_
    apply wpAny_bind
    show wpAny _ _ (forIn [((Value.ref i2 : Value), 1)] PUnit.unit _ >>= _) _ _ _
    simp only [List.forIn_cons, List.forIn_nil]
    apply wpAny_bind
    apply wpAny_bind
    apply wpAny_bind
    refine draw_end hh ((h2.extBut s1.extBut D.i2z).extBut s2 D.i12.symm) ((hl2.extBut s1.extBut D.l2z).extBut s2 D.l2i1) hy fun g4 s4 => ?_
    simp only [Option.isSome_none, Bool.false_eq_true, if_false]
    apply wpAny_pure
    apply wpAny_pure
    apply wpAny_bind
    apply wpAny_rule
    refine stop_new hh fun h' e keep he => hE h' e (fun c o c1 c2 c3 c4 q => keep c o (s4 c o c4 (s2 c o c3 (s1.extBut c o c1 q)))) he
end
end K53

/-! K53ExtD: zip(xs, ys, strict=True): made, walked by a comprehension, handed to dict. -/
namespace K53
open PySem PySem.Spec PyProof.Rows L2

theorem typeCall_zipS (a b v : Value) : checkTypeCall "zip" ⟨[a, b], [(Str.ofString "strict", v)]⟩ = pure () := by kernel_rfl
theorem newCall_zipS (a b v : Value) : checkBuiltinCall "zip.__new__" ⟨[.type "zip", a, b], [(Str.ofString "strict", v)]⟩ = pure () := by kernel_rfl
theorem args_zipS (o a b v : Value) : argsOk "object.__init__" ⟨[o, a, b], [(Str.ofString "strict", v)]⟩ := by unfold argsOk; kernel_rfl

abbrev zs1 (h : Heap) (l1 : Addr) : Heap := h.push { cls := .type "list_iterator", data := .fields #[.ref l1, .int 0 0] }
abbrev zs2 (h : Heap) (l1 l2 : Addr) : Heap := (zs1 h l1).push { cls := .type "list_iterator", data := .fields #[.ref l2, .int 0 0] }
abbrev zs3 (h : Heap) (l1 l2 : Addr) : Heap := (zs2 h l1 l2).push { cls := .type "tuple", data := .seq #[.ref h.objs.size, .ref (zs1 h l1).objs.size] }
abbrev zs4 (h : Heap) (l1 l2 : Addr) : Heap := (zs3 h l1 l2).push { cls := .type "tuple", data := .seq #[.none, .none] }
abbrev zs5 (h : Heap) (l1 l2 : Addr) : Heap := (zs4 h l1 l2).push { cls := .type "zip", data := .fields #[.none, .bool false, .bool true, .ref (zs2 h l1 l2).objs.size, .ref (zs3 h l1 l2).objs.size] }
theorem meets_zipS (l1 l2 : Addr) (xs ys : Array Value) :
    Meets (Builtin.«zip.__new__» ⟨[.type "zip", .ref l1, .ref l2], [(Str.ofString "strict", .bool true)]⟩) (fun _ R s => s.heap.IsList l1 xs ∧ s.heap.IsList l2 ys ∧
      R (.ok (.ret (.ref (zs4 s.heap l1 l2).objs.size))) { s with heap := zs5 s.heap l1 l2 }) :=
  .of_wp fun prog w A R s h => by
    obtain ⟨hp, g, d, tk, os⟩ := s
    obtain ⟨hl1, hl2, h⟩ := h
    have hsub := sub_zip
    have hL1 : Heap.IsList (Shared.heap ⟨hp, g, d, tk, os⟩) l1 xs := hl1
    have hL2 : Heap.IsList (Shared.heap ⟨hp.push { cls := .type "list_iterator", data := .fields #[.ref l1, .int 0 0] }, g, d, tk, os⟩) l2 ys := Heap.IsList.push hl2 _
    wp_walk using wpAny_pyIter_list hL1, wpAny_pyIter_list hL2
    exact ⟨_, rfl, h⟩
section
variable {prog : Program} {w : World} {A : Around} {E : Value → Shared → Prop} {s : Shared}
theorem call_zipS {l1 l2 : Addr} {xs ys : Array Value} {Q : Value → Shared → Prop} (hl1 : s.heap.IsList l1 xs) (hl2 : s.heap.IsList l2 ys)
    (h : ∀ h', SZip h' (s.heap.objs.size + 4) (s.heap.objs.size + 2) (s.heap.objs.size + 3) .none false → IsPair h' (s.heap.objs.size + 2) (.ref s.heap.objs.size) (.ref (s.heap.objs.size + 1)) →
      IsPair h' (s.heap.objs.size + 3) .none .none → h'.IsListIter s.heap.objs.size l1 0 → h'.IsListIter (s.heap.objs.size + 1) l2 0 → h'.objs.size = s.heap.objs.size + 5 →
      (∀ c o, s.heap.get? c = some o → h'.get? c = some o) → Q (.ref (s.heap.objs.size + 4)) { s with heap := h' }) :
    wpAny (model prog w) A (call (.type "zip") [.ref l1, .ref l2] [(Str.ofString "strict", .bool true)]) Q E s := by
  refine callType_newKw F.called_zip (by decide) (typeCall_zipS _ _ _) (newCall_zipS _ _ _) (fun obj => args_zipS obj _ _ _) F.entry_zip_new (meets_zipS l1 l2 xs ys) ⟨hl1, hl2, ?_⟩
  have n1 : (zs1 s.heap l1).objs.size = s.heap.objs.size + 1 := Heap.size_push ..
  have n2 : (zs2 s.heap l1 l2).objs.size = s.heap.objs.size + 2 := by rw [Heap.size_push, n1]
  have n3 : (zs3 s.heap l1 l2).objs.size = s.heap.objs.size + 3 := by rw [Heap.size_push, n2]
  have n4 : (zs4 s.heap l1 l2).objs.size = s.heap.objs.size + 4 := by rw [Heap.size_push, n3]
  have n5 : (zs5 s.heap l1 l2).objs.size = s.heap.objs.size + 5 := by rw [Heap.size_push, n4]
  have p : ∀ {g : Heap} {c : Addr} {o u : Obj}, g.get? c = some o → (g.push u).get? c = some o := fun q => Heap.get?_push_of_some _ q
  have g5 : (zs5 s.heap l1 l2).get? (zs4 s.heap l1 l2).objs.size = some _ := Heap.get?_push_size _ rfl
  have g4 : (zs5 s.heap l1 l2).get? (zs3 s.heap l1 l2).objs.size = some _ := p (Heap.get?_push_size _ rfl)
  have g3 : (zs5 s.heap l1 l2).get? (zs2 s.heap l1 l2).objs.size = some _ := p (p (Heap.get?_push_size _ rfl))
  have g2 : (zs5 s.heap l1 l2).get? (zs1 s.heap l1).objs.size = some _ := p (p (p (Heap.get?_push_size _ rfl)))
  have g1 : (zs5 s.heap l1 l2).get? s.heap.objs.size = some _ := p (p (p (p (Heap.get?_push_size _ rfl))))
  show _ ∧ _
  rw [n2, n3, n4] at g5
  rw [n1, n2] at g3
  rw [n3] at g4
  rw [n1] at g2
  rw [n4]
  exact ⟨⟨_, g5, rfl⟩, h _ g5 g3 g4 ⟨_, g1, rfl, rfl⟩ ⟨_, g2, rfl, rfl⟩ n5 fun c o q => p (p (p (p (p q))))⟩

/-! ### next, iter -/
variable {z TI TO i1 i2 l1 l2 : Addr} {k : Nat} {xs ys : Array Value}
theorem next_free {x y a b : Value} {f : Bool} {Q : Option Value → Shared → Prop} (D : ZipApart z TI TO i1 i2 l1 l2)
    (hz : SZip s.heap z TI TO .none f) (hTI : IsPair s.heap TI (.ref i1) (.ref i2)) (hTO : IsPair s.heap TO a b)
    (h1 : s.heap.IsListIter i1 l1 k) (h2 : s.heap.IsListIter i2 l2 k) (hl1 : s.heap.IsList l1 xs) (hl2 : s.heap.IsList l2 ys) (hx : xs[k]? = some x) (hy : ys[k]? = some y)
    (hQ : ∀ h', (∃ f', SZip h' z TI TO (rawInt s.heap.objs.size) f') → IsPair h' TO x y → h'.IsListIter i1 l1 (k + 1) → h'.IsListIter i2 l2 (k + 1) → IsPair h' s.heap.objs.size x y → h'.objs.size = s.heap.objs.size + 1 →
      (∀ c o, c ≠ z → c ≠ TO → c ≠ i1 → c ≠ i2 → s.heap.get? c = some o → h'.get? c = some o) → Q (some (.ref s.heap.objs.size)) { s with heap := h' }) : wpAny (model prog w) A (pyNext (.ref z)) Q E s := by
  have hT : s.TypeIs (.ref z) "zip" := ⟨_, hz, rfl⟩
  unfold pyNext
  refine wpAny_bind (wpAny_attempt (wpAny_callSpecial?_slot (name := Str.ofString "__next__") hT F.slot_zip_next (wpAny_call_entry F.slot_zip_next hT F.entry_zip_next ?_ (F.args_zip_next_1 _))))
  exact szip_item_free D hz hTI hTO h1 h2 hl1 hl2 hx hy fun h' a1 a2 a3 a4 a5 a6 a7 => wpAny_pure (hQ h' a1 a2 a3 a4 a5 a6 a7)
theorem next_held {T : Addr} {oT : Obj} {x y : Value} {f : Bool} {Q : Option Value → Shared → Prop} (D : ZipApart z TI TO i1 i2 l1 l2)
    (hz : SZip s.heap z TI TO (rawInt T) f) (hT : s.heap.get? T = some oT) (hTI : IsPair s.heap TI (.ref i1) (.ref i2))
    (h1 : s.heap.IsListIter i1 l1 k) (h2 : s.heap.IsListIter i2 l2 k) (hl1 : s.heap.IsList l1 xs) (hl2 : s.heap.IsList l2 ys) (hx : xs[k]? = some x) (hy : ys[k]? = some y)
    (hQ : ∀ h', SZip h' z TI TO (rawInt T) true → h'.IsListIter i1 l1 (k + 1) → h'.IsListIter i2 l2 (k + 1) → IsPair h' s.heap.objs.size x y → h'.objs.size = s.heap.objs.size + 1 →
      (∀ c o, c ≠ z → c ≠ i1 → c ≠ i2 → s.heap.get? c = some o → h'.get? c = some o) → Q (some (.ref s.heap.objs.size)) { s with heap := h' }) : wpAny (model prog w) A (pyNext (.ref z)) Q E s := by
  have hTy : s.TypeIs (.ref z) "zip" := ⟨_, hz, rfl⟩
  unfold pyNext
  refine wpAny_bind (wpAny_attempt (wpAny_callSpecial?_slot (name := Str.ofString "__next__") hTy F.slot_zip_next (wpAny_call_entry F.slot_zip_next hTy F.entry_zip_next ?_ (F.args_zip_next_1 _))))
  exact szip_item_held D hz hT hTI h1 h2 hl1 hl2 hx hy fun h' a1 a3 a4 a5 a6 a7 => wpAny_pure (hQ h' a1 a3 a4 a5 a6 a7)
theorem next_end {a b f0 : Value} {f : Bool} {Q : Option Value → Shared → Prop} (hh : A.handled = none) (D : ZipApart z TI TO i1 i2 l1 l2)
    (hz : SZip s.heap z TI TO f0 f) (hf : f0 = .none ∨ ∃ T oT, f0 = rawInt (T : Nat) ∧ s.heap.get? T = some oT) (hTI : IsPair s.heap TI (.ref i1) (.ref i2)) (hTO : IsPair s.heap TO a b)
    (h1 : s.heap.IsListIter i1 l1 k) (h2 : s.heap.IsListIter i2 l2 k) (hl1 : s.heap.IsList l1 xs) (hl2 : s.heap.IsList l2 ys) (hx : xs[k]? = none) (hy : ys[k]? = none)
    (hQ : ∀ h', (∀ c o, c ≠ z → c ≠ TO → c ≠ i1 → c ≠ i2 → s.heap.get? c = some o → h'.get? c = some o) → Q none { s with heap := h' }) : wpAny (model prog w) A (pyNext (.ref z)) Q E s := by
  have hTy : s.TypeIs (.ref z) "zip" := ⟨_, hz, rfl⟩
  unfold pyNext
  refine wpAny_bind (wpAny_attempt (wpAny_callSpecial?_slot (name := Str.ofString "__next__") hTy F.slot_zip_next (wpAny_call_entry F.slot_zip_next hTy F.entry_zip_next ?_ (F.args_zip_next_1 _))))
  refine szip_end hh D hz hf hTI hTO h1 h2 hl1 hl2 hx hy fun h' e keep he => ?_
  obtain ⟨o, ho, hc⟩ := he
  exact wpAny_bind (wpAny_isInstance (T := "StopIteration") (b := true) ⟨o, ho, hc⟩ isSubtype_stop (wpAny_pure (hQ _ keep)))
theorem go_szip {elts : List Expr} {x1} {pos : Pos} {T : Addr} {f : Bool} {Q : Unit → Shared → Prop} (hz : SZip s.heap z TI TO (rawInt T) f)
    (hQ : ∀ h', SZip h' z TI TO .none f → Heap.SameBut z s.heap h' → Q () { s with heap := h' }) : wpAny (model prog w) A (letOwnedTupleGo (.Tuple elts x1 pos) (.ref z) (.ref T)) Q E s := by
  unfold letOwnedTupleGo
  apply wpAny_bind
  apply wpAny_load hz
  show wpAny _ _ (if (["enumerate", "zip", "dict_itemiterator", "dict_reverseitemiterator", "odict_iterator", "itertools.zip_longest", "itertools.pairwise"].contains "zip" && (#[rawInt T, .bool f, .bool true, .ref TI, .ref TO] : Array Value)[0]? == some (rawInt T)) = true then _ else _) Q E s
  rw [if_pos (by simp)]
  apply wpAny_bind
  apply wpAny_rule
  show wpAny _ _ (setField (.ref z) 0 .none) Q E s
  exact wpAny_setField_rec hz (by simp) fun h' z' s' => hQ h' z' s'
theorem iter_szip {f0 : Value} {f : Bool} {Q : Value → Shared → Prop} (hz : SZip s.heap z TI TO f0 f) (h : Q (.ref z) s) : wpAny (model prog w) A (pyIter (.ref z)) Q E s := by
  have hT : s.TypeIs (.ref z) "zip" := ⟨_, hz, rfl⟩
  refine wpAny_pyIter_slot hT F.slot_zip_iter (wpAny_call_entry F.slot_zip_iter hT F.entry_zip_iter ?_ (F.args_zip_iter_1 _))
  show wpAny _ _ (ret (.ref z)) _ _ s
  exact wpAny_pure ⟨_, rfl, "zip", _, hT, F.slot_zip_next.lookup, h⟩
end

/-! ### a call of a built-in class with keywords -/
theorem callWith_typeKw {M : Model} {A : Around} {E : Value → Shared → Prop} {s : Shared} {pos : Pos} {T : String} {args : List (Bool × Sem Value)} {kws : List (Option Str × Sem Value)} {Q : Value → Shared → Prop}
    (hplain : (args.any (·.1) || kws.any (·.1.isNone)) = false) (h : wpAny M A (evalArgs (.type T) true args kws) (fun a s₁ => wpAny M A (call (.type T) a.pos a.kw) Q E s₁) E s) : wpAny M A (callWith pos (.type T) [] args kws) Q E s := by
  unfold callWith
  refine wpAny_bind (wpAny_holding (wpAny_mono h (fun a s1 h1 => ?_) fun _ _ z => z))
  apply wpAny_bind
  apply wpAny_standAt
  simp only [hplain]
  apply wpAny_bind
  apply wpAny_pure
  exact wpAny_bind (wpAny_mono h1 (fun r s2 hr => wpAny_bind (wpAny_holding (wpAny_point (wpAny_pure hr)))) fun _ _ z => z)

/-! ### a comprehension's walk -/
/-- two lists of one length, as they stand at each turn, the items in new pairs -/
def ItS (K : PySem.W.Frag) (a b : Addr) : It :=
  ⟨fun i H => ∃ (xs ys : List V) (x y : V), SqL K H a xs ∧ SqL K H b ys ∧ xs[i]? = some x ∧ ys[i]? = some y,
    fun i H v H' => ∃ T x y, v = .ref T ∧ H T = none ∧ H' = upd H T (.tup [x, y]) ∧ (∀ xs, SqL K H a xs → xs[i]? = some x) ∧ ∀ ys, SqL K H b ys → ys[i]? = some y,
    fun i H => ∃ xs ys : List V, SqL K H a xs ∧ SqL K H b ys ∧ xs.length ≤ i ∧ ys.length ≤ i⟩
theorem turnS {P : Program} {w : World} {K : PySem.W.Frag} {elts : List Expr} {kk : Nat} {tpos : Pos} {a b z TI TO i1 i2 : Addr} (D : ZipApart z TI TO i1 i2 a b) :
    Turn P w K (.Tuple elts kk tpos) (ItS K a b) [z, TI, TO, i1, i2] z (fun i h => (∃ f, SZip h z TI TO .none f) ∧ IsPair h TI (.ref i1) (.ref i2) ∧ (∃ x y, IsPair h TO x y) ∧ h.IsListIter i1 a i ∧ h.IsListIter i2 b i) where
  mem := by simp
  obj := fun i h st c hc => by
    obtain ⟨⟨f, hz⟩, hTI, ⟨x, y, hTO⟩, ⟨o1, e1, _, d1⟩, ⟨o2, e2, _, d2⟩⟩ := st
    have e' : c = z ∨ c = TI ∨ c = TO ∨ c = i1 ∨ c = i2 := by simpa using hc
    rcases e' with rfl | rfl | rfl | rfl | rfl
    · exact ⟨_, hz, fun v q => nomatch q⟩
    · exact ⟨_, hTI, fun v q => nomatch q⟩
    · exact ⟨_, hTO, fun v q => nomatch q⟩
    · exact ⟨o1, e1, fun v q => by rw [d1] at q; cases q⟩
    · exact ⟨o2, e2, fun v q => by rw [d2] at q; cases q⟩
  keep := fun i h h' st kp => by
    obtain ⟨⟨f, hz⟩, hTI, ⟨x, y, hTO⟩, h1, h2⟩ := st
    exact ⟨⟨f, kp z (by simp) _ hz⟩, kp TI (by simp) _ hTI, ⟨x, y, kp TO (by simp) _ hTO⟩, h1.at fun o q => kp i1 (by simp) o q, h2.at fun o q => kp i2 (by simp) o q⟩
  item := by
    intro X hP hw hK hc i pins s σ H E I hf st hg
    subst hP hw hK
    obtain ⟨⟨f, hz⟩, hTI, ⟨x0, y0, hTO⟩, h1, h2⟩ := st
    obtain ⟨xs, ys, x, y, hqx, hqy, hx, hy⟩ := hg
    obtain ⟨its, rv, p, _⟩ := I.list hqx
    obtain ⟨its2, rv2, p2, _⟩ := I.list hqy
    obtain ⟨u, hu, ru⟩ := rv.get hx
    obtain ⟨u2, hu2, ru2⟩ := rv2.get hy
    have hzl : z < s.heap.objs.size := Heap.lt_size hz
    refine next_free D hz hTI hTO h1 h2 p.isList p2.isList (x := u) (y := u2) (by simpa using hu) (by simpa using hu2) fun h' z' TO' h1' h2' hT hsz hk => ?_
    obtain ⟨f', z'⟩ := z'
    refine ⟨_, rfl, go_szip (s := { s with heap := h' }) z' fun h'' z'' sb => ?_⟩
    have hT2 : h''.get? s.heap.objs.size = some { cls := .type "tuple", data := .seq #[u, u2] } := (sb.2 _ (Nat.ne_of_gt hzl)).trans hT
    have new : ObjOk X.prog X.w (upd H s.heap.objs.size (.tup [x, y])) h'' s.heap.objs.size (.tup [x, y]) := ⟨by show 2 ≤ sizeLine; decide, [u, u2], .cons ru (.cons ru2 .nil), ⟨_, hT2, rfl, _, rfl⟩⟩
    have off : ∀ c o, c ∉ [z, TI, TO, i1, i2] → s.heap.get? c = some o → h''.get? c = some o := fun c o hb q => by
      simp only [List.mem_cons, List.not_mem_nil, or_false, not_or] at hb
      exact (sb.2 c hb.1).trans (hk c o hb.1 hb.2.2.1 hb.2.2.2.1 hb.2.2.2.2 q)
    have I1 : Inv X pins σ (upd H s.heap.objs.size (.tup [x, y])) { s with heap := h'' } := I.turnedNew (t' := s.toks) (ch := [z, TI, TO, i1, i2]) (fun c o hb q => off c o hb q) hf (Nat.le_refl _) new
    refine ⟨.ref s.heap.objs.size, _, I1, rfl, ⟨_, x, y, rfl, I.hok.fresh (Nat.le_refl _), rfl, fun l hl => by rw [I.list_inj hl hqx]; exact hx, fun l hl => by rw [I.list_inj hl hqy]; exact hy⟩, ⟨⟨f', z''⟩, ?_, ⟨u, u2, ?_⟩, ?_, ?_⟩, fun c hcm => ?_⟩
    · exact (sb.2 _ D.TIz).trans (hk _ _ D.TIz D.TITO D.TIi1 D.TIi2 hTI)
    · exact (sb.2 _ D.TOz).trans TO'
    · exact h1'.at fun o q => (sb.2 _ D.i1z).trans q
    · exact h2'.at fun o q => (sb.2 _ D.i2z).trans q
    · have hlt : c < s.heap.objs.size := by
        have e' : c = z ∨ c = TI ∨ c = TO ∨ c = i1 ∨ c = i2 := by simpa using hcm
        rcases e' with rfl | rfl | rfl | rfl | rfl
        · exact hzl
        · exact Heap.lt_size hTI
        · exact Heap.lt_size hTO
        · obtain ⟨_, e1, _⟩ := h1; exact Heap.lt_size e1
        · obtain ⟨_, e2, _⟩ := h2; exact Heap.lt_size e2
      rw [upd_ne (Nat.ne_of_lt hlt)]
      exact (hf c hcm).1
  done := by
    intro X hP hw hK hc i pins s σ H E I hf st hg
    subst hP hw hK
    obtain ⟨⟨f, hz⟩, hTI, ⟨x0, y0, hTO⟩, h1, h2⟩ := st
    obtain ⟨xs, ys, hqx, hqy, e1, e2⟩ := hg
    obtain ⟨its, rv, p, _⟩ := I.list hqx
    obtain ⟨its2, rv2, p2, _⟩ := I.list hqy
    have n1 := rv.length
    have n2 := rv2.length
    refine next_end (I.ok.hd hc) D hz (.inl rfl) hTI hTO h1 h2 p.isList p2.isList (by simp; omega) (by simp; omega) fun h' hk => ⟨rfl, I.turnedL (t' := s.toks) (ch := [z, TI, TO, i1, i2]) (fun c o hb q => ?_) hf⟩
    simp only [List.mem_cons, List.not_mem_nil, or_false, not_or] at hb
    exact hk c o hb.1 hb.2.2.1 hb.2.2.2.1 hb.2.2.2.2 q
  self := fun A i s Q E st h => let ⟨f, hz⟩ := st.1; iter_szip hz h
def iZipS (K : PySem.W.Frag) (ta : TA) : TI := fun σ H R => ta σ H fun vs H1 => ∃ a b xs ys, vs = [.ref a, .ref b] ∧ SqL K H1 a xs ∧ SqL K H1 b ys ∧ R (ItS K a b) H1
theorem pi_zipS {X : Cx} {e e2 : Expr} {ta : TA} {p pos tpos kp cp : Pos} {elts : List Expr} {kk j : Nat} (hg : Gl X "zip") (hm : X.mg "zip" = none) (ha : PA X [e, e2] ta)
    (he : starEach [e, e2] X.env = (false, eval e X.env) :: starEach [e2] X.env := by rfl)
    (hpl : ((backTo pos (starEach [e, e2] X.env)).any (·.1) || (backToKw pos (keywordEach [⟨some "strict", .Constant (.bool true) j cp, kp⟩] X.env)).any (·.1.isNone)) = false := by rfl)
    (hall : (backToKw pos (keywordEach [⟨some "strict", .Constant (.bool true) j cp, kp⟩] X.env)).all (·.1.isSome) = true := by rfl)
    (hks : (backToKw pos (keywordEach [⟨some "strict", .Constant (.bool true) j cp, kp⟩] X.env)).filterMap (·.1) = [Str.ofString "strict"] := by rfl) :
    PI X (.Tuple elts kk tpos) (.Call (.Name "zip" p) [e, e2] [⟨some "strict", .Constant (.bool true) j cp, kp⟩] pos) (iZipS X.K ta) := by
  constructor
  intro pins s σ H R I h
  refine wpAny_Call_Name_kw (ld_blt I hg hm PyProof.Rows.boot_zip ?_)
  refine callWith_typeKw hpl (evalArgs_kw2 hall ?_ he)
  apply thn (ha.run pos pins s σ H _ I h)
  rintro us s1 ⟨vs, H1, I1, r1, a, b, xs, ys, rfl, hqx, hqy, q⟩
  have hk : PK X [⟨some "strict", .Constant (.bool true) j cp, kp⟩] (tCons (tC (.bl true)) tNil) := pk_cons pe_bl pk_nil
  apply thn (hk.run pos pins s1 σ H1 (fun zs H2 => zs = [.bl true] ∧ H2 = H1) I1 ⟨rfl, rfl⟩)
  rintro ws s2 ⟨zs, H2, I2, rz, rfl, rfl⟩
  rw [hks]
  cases rz with
  | cons rz rz2 =>
    cases rz2
    cases rz
    cases r1 with
    | cons r rr =>
      cases rr with
      | cons r' rr =>
        cases rr
        cases r
        cases r'
        obtain ⟨its, rv, p1, _⟩ := I2.list hqx
        obtain ⟨its2, rv2, p2, _⟩ := I2.list hqy
        show wpAny _ _ (call (.type "zip") [.ref a, .ref b] [(Str.ofString "strict", .bool true)]) _ _ _
        refine call_zipS p1.isList p2.isList fun h' hz hTI hTO h1 h2 hsz hk' => iter_szip hz ?_
        have I3 : Inv X pins σ H2 { s2 with heap := h' } := I2.kept (t' := s2.toks) hk'
        refine ⟨s2.heap.objs.size + 4, [s2.heap.objs.size + 4, s2.heap.objs.size + 2, s2.heap.objs.size + 3, s2.heap.objs.size, s2.heap.objs.size + 1], _, _, H2, rfl, I3, turnS (PySem.W.ktu_apart s2.heap.objs.size a b p1.lt p2.lt), ⟨⟨_, hz⟩, hTI, ⟨_, _, hTO⟩, h1, h2⟩, fun c hcm => ?_, q⟩
        have hle : s2.heap.objs.size ≤ c := by
          simp only [List.mem_cons, List.not_mem_nil, or_false] at hcm
          rcases hcm with rfl | rfl | rfl | rfl | rfl <;> first | exact Nat.le_add_right _ _ | exact Nat.le_refl _
        exact I2.fpOk hle (I2.hok.fresh hle)
end K53

/-! K53ExtE: dict(zip(xs, ys, strict=True)). -/
namespace K53
open PySem PySem.Spec PyProof.Rows L2

theorem PairArg.zipS {prog : Program} {w : World} (z TI TO i1 i2 l1 l2 : Addr) (D : ZipApart z TI TO i1 i2 l1 l2) (xs ys : Array Value) (hn : xs.size = ys.size) :
    PairArg prog w "zip" z [z, TI, TO, i1, i2, l1, l2] [z, TO, i1, i2] xs.size (fun i k v => xs[i]? = some k ∧ ys[i]? = some v)
      (fun h => SZip h z TI TO .none false ∧ IsPair h TI (.ref i1) (.ref i2) ∧ (∃ a b, IsPair h TO a b) ∧ h.IsListIter i1 l1 0 ∧ h.IsListIter i2 l2 0 ∧ h.IsList l1 xs ∧ h.IsList l2 ys) where
  type := fun s ok => ⟨_, ok.1, rfl⟩
  notDict := by decide
  keep := fun h h' ok hk => by
    obtain ⟨hz, hTI, ⟨a, b, hTO⟩, h1, h2, hl1, hl2⟩ := ok
    exact ⟨hk _ _ hz, hk _ _ hTI, ⟨a, b, hk _ _ hTO⟩, h1.at fun o e => hk _ o e, h2.at fun o e => hk _ o e, hl1.at fun o e => hk _ o e, hl2.at fun o e => hk _ o e⟩
  there := fun h ok b hb => by
    obtain ⟨hz, hTI, ⟨a, c, hTO⟩, ⟨o1, h1, _⟩, ⟨o2, h2, _⟩, ⟨o3, hl1, _⟩, ⟨o4, hl2, _⟩⟩ := ok
    simp only [List.mem_cons, List.not_mem_nil, or_false] at hb
    rcases hb with rfl | rfl | rfl | rfl | rfl | rfl | rfl
    · exact ⟨_, hz⟩
    · exact ⟨_, hTI⟩
    · exact ⟨_, hTO⟩
    · exact ⟨_, h1⟩
    · exact ⟨_, h2⟩
    · exact ⟨_, hl1⟩
    · exact ⟨_, hl2⟩
  sub := fun b hb => by
    simp only [List.mem_cons, List.not_mem_nil, or_false] at hb ⊢
    rcases hb with h | h | h | h
    · exact .inl h
    · exact .inr (.inr (.inl h))
    · exact .inr (.inr (.inr (.inl h)))
    · exact .inr (.inr (.inr (.inr (.inl h))))
  noKeys := fun A s Q E hA ok h => getAttrOr_miss_zip ok.1 rfl rfl rfl zip_no_keys (by decide +kernel) hA h
  iter := fun A s d Q E hA ok hd hdf h => by
    obtain ⟨hz, hTI, ⟨a, b, hTO⟩, h1, h2, hl1, hl2⟩ := ok
    simp only [List.mem_cons, List.not_mem_nil, or_false, not_or] at hdf
    obtain ⟨dz, dTI, dTO, di1, di2, dl1, dl2⟩ := hdf
    refine iter_szip hz (h z [z, TO, i1, i2] (fun i h => IsPair h TI (.ref i1) (.ref i2) ∧ (∃ a b, IsPair h TO a b) ∧ h.IsListIter i1 l1 i ∧ h.IsListIter i2 l2 i ∧ h.IsList l1 xs ∧ h.IsList l2 ys ∧
      ∃ f, SZip h z TI TO .none f ∨ ∃ T oT, SZip h z TI TO (rawInt (T : Nat)) f ∧ h.get? T = some oT ∧ T ≠ z ∧ T ≠ TO ∧ T ≠ i1 ∧ T ≠ i2 ∧ T ≠ d) s.heap s.toks ?_
      ⟨hTI, ⟨a, b, hTO⟩, h1, h2, hl1, hl2, false, .inl hz⟩ (fun _ _ e => e) fun b hb => .inl hb)
    exact {
      off := fun hm => by
        simp only [List.mem_cons, List.not_mem_nil, or_false] at hm
        rcases hm with e | e | e | e
        · exact dz e
        · exact dTO e
        · exact di1 e
        · exact di2 e
      frame := fun i g g' st hk => by
        obtain ⟨hTI, ⟨a, b, hTO⟩, h1, h2, hl1, hl2, f, hz⟩ := st
        refine ⟨hk _ _ (Ne.symm dTI) hTI, ⟨a, b, hk _ _ (Ne.symm dTO) hTO⟩, h1.at fun o e => hk _ o (Ne.symm di1) e, h2.at fun o e => hk _ o (Ne.symm di2) e, hl1.at fun o e => hk _ o (Ne.symm dl1) e, hl2.at fun o e => hk _ o (Ne.symm dl2) e, f, ?_⟩
        rcases hz with hz | ⟨T, oT, hz, hT, r1, r2, r3, r4, r5⟩
        · exact .inl (hk _ _ (Ne.symm dz) hz)
        · exact .inr ⟨T, oT, hk _ _ (Ne.symm dz) hz, hk _ _ r5 hT, r1, r2, r3, r4, r5⟩
      item := fun i s1 Q1 E1 hi st hds hQ => by
        obtain ⟨hTI, ⟨a, b, hTO⟩, h1, h2, hl1, hl2, f, hz⟩ := st
        have ex := Array.getElem?_eq_getElem hi
        have ey := Array.getElem?_eq_getElem (show i < ys.size by omega)
        have lt : ∀ {c o}, s1.heap.get? c = some o → s1.heap.objs.size ≠ c := fun e => Nat.ne_of_gt (Heap.lt_size e)
        have n1 : s1.heap.objs.size ≠ i1 := let ⟨_, e, _⟩ := h1; lt e
        have n2 : s1.heap.objs.size ≠ i2 := let ⟨_, e, _⟩ := h2; lt e
        rcases hz with hz | ⟨T, oT, hz, hT, r1, r2, r3, r4, r5⟩
        · refine next_free D hz hTI hTO h1 h2 hl1 hl2 ex ey fun h' a1 a2 a3 a4 a5 a6 hk => ?_
          obtain ⟨f', a1⟩ := a1
          refine hQ s1.heap.objs.size _ _ h' s1.toks ⟨ex, ey⟩ (.inl ⟨_, a5, rfl, _, rfl⟩) ⟨hk _ _ D.TIz D.TITO D.TIi1 D.TIi2 hTI, ⟨_, _, a2⟩, a3, a4, hl1.at fun o e => hk _ o D.l1z D.l1TO D.l1i1 D.l1i2 e,
            hl2.at fun o e => hk _ o D.l2z D.l2TO D.l2i1 D.l2i2 e, f', .inr ⟨s1.heap.objs.size, _, a1, a5, lt hz, lt hTO, n1, n2, Nat.ne_of_gt hds⟩⟩ fun c o hc e => ?_
          simp only [List.mem_cons, List.not_mem_nil, or_false, not_or] at hc
          exact hk c o hc.1 hc.2.1 hc.2.2.1 hc.2.2.2 e
        · refine next_held D hz hT hTI h1 h2 hl1 hl2 ex ey fun h' a1 a3 a4 a5 a6 hk => ?_
          refine hQ s1.heap.objs.size _ _ h' s1.toks ⟨ex, ey⟩ (.inl ⟨_, a5, rfl, _, rfl⟩) ⟨hk _ _ D.TIz D.TIi1 D.TIi2 hTI, ⟨a, b, hk _ _ D.TOz D.TOi1 D.TOi2 hTO⟩, a3, a4, hl1.at fun o e => hk _ o D.l1z D.l1i1 D.l1i2 e,
            hl2.at fun o e => hk _ o D.l2z D.l2i1 D.l2i2 e, true, .inr ⟨T, oT, a1, hk _ _ r1 r3 r4 hT, r1, r2, r3, r4, r5⟩⟩ fun c o hc e => ?_
          simp only [List.mem_cons, List.not_mem_nil, or_false, not_or] at hc
          exact hk c o hc.1 hc.2.2.1 hc.2.2.2 e
      done := fun s1 Q1 E1 st hQ => by
        obtain ⟨hTI, ⟨a, b, hTO⟩, h1, h2, hl1, hl2, f, hz⟩ := st
        have ex : xs[xs.size]? = none := Array.getElem?_eq_none (Nat.le_refl _)
        have ey : ys[xs.size]? = none := Array.getElem?_eq_none (by omega)
        have fin : ∀ h', (∀ c o, c ≠ z → c ≠ TO → c ≠ i1 → c ≠ i2 → s1.heap.get? c = some o → h'.get? c = some o) → Q1 none { s1 with heap := h' } := fun h' hk => hQ h' s1.toks fun c o hc e => by
          simp only [List.mem_cons, List.not_mem_nil, or_false, not_or] at hc
          exact hk c o hc.1 hc.2.1 hc.2.2.1 hc.2.2.2 e
        rcases hz with hz | ⟨T, oT, hz, hT, _⟩
        · exact next_end hA D hz (.inl rfl) hTI hTO h1 h2 hl1 hl2 ex ey fin
        · exact next_end hA D hz (.inr ⟨T, oT, rfl, hT⟩) hTI hTO h1 h2 hl1 hl2 ex ey fin }

section
variable {X : Cx} {pins : List (Addr × Obj)} {σ : L2.St} {H : Hp} {s : Shared}
/-- the zip made -/
theorem eval_zipS {e e2 : Expr} {ta : TA} {p pos kp cp : Pos} {j : Nat} {R : List V → Hp → Prop} (hg : Gl X "zip") (hm : X.mg "zip" = none) (ha : PA X [e, e2] ta) (I : Inv X pins σ H s)
    (h : ta σ H R) (hR : ∀ vs H1, R vs H1 → ∃ a b, vs = [.ref a, .ref b] ∧ (∃ xs, SqL X.K H1 a xs) ∧ ∃ ys, SqL X.K H1 b ys)
    (he : starEach [e, e2] X.env = (false, eval e X.env) :: starEach [e2] X.env)
    (hpl : ((backTo pos (starEach [e, e2] X.env)).any (·.1) || (backToKw pos (keywordEach [⟨some "strict", .Constant (.bool true) j cp, kp⟩] X.env)).any (·.1.isNone)) = false)
    (hall : (backToKw pos (keywordEach [⟨some "strict", .Constant (.bool true) j cp, kp⟩] X.env)).all (·.1.isSome) = true)
    (hks : (backToKw pos (keywordEach [⟨some "strict", .Constant (.bool true) j cp, kp⟩] X.env)).filterMap (·.1) = [Str.ofString "strict"]) :
    wpAny (model X.prog X.w) X.A (eval (.Call (.Name "zip" p) [e, e2] [⟨some "strict", .Constant (.bool true) j cp, kp⟩] pos) X.env) (fun v s' => ∃ (s2 : Shared) (H2 : Hp) (a b : Addr) (h' : Heap), v = .ref (s2.heap.objs.size + 4) ∧ s' = { s2 with heap := h' } ∧
      Inv X pins σ H2 s2 ∧ R [.ref a, .ref b] H2 ∧ SZip h' (s2.heap.objs.size + 4) (s2.heap.objs.size + 2) (s2.heap.objs.size + 3) .none false ∧ IsPair h' (s2.heap.objs.size + 2) (.ref s2.heap.objs.size) (.ref (s2.heap.objs.size + 1)) ∧
      IsPair h' (s2.heap.objs.size + 3) .none .none ∧ h'.IsListIter s2.heap.objs.size a 0 ∧ h'.IsListIter (s2.heap.objs.size + 1) b 0 ∧ h'.objs.size = s2.heap.objs.size + 5 ∧ (∀ c o, s2.heap.get? c = some o → h'.get? c = some o)) X.xe s := by
  refine wpAny_Call_Name_kw (ld_blt I hg hm PyProof.Rows.boot_zip ?_)
  refine callWith_typeKw hpl (evalArgs_kw2 hall ?_ he)
  apply thn (ha.run pos pins s σ H _ I h)
  rintro us s1 ⟨vs, H1, I1, r1, q⟩
  obtain ⟨a, b, rfl, ⟨xs, hqx⟩, ⟨ys, hqy⟩⟩ := hR _ _ q
  have hk : PK X [⟨some "strict", .Constant (.bool true) j cp, kp⟩] (tCons (tC (.bl true)) tNil) := pk_cons pe_bl pk_nil
  apply thn (hk.run pos pins s1 σ H1 (fun zs H2 => zs = [.bl true] ∧ H2 = H1) I1 ⟨rfl, rfl⟩)
  rintro ws s2 ⟨zs, H2, I2, rz, rfl, rfl⟩
  rw [hks]
  cases rz with
  | cons rz rz2 =>
    cases rz2
    cases rz
    cases r1 with
    | cons r rr =>
      cases rr with
      | cons r' rr =>
        cases rr
        cases r
        cases r'
        obtain ⟨its, rv, p1, _⟩ := I2.list hqx
        obtain ⟨its2, rv2, p2, _⟩ := I2.list hqy
        show wpAny _ _ (call (.type "zip") [.ref a, .ref b] [(Str.ofString "strict", .bool true)]) _ _ _
        exact call_zipS p1.isList p2.isList fun h' hz hTI hTO h1 h2 hsz keep => ⟨s2, H2, a, b, h', rfl, rfl, I2, q, hz, hTI, hTO, h1, h2, hsz, keep⟩
def rDictZip (K : PySem.W.Frag) : List V → Hp → VK → Prop := fun vs H Q => ∃ a b, vs = [.ref a, .ref b] ∧ ∃ (ns : List Int) (ys : List V), SqL K H a (ns.map V.int) ∧ SqL K H b ys ∧ ns.length = ys.length ∧ ns.length ≤ sizeLine ∧
  ∀ p, H p = none → Q (.ref p) (upd H p (.dK (mergeK [] ((ns.map Sum.inl).zip ys))))
theorem zipKV : ∀ {ns : List Int} {ys : List V} {ks us : List Value}, Vals (ns.map V.int) ks → Vals ys us → ns.length = ys.length → KV (((ns.map Sum.inl).zip ys : List (Key × V))) (((ns.map Sum.inl).zip us : List (Key × Value)))
  | [], [], _, _, .nil, .nil, _ => .nil
  | _ :: _, _ :: _, _, _, .cons _ t, .cons q r, h => .cons ⟨rfl, q⟩ (zipKV t r (by simpa using h))
theorem keys_int : ∀ {ns : List Int} {ks : List Value} {i : Nat} {n : Int} {u : Value}, Vals (ns.map V.int) ks → ns[i]? = some n → ks[i]? = some u → keyIs (.inl n) u = true
  | _ :: _, _, 0, _, _, .cons r _, e1, e2 => by
    obtain ⟨t, rfl⟩ := r
    cases Option.some.inj e1
    cases Option.some.inj e2
    exact keyIs_int _ _
  | _ :: _, _, i + 1, _, _, .cons _ t, e1, e2 => keys_int (i := i) t (by simpa using e1) (by simpa using e2)
theorem pe_dictZip {e e2 : Expr} {ta : TA} {p0 pos0 p pos kp cp : Pos} {j : Nat} (hc : X.calm = true) (hg0 : Gl X "dict") (hm0 : X.mg "dict" = none) (hg : Gl X "zip") (hm : X.mg "zip" = none) (ha : PA X [e, e2] ta)
    (he : starEach [e, e2] X.env = (false, eval e X.env) :: starEach [e2] X.env := by rfl)
    (hpl : ((backTo pos (starEach [e, e2] X.env)).any (·.1) || (backToKw pos (keywordEach [⟨some "strict", .Constant (.bool true) j cp, kp⟩] X.env)).any (·.1.isNone)) = false := by rfl)
    (hall : (backToKw pos (keywordEach [⟨some "strict", .Constant (.bool true) j cp, kp⟩] X.env)).all (·.1.isSome) = true := by rfl)
    (hks : (backToKw pos (keywordEach [⟨some "strict", .Constant (.bool true) j cp, kp⟩] X.env)).filterMap (·.1) = [Str.ofString "strict"] := by rfl)
    (na : starEach [.Call (.Name "zip" p) [e, e2] [⟨some "strict", .Constant (.bool true) j cp, kp⟩] pos] X.env = (false, eval (.Call (.Name "zip" p) [e, e2] [⟨some "strict", .Constant (.bool true) j cp, kp⟩] pos) X.env) :: starEach [] X.env := by rfl) :
    PE X (.Call (.Name "dict" p0) [.Call (.Name "zip" p) [e, e2] [⟨some "strict", .Constant (.bool true) j cp, kp⟩] pos] [] pos0) (tCB (rDictZip X.K) ta) := by
  constructor
  intro pins s σ H Q I h
  refine Call_ (ld_blt I hg0 hm0 PyProof.Rows.boot_dict (PyProof.Rows.callWith_type1 (args_cons ?_ na) na))
  have zp := eval_zipS (p := p) (R := fun vs H1 => rDictZip X.K vs H1 Q) hg hm ha I h (fun vs H1 ⟨a, b, e1, ns, ys, h1, h2, _⟩ => ⟨a, b, e1, ⟨_, h1⟩, _, h2⟩) he hpl hall hks
  refine thn zp fun v s' z => ?_
  obtain ⟨s2, H2, a, b, h', rfl, rfl, I2, ⟨a', b', eab, ns, ys, hx, hy, hl, hz2, q⟩, hz, hTI, hTO, h1, h2, hsz, keep⟩ := z
  cases eab
  obtain ⟨ks, rv, p1, _⟩ := I2.list hx
  obtain ⟨us, rv2, p2, _⟩ := I2.list hy
  have n1 := rv.length
  have n2 := rv2.length
  rw [List.length_map] at n1
  have la := p1.lt
  have lb := p2.lt
  have D := PySem.W.ktu_apart s2.heap.objs.size a b la lb
  refine args_nil ?_
  refine PySem.call_dict_pairs (s := { s2 with heap := h' }) (knd := mixKind X.prog X.w) (kvs := (ns.map Sum.inl).zip us) (PairArg.zipS (prog := X.prog) (w := X.w) _ _ _ _ _ a b D ks.toArray us.toArray (by rw [List.size_toArray, List.size_toArray]; omega)) (I2.ok.hd hc)
    ⟨hz, hTI, ⟨_, _, hTO⟩, h1, h2, p1.isList.at fun o e => keep _ o e, p2.isList.at fun o e => keep _ o e⟩ ⟨?_, ?_⟩ (by rw [List.size_toArray]; omega) fun g tk hd hk => ?_
  · rw [List.length_zip, List.length_map, List.size_toArray]
    omega
  · rintro i key v ⟨e1, e2⟩
    have e1' : ks[i]? = some key := by simpa using e1
    have e2' : us[i]? = some v := by simpa using e2
    have hi : i < ns.length := by
      have := (List.getElem?_eq_some_iff.mp e1').1
      omega
    refine ⟨.inl ns[i], ?_, keys_int rv (List.getElem?_eq_getElem hi) e1'⟩
    rw [List.getElem?_zip_eq_some]
    exact ⟨by rw [List.getElem?_map, List.getElem?_eq_getElem hi] <;> rfl, e2'⟩
  · have kk : ∀ c o, s2.heap.get? c = some o → g.get? c = some o := fun c o e => hk c o (fun z => by
      have := Heap.lt_size e
      simp only [List.mem_cons, List.not_mem_nil, or_false] at z
      rcases z with rfl | rfl | rfl | rfl <;> first | exact absurd this (Nat.not_lt.mpr (Nat.le_add_right _ _)) | exact absurd this (Nat.lt_irrefl _)) (keep c o e)
    have rel := zipKV rv rv2 hl
    have hm' : ((s2.heap.objs.size + 5) == sysModules) = false := beq_eq_false_iff_ne.mpr (by have := I2.big; exact Nat.ne_of_gt (Nat.lt_add_right 5 this))
    have hlen : (mergeK [] ((ns.map Sum.inl).zip ys)).length ≤ sizeLine := by
      have z := length_mergeK ((ns.map Sum.inl).zip ys) []
      rw [List.length_zip, List.length_map] at z
      simp at z
      omega
    rw [show ({ s2 with heap := h' } : Shared).heap.objs.size = s2.heap.objs.size + 5 from hsz] at hd ⊢
    exact ⟨.ref (s2.heap.objs.size + 5), upd H2 (s2.heap.objs.size + 5) (.dK (mergeK [] ((ns.map Sum.inl).zip ys))), I2.laid (t' := tk) kk (Nat.le_add_right _ _)
      (show ObjOk X.prog X.w _ _ _ (.dK (mergeK [] ((ns.map Sum.inl).zip ys))) from ⟨hlen, hm', merged [] _, KV.merge rel .nil, hd⟩), rfl, q _ (I2.hok.fresh (Nat.le_add_right _ _))⟩
end
end K53

/-! K53Pre: the text by places, names of the readings, calls in short. -/
namespace K53
open PySem PySem.Spec PyProof.Rows L2

def topS (i : Nat) : Stmt := PySem.Challenge.pw_anyplaces_k53_whole_alarms.main.body.getD i (.Pass ⟨0, 0, 0, 0⟩)

/-! ### parts of the text -/
def bodyAt (s : Stmt) (j : Nat) : Stmt := (defBody s).getD j (.Pass ⟨0, 0, 0, 0⟩)
def forAt (s : Stmt) (j : Nat) : Stmt := match s with
  | .For _ _ b _ _ => b.getD j (.Pass ⟨0, 0, 0, 0⟩)
  | _ => .Pass ⟨0, 0, 0, 0⟩
abbrev noE : Expr := .Constant .none 0 ⟨0, 0, 0, 0⟩
def asgVal (s : Stmt) : Expr := match s with
  | .Assign _ v _ => v
  | _ => noE
def retVal (s : Stmt) : Expr := match s with
  | .Return (some v) _ => v
  | _ => noE
def ifTest (s : Stmt) : Expr := match s with
  | .If c _ _ _ => c
  | _ => noE
def cmpL (e : Expr) : Expr := match e with
  | .Compare l _ _ _ => l
  | _ => noE
def bopR (e : Expr) : Expr := match e with
  | .BinOp _ _ r _ => r
  | _ => noE
def lstAt (e : Expr) (j : Nat) : Expr := match e with
  | .List es _ => es.getD j noE
  | _ => noE
def lcSc (e : Expr) : Scope := match e with
  | .ListComp _ _ sc _ => sc
  | _ => { kind := .function, names := [], isGenerator := false, isCoroutine := false }

/-! ### readings in short -/
abbrev oAdd : R2 := rI0 fun i j => .int (i + j)
abbrev oSub : R2 := rI0 fun i j => .int (i - j)
abbrev oMul : R2 := rI CMul fun i j => .int (i * j)
abbrev oMulX : R2 := rI CMulX fun i j => .int (i * j)
abbrev oDiv : R2 := rI CDiv fun i j => .int (i / j)
abbrev oDivW : R2 := rI CDivW fun i j => .int (i / j)
abbrev oMod : R2 := rI (fun _ j => 0 < j) fun i j => .int (i % j)
abbrev oPow : R2 := rI CPow fun i j => .int (i ^ j.toNat)
abbrev oPowW : R2 := rI CPowW fun i j => .int (i ^ j.toNat)
abbrev oShl : R2 := rI CPow fun i j => .int (i * 2 ^ j.toNat)
abbrev oLt : R2 := rI0 fun i j => .bl (decide (i < j))
abbrev oLe : R2 := rI0 fun i j => .bl (decide (i ≤ j))
abbrev oGt : R2 := rI0 fun i j => .bl (decide (j < i))
abbrev oGe : R2 := rI0 fun i j => .bl (decide (j ≤ i))
abbrev oNeg : V → Hp → VK → Prop := rU fun i => .int (-i)
abbrev oIsN : R2 := fun x y H Q => y = .non ∧ Q (.bl (decide (x = .non))) H
abbrev oNotN : R2 := fun x y H Q => y = .non ∧ Q (.bl (!decide (x = .non))) H
abbrev oInt : List V → Hp → VK → Prop := fun xs H Q => (∃ i, xs = [.int i] ∧ Q (.int i) H) ∨ ∃ k, xs = [.bl k] ∧ Q (.int (if k then 1 else 0)) H
abbrev oMax2 : List V → Hp → VK → Prop := fun xs H Q => ∃ i j, xs = [.int i, .int j] ∧ Q (.int (if j > i then j else i)) H
abbrev oMin2 : List V → Hp → VK → Prop := fun xs H Q => ∃ i j, xs = [.int i, .int j] ∧ Q (.int (if j < i then j else i)) H
abbrev rLenS (K : PySem.W.Frag) : List V → Hp → VK → Prop := fun xs H Q => ∃ p ys, xs = [.ref p] ∧ (SqL K H p ys ∨ SqT K H p ys) ∧ Q (.int ys.length) H
abbrev rListS (K : PySem.W.Frag) : List V → Hp → VK → Prop := fun xs H Q => ∃ p ys, xs = [.ref p] ∧ (SqL K H p ys ∨ SqT K H p ys) ∧ ∀ l, H l = none → Q (.ref l) (upd H l (.lst ys))
def gKw {α : Type} : List α → List α → List α := fun us zs => us ++ zs.reverse

/-! ### facts of the top -/
structure Txt (K : PySem.W.Frag) (mg : Str → Option Value) : Prop where
  isinstance : mg "isinstance" = none
  int : mg "int" = none
  bool : mg "bool" = none
  list : mg "list" = none
  len : mg "len" = none
  min : mg "min" = none
  max : mg "max" = none
  zip : mg "zip" = none
  range : mg "range" = none
  enumerate : mg "enumerate" = none
  sum : mg "sum" = none
  sorted : mg "sorted" = none
  dict : mg "dict" = none
  repr : mg "repr" = none
  most : ∃ t, mg "MOST_WIDTH" = some (.int 64 t)

/-! ### a def that keeps its promise, by its name -/
section
variable (P : Program) (w : World) (K : PySem.W.Frag) (mg : Str → Option Value) (base : Heap)
def Cal (x : Str) (ps : List Str) (k : Nat) (sp : Sp) : Prop := ∃ f fd, FnOk P w K mg base CX0 k f fd ps sp ∧ mg x = some (.ref f) ∧ PySem.W.keepIn K (.ref f) = true ∧ Binds K fd ps []
def CalG (x : Str) (ps : List Str) (k : Nat) (sp : Sp) : Prop := ∃ f fd, FnG P w K mg base k f fd ps sp ∧ mg x = some (.ref f) ∧ PySem.W.keepIn K (.ref f) = true ∧ Binds K fd ps []
def CalK (x : Str) (ks : List Str) (k : Nat) (sp : Sp) : Prop := ∃ f fd ps, FnOk P w K mg base CX0 k f fd ps sp ∧ mg x = some (.ref f) ∧ PySem.W.keepIn K (.ref f) = true ∧ KBinds K fd ps ks gKw gKw
end
section
variable {X : Cx} {x : Str} {ps ks : List Str} {k : Nat} {sp : Sp} {e : Expr} {es : List Expr} {p pos : Pos} {t tk : TA} {kws : List Keyword}
theorem pe_cal (c : Cal X.prog X.w X.K X.mg X.base x ps k sp) (hr : Room k X.A) (hg : Gl X x) (ha : PA X (e :: es) t) (hdb : (x == ("__debug__" : Str)) = false := by decide)
    (he : starEach (e :: es) X.env = (false, eval e X.env) :: starEach es X.env := by rfl) (hpl : (backTo pos (starEach es X.env)).any (·.1) = false := by rfl) : PE X (.Call (.Name x p) (e :: es) [] pos) (tCall sp [] E0 t) := by
  obtain ⟨f, fd, F, hm, hk, hb⟩ := c
  exact pe_call F hr hg hm hk hb .nil pass0 ha hdb he hpl
theorem pe_calG (c : CalG X.prog X.w X.K X.mg X.base x ps k sp) (hA : X.A.guards = some []) (hr : Room k X.A) (hg : Gl X x) (ha : PA X (e :: es) t) (hdb : (x == ("__debug__" : Str)) = false := by decide)
    (he : starEach (e :: es) X.env = (false, eval e X.env) :: starEach es X.env := by rfl) (hpl : (backTo pos (starEach es X.env)).any (·.1) = false := by rfl) : PE X (.Call (.Name x p) (e :: es) [] pos) (tCall sp [] E0 t) := by
  obtain ⟨f, fd, F, hm, hk, hb⟩ := c
  exact pe_callG F hA hr hg hm hk hb ha hdb he hpl
theorem hu65 {A : Around} {j : Nat} (hr : Room j A) : A.units + 65 < cLine := by
  have := hr.un
  omega
theorem pe_most (h : ∃ t, X.mg "MOST_WIDTH" = some (.int 64 t)) (hg : Gl X "MOST_WIDTH") : PE X (.Name "MOST_WIDTH" p) (tC (.int 64)) := by
  obtain ⟨t, hm⟩ := h
  exact pe_glob hg hm ⟨t, rfl⟩
theorem pe_kwCal (c : CalK X.prog X.w X.K X.mg X.base x ks k sp) (hr : Room k X.A) (hg : Gl X x) (hkw : PK X kws tk)
    (hall : (backToKw pos (keywordEach kws X.env)).all (·.1.isSome) = true := by rfl) (hks : (backToKw pos (keywordEach kws X.env)).filterMap (·.1) = ks := by rfl) (hdb : (x == ("__debug__" : Str)) = false := by decide)
    (hpl : ((backTo pos (starEach [] X.env)).any (·.1) || (backToKw pos (keywordEach kws X.env)).any (·.1.isNone)) = false := by rfl) : PE X (.Call (.Name x p) [] kws pos) (tCallK sp gKw E0 tNil tk) := by
  obtain ⟨f, fd, ps, F, hm, hk, hb⟩ := c
  exact pe_kwOnly F hr hg hm hk hb pass0 hkw hall hks hdb hpl
end
section
variable {P : Program} {w : World} {K : PySem.W.Frag} {mg : Str → Option Value} {base : Heap}
theorem Cal.of {x : Str} {ps : List Str} {k : Nat} {sp : Sp} {f : Addr} {fd : FuncData} (F : FnOk P w K mg base CX0 k f fd ps sp) (hm : mg x = some (.ref f)) (hk : PySem.W.keepIn K (.ref f) = true) (hb : Binds K fd ps []) : Cal P w K mg base x ps k sp := ⟨f, fd, F, hm, hk, hb⟩
end
end K53

/-! K53Spec: what each def promises. -/
namespace K53
open PySem PySem.Spec PyProof.Rows L2

/-! ### data -/
abbrev Ls (H : Hp) (a : Addr) (l : List Int) : Prop := H a = some (.lst (l.map V.int))
def ni (l : List Nat) : List Int := l.map fun (n : Nat) => (n : Int)
/-- a list of lists of ints; Z what is free of them -/
def RowsAt (Z H : Hp) (rs : List Addr) (rows : List (List Int)) : Prop := Paired (fun r xs => Z r = none ∧ Ls H r xs) rs rows
def Rows (Z H : Hp) (p : Addr) (rows : List (List Int)) : Prop := ∃ rs : List Addr, H p = some (.lst (rs.map V.ref)) ∧ RowsAt Z H rs rows
def noH : Hp := fun _ => none
/-- all but what stands at g is as it was -/
def SameX (g : Addr) (H H' : Hp) : Prop := ∀ b o, b ≠ g → H b = some o → H' b = some o
/-- places of a width -/
structure Pl (w : Nat) (places : List Int) : Prop where
  w1 : 1 ≤ w
  w64 : w ≤ 64
  ne : places ≠ []
  rng : ∀ x ∈ places, 0 ≤ x ∧ x < 2 ^ w
  asc : places.Pairwise (· < ·)
  len : places.length ≤ 8
/-- places that can be put in a good order -/
structure Od (places : List Int) : Prop where
  nd : places.Nodup
  bd : ∀ x ∈ places, ∀ y ∈ places, (x - y).natAbs < 2 ^ 64
  len : places.length ≤ 64
def ov : Option Int → V
  | none => .non
  | some i => .int i
abbrev oP (places : List Int) : List Int := (good places).1
abbrev nP (places : List Int) : List Nat := (good places).2
def stepsM (w c : Nat) (n : List Nat) : List Int := (List.range n.length).map (stp w c n)
/-- the first that is not nought -/
def firstNZ : Nat → List Int → Option (Nat × Int)
  | _, [] => none
  | k, x :: r => if x ≠ 0 then some (k, x) else firstNZ (k + 1) r
/-- None or a new pair -/
def OptPair (H : Hp) (o : Option (Nat × Int)) (H' : Hp) (v : V) : Prop :=
  match o with
  | none => v = .non
  | some (k, x) => ∃ p, v = .ref p ∧ H p = none ∧ H' p = some (.tup [.int k, .int x])
/-- a generator that has drawn c times at most -/
def Gen (H : Hp) (g : Addr) (c : Nat) : Prop := ∃ x y z : Int, Ls H g [x, y, z] ∧ 0 ≤ z ∧ z ≤ 3000 + 10 * (c : Int)

/-! ### promises of the program -/
section
def sp_is_whole (K : PySem.W.Frag) : Sp := fun vs H Q _ => ∃ i : Int, vs = [.int i] ∧ ∀ H', Same H H' → Q (.bl true) H'
def sp_is_between (K : PySem.W.Frag) : Sp := fun vs H Q _ => ∃ (i : Int) (lo hi : Option Int), vs = [.int i, ov lo, ov hi] ∧ (∀ l, lo = some l → l ≤ i) ∧ (∀ h, hi = some h → i ≤ h) ∧ ∀ H', Same H H' → Q (.bl true) H'
def sp_check_number (K : PySem.W.Frag) : Sp := fun vs H Q _ => ∃ c : Nat, vs = [.int c, .int 0, .non] ∧ ∀ H', Same H H' → Q .non H'
def sp_power_of_two (K : PySem.W.Frag) : Sp := fun vs H Q _ => ∃ n : Nat, vs = [.int n] ∧ n ≤ 1000 ∧ ∀ H', Same H H' → Q (.int (2 ^ n)) H'
def sp_twos (K : PySem.W.Frag) : Sp := fun vs H Q _ => ∃ i : Int, vs = [.int i] ∧ i ≠ 0 ∧ i.natAbs < 2 ^ 900 ∧ ∀ H', Same H H' → Q (.int (tw i)) H'
def sp_good_row (K : PySem.W.Frag) : Sp := fun vs H Q _ => ∃ (a : Addr) (places : List Int), vs = [.ref a] ∧ Ls H a places ∧ Od places ∧
  ∀ H' t o n, Same H H' → H t = none → H o = none → H n = none → H' t = some (.tup [.ref o, .ref n]) → Ls H' o (oP places) → Ls H' n (ni (nP places)) → Q (.ref t) H'
def sp_product_at (K : PySem.W.Frag) : Sp := fun vs H Q _ => ∃ (a : Addr) (o : List Int) (m : Nat) (x : Int), vs = [.ref a, .int m, .int x] ∧ Ls H a o ∧ (∀ y ∈ o, (x - y).natAbs < 2 ^ 64) ∧ ∀ H', Same H H' → Q (.int (K53.P o m x)) H'
def sp_items_counted (K : PySem.W.Frag) : Sp := fun vs H Q _ => ∃ (w c : Nat) (a : Addr) (n : List Nat), vs = [.int w, .ref a, .int c] ∧ Ls H a (ni n) ∧ n.length ≤ 64 ∧ ∀ H', Same H H' → Q (.int (cnt w c n)) H'
def sp_is_width (K : PySem.W.Frag) : Sp := fun vs H Q _ => ∃ w : Nat, vs = [.int w] ∧ 1 ≤ w ∧ w ≤ 64 ∧ ∀ H', Same H H' → Q (.bl true) H'
def sp_check_width (K : PySem.W.Frag) : Sp := fun vs H Q _ => ∃ w : Nat, vs = [.int w] ∧ 1 ≤ w ∧ w ≤ 64 ∧ ∀ H', Same H H' → Q .non H'
def sp_is_of_width (K : PySem.W.Frag) : Sp := fun vs H Q _ => ∃ (w : Nat) (x : Int), vs = [.int w, .int x] ∧ w ≤ 64 ∧ 0 ≤ x ∧ x < 2 ^ w ∧ ∀ H', Same H H' → Q (.bl true) H'
def sp_rises (K : PySem.W.Frag) : Sp := fun vs H Q _ => ∃ (a : Addr) (l : List Int), vs = [.ref a] ∧ Ls H a l ∧ l.Pairwise (· < ·) ∧ l.length ≤ 64 ∧ ∀ H', Same H H' → Q (.bl true) H'
def sp_are_places (K : PySem.W.Frag) : Sp := fun vs H Q _ => ∃ (w : Nat) (a : Addr) (places : List Int), vs = [.int w, .ref a] ∧ Ls H a places ∧ Pl w places ∧ ∀ H', Same H H' → Q (.bl true) H'
def sp_check_places (K : PySem.W.Frag) : Sp := fun vs H Q _ => ∃ (w : Nat) (a : Addr) (places : List Int), vs = [.int w, .ref a] ∧ Ls H a places ∧ Pl w places ∧ ∀ H', Same H H' → Q .non H'
def sp_are_words (K : PySem.W.Frag) : Sp := fun vs H Q _ => ∃ (w : Nat) (a b : Addr) (places ws : List Int), vs = [.int w, .ref a, .ref b] ∧ Ls H a places ∧ Ls H b ws ∧ Pl w places ∧ IsWords w places ws ∧ ∀ H', Same H H' → Q (.bl true) H'
def sp_check_words (K : PySem.W.Frag) : Sp := fun vs H Q _ => ∃ (w : Nat) (a b : Addr) (places ws : List Int), vs = [.int w, .ref a, .ref b] ∧ Ls H a places ∧ Ls H b ws ∧ Pl w places ∧ IsWords w places ws ∧ ∀ H', Same H H' → Q .non H'
def sp_check_code (K : PySem.W.Frag) : Sp := fun vs H Q _ => ∃ (w c : Nat) (a : Addr) (places : List Int), vs = [.int w, .ref a, .int c] ∧ Ls H a places ∧ Pl w places ∧ ∀ H', Same H H' → Q .non H'
def sp_odd_undone (K : PySem.W.Frag) : Sp := fun vs H Q _ => ∃ (n : Int) (e : Nat), vs = [.int n, .int (2 ^ e)] ∧ e ≤ 64 ∧ ∀ H', Same H H' → Q (.int (inv7 n (2 ^ e))) H'
def sp_steps_of (K : PySem.W.Frag) : Sp := fun vs H Q _ => ∃ (w c : Nat) (a : Addr) (n : List Nat), vs = [.int w, .ref a, .int c] ∧ Ls H a (ni n) ∧ n.length ≤ 64 ∧ w ≤ 64 ∧ ∀ H' p, Same H H' → H p = none → Ls H' p (stepsM w c n) → Q (.ref p) H'
def sp_told_triangle (K : PySem.W.Frag) : Sp := fun vs H Q _ => ∃ (w c : Nat) (a : Addr) (places : List Int), vs = [.int w, .ref a, .int c] ∧ Ls H a places ∧ Pl w places ∧ ∀ H' p, Same H H' → H p = none → Rows H H' p (tri w c (oP places) (nP places)) → Q (.ref p) H'
def sp_in_places (K : PySem.W.Frag) : Sp := fun vs H Q _ => ∃ (a b : Addr) (places fs : List Int), vs = [.ref a, .ref b] ∧ Ls H a places ∧ Ls H b fs ∧ Od places ∧ fs.length = places.length ∧ ∀ H' p, Same H H' → H p = none → Ls H' p (inPl places (oP places) fs) → Q (.ref p) H'
def sp_triangle (K : PySem.W.Frag) : Sp := fun vs H Q _ => ∃ (w c : Nat) (a : Addr) (places : List Int), vs = [.int w, .ref a, .int c] ∧ Ls H a places ∧ Pl w places ∧ ∀ H' p, Same H H' → H p = none → Rows H H' p (triP w c places (oP places) (nP places)) → Q (.ref p) H'
abbrev dueM (w c : Nat) (places ws : List Int) : List Int := alarmsM w (triP w c places (oP places) (nP places)) ws
def sp_sums_of (K : PySem.W.Frag) : Sp := fun vs H Q _ => ∃ (w c : Nat) (a b : Addr) (places ws : List Int), vs = [.int w, .ref a, .int c, .ref b] ∧ Ls H a places ∧ Ls H b ws ∧ Pl w places ∧ IsWords w places ws ∧ ∀ H' p, Same H H' → H p = none → Ls H' p (dueM w c places ws) → Q (.ref p) H'
def sp_alarms (K : PySem.W.Frag) : Sp := fun vs H Q _ => ∃ (w c : Nat) (a b : Addr) (places ws : List Int), vs = [.int w, .ref a, .int c, .ref b] ∧ Ls H a places ∧ Ls H b ws ∧ Pl w places ∧ IsWords w places ws ∧ ∀ H' p, Same H H' → H p = none → Ls H' p (dueM w c places ws) → Q (.ref p) H'
def sp_alarm (K : PySem.W.Frag) : Sp := fun vs H Q _ => ∃ (w c : Nat) (a b : Addr) (places ws : List Int), vs = [.int w, .ref a, .int c, .ref b] ∧ Ls H a places ∧ Ls H b ws ∧ Pl w places ∧ IsWords w places ws ∧ ∀ H' v, Same H H' → OptPair H (firstNZ 0 (dueM w c places ws)) H' v → Q v H'

/-! ### promises of the law's own defs -/
def sp_l_hash (K : PySem.W.Frag) : Sp := fun vs H Q _ => ∃ s i : Int, vs = [.int s, .int i] ∧ 0 ≤ i ∧ i < 2 ^ 60 ∧ ∀ H' r, Same H H' → Q (.int r) H'
def sp_l_random (K : PySem.W.Frag) : Sp := fun vs H Q _ => ∃ (g : Addr) (b : Int) (c : Nat), vs = [.ref g, .int b] ∧ 0 < b ∧ b < 2 ^ 100 ∧ Gen H g c ∧ c ≤ 1000 ∧ ∀ H' (r : Int), SameX g H H' → Gen H' g (c + 1) → 0 ≤ r → r < b → Q (.int r) H'
def sp_l_cell (K : PySem.W.Frag) : Sp := fun vs H Q _ => ∃ (a : Addr) (i : Nat) (ns : List Int), vs = [.ref a, .int i] ∧ SqL K H a (ns.map V.int) ∧ ∀ H' r, Same H H' → Q (.int r) H'
def sp_l_generator (K : PySem.W.Frag) : Sp := fun vs H Q _ => ∃ (a : Addr) (i : Nat) (ns : List Int), vs = [.ref a, .int i] ∧ i ≤ 3 ∧ SqL K H a (ns.map V.int) ∧ ∀ H' p, Same H H' → H p = none → Gen H' p 0 → Q (.ref p) H'
def sp_l_twos (K : PySem.W.Frag) : Sp := fun vs H Q _ => ∃ i : Int, vs = [.int i] ∧ ∀ H', Same H H' → Q (.int (tw i)) H'
def sp_l_order (K : PySem.W.Frag) : Sp := fun vs H Q _ => ∃ (a : Addr) (places : List Int), vs = [.ref a] ∧ Ls H a places ∧ Od places ∧ places ≠ [] ∧
  ∀ H' t o n, Same H H' → H t = none → H o = none → H n = none → H' t = some (.lst [.ref o, .ref n]) → Ls H' o (oP places) → Ls H' n (ni (nP places)) → Q (.ref t) H'
def sp_l_product (K : PySem.W.Frag) : Sp := fun vs H Q _ => ∃ (a : Addr) (o : List Int) (m : Nat) (x : Int), vs = [.ref a, .int m, .int x] ∧ Ls H a o ∧ (∀ y ∈ o, (x - y).natAbs < 2 ^ 64) ∧ ∀ H', Same H H' → Q (.int (K53.P o m x)) H'
def sp_l_items (K : PySem.W.Frag) : Sp := fun vs H Q _ => ∃ (w c : Nat) (a : Addr) (places : List Int), vs = [.int w, .ref a, .int c] ∧ Ls H a places ∧ Od places ∧ places ≠ [] ∧ ∀ H' p, Same H H' → H p = none → Ls H' p (ni (List.range (cnt w c (nP places)))) → Q (.ref p) H'
def sp_l_codewords (K : PySem.W.Frag) : Sp := fun vs H Q _ => ∃ (w c : Nat) (a : Addr) (places : List Int), vs = [.int w, .ref a, .int c] ∧ Ls H a places ∧ Pl w places ∧ w ≤ 4 ∧ c ≤ 3 ∧ ∀ H' p, Same H H' → H p = none → Rows H H' p (lines w c places (oP places) (nP places)) → Q (.ref p) H'
def sp_l_spots (K : PySem.W.Frag) : Sp := fun vs H Q _ => ∃ (g : Addr) (w c : Nat), vs = [.ref g, .int w, .int 8] ∧ 1 ≤ w ∧ w ≤ 4 ∧ Gen H g c ∧ c ≤ 900 ∧ ∀ H' p (places : List Int), SameX g H H' → Gen H' g (c + 9) → H p = none → Ls H' p places → Pl w places → Q (.ref p) H'
def sp_l_small (K : PySem.W.Frag) : Sp := fun vs H Q _ => ∃ (g : Addr) (c : Nat), vs = [.ref g] ∧ Gen H g c ∧ c ≤ 800 ∧ ∀ H' p a (w m : Nat) (places : List Int), SameX g H H' → Gen H' g (c + 11) → H p = none → H a = none → p ≠ a → H' p = some (.lst [.int w, .ref a, .int m]) → Ls H' a places → Pl w places → w ≤ 4 → m ≤ 3 → Q (.ref p) H'
def sp_l_bent (K : PySem.W.Frag) : Sp := fun vs H Q _ => ∃ (g a : Addr) (w t c : Nat) (line : List Int), vs = [.ref g, .int w, .ref a, .int t] ∧ a ≠ g ∧ Ls H a line ∧ line ≠ [] ∧ line.length ≤ 64 ∧ w ≤ 64 ∧ (∀ x ∈ line, 0 ≤ x ∧ x < 2 ^ w) ∧ t ≤ 3 ∧ Gen H g c ∧ c ≤ 900 ∧
  ∀ H' p (ws : List Int), SameX g H H' → Gen H' g (c + 6) → H p = none → Ls H' p ws → ws.length = line.length → (∀ x ∈ ws, 0 ≤ x ∧ x < 2 ^ w) → Q (.ref p) H'
def sumsM (w : Nat) (rows : List (List Int)) (ws : List Int) : List Int := rows.map fun r => dot r ws % 2 ^ w
def sp_l_sums (K : PySem.W.Frag) : Sp := fun vs H Q _ => ∃ (w : Nat) (r b : Addr) (rows : List (List Int)) (ws : List Int), vs = [.int w, .ref r, .ref b] ∧ Rows noH H r rows ∧ Ls H b ws ∧ (∀ l ∈ rows, l.length = ws.length) ∧ w ≤ 64 ∧ (∀ x ∈ ws, 0 ≤ x ∧ x < 2 ^ 64) ∧ rows.length ≤ 64 ∧ ws.length ≤ 64 ∧
  ∀ H' p, Same H H' → H p = none → Ls H' p (sumsM w rows ws) → Q (.ref p) H'
/-- no line goes along with words on the places up to k of the order -/
def parts (places o ws : List Int) (rows : List (List Int)) (k : Nat) : Bool := decide (∀ line ∈ rows, ∃ j, j < k + 1 ∧ wd places o line j ≠ wd places o ws j)
def misM (places o ws : List Int) (rows : List (List Int)) : Option Nat := (List.range o.length).find? fun k => parts places o ws rows k
def sp_l_misfit (K : PySem.W.Frag) : Sp := fun vs H Q _ => ∃ (a r b : Addr) (places ws : List Int) (rows : List (List Int)), vs = [.ref a, .ref r, .ref b] ∧ Ls H a places ∧ Rows noH H r rows ∧ Ls H b ws ∧ Od places ∧ places ≠ [] ∧ (∀ line ∈ rows, line.length = places.length) ∧ ws.length = places.length ∧ rows.length ≤ 5000 ∧
  ∀ H', Same H H' → Q (ov ((misM places (oP places) ws rows).map fun (k : Nat) => (k : Int))) H'
def sp_l_right (K : PySem.W.Frag) : Sp := fun vs H Q _ => ∃ g : Addr, vs = [.ref g] ∧ Gen H g 0 ∧ ∀ H', SameX g H H' → Q (.bl true) H'
def sp_l_far_right (K : PySem.W.Frag) : Sp := fun vs H Q _ => ∃ g : Addr, vs = [.ref g] ∧ Gen H g 0 ∧ ∀ H', SameX g H H' → Q (.bl true) H'
def sp_law (K : PySem.W.Frag) : Sp := fun vs H Q _ => ∃ (a : Addr) (ns : List Int), vs = [.ref a] ∧ SqL K H a (ns.map V.int) ∧ ∀ H', Q (.bl true) H'
end
end K53

/-! K53Txt: readings and derivations of the defs (printed by wip/gen.py). -/
namespace K53
open PySem PySem.Spec PyProof.Rows L2
section
variable {P : Program} {w : World} {K : PySem.W.Frag} {mg : Str → Option Value} {base : Heap}
abbrev s_is_whole : Stmt := topS 8
abbrev N_is_whole : List Str := ["value"]
abbrev ps_is_whole : List Str := ["value"]
theorem sc_is_whole : FnScope N_is_whole ps_is_whole (defScope s_is_whole) := ⟨rfl, rfl, rfl, by decide +kernel, rfl, by decide +kernel, by decide +kernel⟩
def t_is_whole (K : PySem.W.Frag) : TS :=
    (tRet (tAndV (tCB (rIsi K) (tCons (tVar 0) (tCons (tC (.ty "int")) tNil))) (tNotV (tCB (rIsi K) (tCons (tVar 0) (tCons (tC (.ty "bool")) tNil))))))
theorem d_is_whole (T : Txt K mg) {f : Addr} {cdv : Value} {A : Around} {outer : List Env} {s : Shared} {H : Hp} {E : XK} (hr : Room 0 (A.deeper (envOfC "is_whole" (defScope s_is_whole) s.heap.objs.size f cdv))) :
    PSs (cxOf CX0 P w K mg base N_is_whole "is_whole" (defScope s_is_whole) f cdv A outer s H E).nox (defBody s_is_whole) (t_is_whole K) := by
  have nd := sc_is_whole.nd
  exact (pss_one (ps_ret (pe_and (pe_callB call_isi (by rfl) T.isinstance (by decide +kernel) (pa_cons (pv 0) (pa_cons (pe_bltn (by rfl) T.int (by decide +kernel) rfl) pa_nil))) (pe_one (pe_not (pe_callB call_isi (by rfl) T.isinstance (by decide +kernel) (pa_cons (pv 0) (pa_cons (pe_bltn (by rfl) T.bool (by decide +kernel) rfl) pa_nil))))))))
abbrev s_is_between : Stmt := topS 9
abbrev N_is_between : List Str := ["value", "low", "high"]
abbrev ps_is_between : List Str := ["value", "low", "high"]
theorem sc_is_between : FnScope N_is_between ps_is_between (defScope s_is_between) := ⟨rfl, rfl, rfl, by decide +kernel, rfl, by decide +kernel, by decide +kernel⟩
def t_is_between (K : PySem.W.Frag) : TS :=
    (tSeq (tIfS (tNot (tB (tCall (sp_is_whole K) [] E0 (tCons (tVar 0) tNil)))) (tRet (tC (.bl false))) tNext)
    (tRet (tAndV (tOrV (tOp oIsN (tVar 1) (tC .non)) (tOp oGe (tVar 0) (tVar 1))) (tOrV (tOp oIsN (tVar 2) (tC .non)) (tOp oLe (tVar 0) (tVar 2))))))
theorem d_is_between (T : Txt K mg) (c_is_whole : Cal P w K mg base "is_whole" ps_is_whole 1 (sp_is_whole K)) {f : Addr} {cdv : Value} {A : Around} {outer : List Env} {s : Shared} {H : Hp} {E : XK} (hr : Room 1 (A.deeper (envOfC "is_between" (defScope s_is_between) s.heap.objs.size f cdv))) :
    PSs (cxOf CX0 P w K mg base N_is_between "is_between" (defScope s_is_between) f cdv A outer s H E).nox (defBody s_is_between) (t_is_between K) := by
  have nd := sc_is_between.nd
  exact (pss_cons (ps_if (pt_not (pt_val (pe_cal c_is_whole (hr.mono (by decide)) (by rfl) (pa_cons (pv 0) pa_nil)))) (pss_one (ps_ret pe_bl)) pss_nil)
    (pss_one (ps_ret (pe_and (pe_or (pe_cmpR op_isN (pv 1) pe_non (nomark _)) (pe_one (pe_cmpR op_ge (pv 0) (pv 1) (nomark _)))) (pe_one (pe_or (pe_cmpR op_isN (pv 2) pe_non (nomark _)) (pe_one (pe_cmpR op_le (pv 0) (pv 2) (nomark _)))))))))
abbrev s_check_number : Stmt := topS 10
abbrev N_check_number : List Str := ["number", "low", "high"]
abbrev ps_check_number : List Str := ["number", "low", "high"]
theorem sc_check_number : FnScope N_check_number ps_check_number (defScope s_check_number) := ⟨rfl, rfl, rfl, by decide +kernel, rfl, by decide +kernel, by decide +kernel⟩
def t_check_number (K : PySem.W.Frag) : TS :=
    (tIfS (tNot (tB (tCall (sp_is_between K) [] E0 (tCons (tVar 0) (tCons (tVar 1) (tCons (tVar 2) tNil)))))) tNever tNext)
theorem d_check_number (T : Txt K mg) (c_is_between : Cal P w K mg base "is_between" ps_is_between 2 (sp_is_between K)) {f : Addr} {cdv : Value} {A : Around} {outer : List Env} {s : Shared} {H : Hp} {E : XK} (hr : Room 2 (A.deeper (envOfC "check_number" (defScope s_check_number) s.heap.objs.size f cdv))) :
    PSs (cxOf CX0 P w K mg base N_check_number "check_number" (defScope s_check_number) f cdv A outer s H E).nox (defBody s_check_number) (t_check_number K) := by
  have nd := sc_check_number.nd
  exact (pss_one (ps_if (pt_not (pt_val (pe_cal c_is_between (hr.mono (by decide)) (by rfl) (pa_cons (pv 0) (pa_cons (pv 1) (pa_cons (pv 2) pa_nil)))))) (pss_one ps_never) pss_nil))
abbrev s_power_of_two : Stmt := topS 11
abbrev N_power_of_two : List Str := ["many"]
abbrev ps_power_of_two : List Str := ["many"]
theorem sc_power_of_two : FnScope N_power_of_two ps_power_of_two (defScope s_power_of_two) := ⟨rfl, rfl, rfl, by decide +kernel, rfl, by decide +kernel, by decide +kernel⟩
def t_power_of_two (K : PySem.W.Frag) : TS :=
    (tRet (tOp oShl (tC (.int 1)) (tVar 0)))
theorem d_power_of_two (T : Txt K mg) {f : Addr} {cdv : Value} {A : Around} {outer : List Env} {s : Shared} {H : Hp} {E : XK} (hr : Room 0 (A.deeper (envOfC "power_of_two" (defScope s_power_of_two) s.heap.objs.size f cdv))) :
    PSs (cxOf CX0 P w K mg base N_power_of_two "power_of_two" (defScope s_power_of_two) f cdv A outer s H E).nox (defBody s_power_of_two) (t_power_of_two K) := by
  have nd := sc_power_of_two.nd
  exact (pss_one (ps_ret (pe_op op_shl pe_int (pv 0))))
abbrev s_twos : Stmt := topS 12
abbrev N_twos : List Str := ["number", "found"]
abbrev ps_twos : List Str := ["number"]
theorem sc_twos : FnScope N_twos ps_twos (defScope s_twos) := ⟨rfl, rfl, rfl, by decide +kernel, rfl, by decide +kernel, by decide +kernel⟩
def t_twos (K : PySem.W.Frag) : TS :=
    (tSeq (tAsg (tC (.int 0)) (gName 1))
    (tSeq (tWhile (tTest (tOp rEq (tOp oMod (tVar 0) (tC (.int 2))) (tC (.int 0)))) (tPar 0 1 (tCons (tOp oDiv (tVar 0) (tC (.int 2))) (tCons (tOp oAdd (tVar 1) (tC (.int 1))) tNil))))
    (tRet (tVar 1))))
theorem d_twos (T : Txt K mg) {f : Addr} {cdv : Value} {A : Around} {outer : List Env} {s : Shared} {H : Hp} {E : XK} (hr : Room 0 (A.deeper (envOfC "twos" (defScope s_twos) s.heap.objs.size f cdv))) :
    PSs (cxOf CX0 P w K mg base N_twos "twos" (defScope s_twos) f cdv A outer s H E).nox (defBody s_twos) (t_twos K) := by
  have nd := sc_twos.nd
  exact (pss_cons (ps_set (i := 1) nd rfl (Or.inl rfl) pe_int)
    (pss_cons (ps_while PassesOwn.never (pt_cmpR op_eq (pe_op op_mod (pv 0) pe_int) pe_int (nomark _)) (pss_one (ps_par (i := 0) (j := 1) rfl nd rfl rfl (by decide) rfl rfl (pa_cons (pe_op op_fdiv (pv 0) pe_int) (pa_cons (pe_op op_add (pv 1) pe_int) pa_nil)) (by rfl))))
    (pss_one (ps_ret (pv 1)))))
abbrev s_good_row : Stmt := topS 13
abbrev N_good_row : List Str := ["places", "order", "numbers", "left", "sums", "at", "taken", "have", "place"]
abbrev ps_good_row : List Str := ["places"]
theorem sc_good_row : FnScope N_good_row ps_good_row (defScope s_good_row) := ⟨rfl, rfl, rfl, by decide +kernel, rfl, by decide +kernel, by decide +kernel⟩
def t_good_row (K : PySem.W.Frag) : TS :=
    (tSeq (tAsg (tTup (tCons (tLst tNil) (tCons (tLst tNil) (tCons (tCB (rListS K) (tCons (tVar 0) tNil)) (tCons (tOp rRep (tLst (tCons (tC (.int 0)) tNil)) (tCB (rLenS K) (tCons (tVar 0) tNil))) tNil))))) (gTup K 4 (gCons (gName 1) (gCons (gName 2) (gCons (gName 3) (gCons (gName 4) gNil))))))
    (tSeq (tWhile (tTest (tOp (rNeD K) (tVar 3) (tLst tNil))) (tSeq (tAsg (tBM K "list" (rIndex K) (tVar 4) (tCons (tCB (rMin K) (tCons (tVar 4) tNil)) tNil)) (gName 5))
    (tSeq (tAsg (tBM K "list" rPopAt (tVar 3) (tCons (tVar 5) tNil)) (gName 6))
    (tSeq (tDrop (tBM K "list" rAppend (tVar 1) (tCons (tVar 6) tNil)))
    (tSeq (tDrop (tBM K "list" rAppend (tVar 2) (tCons (tBM K "list" rPopAt (tVar 4) (tCons (tVar 5) tNil)) tNil)))
    (tAsg (tLc (iZipS K (tCons (tVar 4) (tCons (tVar 3) tNil))) (gTup K 2 (gCons (gName 7) (gCons (gName 8) gNil))) tYes (tOp oAdd (tVar 7) (tCall (sp_twos K) [] E0 (tCons (tOp oSub (tVar 8) (tVar 6)) tNil))) [7, 8]) (gName 4)))))))
    (tRet (tTup (tCons (tVar 1) (tCons (tVar 2) tNil))))))
theorem d_good_row (T : Txt K mg) (c_twos : Cal P w K mg base "twos" ps_twos 1 (sp_twos K)) {f : Addr} {cdv : Value} {A : Around} {outer : List Env} {s : Shared} {H : Hp} {E : XK} (hr : Room 1 (A.deeper (envOfC "good_row" (defScope s_good_row) s.heap.objs.size f cdv))) :
    PSs (cxOf CX0 P w K mg base N_good_row "good_row" (defScope s_good_row) f cdv A outer s H E).nox (defBody s_good_row) (t_good_row K) := by
  have nd := sc_good_row.nd
  exact (pss_cons (ps_asg (pe_tup (pa_cons (pe_lst pa_nil) (pa_cons (pe_lst pa_nil) (pa_cons (pe_callTy call_list_of (by rfl) T.list (by decide +kernel) (pa_cons (pv 0) pa_nil)) (pa_cons (pe_op op_rep (pe_lst (pa_cons pe_int pa_nil)) (pe_callB call_len_seq (by rfl) T.len (by decide +kernel) (pa_cons (pv 0) pa_nil))) pa_nil))))) (pg_tup rfl (pgs_cons (pg_name (i := 1) nd rfl (Or.inl rfl)) (pgs_cons (pg_name (i := 2) nd rfl (Or.inl rfl)) (pgs_cons (pg_name (i := 3) nd rfl (Or.inl rfl)) (pgs_cons (pg_name (i := 4) nd rfl (Or.inl rfl)) pgs_nil))))))
    (pss_cons (ps_while PassesOwn.never (pt_cmpR (op_neD hr.units) (pv 3) (pe_lst pa_nil) (nomark _)) (pss_cons (ps_set (i := 5) nd rfl (Or.inl rfl) (pe_bm PySem.F.plainAttrs_list PySem.F.slot_list_index PySem.F.type_list_index mt_index (pv 4) (pa_cons (pe_callB (cr_min rfl) (by rfl) T.min (by decide +kernel) (pa_cons (pv 4) pa_nil)) pa_nil)))
    (pss_cons (ps_set (i := 6) nd rfl (Or.inr rfl) (pe_bm PySem.F.plainAttrs_list PySem.F.slot_list_pop PySem.F.type_list_pop mt_popAt (pv 3) (pa_cons (pv 5) pa_nil)))
    (pss_cons (ps_expr (pe_bm PySem.F.plainAttrs_list PySem.F.slot_list_append PySem.F.type_list_append mt_append (pv 1) (pa_cons (pv 6) pa_nil)))
    (pss_cons (ps_expr (pe_bm PySem.F.plainAttrs_list PySem.F.slot_list_append PySem.F.type_list_append mt_append (pv 2) (pa_cons (pe_bm PySem.F.plainAttrs_list PySem.F.slot_list_pop PySem.F.type_list_pop mt_popAt (pv 4) (pa_cons (pv 5) pa_nil)) pa_nil)))
    (pss_one (ps_setLc (i := 4) (own := [("have", 7), ("place", 8)]) (g := (gTup K 2 (gCons (gName 7) (gCons (gName 8) gNil)))) (tt := tYes) rfl nd rfl rfl (sw_true rfl rfl rfl (by decide +kernel)) (pi_zipS (by rfl) T.zip (pa_cons (pv 4) (pa_cons (pv 3) pa_nil))) (blkOk_by (own := [("have", 7), ("place", 8)]) (N := N_good_row) (sc := (defScope s_good_row)) (by decide +kernel)) (fun _ _ _ _ _ => (pg_tup rfl (pgs_cons (pg_name (i := 7) nd rfl (Or.inl rfl)) (pgs_cons (pg_name (i := 8) nd rfl (Or.inl rfl)) pgs_nil)))) (fun _ _ _ _ _ => pts_nil) (fun _ _ _ _ _ => (pe_op op_add (pv 7) (pe_cal c_twos (hr.mono (by decide)) (by rfl) (pa_cons (pe_op op_sub (pv 8) (pv 6)) pa_nil)))))))))))
    (pss_one (ps_ret (pe_tup (pa_cons (pv 1) (pa_cons (pv 2) pa_nil)))))))
abbrev s_product_at : Stmt := topS 14
abbrev N_product_at : List Str := ["order", "many", "number", "found", "place"]
abbrev ps_product_at : List Str := ["order", "many", "number"]
theorem sc_product_at : FnScope N_product_at ps_product_at (defScope s_product_at) := ⟨rfl, rfl, rfl, by decide +kernel, rfl, by decide +kernel, by decide +kernel⟩
def t_product_at (K : PySem.W.Frag) : TS :=
    (tSeq (tAsg (tC (.int 1)) (gName 3))
    (tSeq (tFor (iList K (tSl (rSlL K) (tVar 0) tNoPart (tPart (tVar 1)))) (gName 4) (tAsg (tOp oMul (tVar 3) (tOp oSub (tVar 2) (tVar 4))) (gName 3)))
    (tRet (tVar 3))))
theorem d_product_at (T : Txt K mg) {f : Addr} {cdv : Value} {A : Around} {outer : List Env} {s : Shared} {H : Hp} {E : XK} (hr : Room 0 (A.deeper (envOfC "product_at" (defScope s_product_at) s.heap.objs.size f cdv))) :
    PSs (cxOf CX0 P w K mg base N_product_at "product_at" (defScope s_product_at) f cdv A outer s H E).nox (defBody s_product_at) (t_product_at K) := by
  have nd := sc_product_at.nd
  exact (pss_cons (ps_set (i := 3) nd rfl (Or.inl rfl) pe_int)
    (pss_cons (ps_for PassesOwn.never rfl (pi_list (pe_slice sl_list (pv 0) po_none (po_some (pv 1)))) (pg_name (i := 4) nd rfl (Or.inl rfl)) (pss_one (ps_set (i := 3) nd rfl (Or.inl rfl) (pe_op op_mul (pv 3) (pe_op op_sub (pv 2) (pv 4))))))
    (pss_one (ps_ret (pv 3)))))
abbrev s_items_counted : Stmt := topS 15
abbrev N_items_counted : List Str := ["width", "numbers", "count", "number"]
abbrev ps_items_counted : List Str := ["width", "numbers", "count"]
theorem sc_items_counted : FnScope N_items_counted ps_items_counted (defScope s_items_counted) := ⟨rfl, rfl, rfl, by decide +kernel, rfl, by decide +kernel, by decide +kernel⟩
def t_items_counted (K : PySem.W.Frag) : TS :=
    (tRet (tCB (rLenS K) (tCons (tLc (iList K (tSl (rSlL K) (tVar 1) tNoPart (tPart (tVar 2)))) (gName 3) (tTest (tOp oLt (tVar 3) (tVar 0))) (tVar 3) [3]) tNil)))
theorem d_items_counted (T : Txt K mg) {f : Addr} {cdv : Value} {A : Around} {outer : List Env} {s : Shared} {H : Hp} {E : XK} (hr : Room 0 (A.deeper (envOfC "items_counted" (defScope s_items_counted) s.heap.objs.size f cdv))) :
    PSs (cxOf CX0 P w K mg base N_items_counted "items_counted" (defScope s_items_counted) f cdv A outer s H E).nox (defBody s_items_counted) (t_items_counted K) := by
  have nd := sc_items_counted.nd
  exact (pss_one (ps_ret (pe_callB call_len_seq (by rfl) T.len (by decide +kernel) (pa_cons (pe_lc (own := [("number", 3)]) (g := (gName 3)) (tt := (tTest (tOp oLt (tVar 3) (tVar 0)))) rfl nd (pi_list (pe_slice sl_list (pv 1) po_none (po_some (pv 2)))) (blkOk_by (own := [("number", 3)]) (N := N_items_counted) (sc := (defScope s_items_counted)) (by decide +kernel)) (fun _ _ _ _ _ => (pg_name (i := 3) nd rfl (Or.inl rfl))) (fun _ _ _ _ _ => (pts_one (pt_cmpR op_lt (pv 3) (pv 0) (nomark _)))) (fun _ _ _ _ _ => (pv 3))) pa_nil))))
abbrev s_is_width : Stmt := topS 17
abbrev N_is_width : List Str := ["value"]
abbrev ps_is_width : List Str := ["value"]
theorem sc_is_width : FnScope N_is_width ps_is_width (defScope s_is_width) := ⟨rfl, rfl, rfl, by decide +kernel, rfl, by decide +kernel, by decide +kernel⟩
def t_is_width (K : PySem.W.Frag) : TS :=
    (tRet (tCall (sp_is_between K) [] E0 (tCons (tVar 0) (tCons (tC (.int 1)) (tCons (tC (.int 64)) tNil)))))
theorem d_is_width (T : Txt K mg) (c_is_between : Cal P w K mg base "is_between" ps_is_between 2 (sp_is_between K)) {f : Addr} {cdv : Value} {A : Around} {outer : List Env} {s : Shared} {H : Hp} {E : XK} (hr : Room 2 (A.deeper (envOfC "is_width" (defScope s_is_width) s.heap.objs.size f cdv))) :
    PSs (cxOf CX0 P w K mg base N_is_width "is_width" (defScope s_is_width) f cdv A outer s H E).nox (defBody s_is_width) (t_is_width K) := by
  have nd := sc_is_width.nd
  exact (pss_one (ps_ret (pe_cal c_is_between (hr.mono (by decide)) (by rfl) (pa_cons (pv 0) (pa_cons pe_int (pa_cons (pe_most T.most (by rfl)) pa_nil))))))
abbrev s_check_width : Stmt := topS 18
abbrev N_check_width : List Str := ["width"]
abbrev ps_check_width : List Str := ["width"]
theorem sc_check_width : FnScope N_check_width ps_check_width (defScope s_check_width) := ⟨rfl, rfl, rfl, by decide +kernel, rfl, by decide +kernel, by decide +kernel⟩
def t_check_width (K : PySem.W.Frag) : TS :=
    (tIfS (tNot (tB (tCall (sp_is_width K) [] E0 (tCons (tVar 0) tNil)))) tNever tNext)
theorem d_check_width (T : Txt K mg) (c_is_width : Cal P w K mg base "is_width" ps_is_width 3 (sp_is_width K)) {f : Addr} {cdv : Value} {A : Around} {outer : List Env} {s : Shared} {H : Hp} {E : XK} (hr : Room 3 (A.deeper (envOfC "check_width" (defScope s_check_width) s.heap.objs.size f cdv))) :
    PSs (cxOf CX0 P w K mg base N_check_width "check_width" (defScope s_check_width) f cdv A outer s H E).nox (defBody s_check_width) (t_check_width K) := by
  have nd := sc_check_width.nd
  exact (pss_one (ps_if (pt_not (pt_val (pe_cal c_is_width (hr.mono (by decide)) (by rfl) (pa_cons (pv 0) pa_nil)))) (pss_one ps_never) pss_nil))
abbrev s_is_of_width : Stmt := topS 19
abbrev N_is_of_width : List Str := ["width", "value"]
abbrev ps_is_of_width : List Str := ["width", "value"]
theorem sc_is_of_width : FnScope N_is_of_width ps_is_of_width (defScope s_is_of_width) := ⟨rfl, rfl, rfl, by decide +kernel, rfl, by decide +kernel, by decide +kernel⟩
def t_is_of_width (K : PySem.W.Frag) : TS :=
    (tRet (tCall (sp_is_between K) [] E0 (tCons (tVar 1) (tCons (tC (.int 0)) (tCons (tOp oSub (tCall (sp_power_of_two K) [] E0 (tCons (tVar 0) tNil)) (tC (.int 1))) tNil)))))
theorem d_is_of_width (T : Txt K mg) (c_is_between : Cal P w K mg base "is_between" ps_is_between 2 (sp_is_between K)) (c_power_of_two : Cal P w K mg base "power_of_two" ps_power_of_two 1 (sp_power_of_two K)) {f : Addr} {cdv : Value} {A : Around} {outer : List Env} {s : Shared} {H : Hp} {E : XK} (hr : Room 2 (A.deeper (envOfC "is_of_width" (defScope s_is_of_width) s.heap.objs.size f cdv))) :
    PSs (cxOf CX0 P w K mg base N_is_of_width "is_of_width" (defScope s_is_of_width) f cdv A outer s H E).nox (defBody s_is_of_width) (t_is_of_width K) := by
  have nd := sc_is_of_width.nd
  exact (pss_one (ps_ret (pe_cal c_is_between (hr.mono (by decide)) (by rfl) (pa_cons (pv 1) (pa_cons pe_int (pa_cons (pe_op op_sub (pe_cal c_power_of_two (hr.mono (by decide)) (by rfl) (pa_cons (pv 0) pa_nil)) pe_int) pa_nil))))))
abbrev s_rises : Stmt := topS 20
abbrev N_rises : List Str := ["numbers", "at"]
abbrev ps_rises : List Str := ["numbers"]
theorem sc_rises : FnScope N_rises ps_rises (defScope s_rises) := ⟨rfl, rfl, rfl, by decide +kernel, rfl, by decide +kernel, by decide +kernel⟩
def t_rises (K : PySem.W.Frag) : TS :=
    (tRet (tOp (rEqD K) (tLc (iRng2 (tCons (tC (.int 1)) (tCons (tCB (rLenS K) (tCons (tVar 0) tNil)) tNil))) (gName 1) (tTest (tOp oGe (tOp (rIxL K) (tVar 0) (tOp oSub (tVar 1) (tC (.int 1)))) (tOp (rIxL K) (tVar 0) (tVar 1)))) (tVar 1) [1]) (tLst tNil)))
theorem d_rises (T : Txt K mg) {f : Addr} {cdv : Value} {A : Around} {outer : List Env} {s : Shared} {H : Hp} {E : XK} (hr : Room 0 (A.deeper (envOfC "rises" (defScope s_rises) s.heap.objs.size f cdv))) :
    PSs (cxOf CX0 P w K mg base N_rises "rises" (defScope s_rises) f cdv A outer s H E).nox (defBody s_rises) (t_rises K) := by
  have nd := sc_rises.nd
  exact (pss_one (ps_ret (pe_cmpR (op_eqD hr.units) (pe_lc (own := [("at", 1)]) (g := (gName 1)) (tt := (tTest (tOp oGe (tOp (rIxL K) (tVar 0) (tOp oSub (tVar 1) (tC (.int 1)))) (tOp (rIxL K) (tVar 0) (tVar 1))))) rfl nd (pi_range2 (by rfl) T.range (pa_cons pe_int (pa_cons (pe_callB call_len_seq (by rfl) T.len (by decide +kernel) (pa_cons (pv 0) pa_nil)) pa_nil))) (blkOk_by (own := [("at", 1)]) (N := N_rises) (sc := (defScope s_rises)) (by decide +kernel)) (fun _ _ _ _ _ => (pg_name (i := 1) nd rfl (Or.inl rfl))) (fun _ _ _ _ _ => (pts_one (pt_cmpR op_ge (pe_ix ix_list (pv 0) (pe_op op_sub (pv 1) pe_int) (fun _ _ => rfl)) (pe_ix ix_list (pv 0) (pv 1) (fun _ _ => rfl)) (nomark _)))) (fun _ _ _ _ _ => (pv 1))) (pe_lst pa_nil) (nomark _))))
abbrev s_are_places : Stmt := topS 21
abbrev N_are_places : List Str := ["width", "value", "item"]
abbrev ps_are_places : List Str := ["width", "value"]
theorem sc_are_places : FnScope N_are_places ps_are_places (defScope s_are_places) := ⟨rfl, rfl, rfl, by decide +kernel, rfl, by decide +kernel, by decide +kernel⟩
def t_are_places (K : PySem.W.Frag) : TS :=
    (tSeq (tIfS (tOr (tNot (tB (tCB (rIsi K) (tCons (tVar 1) (tCons (tC (.ty "list")) tNil))))) (tTest (tOp (rEqD K) (tVar 1) (tLst tNil)))) (tRet (tC (.bl false))) tNext)
    (tRet (tAndV (tOp (rEqD K) (tLc (iList K (tVar 1)) (gName 2) (tNot (tB (tCall (sp_is_of_width K) [] E0 (tCons (tVar 0) (tCons (tVar 2) tNil))))) (tVar 2) [2]) (tLst tNil)) (tCall (sp_rises K) [] E0 (tCons (tVar 1) tNil)))))
theorem d_are_places (T : Txt K mg) (c_is_of_width : Cal P w K mg base "is_of_width" ps_is_of_width 3 (sp_is_of_width K)) (c_rises : Cal P w K mg base "rises" ps_rises 1 (sp_rises K)) {f : Addr} {cdv : Value} {A : Around} {outer : List Env} {s : Shared} {H : Hp} {E : XK} (hr : Room 3 (A.deeper (envOfC "are_places" (defScope s_are_places) s.heap.objs.size f cdv))) :
    PSs (cxOf CX0 P w K mg base N_are_places "are_places" (defScope s_are_places) f cdv A outer s H E).nox (defBody s_are_places) (t_are_places K) := by
  have nd := sc_are_places.nd
  exact (pss_cons (ps_if (PW.pt (pw_or (pt_not (pt_val (pe_callB call_isi (by rfl) T.isinstance (by decide +kernel) (pa_cons (pv 1) (pa_cons (pe_bltn (by rfl) T.list (by decide +kernel) rfl) pa_nil))))) (pw_or1 (pt_cmpR (op_eqD hr.units) (pv 1) (pe_lst pa_nil) (nomark _))))) (pss_one (ps_ret pe_bl)) pss_nil)
    (pss_one (ps_ret (pe_and (pe_cmpR (op_eqD hr.units) (pe_lc (own := [("item", 2)]) (g := (gName 2)) (tt := (tNot (tB (tCall (sp_is_of_width K) [] E0 (tCons (tVar 0) (tCons (tVar 2) tNil)))))) rfl nd (pi_list (pv 1)) (blkOk_by (own := [("item", 2)]) (N := N_are_places) (sc := (defScope s_are_places)) (by decide +kernel)) (fun _ _ _ _ _ => (pg_name (i := 2) nd rfl (Or.inl rfl))) (fun _ _ _ _ _ => (pts_one (pt_not (pt_val (pe_cal c_is_of_width (hr.mono (by decide)) (by rfl) (pa_cons (pv 0) (pa_cons (pv 2) pa_nil))))))) (fun _ _ _ _ _ => (pv 2))) (pe_lst pa_nil) (nomark _)) (pe_one (pe_cal c_rises (hr.mono (by decide)) (by rfl) (pa_cons (pv 1) pa_nil)))))))
abbrev s_check_places : Stmt := topS 22
abbrev N_check_places : List Str := ["width", "places"]
abbrev ps_check_places : List Str := ["width", "places"]
theorem sc_check_places : FnScope N_check_places ps_check_places (defScope s_check_places) := ⟨rfl, rfl, rfl, by decide +kernel, rfl, by decide +kernel, by decide +kernel⟩
def t_check_places (K : PySem.W.Frag) : TS :=
    (tSeq (tDrop (tCall (sp_check_width K) [] E0 (tCons (tVar 0) tNil)))
    (tIfS (tNot (tB (tCall (sp_are_places K) [] E0 (tCons (tVar 0) (tCons (tVar 1) tNil))))) tNever tNext))
theorem d_check_places (T : Txt K mg) (c_check_width : Cal P w K mg base "check_width" ps_check_width 4 (sp_check_width K)) (c_are_places : Cal P w K mg base "are_places" ps_are_places 4 (sp_are_places K)) {f : Addr} {cdv : Value} {A : Around} {outer : List Env} {s : Shared} {H : Hp} {E : XK} (hr : Room 4 (A.deeper (envOfC "check_places" (defScope s_check_places) s.heap.objs.size f cdv))) :
    PSs (cxOf CX0 P w K mg base N_check_places "check_places" (defScope s_check_places) f cdv A outer s H E).nox (defBody s_check_places) (t_check_places K) := by
  have nd := sc_check_places.nd
  exact (pss_cons (ps_expr (pe_cal c_check_width (hr.mono (by decide)) (by rfl) (pa_cons (pv 0) pa_nil)))
    (pss_one (ps_if (pt_not (pt_val (pe_cal c_are_places (hr.mono (by decide)) (by rfl) (pa_cons (pv 0) (pa_cons (pv 1) pa_nil))))) (pss_one ps_never) pss_nil)))
abbrev s_are_words : Stmt := topS 23
abbrev N_are_words : List Str := ["width", "places", "value", "item"]
abbrev ps_are_words : List Str := ["width", "places", "value"]
theorem sc_are_words : FnScope N_are_words ps_are_words (defScope s_are_words) := ⟨rfl, rfl, rfl, by decide +kernel, rfl, by decide +kernel, by decide +kernel⟩
def t_are_words (K : PySem.W.Frag) : TS :=
    (tSeq (tIfS (tOr (tNot (tB (tCB (rIsi K) (tCons (tVar 2) (tCons (tC (.ty "list")) tNil))))) (tTest (tOp rNe (tCB (rLenS K) (tCons (tVar 2) tNil)) (tCB (rLenS K) (tCons (tVar 1) tNil))))) (tRet (tC (.bl false))) tNext)
    (tRet (tOp (rEqD K) (tLc (iList K (tVar 2)) (gName 3) (tNot (tB (tCall (sp_is_of_width K) [] E0 (tCons (tVar 0) (tCons (tVar 3) tNil))))) (tVar 3) [3]) (tLst tNil))))
theorem d_are_words (T : Txt K mg) (c_is_of_width : Cal P w K mg base "is_of_width" ps_is_of_width 3 (sp_is_of_width K)) {f : Addr} {cdv : Value} {A : Around} {outer : List Env} {s : Shared} {H : Hp} {E : XK} (hr : Room 3 (A.deeper (envOfC "are_words" (defScope s_are_words) s.heap.objs.size f cdv))) :
    PSs (cxOf CX0 P w K mg base N_are_words "are_words" (defScope s_are_words) f cdv A outer s H E).nox (defBody s_are_words) (t_are_words K) := by
  have nd := sc_are_words.nd
  exact (pss_cons (ps_if (PW.pt (pw_or (pt_not (pt_val (pe_callB call_isi (by rfl) T.isinstance (by decide +kernel) (pa_cons (pv 2) (pa_cons (pe_bltn (by rfl) T.list (by decide +kernel) rfl) pa_nil))))) (pw_or1 (pt_cmpR op_ne (pe_callB call_len_seq (by rfl) T.len (by decide +kernel) (pa_cons (pv 2) pa_nil)) (pe_callB call_len_seq (by rfl) T.len (by decide +kernel) (pa_cons (pv 1) pa_nil)) (nomark _))))) (pss_one (ps_ret pe_bl)) pss_nil)
    (pss_one (ps_ret (pe_cmpR (op_eqD hr.units) (pe_lc (own := [("item", 3)]) (g := (gName 3)) (tt := (tNot (tB (tCall (sp_is_of_width K) [] E0 (tCons (tVar 0) (tCons (tVar 3) tNil)))))) rfl nd (pi_list (pv 2)) (blkOk_by (own := [("item", 3)]) (N := N_are_words) (sc := (defScope s_are_words)) (by decide +kernel)) (fun _ _ _ _ _ => (pg_name (i := 3) nd rfl (Or.inl rfl))) (fun _ _ _ _ _ => (pts_one (pt_not (pt_val (pe_cal c_is_of_width (hr.mono (by decide)) (by rfl) (pa_cons (pv 0) (pa_cons (pv 3) pa_nil))))))) (fun _ _ _ _ _ => (pv 3))) (pe_lst pa_nil) (nomark _)))))
abbrev s_check_words : Stmt := topS 24
abbrev N_check_words : List Str := ["width", "places", "words"]
abbrev ps_check_words : List Str := ["width", "places", "words"]
theorem sc_check_words : FnScope N_check_words ps_check_words (defScope s_check_words) := ⟨rfl, rfl, rfl, by decide +kernel, rfl, by decide +kernel, by decide +kernel⟩
def t_check_words (K : PySem.W.Frag) : TS :=
    (tIfS (tNot (tB (tCall (sp_are_words K) [] E0 (tCons (tVar 0) (tCons (tVar 1) (tCons (tVar 2) tNil)))))) tNever tNext)
theorem d_check_words (T : Txt K mg) (c_are_words : Cal P w K mg base "are_words" ps_are_words 4 (sp_are_words K)) {f : Addr} {cdv : Value} {A : Around} {outer : List Env} {s : Shared} {H : Hp} {E : XK} (hr : Room 4 (A.deeper (envOfC "check_words" (defScope s_check_words) s.heap.objs.size f cdv))) :
    PSs (cxOf CX0 P w K mg base N_check_words "check_words" (defScope s_check_words) f cdv A outer s H E).nox (defBody s_check_words) (t_check_words K) := by
  have nd := sc_check_words.nd
  exact (pss_one (ps_if (pt_not (pt_val (pe_cal c_are_words (hr.mono (by decide)) (by rfl) (pa_cons (pv 0) (pa_cons (pv 1) (pa_cons (pv 2) pa_nil)))))) (pss_one ps_never) pss_nil))
abbrev s_check_code : Stmt := topS 26
abbrev N_check_code : List Str := ["width", "places", "count"]
abbrev ps_check_code : List Str := ["width", "places", "count"]
theorem sc_check_code : FnScope N_check_code ps_check_code (defScope s_check_code) := ⟨rfl, rfl, rfl, by decide +kernel, rfl, by decide +kernel, by decide +kernel⟩
def t_check_code (K : PySem.W.Frag) : TS :=
    (tSeq (tDrop (tCall (sp_check_places K) [] E0 (tCons (tVar 0) (tCons (tVar 1) tNil))))
    (tDrop (tCall (sp_check_number K) [] E0 (tCons (tVar 2) (tCons (tC (.int 0)) (tCons (tC .non) tNil))))))
theorem d_check_code (T : Txt K mg) (c_check_places : Cal P w K mg base "check_places" ps_check_places 5 (sp_check_places K)) (c_check_number : Cal P w K mg base "check_number" ps_check_number 3 (sp_check_number K)) {f : Addr} {cdv : Value} {A : Around} {outer : List Env} {s : Shared} {H : Hp} {E : XK} (hr : Room 5 (A.deeper (envOfC "check_code" (defScope s_check_code) s.heap.objs.size f cdv))) :
    PSs (cxOf CX0 P w K mg base N_check_code "check_code" (defScope s_check_code) f cdv A outer s H E).nox (defBody s_check_code) (t_check_code K) := by
  have nd := sc_check_code.nd
  exact (pss_cons (ps_expr (pe_cal c_check_places (hr.mono (by decide)) (by rfl) (pa_cons (pv 0) (pa_cons (pv 1) pa_nil))))
    (pss_one (ps_expr (pe_cal c_check_number (hr.mono (by decide)) (by rfl) (pa_cons (pv 2) (pa_cons pe_int (pa_cons pe_non pa_nil)))))))
abbrev s_odd_undone : Stmt := topS 27
abbrev N_odd_undone : List Str := ["number", "by", "found", "_"]
abbrev ps_odd_undone : List Str := ["number", "by"]
theorem sc_odd_undone : FnScope N_odd_undone ps_odd_undone (defScope s_odd_undone) := ⟨rfl, rfl, rfl, by decide +kernel, rfl, by decide +kernel, by decide +kernel⟩
def t_odd_undone (K : PySem.W.Frag) : TS :=
    (tSeq (tAsg (tC (.int 1)) (gName 2))
    (tSeq (tFor (iRng1 (tCons (tC (.int 7)) tNil)) (gName 3) (tAsg (tOp oMod (tOp oMul (tVar 2) (tOp oSub (tC (.int 2)) (tOp oMul (tVar 0) (tVar 2)))) (tVar 1)) (gName 2)))
    (tRet (tVar 2))))
theorem d_odd_undone (T : Txt K mg) {f : Addr} {cdv : Value} {A : Around} {outer : List Env} {s : Shared} {H : Hp} {E : XK} (hr : Room 0 (A.deeper (envOfC "odd_undone" (defScope s_odd_undone) s.heap.objs.size f cdv))) :
    PSs (cxOf CX0 P w K mg base N_odd_undone "odd_undone" (defScope s_odd_undone) f cdv A outer s H E).nox (defBody s_odd_undone) (t_odd_undone K) := by
  have nd := sc_odd_undone.nd
  exact (pss_cons (ps_set (i := 2) nd rfl (Or.inl rfl) pe_int)
    (pss_cons (ps_for PassesOwn.never rfl (pi_range1 (by rfl) T.range (pa_cons pe_int pa_nil)) (pg_name (i := 3) nd rfl (Or.inl rfl)) (pss_one (ps_set (i := 2) nd rfl (Or.inl rfl) (pe_op op_mod (pe_op op_mul (pv 2) (pe_op op_sub pe_int (pe_op op_mul (pv 0) (pv 2)))) (pv 1)))))
    (pss_one (ps_ret (pv 2)))))
abbrev s_steps_of : Stmt := topS 29
abbrev N_steps_of : List Str := ["width", "numbers", "count", "at", "number"]
abbrev ps_steps_of : List Str := ["width", "numbers", "count"]
theorem sc_steps_of : FnScope N_steps_of ps_steps_of (defScope s_steps_of) := ⟨rfl, rfl, rfl, by decide +kernel, rfl, by decide +kernel, by decide +kernel⟩
def t_steps_of (K : PySem.W.Frag) : TS :=
    (tRet (tLc (iEnum K (tCons (tVar 1) tNil)) (gTup K 2 (gCons (gName 3) (gCons (gName 4) gNil))) tYes (tIf (tAnd (tTest (tOp oLt (tVar 3) (tVar 2))) (tTest (tOp oLt (tVar 4) (tVar 0)))) (tCall (sp_power_of_two K) [] E0 (tCons (tOp oSub (tVar 0) (tVar 4)) tNil)) (tC (.int 1))) [3, 4]))
theorem d_steps_of (T : Txt K mg) (c_power_of_two : Cal P w K mg base "power_of_two" ps_power_of_two 1 (sp_power_of_two K)) {f : Addr} {cdv : Value} {A : Around} {outer : List Env} {s : Shared} {H : Hp} {E : XK} (hr : Room 1 (A.deeper (envOfC "steps_of" (defScope s_steps_of) s.heap.objs.size f cdv))) :
    PSs (cxOf CX0 P w K mg base N_steps_of "steps_of" (defScope s_steps_of) f cdv A outer s H E).nox (defBody s_steps_of) (t_steps_of K) := by
  have nd := sc_steps_of.nd
  exact (pss_one (ps_ret (pe_lc (own := [("at", 3), ("number", 4)]) (g := (gTup K 2 (gCons (gName 3) (gCons (gName 4) gNil)))) (tt := tYes) rfl nd (pi_enum (by rfl) T.enumerate (pa_cons (pv 1) pa_nil)) (blkOk_by (own := [("at", 3), ("number", 4)]) (N := N_steps_of) (sc := (defScope s_steps_of)) (by decide +kernel)) (fun _ _ _ _ _ => (pg_tup rfl (pgs_cons (pg_name (i := 3) nd rfl (Or.inl rfl)) (pgs_cons (pg_name (i := 4) nd rfl (Or.inl rfl)) pgs_nil)))) (fun _ _ _ _ _ => pts_nil) (fun _ _ _ _ _ => (pe_ifExp (PW.pt (pw_and (pt_cmpR op_lt (pv 3) (pv 2) (nomark _)) (pw_and1 (pt_cmpR op_lt (pv 4) (pv 0) (nomark _))))) (pe_cal c_power_of_two (hr.mono (by decide)) (by rfl) (pa_cons (pe_op op_sub (pv 0) (pv 4)) pa_nil)) pe_int)))))
abbrev s_told_triangle : Stmt := topS 30
abbrev N_told_triangle : List Str := ["width", "places", "count", "order", "numbers", "whole", "steps", "found", "items", "last", "place", "factors", "at", "product", "later", "part", "odd"]
abbrev ps_told_triangle : List Str := ["width", "places", "count"]
theorem sc_told_triangle : FnScope N_told_triangle ps_told_triangle (defScope s_told_triangle) := ⟨rfl, rfl, rfl, by decide +kernel, rfl, by decide +kernel, by decide +kernel⟩
def t_told_triangle (K : PySem.W.Frag) : TS :=
    (tSeq (tAsg (tCall (sp_good_row K) [] E0 (tCons (tVar 1) tNil)) (gTup K 2 (gCons (gName 3) (gCons (gName 4) gNil))))
    (tSeq (tPar3 5 6 7 (tCons (tCall (sp_power_of_two K) [] E0 (tCons (tVar 0) tNil)) (tCons (tCall (sp_steps_of K) [] E0 (tCons (tVar 0) (tCons (tVar 4) (tCons (tVar 2) tNil)))) (tCons (tLst tNil) tNil))))
    (tSeq (tAsg (tCall (sp_items_counted K) [] E0 (tCons (tVar 0) (tCons (tVar 4) (tCons (tVar 2) tNil)))) (gName 8))
    (tSeq (tFor (iEnum K (tCons (tVar 3) tNil)) (gTup K 2 (gCons (gName 9) (gCons (gName 10) gNil))) (tSeq (tAsg (tOp rRep (tLst (tCons (tC (.int 0)) tNil)) (tCB (rLenS K) (tCons (tVar 3) tNil))) (gName 11))
    (tSeq (tAsg (tOp oMod (tOp (rIxL K) (tVar 6) (tVar 9)) (tVar 5)) (gSub (tVar 11) (tVar 9) rSetL))
    (tSeq (tFor (iRng3 (tCons (tOp oSub (tCB oMin2 (tCons (tVar 9) (tCons (tVar 8) tNil))) (tC (.int 1))) (tCons (tUn oNeg (tC (.int 1))) (tCons (tUn oNeg (tC (.int 1))) tNil)))) (gName 12) (tSeq (tAsg (tOp oMulX (tOp (rIxL K) (tVar 6) (tVar 9)) (tCall (sp_product_at K) [] E0 (tCons (tVar 3) (tCons (tVar 12) (tCons (tVar 10) tNil))))) (gName 13))
    (tSeq (tFor (iRng2 (tCons (tOp oAdd (tVar 12) (tC (.int 1))) (tCons (tCB oMin2 (tCons (tVar 9) (tCons (tVar 8) tNil))) tNil))) (gName 14) (tAsg (tOp oAdd (tVar 13) (tOp oMulX (tOp (rIxL K) (tVar 11) (tVar 14)) (tCall (sp_product_at K) [] E0 (tCons (tVar 3) (tCons (tVar 12) (tCons (tOp (rIxL K) (tVar 3) (tVar 14)) tNil)))))) (gName 13)))
    (tSeq (tAsg (tCall (sp_power_of_two K) [] E0 (tCons (tOp (rIxL K) (tVar 4) (tVar 12)) tNil)) (gName 15))
    (tSeq (tAsg (tOp oDivW (tCall (sp_product_at K) [] E0 (tCons (tVar 3) (tCons (tVar 12) (tCons (tOp (rIxL K) (tVar 3) (tVar 12)) tNil)))) (tVar 15)) (gName 16))
    (tAsg (tOp oMod (tOp oMulX (tUn oNeg (tOp oDivW (tOp oMod (tVar 13) (tVar 5)) (tVar 15))) (tCall (sp_odd_undone K) [] E0 (tCons (tVar 16) (tCons (tOp (rIxL K) (tVar 6) (tVar 12)) tNil)))) (tOp (rIxL K) (tVar 6) (tVar 12))) (gSub (tVar 11) (tVar 12) rSetL)))))))
    (tDrop (tBM K "list" rAppend (tVar 7) (tCons (tVar 11) tNil)))))))
    (tRet (tVar 7))))))
theorem d_told_triangle (T : Txt K mg) (c_good_row : Cal P w K mg base "good_row" ps_good_row 2 (sp_good_row K)) (c_steps_of : Cal P w K mg base "steps_of" ps_steps_of 2 (sp_steps_of K)) (c_power_of_two : Cal P w K mg base "power_of_two" ps_power_of_two 1 (sp_power_of_two K)) (c_items_counted : Cal P w K mg base "items_counted" ps_items_counted 1 (sp_items_counted K)) (c_product_at : Cal P w K mg base "product_at" ps_product_at 1 (sp_product_at K)) (c_odd_undone : Cal P w K mg base "odd_undone" ps_odd_undone 1 (sp_odd_undone K)) {f : Addr} {cdv : Value} {A : Around} {outer : List Env} {s : Shared} {H : Hp} {E : XK} (hr : Room 2 (A.deeper (envOfC "told_triangle" (defScope s_told_triangle) s.heap.objs.size f cdv))) :
    PSs (cxOf CX0 P w K mg base N_told_triangle "told_triangle" (defScope s_told_triangle) f cdv A outer s H E).nox (defBody s_told_triangle) (t_told_triangle K) := by
  have nd := sc_told_triangle.nd
  exact (pss_cons (ps_asg (pe_cal c_good_row (hr.mono (by decide)) (by rfl) (pa_cons (pv 1) pa_nil)) (pg_tup rfl (pgs_cons (pg_name (i := 3) nd rfl (Or.inl rfl)) (pgs_cons (pg_name (i := 4) nd rfl (Or.inl rfl)) pgs_nil))))
    (pss_cons (ps_par3 (i := 5) (j := 6) (l := 7) rfl nd rfl rfl rfl (by decide) (by decide) (by decide) rfl rfl rfl (pa_cons (pe_cal c_power_of_two (hr.mono (by decide)) (by rfl) (pa_cons (pv 0) pa_nil)) (pa_cons (pe_cal c_steps_of (hr.mono (by decide)) (by rfl) (pa_cons (pv 0) (pa_cons (pv 4) (pa_cons (pv 2) pa_nil)))) (pa_cons (pe_lst pa_nil) pa_nil))) (by rfl))
    (pss_cons (ps_set (i := 8) nd rfl (Or.inl rfl) (pe_cal c_items_counted (hr.mono (by decide)) (by rfl) (pa_cons (pv 0) (pa_cons (pv 4) (pa_cons (pv 2) pa_nil)))))
    (pss_cons (ps_for PassesOwn.never rfl (pi_enum (by rfl) T.enumerate (pa_cons (pv 3) pa_nil)) (pg_tup rfl (pgs_cons (pg_name (i := 9) nd rfl (Or.inl rfl)) (pgs_cons (pg_name (i := 10) nd rfl (Or.inl rfl)) pgs_nil))) (pss_cons (ps_set (i := 11) nd rfl (Or.inl rfl) (pe_op op_rep (pe_lst (pa_cons pe_int pa_nil)) (pe_callB call_len_seq (by rfl) T.len (by decide +kernel) (pa_cons (pv 3) pa_nil))))
    (pss_cons (ps_asg (pe_op op_mod (pe_ix ix_list (pv 6) (pv 9) (fun _ _ => rfl)) (pv 5)) (pg_sub (pv 11) (pv 9) set_list))
    (pss_cons (ps_for PassesOwn.never rfl (pi_range3 (by rfl) T.range (pa_cons (pe_op op_sub (pe_callB (call_min2 rfl) (by rfl) T.min (by decide +kernel) (pa_cons (pv 9) (pa_cons (pv 8) pa_nil))) pe_int) (pa_cons (pe_un un_neg pe_int) (pa_cons (pe_un un_neg pe_int) pa_nil)))) (pg_name (i := 12) nd rfl (Or.inl rfl)) (pss_cons (ps_set (i := 13) nd rfl (Or.inl rfl) (pe_op op_mulX (pe_ix ix_list (pv 6) (pv 9) (fun _ _ => rfl)) (pe_cal c_product_at (hr.mono (by decide)) (by rfl) (pa_cons (pv 3) (pa_cons (pv 12) (pa_cons (pv 10) pa_nil))))))
    (pss_cons (ps_for PassesOwn.never rfl (pi_range2 (by rfl) T.range (pa_cons (pe_op op_add (pv 12) pe_int) (pa_cons (pe_callB (call_min2 rfl) (by rfl) T.min (by decide +kernel) (pa_cons (pv 9) (pa_cons (pv 8) pa_nil))) pa_nil))) (pg_name (i := 14) nd rfl (Or.inl rfl)) (pss_one (ps_set (i := 13) nd rfl (Or.inl rfl) (pe_op op_add (pv 13) (pe_op op_mulX (pe_ix ix_list (pv 11) (pv 14) (fun _ _ => rfl)) (pe_cal c_product_at (hr.mono (by decide)) (by rfl) (pa_cons (pv 3) (pa_cons (pv 12) (pa_cons (pe_ix ix_list (pv 3) (pv 14) (fun _ _ => rfl)) pa_nil)))))))))
    (pss_cons (ps_set (i := 15) nd rfl (Or.inl rfl) (pe_cal c_power_of_two (hr.mono (by decide)) (by rfl) (pa_cons (pe_ix ix_list (pv 4) (pv 12) (fun _ _ => rfl)) pa_nil)))
    (pss_cons (ps_set (i := 16) nd rfl (Or.inl rfl) (pe_op op_fdivW (pe_cal c_product_at (hr.mono (by decide)) (by rfl) (pa_cons (pv 3) (pa_cons (pv 12) (pa_cons (pe_ix ix_list (pv 3) (pv 12) (fun _ _ => rfl)) pa_nil)))) (pv 15)))
    (pss_one (ps_asg (pe_op op_mod (pe_op op_mulX (pe_un un_neg (pe_op op_fdivW (pe_op op_mod (pv 13) (pv 5)) (pv 15))) (pe_cal c_odd_undone (hr.mono (by decide)) (by rfl) (pa_cons (pv 16) (pa_cons (pe_ix ix_list (pv 6) (pv 12) (fun _ _ => rfl)) pa_nil)))) (pe_ix ix_list (pv 6) (pv 12) (fun _ _ => rfl))) (pg_sub (pv 11) (pv 12) set_list))))))))
    (pss_one (ps_expr (pe_bm PySem.F.plainAttrs_list PySem.F.slot_list_append PySem.F.type_list_append mt_append (pv 7) (pa_cons (pv 11) pa_nil))))))))
    (pss_one (ps_ret (pv 7)))))))
abbrev s_in_places : Stmt := topS 31
abbrev N_in_places : List Str := ["places", "factors", "told", "place"]
abbrev ps_in_places : List Str := ["places", "factors"]
theorem sc_in_places : FnScope N_in_places ps_in_places (defScope s_in_places) := ⟨rfl, rfl, rfl, by decide +kernel, rfl, by decide +kernel, by decide +kernel⟩
def t_in_places (K : PySem.W.Frag) : TS :=
    (tSeq (tAsg (tCB (rDictZip K) (tCons (tOp (rIxT K) (tCall (sp_good_row K) [] E0 (tCons (tVar 0) tNil)) (tC (.int 0))) (tCons (tVar 1) tNil))) (gName 2))
    (tRet (tLc (iList K (tVar 0)) (gName 3) tYes (tDGet (tVar 2) (tVar 3)) [3])))
theorem d_in_places (T : Txt K mg) (c_good_row : Cal P w K mg base "good_row" ps_good_row 2 (sp_good_row K)) {f : Addr} {cdv : Value} {A : Around} {outer : List Env} {s : Shared} {H : Hp} {E : XK} (hr : Room 2 (A.deeper (envOfC "in_places" (defScope s_in_places) s.heap.objs.size f cdv))) :
    PSs (cxOf CX0 P w K mg base N_in_places "in_places" (defScope s_in_places) f cdv A outer s H E).nox (defBody s_in_places) (t_in_places K) := by
  have nd := sc_in_places.nd
  exact (pss_cons (ps_set (i := 2) nd rfl (Or.inr rfl) (pe_dictZip rfl (by rfl) T.dict (by rfl) T.zip (pa_cons (pe_ix ix_tup (pe_cal c_good_row (hr.mono (by decide)) (by rfl) (pa_cons (pv 0) pa_nil)) pe_int (fun _ _ => rfl)) (pa_cons (pv 1) pa_nil))))
    (pss_one (ps_ret (pe_lc (own := [("place", 3)]) (g := (gName 3)) (tt := tYes) rfl nd (pi_list (pv 0)) (blkOk_by (own := [("place", 3)]) (N := N_in_places) (sc := (defScope s_in_places)) (by decide +kernel)) (fun _ _ _ _ _ => (pg_name (i := 3) nd rfl (Or.inl rfl))) (fun _ _ _ _ _ => pts_nil) (fun _ _ _ _ _ => (pe_dget (hu_of hr) (pv 2) (pv 3) (fun _ _ => rfl)))))))
abbrev s_triangle : Stmt := topS 32
abbrev N_triangle : List Str := ["width", "places", "count", "factors"]
abbrev ps_triangle : List Str := ["width", "places", "count"]
theorem sc_triangle : FnScope N_triangle ps_triangle (defScope s_triangle) := ⟨rfl, rfl, rfl, by decide +kernel, rfl, by decide +kernel, by decide +kernel⟩
def t_triangle (K : PySem.W.Frag) : TS :=
    (tSeq (tDrop (tCall (sp_check_code K) [] E0 (tCons (tVar 0) (tCons (tVar 1) (tCons (tVar 2) tNil)))))
    (tRet (tLc (iList K (tCall (sp_told_triangle K) [] E0 (tCons (tVar 0) (tCons (tVar 1) (tCons (tVar 2) tNil))))) (gName 3) tYes (tCall (sp_in_places K) [] E0 (tCons (tVar 1) (tCons (tVar 3) tNil))) [3])))
theorem d_triangle (T : Txt K mg) (c_check_code : Cal P w K mg base "check_code" ps_check_code 6 (sp_check_code K)) (c_told_triangle : Cal P w K mg base "told_triangle" ps_told_triangle 3 (sp_told_triangle K)) (c_in_places : Cal P w K mg base "in_places" ps_in_places 3 (sp_in_places K)) {f : Addr} {cdv : Value} {A : Around} {outer : List Env} {s : Shared} {H : Hp} {E : XK} (hr : Room 6 (A.deeper (envOfC "triangle" (defScope s_triangle) s.heap.objs.size f cdv))) :
    PSs (cxOf CX0 P w K mg base N_triangle "triangle" (defScope s_triangle) f cdv A outer s H E).nox (defBody s_triangle) (t_triangle K) := by
  have nd := sc_triangle.nd
  exact (pss_cons (ps_expr (pe_cal c_check_code (hr.mono (by decide)) (by rfl) (pa_cons (pv 0) (pa_cons (pv 1) (pa_cons (pv 2) pa_nil)))))
    (pss_one (ps_ret (pe_lc (own := [("factors", 3)]) (g := (gName 3)) (tt := tYes) rfl nd (pi_list (pe_cal c_told_triangle (hr.mono (by decide)) (by rfl) (pa_cons (pv 0) (pa_cons (pv 1) (pa_cons (pv 2) pa_nil))))) (blkOk_by (own := [("factors", 3)]) (N := N_triangle) (sc := (defScope s_triangle)) (by decide +kernel)) (fun _ _ _ _ _ => (pg_name (i := 3) nd rfl (Or.inl rfl))) (fun _ _ _ _ _ => pts_nil) (fun _ _ _ _ _ => (pe_cal c_in_places (hr.mono (by decide)) (by rfl) (pa_cons (pv 1) (pa_cons (pv 3) pa_nil))))))))
abbrev s_sums_of : Stmt := topS 33
abbrev N_sums_of : List Str := ["width", "places", "count", "words", "found", "row", "factors", "word", "factor"]
abbrev ps_sums_of : List Str := ["width", "places", "count", "words"]
theorem sc_sums_of : FnScope N_sums_of ps_sums_of (defScope s_sums_of) := ⟨rfl, rfl, rfl, by decide +kernel, rfl, by decide +kernel, by decide +kernel⟩
def t_sums_of (K : PySem.W.Frag) : TS :=
    (tSeq (tAsg (tLst tNil) (gName 4))
    (tSeq (tFor (iList K (tCall (sp_told_triangle K) [] E0 (tCons (tVar 0) (tCons (tVar 1) (tCons (tVar 2) tNil))))) (gName 5) (tSeq (tAsg (tCall (sp_in_places K) [] E0 (tCons (tVar 1) (tCons (tVar 5) tNil))) (gName 6))
    (tDrop (tBM K "list" rAppend (tVar 4) (tCons (tOp oMod (tCB (rSum K) (tCons (tLc (iZipS K (tCons (tVar 3) (tCons (tVar 6) tNil))) (gTup K 2 (gCons (gName 7) (gCons (gName 8) gNil))) tYes (tOp oMul (tVar 7) (tVar 8)) [7, 8]) tNil)) (tCall (sp_power_of_two K) [] E0 (tCons (tVar 0) tNil))) tNil)))))
    (tRet (tVar 4))))
theorem d_sums_of (T : Txt K mg) (c_told_triangle : Cal P w K mg base "told_triangle" ps_told_triangle 3 (sp_told_triangle K)) (c_in_places : Cal P w K mg base "in_places" ps_in_places 3 (sp_in_places K)) (c_power_of_two : Cal P w K mg base "power_of_two" ps_power_of_two 1 (sp_power_of_two K)) {f : Addr} {cdv : Value} {A : Around} {outer : List Env} {s : Shared} {H : Hp} {E : XK} (hr : Room 3 (A.deeper (envOfC "sums_of" (defScope s_sums_of) s.heap.objs.size f cdv))) :
    PSs (cxOf CX0 P w K mg base N_sums_of "sums_of" (defScope s_sums_of) f cdv A outer s H E).nox (defBody s_sums_of) (t_sums_of K) := by
  have nd := sc_sums_of.nd
  exact (pss_cons (ps_set (i := 4) nd rfl (Or.inl rfl) (pe_lst pa_nil))
    (pss_cons (ps_for PassesOwn.never rfl (pi_list (pe_cal c_told_triangle (hr.mono (by decide)) (by rfl) (pa_cons (pv 0) (pa_cons (pv 1) (pa_cons (pv 2) pa_nil))))) (pg_name (i := 5) nd rfl (Or.inl rfl)) (pss_cons (ps_set (i := 6) nd rfl (Or.inl rfl) (pe_cal c_in_places (hr.mono (by decide)) (by rfl) (pa_cons (pv 1) (pa_cons (pv 5) pa_nil))))
    (pss_one (ps_expr (pe_bm PySem.F.plainAttrs_list PySem.F.slot_list_append PySem.F.type_list_append mt_append (pv 4) (pa_cons (pe_op op_mod (pe_callB (cr_sum rfl) (by rfl) T.sum (by decide +kernel) (pa_cons (pe_lc (own := [("word", 7), ("factor", 8)]) (g := (gTup K 2 (gCons (gName 7) (gCons (gName 8) gNil)))) (tt := tYes) rfl nd (pi_zipS (by rfl) T.zip (pa_cons (pv 3) (pa_cons (pv 6) pa_nil))) (blkOk_by (own := [("word", 7), ("factor", 8)]) (N := N_sums_of) (sc := (defScope s_sums_of)) (by decide +kernel)) (fun _ _ _ _ _ => (pg_tup rfl (pgs_cons (pg_name (i := 7) nd rfl (Or.inl rfl)) (pgs_cons (pg_name (i := 8) nd rfl (Or.inl rfl)) pgs_nil)))) (fun _ _ _ _ _ => pts_nil) (fun _ _ _ _ _ => (pe_op op_mul (pv 7) (pv 8)))) pa_nil)) (pe_cal c_power_of_two (hr.mono (by decide)) (by rfl) (pa_cons (pv 0) pa_nil))) pa_nil))))))
    (pss_one (ps_ret (pv 4)))))
abbrev s_alarms : Stmt := topS 34
abbrev N_alarms : List Str := ["width", "places", "count", "words"]
abbrev ps_alarms : List Str := ["width", "places", "count", "words"]
theorem sc_alarms : FnScope N_alarms ps_alarms (defScope s_alarms) := ⟨rfl, rfl, rfl, by decide +kernel, rfl, by decide +kernel, by decide +kernel⟩
def t_alarms (K : PySem.W.Frag) : TS :=
    (tSeq (tDrop (tCall (sp_check_code K) [] E0 (tCons (tVar 0) (tCons (tVar 1) (tCons (tVar 2) tNil)))))
    (tSeq (tDrop (tCall (sp_check_words K) [] E0 (tCons (tVar 0) (tCons (tVar 1) (tCons (tVar 3) tNil)))))
    (tRet (tCall (sp_sums_of K) [] E0 (tCons (tVar 0) (tCons (tVar 1) (tCons (tVar 2) (tCons (tVar 3) tNil))))))))
theorem d_alarms (T : Txt K mg) (c_check_code : Cal P w K mg base "check_code" ps_check_code 6 (sp_check_code K)) (c_check_words : Cal P w K mg base "check_words" ps_check_words 5 (sp_check_words K)) (c_sums_of : Cal P w K mg base "sums_of" ps_sums_of 4 (sp_sums_of K)) {f : Addr} {cdv : Value} {A : Around} {outer : List Env} {s : Shared} {H : Hp} {E : XK} (hr : Room 6 (A.deeper (envOfC "alarms" (defScope s_alarms) s.heap.objs.size f cdv))) :
    PSs (cxOf CX0 P w K mg base N_alarms "alarms" (defScope s_alarms) f cdv A outer s H E).nox (defBody s_alarms) (t_alarms K) := by
  have nd := sc_alarms.nd
  exact (pss_cons (ps_expr (pe_cal c_check_code (hr.mono (by decide)) (by rfl) (pa_cons (pv 0) (pa_cons (pv 1) (pa_cons (pv 2) pa_nil)))))
    (pss_cons (ps_expr (pe_cal c_check_words (hr.mono (by decide)) (by rfl) (pa_cons (pv 0) (pa_cons (pv 1) (pa_cons (pv 3) pa_nil)))))
    (pss_one (ps_ret (pe_cal c_sums_of (hr.mono (by decide)) (by rfl) (pa_cons (pv 0) (pa_cons (pv 1) (pa_cons (pv 2) (pa_cons (pv 3) pa_nil)))))))))
abbrev s_alarm : Stmt := topS 35
abbrev N_alarm : List Str := ["width", "places", "count", "words", "number", "total"]
abbrev ps_alarm : List Str := ["width", "places", "count", "words"]
theorem sc_alarm : FnScope N_alarm ps_alarm (defScope s_alarm) := ⟨rfl, rfl, rfl, by decide +kernel, rfl, by decide +kernel, by decide +kernel⟩
def t_alarm (K : PySem.W.Frag) : TS :=
    (tSeq (tFor (iEnum K (tCons (tCall (sp_alarms K) [] E0 (tCons (tVar 0) (tCons (tVar 1) (tCons (tVar 2) (tCons (tVar 3) tNil))))) tNil)) (gTup K 2 (gCons (gName 4) (gCons (gName 5) gNil))) (tIfS (tTest (tOp rNe (tVar 5) (tC (.int 0)))) (tRet (tTup (tCons (tVar 4) (tCons (tVar 5) tNil)))) tNext))
    (tRet (tC .non)))
theorem d_alarm (T : Txt K mg) (c_alarms : Cal P w K mg base "alarms" ps_alarms 7 (sp_alarms K)) {f : Addr} {cdv : Value} {A : Around} {outer : List Env} {s : Shared} {H : Hp} {E : XK} (hr : Room 7 (A.deeper (envOfC "alarm" (defScope s_alarm) s.heap.objs.size f cdv))) :
    PSs (cxOf CX0 P w K mg base N_alarm "alarm" (defScope s_alarm) f cdv A outer s H E).nox (defBody s_alarm) (t_alarm K) := by
  have nd := sc_alarm.nd
  exact (pss_cons (ps_for PassesOwn.never rfl (pi_enum (by rfl) T.enumerate (pa_cons (pe_cal c_alarms (hr.mono (by decide)) (by rfl) (pa_cons (pv 0) (pa_cons (pv 1) (pa_cons (pv 2) (pa_cons (pv 3) pa_nil))))) pa_nil)) (pg_tup rfl (pgs_cons (pg_name (i := 4) nd rfl (Or.inl rfl)) (pgs_cons (pg_name (i := 5) nd rfl (Or.inl rfl)) pgs_nil))) (pss_one (ps_if (pt_cmpR op_ne (pv 5) pe_int (nomark _)) (pss_one (ps_ret (pe_tup (pa_cons (pv 4) (pa_cons (pv 5) pa_nil))))) pss_nil)))
    (pss_one (ps_ret pe_non)))
abbrev s_l_hash : Stmt := topS 37
abbrev N_l_hash : List Str := ["_law_seed", "_law_index", "_law_mixed"]
abbrev ps_l_hash : List Str := ["_law_seed", "_law_index"]
theorem sc_l_hash : FnScope N_l_hash ps_l_hash (defScope s_l_hash) := ⟨rfl, rfl, rfl, by decide +kernel, rfl, by decide +kernel, by decide +kernel⟩
def t_l_hash (K : PySem.W.Frag) : TS :=
    (tSeq (tAsg (tOp oMod (tCB oInt (tCons (tOp oAdd (tOp oAdd (tOp oAdd (tOp oMul (tVar 0) (tC (.int 1140671))) (tOp oMul (tOp oMul (tC (.int 27644437)) (tVar 1)) (tVar 1))) (tOp oMul (tC (.int 131)) (tVar 1))) (tC (.int 19))) tNil)) (tC (.int 2147483629))) (gName 2))
    (tSeq (tAsg (tOp oMod (tCB oInt (tCons (tOp oAdd (tOp oAdd (tOp oMul (tVar 2) (tVar 2)) (tOp oMul (tC (.int 62089)) (tVar 1))) (tC (.int 32416187))) tNil)) (tC (.int 2147483587))) (gName 2))
    (tRet (tOp oMod (tCB oInt (tCons (tOp oMul (tVar 2) (tC (.int 48271))) tNil)) (tC (.int 2147483647))))))
theorem d_l_hash (T : Txt K mg) {f : Addr} {cdv : Value} {A : Around} {outer : List Env} {s : Shared} {H : Hp} {E : XK} (hr : Room 0 (A.deeper (envOfC "_law_hash" (defScope s_l_hash) s.heap.objs.size f cdv))) :
    PSs (cxOf CX0 P w K mg base N_l_hash "_law_hash" (defScope s_l_hash) f cdv A outer s H E).nox (defBody s_l_hash) (t_l_hash K) := by
  have nd := sc_l_hash.nd
  exact (pss_cons (ps_set (i := 2) nd rfl (Or.inl rfl) (pe_op op_mod (pe_callTy call_int1 (by rfl) T.int (by decide +kernel) (pa_cons (pe_op op_add (pe_op op_add (pe_op op_add (pe_op op_mul (pv 0) pe_int) (pe_op op_mul (pe_op op_mul pe_int (pv 1)) (pv 1))) (pe_op op_mul pe_int (pv 1))) pe_int) pa_nil)) pe_int))
    (pss_cons (ps_set (i := 2) nd rfl (Or.inl rfl) (pe_op op_mod (pe_callTy call_int1 (by rfl) T.int (by decide +kernel) (pa_cons (pe_op op_add (pe_op op_add (pe_op op_mul (pv 2) (pv 2)) (pe_op op_mul pe_int (pv 1))) pe_int) pa_nil)) pe_int))
    (pss_one (ps_ret (pe_op op_mod (pe_callTy call_int1 (by rfl) T.int (by decide +kernel) (pa_cons (pe_op op_mul (pv 2) pe_int) pa_nil)) pe_int)))))
abbrev s_l_random : Stmt := topS 38
abbrev N_l_random : List Str := ["_law_generator_here", "_law_bound", "_law_drawn", "_law_turn"]
abbrev ps_l_random : List Str := ["_law_generator_here", "_law_bound"]
theorem sc_l_random : FnScope N_l_random ps_l_random (defScope s_l_random) := ⟨rfl, rfl, rfl, by decide +kernel, rfl, by decide +kernel, by decide +kernel⟩
def t_l_random (K : PySem.W.Frag) : TS :=
    (tSeq (tIfS (tTest (tOp oGt (tOp (rIxL K) (tVar 0) (tC (.int 0))) (tC (.int 0)))) (tSeq (tAsg (tOp oMod (tCB oInt (tCons (tOp (rIxL K) (tVar 0) (tC (.int 0))) tNil)) (tVar 1)) (gName 2))
    (tSeq (tAsg (tOp oDivW (tOp (rIxL K) (tVar 0) (tC (.int 0))) (tVar 1)) (gSub (tVar 0) (tC (.int 0)) rSetL))
    (tRet (tVar 2)))) tNext)
    (tSeq (tAsg (tC (.int 0)) (gName 2))
    (tSeq (tFor (iRng1 (tCons (tOp oAdd (tC (.int 1)) (tOp oDiv (tBits (tVar 1)) (tC (.int 30)))) tNil)) (gName 3) (tSeq (tAsg (tOp oAdd (tOp (rIxL K) (tVar 0) (tC (.int 2))) (tC (.int 1))) (gSub (tVar 0) (tC (.int 2)) rSetL))
    (tAsg (tOp oAdd (tOp oMul (tVar 2) (tC (.int 2147483587))) (tCall (sp_l_hash K) [] E0 (tCons (tOp (rIxL K) (tVar 0) (tC (.int 1))) (tCons (tOp (rIxL K) (tVar 0) (tC (.int 2))) tNil)))) (gName 2))))
    (tRet (tOp oMod (tCB oInt (tCons (tVar 2) tNil)) (tVar 1))))))
theorem d_l_random (T : Txt K mg) (c_l_hash : Cal P w K mg base "_law_hash" ps_l_hash 1 (sp_l_hash K)) {f : Addr} {cdv : Value} {A : Around} {outer : List Env} {s : Shared} {H : Hp} {E : XK} (hr : Room 1 (A.deeper (envOfC "_law_random" (defScope s_l_random) s.heap.objs.size f cdv))) :
    PSs (cxOf CX0 P w K mg base N_l_random "_law_random" (defScope s_l_random) f cdv A outer s H E).nox (defBody s_l_random) (t_l_random K) := by
  have nd := sc_l_random.nd
  exact (pss_cons (ps_if (pt_cmpR op_gt (pe_ix ix_list (pv 0) pe_int (fun _ _ => rfl)) pe_int (nomark _)) (pss_cons (ps_set (i := 2) nd rfl (Or.inl rfl) (pe_op op_mod (pe_callTy call_int1 (by rfl) T.int (by decide +kernel) (pa_cons (pe_ix ix_list (pv 0) pe_int (fun _ _ => rfl)) pa_nil)) (pv 1)))
    (pss_cons (ps_asg (pe_op op_fdivW (pe_ix ix_list (pv 0) pe_int (fun _ _ => rfl)) (pv 1)) (pg_sub (pv 0) pe_int set_list))
    (pss_one (ps_ret (pv 2))))) pss_nil)
    (pss_cons (ps_set (i := 2) nd rfl (Or.inl rfl) pe_int)
    (pss_cons (ps_for PassesOwn.never rfl (pi_range1 (by rfl) T.range (pa_cons (pe_op op_add pe_int (pe_op op_fdiv (pe_bits (pv 1)) pe_int)) pa_nil)) (pg_name (i := 3) nd rfl (Or.inl rfl)) (pss_cons (ps_asg (pe_op op_add (pe_ix ix_list (pv 0) pe_int (fun _ _ => rfl)) pe_int) (pg_sub (pv 0) pe_int set_list))
    (pss_one (ps_set (i := 2) nd rfl (Or.inl rfl) (pe_op op_add (pe_op op_mul (pv 2) pe_int) (pe_cal c_l_hash (hr.mono (by decide)) (by rfl) (pa_cons (pe_ix ix_list (pv 0) pe_int (fun _ _ => rfl)) (pa_cons (pe_ix ix_list (pv 0) pe_int (fun _ _ => rfl)) pa_nil))))))))
    (pss_one (ps_ret (pe_op op_mod (pe_callTy call_int1 (by rfl) T.int (by decide +kernel) (pa_cons (pv 2) pa_nil)) (pv 1)))))))
abbrev s_l_cell : Stmt := topS 39
abbrev N_l_cell : List Str := ["_law_script", "_law_index"]
abbrev ps_l_cell : List Str := ["_law_script", "_law_index"]
theorem sc_l_cell : FnScope N_l_cell ps_l_cell (defScope s_l_cell) := ⟨rfl, rfl, rfl, by decide +kernel, rfl, by decide +kernel, by decide +kernel⟩
def t_l_cell (K : PySem.W.Frag) : TS :=
    (tSeq (tIfS (tTest (tOp oLt (tVar 1) (tCB (rLenS K) (tCons (tVar 0) tNil)))) (tRet (tOp (rIxL K) (tVar 0) (tVar 1))) tNext)
    (tRet (tOp oMod (tCB (rSum K) (tCons (tSl (rSlL K) (tVar 0) tNoPart (tPart (tC (.int 1)))) tNil)) (tC (.int 1000003)))))
theorem d_l_cell (T : Txt K mg) {f : Addr} {cdv : Value} {A : Around} {outer : List Env} {s : Shared} {H : Hp} {E : XK} (hr : Room 0 (A.deeper (envOfC "_law_cell" (defScope s_l_cell) s.heap.objs.size f cdv))) :
    PSs (cxOf CX0 P w K mg base N_l_cell "_law_cell" (defScope s_l_cell) f cdv A outer s H E).nox (defBody s_l_cell) (t_l_cell K) := by
  have nd := sc_l_cell.nd
  exact (pss_cons (ps_if (pt_cmpR op_lt (pv 1) (pe_callB call_len_seq (by rfl) T.len (by decide +kernel) (pa_cons (pv 0) pa_nil)) (nomark _)) (pss_one (ps_ret (pe_ix ix_list (pv 0) (pv 1) (fun _ _ => rfl)))) pss_nil)
    (pss_one (ps_ret (pe_op op_mod (pe_callB (cr_sum rfl) (by rfl) T.sum (by decide +kernel) (pa_cons (pe_slice sl_list (pv 0) po_none (po_some pe_int)) pa_nil)) pe_int))))
abbrev s_l_generator : Stmt := topS 40
abbrev N_l_generator : List Str := ["_law_script", "_law_index", "_law_seed"]
abbrev ps_l_generator : List Str := ["_law_script", "_law_index"]
theorem sc_l_generator : FnScope N_l_generator ps_l_generator (defScope s_l_generator) := ⟨rfl, rfl, rfl, by decide +kernel, rfl, by decide +kernel, by decide +kernel⟩
def t_l_generator (K : PySem.W.Frag) : TS :=
    (tSeq (tAsg (tCall (sp_l_cell K) [] E0 (tCons (tVar 0) (tCons (tVar 1) tNil))) (gName 2))
    (tRet (tLst (tCons (tOp oMod (tCB oInt (tCons (tCB oMax2 (tCons (tOp oSub (tVar 2) (tOp oPow (tC (.int 10)) (tC (.int 18)))) (tCons (tC (.int 0)) tNil))) tNil)) (tOp oPowW (tOp oPow (tC (.int 10)) (tC (.int 60))) (tC (.int 10)))) (tCons (tOp oMod (tCB oInt (tCons (tVar 2) tNil)) (tC (.int 2147483647))) (tCons (tOp oMul (tC (.int 1000)) (tVar 1)) tNil))))))
theorem d_l_generator (T : Txt K mg) (c_l_cell : Cal P w K mg base "_law_cell" ps_l_cell 1 (sp_l_cell K)) {f : Addr} {cdv : Value} {A : Around} {outer : List Env} {s : Shared} {H : Hp} {E : XK} (hr : Room 1 (A.deeper (envOfC "_law_generator" (defScope s_l_generator) s.heap.objs.size f cdv))) :
    PSs (cxOf CX0 P w K mg base N_l_generator "_law_generator" (defScope s_l_generator) f cdv A outer s H E).nox (defBody s_l_generator) (t_l_generator K) := by
  have nd := sc_l_generator.nd
  exact (pss_cons (ps_set (i := 2) nd rfl (Or.inl rfl) (pe_cal c_l_cell (hr.mono (by decide)) (by rfl) (pa_cons (pv 0) (pa_cons (pv 1) pa_nil))))
    (pss_one (ps_ret (pe_lst (pa_cons (pe_op op_mod (pe_callTy call_int1 (by rfl) T.int (by decide +kernel) (pa_cons (pe_callB (call_max2 rfl) (by rfl) T.max (by decide +kernel) (pa_cons (pe_op op_sub (pv 2) (pe_op op_pow pe_int pe_int)) (pa_cons pe_int pa_nil))) pa_nil)) (pe_op op_powW (pe_op op_pow pe_int pe_int) pe_int)) (pa_cons (pe_op op_mod (pe_callTy call_int1 (by rfl) T.int (by decide +kernel) (pa_cons (pv 2) pa_nil)) pe_int) (pa_cons (pe_op op_mul pe_int (pv 1)) pa_nil)))))))
abbrev s_l_twos : Stmt := topS 41
abbrev N_l_twos : List Str := ["_law_number", "_law_found", "_law_turn"]
abbrev ps_l_twos : List Str := ["_law_number"]
theorem sc_l_twos : FnScope N_l_twos ps_l_twos (defScope s_l_twos) := ⟨rfl, rfl, rfl, by decide +kernel, rfl, by decide +kernel, by decide +kernel⟩
def t_l_twos (K : PySem.W.Frag) : TS :=
    (tSeq (tAsg (tC (.int 0)) (gName 1))
    (tSeq (tFor (iRng1 (tCons (tC (.int 900)) tNil)) (gName 2) (tSeq (tIfS (tTest (tOp rEq (tOp oMod (tCB oInt (tCons (tVar 0) tNil)) (tC (.int 2))) (tC (.int 1)))) tBreak tNext)
    (tPar 1 0 (tCons (tOp oAdd (tVar 1) (tC (.int 1))) (tCons (tOp oDiv (tVar 0) (tC (.int 2))) tNil)))))
    (tRet (tVar 1))))
theorem d_l_twos (T : Txt K mg) {f : Addr} {cdv : Value} {A : Around} {outer : List Env} {s : Shared} {H : Hp} {E : XK} (hr : Room 0 (A.deeper (envOfC "_law_twos" (defScope s_l_twos) s.heap.objs.size f cdv))) :
    PSs (cxOf CX0 P w K mg base N_l_twos "_law_twos" (defScope s_l_twos) f cdv A outer s H E).nox (defBody s_l_twos) (t_l_twos K) := by
  have nd := sc_l_twos.nd
  exact (pss_cons (ps_set (i := 1) nd rfl (Or.inl rfl) pe_int)
    (pss_cons (ps_for PassesOwn.never rfl (pi_range1 (by rfl) T.range (pa_cons pe_int pa_nil)) (pg_name (i := 2) nd rfl (Or.inl rfl)) (pss_cons (ps_if (pt_cmpR op_eq (pe_op op_mod (pe_callTy call_int1 (by rfl) T.int (by decide +kernel) (pa_cons (pv 0) pa_nil)) pe_int) pe_int (nomark _)) (pss_one ps_break) pss_nil)
    (pss_one (ps_par (i := 1) (j := 0) rfl nd rfl rfl (by decide) rfl rfl (pa_cons (pe_op op_add (pv 1) pe_int) (pa_cons (pe_op op_fdiv (pv 0) pe_int) pa_nil)) (by rfl)))))
    (pss_one (ps_ret (pv 1)))))
abbrev s_l_order : Stmt := topS 42
abbrev N_l_order : List Str := ["_law_spots_here", "_law_order_here", "_law_numbers", "_law_left", "_law_turn", "_law_sums_here", "_law_at", "_law_spot", "_law_taken"]
abbrev ps_l_order : List Str := ["_law_spots_here"]
theorem sc_l_order : FnScope N_l_order ps_l_order (defScope s_l_order) := ⟨rfl, rfl, rfl, by decide +kernel, rfl, by decide +kernel, by decide +kernel⟩
def t_l_order (K : PySem.W.Frag) : TS :=
    (tSeq (tAsg (tTup (tCons (tLst (tCons (tOp (rIxL K) (tVar 0) (tC (.int 0))) tNil)) (tCons (tLst (tCons (tC (.int 0)) tNil)) (tCons (tSl (rSlL K) (tVar 0) (tPart (tC (.int 1))) tNoPart) tNil)))) (gTup K 3 (gCons (gName 1) (gCons (gName 2) (gCons (gName 3) gNil)))))
    (tSeq (tFor (iRng1 (tCons (tOp oSub (tCB (rLenS K) (tCons (tVar 0) tNil)) (tC (.int 1))) tNil)) (gName 4) (tSeq (tAsg (tLc (iList K (tVar 3)) (gName 7) tYes (tCB (rSum K) (tCons (tLc (iList K (tVar 1)) (gName 8) tYes (tCall (sp_l_twos K) [] E0 (tCons (tOp oSub (tVar 7) (tVar 8)) tNil)) [8]) tNil)) [7]) (gName 5))
    (tSeq (tAsg (tBM K "list" (rIndex K) (tVar 5) (tCons (tCB (rMin K) (tCons (tVar 5) tNil)) tNil)) (gName 6))
    (tSeq (tDrop (tBM K "list" rAppend (tVar 1) (tCons (tOp (rIxL K) (tVar 3) (tVar 6)) tNil)))
    (tSeq (tDrop (tBM K "list" rAppend (tVar 2) (tCons (tOp (rIxL K) (tVar 5) (tVar 6)) tNil)))
    (tAsg (tOp rCat (tSl (rSlL K) (tVar 3) tNoPart (tPart (tVar 6))) (tSl (rSlL K) (tVar 3) (tPart (tOp oAdd (tVar 6) (tC (.int 1)))) tNoPart)) (gName 3)))))))
    (tRet (tLst (tCons (tVar 1) (tCons (tVar 2) tNil))))))
theorem d_l_order (T : Txt K mg) (c_l_twos : Cal P w K mg base "_law_twos" ps_l_twos 1 (sp_l_twos K)) {f : Addr} {cdv : Value} {A : Around} {outer : List Env} {s : Shared} {H : Hp} {E : XK} (hr : Room 1 (A.deeper (envOfC "_law_order" (defScope s_l_order) s.heap.objs.size f cdv))) :
    PSs (cxOf CX0 P w K mg base N_l_order "_law_order" (defScope s_l_order) f cdv A outer s H E).nox (defBody s_l_order) (t_l_order K) := by
  have nd := sc_l_order.nd
  exact (pss_cons (ps_asg (pe_tup (pa_cons (pe_lst (pa_cons (pe_ix ix_list (pv 0) pe_int (fun _ _ => rfl)) pa_nil)) (pa_cons (pe_lst (pa_cons pe_int pa_nil)) (pa_cons (pe_slice sl_list (pv 0) (po_some pe_int) po_none) pa_nil)))) (pg_tup rfl (pgs_cons (pg_name (i := 1) nd rfl (Or.inr rfl)) (pgs_cons (pg_name (i := 2) nd rfl (Or.inl rfl)) (pgs_cons (pg_name (i := 3) nd rfl (Or.inl rfl)) pgs_nil)))))
    (pss_cons (ps_for PassesOwn.never rfl (pi_range1 (by rfl) T.range (pa_cons (pe_op op_sub (pe_callB call_len_seq (by rfl) T.len (by decide +kernel) (pa_cons (pv 0) pa_nil)) pe_int) pa_nil)) (pg_name (i := 4) nd rfl (Or.inl rfl)) (pss_cons (ps_setLc (i := 5) (own := [("_law_spot", 7)]) (g := (gName 7)) (tt := tYes) rfl nd rfl rfl (sw_true rfl rfl rfl (by decide +kernel)) (pi_list (pv 3)) (blkOk_by (own := [("_law_spot", 7)]) (N := N_l_order) (sc := (defScope s_l_order)) (by decide +kernel)) (fun _ _ _ _ _ => (pg_name (i := 7) nd rfl (Or.inr rfl))) (fun _ _ _ _ _ => pts_nil) (fun _ _ _ _ _ => (pe_callB (cr_sum rfl) (by rfl) T.sum (by decide +kernel) (pa_cons (pe_lc (own := [("_law_taken", 8)]) (g := (gName 8)) (tt := tYes) rfl nd (pi_list (pv 1)) (blkOk_by (own := [("_law_taken", 8)]) (N := N_l_order) (sc := (relS (lcSc (asgVal (forAt (bodyAt s_l_order 1) 0))) (defScope s_l_order))) (by decide +kernel)) (fun _ _ _ _ _ => (pg_name (i := 8) nd rfl (Or.inl rfl))) (fun _ _ _ _ _ => pts_nil) (fun _ _ _ _ _ => (pe_cal c_l_twos (hr.mono (by decide)) (by rfl) (pa_cons (pe_op op_sub (pv 7) (pv 8)) pa_nil)))) pa_nil))))
    (pss_cons (ps_set (i := 6) nd rfl (Or.inl rfl) (pe_bm PySem.F.plainAttrs_list PySem.F.slot_list_index PySem.F.type_list_index mt_index (pv 5) (pa_cons (pe_callB (cr_min rfl) (by rfl) T.min (by decide +kernel) (pa_cons (pv 5) pa_nil)) pa_nil)))
    (pss_cons (ps_expr (pe_bm PySem.F.plainAttrs_list PySem.F.slot_list_append PySem.F.type_list_append mt_append (pv 1) (pa_cons (pe_ix ix_list (pv 3) (pv 6) (fun _ _ => rfl)) pa_nil)))
    (pss_cons (ps_expr (pe_bm PySem.F.plainAttrs_list PySem.F.slot_list_append PySem.F.type_list_append mt_append (pv 2) (pa_cons (pe_ix ix_list (pv 5) (pv 6) (fun _ _ => rfl)) pa_nil)))
    (pss_one (ps_set (i := 3) nd rfl (Or.inl rfl) (pe_op op_cat (pe_slice sl_list (pv 3) po_none (po_some (pv 6))) (pe_slice sl_list (pv 3) (po_some (pe_op op_add (pv 6) pe_int)) po_none)))))))))
    (pss_one (ps_ret (pe_lst (pa_cons (pv 1) (pa_cons (pv 2) pa_nil)))))))
abbrev s_l_product : Stmt := topS 43
abbrev N_l_product : List Str := ["_law_order_here", "_law_many", "_law_spot", "_law_found", "_law_taken"]
abbrev ps_l_product : List Str := ["_law_order_here", "_law_many", "_law_spot"]
theorem sc_l_product : FnScope N_l_product ps_l_product (defScope s_l_product) := ⟨rfl, rfl, rfl, by decide +kernel, rfl, by decide +kernel, by decide +kernel⟩
def t_l_product (K : PySem.W.Frag) : TS :=
    (tSeq (tAsg (tC (.int 1)) (gName 3))
    (tSeq (tFor (iList K (tSl (rSlL K) (tVar 0) tNoPart (tPart (tVar 1)))) (gName 4) (tAsg (tOp oMul (tVar 3) (tOp oSub (tVar 2) (tVar 4))) (gName 3)))
    (tRet (tVar 3))))
theorem d_l_product (T : Txt K mg) {f : Addr} {cdv : Value} {A : Around} {outer : List Env} {s : Shared} {H : Hp} {E : XK} (hr : Room 0 (A.deeper (envOfC "_law_product" (defScope s_l_product) s.heap.objs.size f cdv))) :
    PSs (cxOf CX0 P w K mg base N_l_product "_law_product" (defScope s_l_product) f cdv A outer s H E).nox (defBody s_l_product) (t_l_product K) := by
  have nd := sc_l_product.nd
  exact (pss_cons (ps_set (i := 3) nd rfl (Or.inl rfl) pe_int)
    (pss_cons (ps_for PassesOwn.never rfl (pi_list (pe_slice sl_list (pv 0) po_none (po_some (pv 1)))) (pg_name (i := 4) nd rfl (Or.inl rfl)) (pss_one (ps_set (i := 3) nd rfl (Or.inl rfl) (pe_op op_mul (pv 3) (pe_op op_sub (pv 2) (pv 4))))))
    (pss_one (ps_ret (pv 3)))))
abbrev s_l_items : Stmt := topS 44
abbrev N_l_items : List Str := ["_law_bits", "_law_spots_here", "_law_many", "_law_order_here", "_law_numbers", "_law_at"]
abbrev ps_l_items : List Str := ["_law_bits", "_law_spots_here", "_law_many"]
theorem sc_l_items : FnScope N_l_items ps_l_items (defScope s_l_items) := ⟨rfl, rfl, rfl, by decide +kernel, rfl, by decide +kernel, by decide +kernel⟩
def t_l_items (K : PySem.W.Frag) : TS :=
    (tSeq (tAsg (tCall (sp_l_order K) [] E0 (tCons (tVar 1) tNil)) (gUnl K 2 (gCons (gName 3) (gCons (gName 4) gNil))))
    (tRet (tLc (iRng1 (tCons (tCB (rLenS K) (tCons (tVar 3) tNil)) tNil)) (gName 5) (tAnd (tTest (tOp oLt (tVar 5) (tVar 2))) (tTest (tOp oLt (tOp (rIxL K) (tVar 4) (tVar 5)) (tVar 0)))) (tVar 5) [5])))
theorem d_l_items (T : Txt K mg) (c_l_order : Cal P w K mg base "_law_order" ps_l_order 2 (sp_l_order K)) {f : Addr} {cdv : Value} {A : Around} {outer : List Env} {s : Shared} {H : Hp} {E : XK} (hr : Room 2 (A.deeper (envOfC "_law_items" (defScope s_l_items) s.heap.objs.size f cdv))) :
    PSs (cxOf CX0 P w K mg base N_l_items "_law_items" (defScope s_l_items) f cdv A outer s H E).nox (defBody s_l_items) (t_l_items K) := by
  have nd := sc_l_items.nd
  exact (pss_cons (ps_asg (pe_cal c_l_order (hr.mono (by decide)) (by rfl) (pa_cons (pv 1) pa_nil)) (pg_unl rfl (pgs_cons (pg_name (i := 3) nd rfl (Or.inl rfl)) (pgs_cons (pg_name (i := 4) nd rfl (Or.inr rfl)) pgs_nil))))
    (pss_one (ps_ret (pe_lc (own := [("_law_at", 5)]) (g := (gName 5)) (tt := (tAnd (tTest (tOp oLt (tVar 5) (tVar 2))) (tTest (tOp oLt (tOp (rIxL K) (tVar 4) (tVar 5)) (tVar 0))))) rfl nd (pi_range1 (by rfl) T.range (pa_cons (pe_callB call_len_seq (by rfl) T.len (by decide +kernel) (pa_cons (pv 3) pa_nil)) pa_nil)) (blkOk_by (own := [("_law_at", 5)]) (N := N_l_items) (sc := (defScope s_l_items)) (by decide +kernel)) (fun _ _ _ _ _ => (pg_name (i := 5) nd rfl (Or.inl rfl))) (fun _ _ _ _ _ => (pts_one (PW.pt (pw_and (pt_cmpR op_lt (pv 5) (pv 2) (nomark _)) (pw_and1 (pt_cmpR op_lt (pe_ix ix_list (pv 4) (pv 5) (fun _ _ => rfl)) (pv 0) (nomark _))))))) (fun _ _ _ _ _ => (pv 5))))))
abbrev s_l_codewords : Stmt := topS 45
abbrev N_l_codewords : List Str := ["_law_bits", "_law_spots_here", "_law_many", "_law_order_here", "_law_numbers", "_law_found", "_law_at", "_law_row", "_law_longer", "_law_item", "_law_spot", "_law_line", "_law_word", "_law_one"]
abbrev ps_l_codewords : List Str := ["_law_bits", "_law_spots_here", "_law_many"]
theorem sc_l_codewords : FnScope N_l_codewords ps_l_codewords (defScope s_l_codewords) := ⟨rfl, rfl, rfl, by decide +kernel, rfl, by decide +kernel, by decide +kernel⟩
def t_l_codewords (K : PySem.W.Frag) : TS :=
    (tSeq (tAsg (tCall (sp_l_order K) [] E0 (tCons (tVar 1) tNil)) (gUnl K 2 (gCons (gName 3) (gCons (gName 4) gNil))))
    (tSeq (tAsg (tLst (tCons (tOp rRep (tLst (tCons (tC (.int 0)) tNil)) (tCB (rLenS K) (tCons (tVar 1) tNil))) tNil)) (gName 5))
    (tSeq (tFor (iList K (tCall (sp_l_items K) [] E0 (tCons (tVar 0) (tCons (tVar 1) (tCons (tVar 2) tNil))))) (gName 6) (tSeq (tAsg (tTup (tCons (tLc (iList K (tVar 1)) (gName 10) tYes (tCall (sp_l_product K) [] E0 (tCons (tVar 3) (tCons (tVar 6) (tCons (tVar 10) tNil)))) [10]) (tCons (tLst tNil) tNil))) (gTup K 2 (gCons (gName 7) (gCons (gName 8) gNil))))
    (tSeq (tFor (iRng1 (tCons (tOp oShl (tC (.int 1)) (tOp oSub (tVar 0) (tOp (rIxL K) (tVar 4) (tVar 6)))) tNil)) (gName 9) (tAsg (tOp rCat (tVar 8) (tLc (iList K (tVar 5)) (gName 11) tYes (tLc (iZip K (tCons (tVar 11) (tCons (tVar 7) tNil))) (gTup K 2 (gCons (gName 12) (gCons (gName 13) gNil))) tYes (tOp oMod (tCB oInt (tCons (tOp oAdd (tVar 12) (tOp oMul (tVar 9) (tVar 13))) tNil)) (tOp oShl (tC (.int 1)) (tVar 0))) [12, 13]) [11])) (gName 8)))
    (tAsg (tVar 8) (gName 5)))))
    (tRet (tVar 5)))))
theorem d_l_codewords (T : Txt K mg) (c_l_order : Cal P w K mg base "_law_order" ps_l_order 2 (sp_l_order K)) (c_l_items : Cal P w K mg base "_law_items" ps_l_items 3 (sp_l_items K)) (c_l_product : Cal P w K mg base "_law_product" ps_l_product 1 (sp_l_product K)) {f : Addr} {cdv : Value} {A : Around} {outer : List Env} {s : Shared} {H : Hp} {E : XK} (hr : Room 3 (A.deeper (envOfC "_law_codewords" (defScope s_l_codewords) s.heap.objs.size f cdv))) :
    PSs (cxOf CX0 P w K mg base N_l_codewords "_law_codewords" (defScope s_l_codewords) f cdv A outer s H E).nox (defBody s_l_codewords) (t_l_codewords K) := by
  have nd := sc_l_codewords.nd
  exact (pss_cons (ps_asg (pe_cal c_l_order (hr.mono (by decide)) (by rfl) (pa_cons (pv 1) pa_nil)) (pg_unl rfl (pgs_cons (pg_name (i := 3) nd rfl (Or.inr rfl)) (pgs_cons (pg_name (i := 4) nd rfl (Or.inl rfl)) pgs_nil))))
    (pss_cons (ps_set (i := 5) nd rfl (Or.inl rfl) (pe_lst (pa_cons (pe_op op_rep (pe_lst (pa_cons pe_int pa_nil)) (pe_callB call_len_seq (by rfl) T.len (by decide +kernel) (pa_cons (pv 1) pa_nil))) pa_nil)))
    (pss_cons (ps_for PassesOwn.never rfl (pi_list (pe_cal c_l_items (hr.mono (by decide)) (by rfl) (pa_cons (pv 0) (pa_cons (pv 1) (pa_cons (pv 2) pa_nil))))) (pg_name (i := 6) nd rfl (Or.inr rfl)) (pss_cons (ps_asg (pe_tup (pa_cons (pe_lc (own := [("_law_spot", 10)]) (g := (gName 10)) (tt := tYes) rfl nd (pi_list (pv 1)) (blkOk_by (own := [("_law_spot", 10)]) (N := N_l_codewords) (sc := (defScope s_l_codewords)) (by decide +kernel)) (fun _ _ _ _ _ => (pg_name (i := 10) nd rfl (Or.inl rfl))) (fun _ _ _ _ _ => pts_nil) (fun _ _ _ _ _ => (pe_cal c_l_product (hr.mono (by decide)) (by rfl) (pa_cons (pv 3) (pa_cons (pv 6) (pa_cons (pv 10) pa_nil)))))) (pa_cons (pe_lst pa_nil) pa_nil))) (pg_tup rfl (pgs_cons (pg_name (i := 7) nd rfl (Or.inr rfl)) (pgs_cons (pg_name (i := 8) nd rfl (Or.inl rfl)) pgs_nil))))
    (pss_cons (ps_for PassesOwn.never rfl (pi_range1 (by rfl) T.range (pa_cons (pe_op op_shl pe_int (pe_op op_sub (pv 0) (pe_ix ix_list (pv 4) (pv 6) (fun _ _ => rfl)))) pa_nil)) (pg_name (i := 9) nd rfl (Or.inr rfl)) (pss_one (ps_set (i := 8) nd rfl (Or.inl rfl) (pe_op op_cat (pv 8) (pe_lc (own := [("_law_line", 11)]) (g := (gName 11)) (tt := tYes) rfl nd (pi_list (pv 5)) (blkOk_by (own := [("_law_line", 11)]) (N := N_l_codewords) (sc := (defScope s_l_codewords)) (by decide +kernel)) (fun _ _ _ _ _ => (pg_name (i := 11) nd rfl (Or.inl rfl))) (fun _ _ _ _ _ => pts_nil) (fun _ _ _ _ _ => (pe_lc (own := [("_law_word", 12), ("_law_one", 13)]) (g := (gTup K 2 (gCons (gName 12) (gCons (gName 13) gNil)))) (tt := tYes) rfl nd (pi_zip (by rfl) T.zip (pa_cons (pv 11) (pa_cons (pv 7) pa_nil))) (blkOk_by (own := [("_law_word", 12), ("_law_one", 13)]) (N := N_l_codewords) (sc := (relS (lcSc (bopR (asgVal (forAt (forAt (bodyAt s_l_codewords 2) 1) 0)))) (defScope s_l_codewords))) (by decide +kernel)) (fun _ _ _ _ _ => (pg_tup rfl (pgs_cons (pg_name (i := 12) nd rfl (Or.inl rfl)) (pgs_cons (pg_name (i := 13) nd rfl (Or.inl rfl)) pgs_nil)))) (fun _ _ _ _ _ => pts_nil) (fun _ _ _ _ _ => (pe_op op_mod (pe_callTy call_int1 (by rfl) T.int (by decide +kernel) (pa_cons (pe_op op_add (pv 12) (pe_op op_mul (pv 9) (pv 13))) pa_nil)) (pe_op op_shl pe_int (pv 0)))))))))))
    (pss_one (ps_set (i := 5) nd rfl (Or.inl rfl) (pv 8))))))
    (pss_one (ps_ret (pv 5))))))
abbrev s_l_spots : Stmt := topS 46
abbrev N_l_spots : List Str := ["_law_generator_here", "_law_bits", "_law_most", "_law_left", "_law_many", "_law_turn"]
abbrev ps_l_spots : List Str := ["_law_generator_here", "_law_bits", "_law_most"]
theorem sc_l_spots : FnScope N_l_spots ps_l_spots (defScope s_l_spots) := ⟨rfl, rfl, rfl, by decide +kernel, rfl, by decide +kernel, by decide +kernel⟩
def t_l_spots (K : PySem.W.Frag) : TS :=
    (tSeq (tAsg (tLstRg (tRg1 (tOp oShl (tC (.int 1)) (tCB oMin2 (tCons (tVar 1) (tCons (tC (.int 5)) tNil)))))) (gName 3))
    (tSeq (tAsg (tOp oAdd (tC (.int 1)) (tCall (sp_l_random K) [] E0 (tCons (tVar 0) (tCons (tCB oMin2 (tCons (tVar 2) (tCons (tCB (rLenS K) (tCons (tVar 3) tNil)) tNil))) tNil)))) (gName 4))
    (tRet (tCB (rSorted K) (tCons (tLc (iRng1 (tCons (tVar 4) tNil)) (gName 5) tYes (tBM K "list" rPopAt (tVar 3) (tCons (tCall (sp_l_random K) [] E0 (tCons (tVar 0) (tCons (tCB (rLenS K) (tCons (tVar 3) tNil)) tNil))) tNil)) [5]) tNil)))))
theorem d_l_spots (T : Txt K mg) (c_l_random : Cal P w K mg base "_law_random" ps_l_random 2 (sp_l_random K)) {f : Addr} {cdv : Value} {A : Around} {outer : List Env} {s : Shared} {H : Hp} {E : XK} (hr : Room 2 (A.deeper (envOfC "_law_spots" (defScope s_l_spots) s.heap.objs.size f cdv))) :
    PSs (cxOf CX0 P w K mg base N_l_spots "_law_spots" (defScope s_l_spots) f cdv A outer s H E).nox (defBody s_l_spots) (t_l_spots K) := by
  have nd := sc_l_spots.nd
  exact (pss_cons (ps_set (i := 3) nd rfl (Or.inr rfl) (pe_listRg rfl (by rfl) T.list (prg_1 (by rfl) T.range (pe_op op_shl pe_int (pe_callB (call_min2 rfl) (by rfl) T.min (by decide +kernel) (pa_cons (pv 1) (pa_cons pe_int pa_nil)))))))
    (pss_cons (ps_set (i := 4) nd rfl (Or.inl rfl) (pe_op op_add pe_int (pe_cal c_l_random (hr.mono (by decide)) (by rfl) (pa_cons (pv 0) (pa_cons (pe_callB (call_min2 rfl) (by rfl) T.min (by decide +kernel) (pa_cons (pv 2) (pa_cons (pe_callB call_len_seq (by rfl) T.len (by decide +kernel) (pa_cons (pv 3) pa_nil)) pa_nil))) pa_nil)))))
    (pss_one (ps_ret (pe_callB cr_sorted (by rfl) T.sorted (by decide +kernel) (pa_cons (pe_lc (own := [("_law_turn", 5)]) (g := (gName 5)) (tt := tYes) rfl nd (pi_range1 (by rfl) T.range (pa_cons (pv 4) pa_nil)) (blkOk_by (own := [("_law_turn", 5)]) (N := N_l_spots) (sc := (defScope s_l_spots)) (by decide +kernel)) (fun _ _ _ _ _ => (pg_name (i := 5) nd rfl (Or.inl rfl))) (fun _ _ _ _ _ => pts_nil) (fun _ _ _ _ _ => (pe_bm PySem.F.plainAttrs_list PySem.F.slot_list_pop PySem.F.type_list_pop mt_popAt (pv 3) (pa_cons (pe_cal c_l_random (hr.mono (by decide)) (by rfl) (pa_cons (pv 0) (pa_cons (pe_callB call_len_seq (by rfl) T.len (by decide +kernel) (pa_cons (pv 3) pa_nil)) pa_nil))) pa_nil)))) pa_nil))))))
abbrev s_l_small : Stmt := topS 47
abbrev N_l_small : List Str := ["_law_generator_here", "_law_bits", "_law_spots_here", "_law_many", "_law_numbers", "_law_turn", "_law_number"]
abbrev ps_l_small : List Str := ["_law_generator_here"]
theorem sc_l_small : FnScope N_l_small ps_l_small (defScope s_l_small) := ⟨rfl, rfl, rfl, by decide +kernel, rfl, by decide +kernel, by decide +kernel⟩
def t_l_small (K : PySem.W.Frag) : TS :=
    (tSeq (tAsg (tOp oAdd (tC (.int 1)) (tCall (sp_l_random K) [] E0 (tCons (tVar 0) (tCons (tC (.int 4)) tNil)))) (gName 1))
    (tSeq (tPar 2 3 (tCons (tCall (sp_l_spots K) [] E0 (tCons (tVar 0) (tCons (tVar 1) (tCons (tC (.int 8)) tNil)))) (tCons (tCall (sp_l_random K) [] E0 (tCons (tVar 0) (tCons (tC (.int 4)) tNil))) tNil)))
    (tSeq (tAsg (tOp (rIxL K) (tCall (sp_l_order K) [] E0 (tCons (tVar 2) tNil)) (tC (.int 1))) (gName 4))
    (tSeq (tFor (iRng1 (tCons (tC (.int 4)) tNil)) (gName 5) (tIfS (tTest (tOp oGt (tCB (rSum K) (tCons (tLc (iList K (tSl (rSlL K) (tVar 4) tNoPart (tPart (tVar 3)))) (gName 6) (tTest (tOp oLt (tVar 6) (tVar 1))) (tOp oSub (tVar 1) (tVar 6)) [6]) tNil)) (tC (.int 8)))) (tAsg (tOp oSub (tVar 3) (tC (.int 1))) (gName 3)) tNext))
    (tRet (tLst (tCons (tVar 1) (tCons (tVar 2) (tCons (tVar 3) tNil)))))))))
theorem d_l_small (T : Txt K mg) (c_l_random : Cal P w K mg base "_law_random" ps_l_random 2 (sp_l_random K)) (c_l_spots : Cal P w K mg base "_law_spots" ps_l_spots 3 (sp_l_spots K)) (c_l_order : Cal P w K mg base "_law_order" ps_l_order 2 (sp_l_order K)) {f : Addr} {cdv : Value} {A : Around} {outer : List Env} {s : Shared} {H : Hp} {E : XK} (hr : Room 3 (A.deeper (envOfC "_law_small" (defScope s_l_small) s.heap.objs.size f cdv))) :
    PSs (cxOf CX0 P w K mg base N_l_small "_law_small" (defScope s_l_small) f cdv A outer s H E).nox (defBody s_l_small) (t_l_small K) := by
  have nd := sc_l_small.nd
  exact (pss_cons (ps_set (i := 1) nd rfl (Or.inr rfl) (pe_op op_add pe_int (pe_cal c_l_random (hr.mono (by decide)) (by rfl) (pa_cons (pv 0) (pa_cons pe_int pa_nil)))))
    (pss_cons (ps_par (i := 2) (j := 3) rfl nd rfl rfl (by decide) rfl rfl (pa_cons (pe_cal c_l_spots (hr.mono (by decide)) (by rfl) (pa_cons (pv 0) (pa_cons (pv 1) (pa_cons pe_int pa_nil)))) (pa_cons (pe_cal c_l_random (hr.mono (by decide)) (by rfl) (pa_cons (pv 0) (pa_cons pe_int pa_nil))) pa_nil)) (by rfl))
    (pss_cons (ps_set (i := 4) nd rfl (Or.inl rfl) (pe_ix ix_list (pe_cal c_l_order (hr.mono (by decide)) (by rfl) (pa_cons (pv 2) pa_nil)) pe_int (fun _ _ => rfl)))
    (pss_cons (ps_for PassesOwn.never rfl (pi_range1 (by rfl) T.range (pa_cons pe_int pa_nil)) (pg_name (i := 5) nd rfl (Or.inl rfl)) (pss_one (ps_if (pt_cmpR op_gt (pe_callB (cr_sum rfl) (by rfl) T.sum (by decide +kernel) (pa_cons (pe_lc (own := [("_law_number", 6)]) (g := (gName 6)) (tt := (tTest (tOp oLt (tVar 6) (tVar 1)))) rfl nd (pi_list (pe_slice sl_list (pv 4) po_none (po_some (pv 3)))) (blkOk_by (own := [("_law_number", 6)]) (N := N_l_small) (sc := (defScope s_l_small)) (by decide +kernel)) (fun _ _ _ _ _ => (pg_name (i := 6) nd rfl (Or.inl rfl))) (fun _ _ _ _ _ => (pts_one (pt_cmpR op_lt (pv 6) (pv 1) (nomark _)))) (fun _ _ _ _ _ => (pe_op op_sub (pv 1) (pv 6)))) pa_nil)) pe_int (nomark _)) (pss_one (ps_set (i := 3) nd rfl (Or.inl rfl) (pe_op op_sub (pv 3) pe_int))) pss_nil)))
    (pss_one (ps_ret (pe_lst (pa_cons (pv 1) (pa_cons (pv 2) (pa_cons (pv 3) pa_nil))))))))))
abbrev s_l_bent : Stmt := topS 48
abbrev N_l_bent : List Str := ["_law_generator_here", "_law_bits", "_law_line", "_law_turns", "_law_found", "_law_turn"]
abbrev ps_l_bent : List Str := ["_law_generator_here", "_law_bits", "_law_line", "_law_turns"]
theorem sc_l_bent : FnScope N_l_bent ps_l_bent (defScope s_l_bent) := ⟨rfl, rfl, rfl, by decide +kernel, rfl, by decide +kernel, by decide +kernel⟩
def t_l_bent (K : PySem.W.Frag) : TS :=
    (tSeq (tAsg (tCB (rListS K) (tCons (tVar 2) tNil)) (gName 4))
    (tSeq (tFor (iRng1 (tCons (tVar 3) tNil)) (gName 5) (tAsg (tCall (sp_l_random K) [] E0 (tCons (tVar 0) (tCons (tOp oShl (tC (.int 1)) (tVar 1)) tNil))) (gSub (tVar 4) (tCall (sp_l_random K) [] E0 (tCons (tVar 0) (tCons (tCB (rLenS K) (tCons (tVar 2) tNil)) tNil))) rSetL)))
    (tRet (tVar 4))))
theorem d_l_bent (T : Txt K mg) (c_l_random : Cal P w K mg base "_law_random" ps_l_random 2 (sp_l_random K)) {f : Addr} {cdv : Value} {A : Around} {outer : List Env} {s : Shared} {H : Hp} {E : XK} (hr : Room 2 (A.deeper (envOfC "_law_bent" (defScope s_l_bent) s.heap.objs.size f cdv))) :
    PSs (cxOf CX0 P w K mg base N_l_bent "_law_bent" (defScope s_l_bent) f cdv A outer s H E).nox (defBody s_l_bent) (t_l_bent K) := by
  have nd := sc_l_bent.nd
  exact (pss_cons (ps_set (i := 4) nd rfl (Or.inl rfl) (pe_callTy call_list_of (by rfl) T.list (by decide +kernel) (pa_cons (pv 2) pa_nil)))
    (pss_cons (ps_for PassesOwn.never rfl (pi_range1 (by rfl) T.range (pa_cons (pv 3) pa_nil)) (pg_name (i := 5) nd rfl (Or.inl rfl)) (pss_one (ps_asg (pe_cal c_l_random (hr.mono (by decide)) (by rfl) (pa_cons (pv 0) (pa_cons (pe_op op_shl pe_int (pv 1)) pa_nil))) (pg_sub (pv 4) (pe_cal c_l_random (hr.mono (by decide)) (by rfl) (pa_cons (pv 0) (pa_cons (pe_callB call_len_seq (by rfl) T.len (by decide +kernel) (pa_cons (pv 2) pa_nil)) pa_nil))) set_list))))
    (pss_one (ps_ret (pv 4)))))
abbrev s_l_sums : Stmt := topS 49
abbrev N_l_sums : List Str := ["_law_bits", "_law_rows", "_law_words_told", "_law_row", "_law_factor", "_law_word"]
abbrev ps_l_sums : List Str := ["_law_bits", "_law_rows", "_law_words_told"]
theorem sc_l_sums : FnScope N_l_sums ps_l_sums (defScope s_l_sums) := ⟨rfl, rfl, rfl, by decide +kernel, rfl, by decide +kernel, by decide +kernel⟩
def t_l_sums (K : PySem.W.Frag) : TS :=
    (tRet (tLc (iList K (tVar 1)) (gName 3) tYes (tOp oMod (tCB oInt (tCons (tCB (rSum K) (tCons (tLc (iZip K (tCons (tVar 3) (tCons (tVar 2) tNil))) (gTup K 2 (gCons (gName 4) (gCons (gName 5) gNil))) tYes (tOp oMul (tVar 4) (tVar 5)) [4, 5]) tNil)) tNil)) (tOp oShl (tC (.int 1)) (tVar 0))) [3]))
theorem d_l_sums (T : Txt K mg) {f : Addr} {cdv : Value} {A : Around} {outer : List Env} {s : Shared} {H : Hp} {E : XK} (hr : Room 0 (A.deeper (envOfC "_law_sums" (defScope s_l_sums) s.heap.objs.size f cdv))) :
    PSs (cxOf CX0 P w K mg base N_l_sums "_law_sums" (defScope s_l_sums) f cdv A outer s H E).nox (defBody s_l_sums) (t_l_sums K) := by
  have nd := sc_l_sums.nd
  exact (pss_one (ps_ret (pe_lc (own := [("_law_row", 3)]) (g := (gName 3)) (tt := tYes) rfl nd (pi_list (pv 1)) (blkOk_by (own := [("_law_row", 3)]) (N := N_l_sums) (sc := (defScope s_l_sums)) (by decide +kernel)) (fun _ _ _ _ _ => (pg_name (i := 3) nd rfl (Or.inl rfl))) (fun _ _ _ _ _ => pts_nil) (fun _ _ _ _ _ => (pe_op op_mod (pe_callTy call_int1 (by rfl) T.int (by decide +kernel) (pa_cons (pe_callB (cr_sum rfl) (by rfl) T.sum (by decide +kernel) (pa_cons (pe_lc (own := [("_law_factor", 4), ("_law_word", 5)]) (g := (gTup K 2 (gCons (gName 4) (gCons (gName 5) gNil)))) (tt := tYes) rfl nd (pi_zip (by rfl) T.zip (pa_cons (pv 3) (pa_cons (pv 2) pa_nil))) (blkOk_by (own := [("_law_factor", 4), ("_law_word", 5)]) (N := N_l_sums) (sc := (relS (lcSc (retVal (bodyAt s_l_sums 0))) (defScope s_l_sums))) (by decide +kernel)) (fun _ _ _ _ _ => (pg_tup rfl (pgs_cons (pg_name (i := 4) nd rfl (Or.inl rfl)) (pgs_cons (pg_name (i := 5) nd rfl (Or.inl rfl)) pgs_nil)))) (fun _ _ _ _ _ => pts_nil) (fun _ _ _ _ _ => (pe_op op_mul (pv 4) (pv 5)))) pa_nil)) pa_nil)) (pe_op op_shl pe_int (pv 0)))))))
abbrev s_l_misfit : Stmt := topS 50
abbrev N_l_misfit : List Str := ["_law_spots_here", "_law_lines", "_law_words_told", "_law_order_here", "_law_at", "_law_taken", "_law_spot", "_law_line"]
abbrev ps_l_misfit : List Str := ["_law_spots_here", "_law_lines", "_law_words_told"]
theorem sc_l_misfit : FnScope N_l_misfit ps_l_misfit (defScope s_l_misfit) := ⟨rfl, rfl, rfl, by decide +kernel, rfl, by decide +kernel, by decide +kernel⟩
def t_l_misfit (K : PySem.W.Frag) : TS :=
    (tSeq (tAsg (tOp (rIxL K) (tCall (sp_l_order K) [] E0 (tCons (tVar 0) tNil)) (tC (.int 0))) (gName 3))
    (tSeq (tFor (iRng1 (tCons (tCB (rLenS K) (tCons (tVar 3) tNil)) tNil)) (gName 4) (tSeq (tAsg (tLc (iList K (tSl (rSlL K) (tVar 3) tNoPart (tPart (tOp oAdd (tVar 4) (tC (.int 1)))))) (gName 6) tYes (tBM K "list" (rIndex K) (tVar 0) (tCons (tVar 6) tNil)) [6]) (gName 5))
    (tIfS (tTest (tOp (rEqD K) (tLc (iList K (tVar 1)) (gName 7) (tTest (tOp (rEqD K) (tLc (iList K (tVar 5)) (gName 6) (tTest (tOp rNe (tOp (rIxL K) (tVar 7) (tVar 6)) (tOp (rIxL K) (tVar 2) (tVar 6)))) (tVar 6) [6]) (tLst tNil))) (tVar 7) [7]) (tLst tNil))) (tRet (tVar 4)) tNext)))
    (tRet (tC .non))))
theorem d_l_misfit (T : Txt K mg) (c_l_order : Cal P w K mg base "_law_order" ps_l_order 2 (sp_l_order K)) {f : Addr} {cdv : Value} {A : Around} {outer : List Env} {s : Shared} {H : Hp} {E : XK} (hr : Room 2 (A.deeper (envOfC "_law_misfit" (defScope s_l_misfit) s.heap.objs.size f cdv))) :
    PSs (cxOf CX0 P w K mg base N_l_misfit "_law_misfit" (defScope s_l_misfit) f cdv A outer s H E).nox (defBody s_l_misfit) (t_l_misfit K) := by
  have nd := sc_l_misfit.nd
  exact (pss_cons (ps_set (i := 3) nd rfl (Or.inl rfl) (pe_ix ix_list (pe_cal c_l_order (hr.mono (by decide)) (by rfl) (pa_cons (pv 0) pa_nil)) pe_int (fun _ _ => rfl)))
    (pss_cons (ps_for PassesOwn.never rfl (pi_range1 (by rfl) T.range (pa_cons (pe_callB call_len_seq (by rfl) T.len (by decide +kernel) (pa_cons (pv 3) pa_nil)) pa_nil)) (pg_name (i := 4) nd rfl (Or.inl rfl)) (pss_cons (ps_set (i := 5) nd rfl (Or.inr rfl) (pe_lc (own := [("_law_spot", 6)]) (g := (gName 6)) (tt := tYes) rfl nd (pi_list (pe_slice sl_list (pv 3) po_none (po_some (pe_op op_add (pv 4) pe_int)))) (blkOk_by (own := [("_law_spot", 6)]) (N := N_l_misfit) (sc := (defScope s_l_misfit)) (by decide +kernel)) (fun _ _ _ _ _ => (pg_name (i := 6) nd rfl (Or.inl rfl))) (fun _ _ _ _ _ => pts_nil) (fun _ _ _ _ _ => (pe_bm PySem.F.plainAttrs_list PySem.F.slot_list_index PySem.F.type_list_index mt_index (pv 0) (pa_cons (pv 6) pa_nil)))))
    (pss_one (ps_if (pt_cmpR (op_eqD hr.units) (pe_lc (own := [("_law_line", 7)]) (g := (gName 7)) (tt := (tTest (tOp (rEqD K) (tLc (iList K (tVar 5)) (gName 6) (tTest (tOp rNe (tOp (rIxL K) (tVar 7) (tVar 6)) (tOp (rIxL K) (tVar 2) (tVar 6)))) (tVar 6) [6]) (tLst tNil)))) rfl nd (pi_list (pv 1)) (blkOk_by (own := [("_law_line", 7)]) (N := N_l_misfit) (sc := (defScope s_l_misfit)) (by decide +kernel)) (fun _ _ _ _ _ => (pg_name (i := 7) nd rfl (Or.inr rfl))) (fun _ _ _ _ _ => (pts_one (pt_cmpR (op_eqD hr.units) (pe_lc (own := [("_law_spot", 6)]) (g := (gName 6)) (tt := (tTest (tOp rNe (tOp (rIxL K) (tVar 7) (tVar 6)) (tOp (rIxL K) (tVar 2) (tVar 6))))) rfl nd (pi_list (pv 5)) (blkOk_by (own := [("_law_spot", 6)]) (N := N_l_misfit) (sc := (relS (lcSc (cmpL (ifTest (forAt (bodyAt s_l_misfit 1) 1)))) (defScope s_l_misfit))) (by decide +kernel)) (fun _ _ _ _ _ => (pg_name (i := 6) nd rfl (Or.inl rfl))) (fun _ _ _ _ _ => (pts_one (pt_cmpR op_ne (pe_ix ix_list (pv 7) (pv 6) (fun _ _ => rfl)) (pe_ix ix_list (pv 2) (pv 6) (fun _ _ => rfl)) (nomark _)))) (fun _ _ _ _ _ => (pv 6))) (pe_lst pa_nil) (nomark _)))) (fun _ _ _ _ _ => (pv 7))) (pe_lst pa_nil) (nomark _)) (pss_one (ps_ret (pv 4))) pss_nil))))
    (pss_one (ps_ret pe_non))))
abbrev s_l_right : Stmt := topS 51
abbrev N_l_right : List Str := ["_law_generator_here", "_law_bits", "_law_spots_here", "_law_many", "_law_lines", "_law_rows", "_law_firsts", "_law_turn", "_law_words_told", "_law_due", "_law_handed", "_law_first", "_law_low", "_law_one", "_law_high", "_law_two", "_law_gap", "_law_number", "_law_total", "_law_second"]
abbrev ps_l_right : List Str := ["_law_generator_here"]
theorem sc_l_right : FnScope N_l_right ps_l_right (defScope s_l_right) := ⟨rfl, rfl, rfl, by decide +kernel, rfl, by decide +kernel, by decide +kernel⟩
def t_l_right (K : PySem.W.Frag) : TS :=
    (tSeq (tAsg (tCall (sp_l_small K) [] E0 (tCons (tVar 0) tNil)) (gUnl K 3 (gCons (gName 1) (gCons (gName 2) (gCons (gName 3) gNil)))))
    (tSeq (tPar3 4 5 6 (tCons (tCall (sp_l_codewords K) [] E0 (tCons (tVar 1) (tCons (tVar 2) (tCons (tVar 3) tNil)))) (tCons (tCall (sp_triangle K) [] E0 (tCons (tVar 1) (tCons (tVar 2) (tCons (tVar 3) tNil)))) (tCons (tLst tNil) tNil))))
    (tSeq (tFor (iRng1 (tCons (tC (.int 4)) tNil)) (gName 7) (tSeq (tAsg (tCall (sp_l_bent K) [] E0 (tCons (tVar 0) (tCons (tVar 1) (tCons (tOp (rIxL K) (tVar 4) (tCall (sp_l_random K) [] E0 (tCons (tVar 0) (tCons (tCB (rLenS K) (tCons (tVar 4) tNil)) tNil)))) (tCons (tVar 7) tNil))))) (gName 8))
    (tSeq (tPar 9 10 (tCons (tCall (sp_l_sums K) [] E0 (tCons (tVar 1) (tCons (tVar 5) (tCons (tVar 8) tNil)))) (tCons (tCB (rListS K) (tCons (tVar 8) tNil)) tNil)))
    (tSeq (tIfS (tOr (tTest (tOp rNe (tCB (rRepr K) (tCons (tCall (sp_alarms K) [] E0 (tCons (tVar 1) (tCons (tVar 2) (tCons (tVar 3) (tCons (tVar 10) tNil))))) tNil)) (tCB (rRepr K) (tCons (tVar 9) tNil)))) (tTest (tOp (rNeD K) (tVar 10) (tVar 8)))) (tRet (tC (.bl false))) tNext)
    (tSeq (tAsg (tLc (iEnum K (tCons (tVar 9) tNil)) (gTup K 2 (gCons (gName 17) (gCons (gName 18) gNil))) (tTest (tOp rNe (tVar 18) (tC (.int 0)))) (tTup (tCons (tVar 17) (tCons (tVar 18) tNil))) [17, 18]) (gName 11))
    (tSeq (tIfS (tTest (tOp rNe (tCB (rRepr K) (tCons (tCall (sp_alarm K) [] E0 (tCons (tVar 1) (tCons (tVar 2) (tCons (tVar 3) (tCons (tVar 10) tNil))))) tNil)) (tCB (rRepr K) (tCons (tIf (tTest (tOp (rNeD K) (tVar 11) (tLst tNil))) (tOp (rIxL K) (tVar 11) (tC (.int 0))) (tC .non)) tNil)))) (tRet (tC (.bl false))) tNext)
    (tSeq (tIfS (tTest (tOp rNe (tIf (tTest (tOp (rNeD K) (tVar 11) (tLst tNil))) (tOp (rIxT K) (tOp (rIxL K) (tVar 11) (tC (.int 0))) (tC (.int 0))) (tC .non)) (tCall (sp_l_misfit K) [] E0 (tCons (tVar 2) (tCons (tVar 4) (tCons (tVar 8) tNil)))))) (tRet (tC (.bl false))) tNext)
    (tDrop (tBM K "list" rAppend (tVar 6) (tCons (tTup (tCons (tVar 8) (tCons (tVar 9) tNil))) tNil))))))))))
    (tSeq (tFor (iList K (tVar 6)) (gTup K 2 (gCons (gName 12) (gCons (gName 13) gNil))) (tFor (iList K (tVar 6)) (gTup K 2 (gCons (gName 14) (gCons (gName 15) gNil))) (tSeq (tAsg (tLc (iZip K (tCons (tVar 12) (tCons (tVar 14) tNil))) (gTup K 2 (gCons (gName 11) (gCons (gName 19) gNil))) tYes (tOp oMod (tCB oInt (tCons (tOp oSub (tVar 11) (tVar 19)) tNil)) (tOp oShl (tC (.int 1)) (tVar 1))) [11, 19]) (gName 16))
    (tIfS (tTest (tOp rNe (tOp (rEqD K) (tVar 13) (tVar 15)) (tOp (rInD K) (tVar 16) (tVar 4)))) (tRet (tC (.bl false))) tNext))))
    (tRet (tOp rEq (tCB (rRepr K) (tCons (tCallK (sp_alarms K) gKw E0 tNil (tCons (tVar 8) (tCons (tVar 3) (tCons (tVar 2) (tCons (tVar 1) tNil))))) tNil)) (tCB (rRepr K) (tCons (tVar 9) tNil))))))))
theorem d_l_right (T : Txt K mg) (c_l_small : Cal P w K mg base "_law_small" ps_l_small 4 (sp_l_small K)) (c_triangle : Cal P w K mg base "triangle" ps_triangle 7 (sp_triangle K)) (c_l_codewords : Cal P w K mg base "_law_codewords" ps_l_codewords 4 (sp_l_codewords K)) (c_l_bent : Cal P w K mg base "_law_bent" ps_l_bent 3 (sp_l_bent K)) (c_l_random : Cal P w K mg base "_law_random" ps_l_random 2 (sp_l_random K)) (c_l_sums : Cal P w K mg base "_law_sums" ps_l_sums 1 (sp_l_sums K)) (c_alarms : Cal P w K mg base "alarms" ps_alarms 7 (sp_alarms K)) (c_alarm : Cal P w K mg base "alarm" ps_alarm 8 (sp_alarm K)) (c_l_misfit : Cal P w K mg base "_law_misfit" ps_l_misfit 3 (sp_l_misfit K)) (k_alarms : CalK P w K mg base "alarms" ["words", "count", "places", "width"] 7 (sp_alarms K)) {f : Addr} {cdv : Value} {A : Around} {outer : List Env} {s : Shared} {H : Hp} {E : XK} (hA : A.guards = some []) (hr : Room 8 (A.deeper (envOfC "_law_right" (defScope s_l_right) s.heap.objs.size f cdv))) :
    PSs (cxOf CX0 P w K mg base N_l_right "_law_right" (defScope s_l_right) f cdv A outer s H E).nox (defBody s_l_right) (t_l_right K) := by
  have nd := sc_l_right.nd
  exact (pss_cons (ps_asg (pe_cal c_l_small (hr.mono (by decide)) (by rfl) (pa_cons (pv 0) pa_nil)) (pg_unl rfl (pgs_cons (pg_name (i := 1) nd rfl (Or.inr rfl)) (pgs_cons (pg_name (i := 2) nd rfl (Or.inl rfl)) (pgs_cons (pg_name (i := 3) nd rfl (Or.inl rfl)) pgs_nil)))))
    (pss_cons (ps_par3 (i := 4) (j := 5) (l := 6) rfl nd rfl rfl rfl (by decide) (by decide) (by decide) rfl rfl rfl (pa_cons (pe_cal c_l_codewords (hr.mono (by decide)) (by rfl) (pa_cons (pv 1) (pa_cons (pv 2) (pa_cons (pv 3) pa_nil)))) (pa_cons (pe_cal c_triangle (hr.mono (by decide)) (by rfl) (pa_cons (pv 1) (pa_cons (pv 2) (pa_cons (pv 3) pa_nil)))) (pa_cons (pe_lst pa_nil) pa_nil))) (by rfl))
    (pss_cons (ps_for PassesOwn.never rfl (pi_range1 (by rfl) T.range (pa_cons pe_int pa_nil)) (pg_name (i := 7) nd rfl (Or.inl rfl)) (pss_cons (ps_set (i := 8) nd rfl (Or.inl rfl) (pe_cal c_l_bent (hr.mono (by decide)) (by rfl) (pa_cons (pv 0) (pa_cons (pv 1) (pa_cons (pe_ix ix_list (pv 4) (pe_cal c_l_random (hr.mono (by decide)) (by rfl) (pa_cons (pv 0) (pa_cons (pe_callB call_len_seq (by rfl) T.len (by decide +kernel) (pa_cons (pv 4) pa_nil)) pa_nil))) (fun _ _ => rfl)) (pa_cons (pv 7) pa_nil))))))
    (pss_cons (ps_par (i := 9) (j := 10) rfl nd rfl rfl (by decide) rfl rfl (pa_cons (pe_cal c_l_sums (hr.mono (by decide)) (by rfl) (pa_cons (pv 1) (pa_cons (pv 5) (pa_cons (pv 8) pa_nil)))) (pa_cons (pe_callTy call_list_of (by rfl) T.list (by decide +kernel) (pa_cons (pv 8) pa_nil)) pa_nil)) (by rfl))
    (pss_cons (ps_if (PW.pt (pw_or (pt_cmpR op_ne (pe_callB (cr_repr hA hr.units) (by rfl) T.repr (by decide +kernel) (pa_cons (pe_cal c_alarms (hr.mono (by decide)) (by rfl) (pa_cons (pv 1) (pa_cons (pv 2) (pa_cons (pv 3) (pa_cons (pv 10) pa_nil))))) pa_nil)) (pe_callB (cr_repr hA hr.units) (by rfl) T.repr (by decide +kernel) (pa_cons (pv 9) pa_nil)) (nomark _)) (pw_or1 (pt_cmpR (op_neD hr.units) (pv 10) (pv 8) (nomark _))))) (pss_one (ps_ret pe_bl)) pss_nil)
    (pss_cons (ps_setLc (i := 11) (own := [("_law_number", 17), ("_law_total", 18)]) (g := (gTup K 2 (gCons (gName 17) (gCons (gName 18) gNil)))) (tt := (tTest (tOp rNe (tVar 18) (tC (.int 0))))) rfl nd rfl rfl (sw_true rfl rfl rfl (by decide +kernel)) (pi_enum (by rfl) T.enumerate (pa_cons (pv 9) pa_nil)) (blkOk_by (own := [("_law_number", 17), ("_law_total", 18)]) (N := N_l_right) (sc := (defScope s_l_right)) (by decide +kernel)) (fun _ _ _ _ _ => (pg_tup rfl (pgs_cons (pg_name (i := 17) nd rfl (Or.inl rfl)) (pgs_cons (pg_name (i := 18) nd rfl (Or.inl rfl)) pgs_nil)))) (fun _ _ _ _ _ => (pts_one (pt_cmpR op_ne (pv 18) pe_int (nomark _)))) (fun _ _ _ _ _ => (pe_tup (pa_cons (pv 17) (pa_cons (pv 18) pa_nil)))))
    (pss_cons (ps_if (pt_cmpR op_ne (pe_callB (cr_repr hA hr.units) (by rfl) T.repr (by decide +kernel) (pa_cons (pe_cal c_alarm (hr.mono (by decide)) (by rfl) (pa_cons (pv 1) (pa_cons (pv 2) (pa_cons (pv 3) (pa_cons (pv 10) pa_nil))))) pa_nil)) (pe_callB (cr_repr hA hr.units) (by rfl) T.repr (by decide +kernel) (pa_cons (pe_ifExp (pt_cmpR (op_neD hr.units) (pv 11) (pe_lst pa_nil) (nomark _)) (pe_ix ix_list (pv 11) pe_int (fun _ _ => rfl)) pe_non) pa_nil)) (nomark _)) (pss_one (ps_ret pe_bl)) pss_nil)
    (pss_cons (ps_if (pt_cmpR op_ne (pe_ifExp (pt_cmpR (op_neD hr.units) (pv 11) (pe_lst pa_nil) (nomark _)) (pe_ix ix_tup (pe_ix ix_list (pv 11) pe_int (fun _ _ => rfl)) pe_int (fun _ _ => rfl)) pe_non) (pe_cal c_l_misfit (hr.mono (by decide)) (by rfl) (pa_cons (pv 2) (pa_cons (pv 4) (pa_cons (pv 8) pa_nil)))) (nomark _)) (pss_one (ps_ret pe_bl)) pss_nil)
    (pss_one (ps_expr (pe_bm PySem.F.plainAttrs_list PySem.F.slot_list_append PySem.F.type_list_append mt_append (pv 6) (pa_cons (pe_tup (pa_cons (pv 8) (pa_cons (pv 9) pa_nil))) pa_nil)))))))))))
    (pss_cons (ps_for PassesOwn.never rfl (pi_list (pv 6)) (pg_tup rfl (pgs_cons (pg_name (i := 12) nd rfl (Or.inl rfl)) (pgs_cons (pg_name (i := 13) nd rfl (Or.inl rfl)) pgs_nil))) (pss_one (ps_for PassesOwn.never rfl (pi_list (pv 6)) (pg_tup rfl (pgs_cons (pg_name (i := 14) nd rfl (Or.inl rfl)) (pgs_cons (pg_name (i := 15) nd rfl (Or.inl rfl)) pgs_nil))) (pss_cons (ps_setLc (i := 16) (own := [("_law_first", 11), ("_law_second", 19)]) (g := (gTup K 2 (gCons (gName 11) (gCons (gName 19) gNil)))) (tt := tYes) rfl nd rfl rfl (sw_true rfl rfl rfl (by decide +kernel)) (pi_zip (by rfl) T.zip (pa_cons (pv 12) (pa_cons (pv 14) pa_nil))) (blkOk_by (own := [("_law_first", 11), ("_law_second", 19)]) (N := N_l_right) (sc := (defScope s_l_right)) (by decide +kernel)) (fun _ _ _ _ _ => (pg_tup rfl (pgs_cons (pg_name (i := 11) nd rfl (Or.inl rfl)) (pgs_cons (pg_name (i := 19) nd rfl (Or.inl rfl)) pgs_nil)))) (fun _ _ _ _ _ => pts_nil) (fun _ _ _ _ _ => (pe_op op_mod (pe_callTy call_int1 (by rfl) T.int (by decide +kernel) (pa_cons (pe_op op_sub (pv 11) (pv 19)) pa_nil)) (pe_op op_shl pe_int (pv 1)))))
    (pss_one (ps_if (pt_cmpR op_ne (pe_cmpR (op_eqD hr.units) (pv 13) (pv 15) (nomark _)) (pe_cmpR (op_inD (hu65 hr)) (pv 16) (pv 4) (by rfl)) (nomark _)) (pss_one (ps_ret pe_bl)) pss_nil))))))
    (pss_one (ps_ret (pe_cmpR op_eq (pe_callB (cr_repr hA hr.units) (by rfl) T.repr (by decide +kernel) (pa_cons (pe_kwCal k_alarms (hr.mono (by decide)) (by rfl) (pk_cons (pv 8) (pk_cons (pv 3) (pk_cons (pv 2) (pk_cons (pv 1) pk_nil))))) pa_nil)) (pe_callB (cr_repr hA hr.units) (by rfl) T.repr (by decide +kernel) (pa_cons (pv 9) pa_nil)) (nomark _))))))))
abbrev s_l_far_right : Stmt := topS 52
abbrev N_l_far_right : List Str := ["_law_generator_here", "_law_bits", "_law_spots_here", "_law_many", "_law_turn", "_law_spot", "_law_line", "_law_powers_told", "_law_word", "_law_power", "_law_rows", "_law_bent_here", "_law_due", "_law_first", "_law_number", "_law_total"]
abbrev ps_l_far_right : List Str := ["_law_generator_here"]
theorem sc_l_far_right : FnScope N_l_far_right ps_l_far_right (defScope s_l_far_right) := ⟨rfl, rfl, rfl, by decide +kernel, rfl, by decide +kernel, by decide +kernel⟩
def t_l_far_right (K : PySem.W.Frag) : TS :=
    (tSeq (tPar3 1 2 3 (tCons (tOp (rIxL K) (tLst (tCons (tC (.int 8)) (tCons (tC (.int 16)) (tCons (tC (.int 33)) (tCons (tC (.int 64)) tNil))))) (tCall (sp_l_random K) [] E0 (tCons (tVar 0) (tCons (tC (.int 4)) tNil)))) (tCons (tLst tNil) (tCons (tOp oAdd (tC (.int 1)) (tCall (sp_l_random K) [] E0 (tCons (tVar 0) (tCons (tC (.int 5)) tNil)))) tNil))))
    (tSeq (tFor (iRng1 (tCons (tOp oAdd (tC (.int 2)) (tCall (sp_l_random K) [] E0 (tCons (tVar 0) (tCons (tC (.int 7)) tNil)))) tNil)) (gName 4) (tSeq (tAsg (tCall (sp_l_random K) [] E0 (tCons (tVar 0) (tCons (tOp (rIxL K) (tLst (tCons (tC (.int 200)) (tCons (tOp oShl (tC (.int 1)) (tVar 1)) tNil))) (tCall (sp_l_random K) [] E0 (tCons (tVar 0) (tCons (tC (.int 2)) tNil)))) tNil))) (gName 5))
    (tAsg (tOp rCat (tVar 2) (tOp rRep (tLst (tCons (tVar 5) tNil)) (tCB oInt (tCons (tOp (rIn K true) (tVar 5) (tVar 2)) tNil)))) (gName 2))))
    (tSeq (tPar 2 6 (tCons (tCB (rSorted K) (tCons (tVar 2) tNil)) (tCons (tLst tNil) tNil)))
    (tSeq (tAsg (tLc (iRng1 (tCons (tVar 3) tNil)) (gName 9) tYes (tCall (sp_l_random K) [] E0 (tCons (tVar 0) (tCons (tOp oPow (tC (.int 10)) (tC (.int 25))) tNil))) [9]) (gName 7))
    (tSeq (tFor (iList K (tVar 2)) (gName 5) (tSeq (tAsg (tC (.int 0)) (gName 8))
    (tSeq (tFor (iList K (tRevL K (tVar 7))) (gName 9) (tAsg (tOp oMod (tCB oInt (tCons (tOp oAdd (tOp oMul (tVar 8) (tVar 5)) (tVar 9)) tNil)) (tOp oShl (tC (.int 1)) (tVar 1))) (gName 8)))
    (tDrop (tBM K "list" rAppend (tVar 6) (tCons (tVar 8) tNil))))))
    (tSeq (tAsg (tCall (sp_triangle K) [] E0 (tCons (tVar 1) (tCons (tVar 2) (tCons (tVar 3) tNil)))) (gName 10))
    (tSeq (tIfS (tOr (tTest (tOp oNotN (tCall (sp_alarm K) [] E0 (tCons (tVar 1) (tCons (tVar 2) (tCons (tVar 3) (tCons (tVar 6) tNil))))) (tC .non))) (tTest (tOp (rNeD K) (tCall (sp_alarms K) [] E0 (tCons (tVar 1) (tCons (tVar 2) (tCons (tVar 3) (tCons (tVar 6) tNil))))) (tOp rRep (tLst (tCons (tC (.int 0)) tNil)) (tCB (rLenS K) (tCons (tVar 2) tNil)))))) (tRet (tC (.bl false))) tNext)
    (tSeq (tAsg (tCall (sp_l_bent K) [] E0 (tCons (tVar 0) (tCons (tVar 1) (tCons (tVar 6) (tCons (tOp oAdd (tC (.int 1)) (tCall (sp_l_random K) [] E0 (tCons (tVar 0) (tCons (tC (.int 2)) tNil)))) tNil))))) (gName 11))
    (tSeq (tAsg (tCall (sp_l_sums K) [] E0 (tCons (tVar 1) (tCons (tVar 10) (tCons (tVar 11) tNil)))) (gName 12))
    (tSeq (tAsg (tLc (iEnum K (tCons (tVar 12) tNil)) (gTup K 2 (gCons (gName 14) (gCons (gName 15) gNil))) (tTest (tOp rNe (tVar 15) (tC (.int 0)))) (tTup (tCons (tVar 14) (tCons (tVar 15) tNil))) [14, 15]) (gName 13))
    (tRet (tAndV (tOp (rEqD K) (tCall (sp_alarms K) [] E0 (tCons (tVar 1) (tCons (tVar 2) (tCons (tVar 3) (tCons (tVar 11) tNil))))) (tVar 12)) (tOp (rEqD K) (tCall (sp_alarm K) [] E0 (tCons (tVar 1) (tCons (tVar 2) (tCons (tVar 3) (tCons (tVar 11) tNil))))) (tIf (tTest (tOp (rNeD K) (tVar 13) (tLst tNil))) (tOp (rIxL K) (tVar 13) (tC (.int 0))) (tC .non)))))))))))))))
theorem d_l_far_right (T : Txt K mg) (c_l_random : Cal P w K mg base "_law_random" ps_l_random 2 (sp_l_random K)) (c_triangle : Cal P w K mg base "triangle" ps_triangle 7 (sp_triangle K)) (c_alarm : Cal P w K mg base "alarm" ps_alarm 8 (sp_alarm K)) (c_alarms : Cal P w K mg base "alarms" ps_alarms 7 (sp_alarms K)) (c_l_bent : Cal P w K mg base "_law_bent" ps_l_bent 3 (sp_l_bent K)) (c_l_sums : Cal P w K mg base "_law_sums" ps_l_sums 1 (sp_l_sums K)) {f : Addr} {cdv : Value} {A : Around} {outer : List Env} {s : Shared} {H : Hp} {E : XK} (hr : Room 8 (A.deeper (envOfC "_law_far_right" (defScope s_l_far_right) s.heap.objs.size f cdv))) :
    PSs (cxOf CX0 P w K mg base N_l_far_right "_law_far_right" (defScope s_l_far_right) f cdv A outer s H E).nox (defBody s_l_far_right) (t_l_far_right K) := by
  have nd := sc_l_far_right.nd
  exact (pss_cons (ps_par3 (i := 1) (j := 2) (l := 3) rfl nd rfl rfl rfl (by decide) (by decide) (by decide) rfl rfl rfl (pa_cons (pe_ix ix_list (pe_lst (pa_cons pe_int (pa_cons pe_int (pa_cons pe_int (pa_cons pe_int pa_nil))))) (pe_cal c_l_random (hr.mono (by decide)) (by rfl) (pa_cons (pv 0) (pa_cons pe_int pa_nil))) (fun _ _ => rfl)) (pa_cons (pe_lst pa_nil) (pa_cons (pe_op op_add pe_int (pe_cal c_l_random (hr.mono (by decide)) (by rfl) (pa_cons (pv 0) (pa_cons pe_int pa_nil)))) pa_nil))) (by rfl))
    (pss_cons (ps_for PassesOwn.never rfl (pi_range1 (by rfl) T.range (pa_cons (pe_op op_add pe_int (pe_cal c_l_random (hr.mono (by decide)) (by rfl) (pa_cons (pv 0) (pa_cons pe_int pa_nil)))) pa_nil)) (pg_name (i := 4) nd rfl (Or.inl rfl)) (pss_cons (ps_set (i := 5) nd rfl (Or.inl rfl) (pe_cal c_l_random (hr.mono (by decide)) (by rfl) (pa_cons (pv 0) (pa_cons (pe_ix ix_list (pe_lst (pa_cons pe_int (pa_cons (pe_op op_shl pe_int (pv 1)) pa_nil))) (pe_cal c_l_random (hr.mono (by decide)) (by rfl) (pa_cons (pv 0) (pa_cons pe_int pa_nil))) (fun _ _ => rfl)) pa_nil))))
    (pss_one (ps_set (i := 2) nd rfl (Or.inl rfl) (pe_op op_cat (pv 2) (pe_op op_rep (pe_lst (pa_cons (pv 5) pa_nil)) (pe_callTy call_int1 (by rfl) T.int (by decide +kernel) (pa_cons (pe_cmpR op_notIn_seq (pv 5) (pv 2) (by rfl)) pa_nil))))))))
    (pss_cons (ps_par (i := 2) (j := 6) rfl nd rfl rfl (by decide) rfl rfl (pa_cons (pe_callB cr_sorted (by rfl) T.sorted (by decide +kernel) (pa_cons (pv 2) pa_nil)) (pa_cons (pe_lst pa_nil) pa_nil)) (by rfl))
    (pss_cons (ps_setLc (i := 7) (own := [("_law_power", 9)]) (g := (gName 9)) (tt := tYes) rfl nd rfl rfl (sw_true rfl rfl rfl (by decide +kernel)) (pi_range1 (by rfl) T.range (pa_cons (pv 3) pa_nil)) (blkOk_by (own := [("_law_power", 9)]) (N := N_l_far_right) (sc := (defScope s_l_far_right)) (by decide +kernel)) (fun _ _ _ _ _ => (pg_name (i := 9) nd rfl (Or.inl rfl))) (fun _ _ _ _ _ => pts_nil) (fun _ _ _ _ _ => (pe_cal c_l_random (hr.mono (by decide)) (by rfl) (pa_cons (pv 0) (pa_cons (pe_op op_pow pe_int pe_int) pa_nil)))))
    (pss_cons (ps_for PassesOwn.never rfl (pi_list (pv 2)) (pg_name (i := 5) nd rfl (Or.inl rfl)) (pss_cons (ps_set (i := 8) nd rfl (Or.inl rfl) pe_int)
    (pss_cons (ps_for PassesOwn.never rfl (pi_list (pe_revB (pv 7))) (pg_name (i := 9) nd rfl (Or.inl rfl)) (pss_one (ps_set (i := 8) nd rfl (Or.inl rfl) (pe_op op_mod (pe_callTy call_int1 (by rfl) T.int (by decide +kernel) (pa_cons (pe_op op_add (pe_op op_mul (pv 8) (pv 5)) (pv 9)) pa_nil)) (pe_op op_shl pe_int (pv 1))))))
    (pss_one (ps_expr (pe_bm PySem.F.plainAttrs_list PySem.F.slot_list_append PySem.F.type_list_append mt_append (pv 6) (pa_cons (pv 8) pa_nil)))))))
    (pss_cons (ps_set (i := 10) nd rfl (Or.inl rfl) (pe_cal c_triangle (hr.mono (by decide)) (by rfl) (pa_cons (pv 1) (pa_cons (pv 2) (pa_cons (pv 3) pa_nil)))))
    (pss_cons (ps_if (PW.pt (pw_or (pt_cmpR op_notN (pe_cal c_alarm (hr.mono (by decide)) (by rfl) (pa_cons (pv 1) (pa_cons (pv 2) (pa_cons (pv 3) (pa_cons (pv 6) pa_nil))))) pe_non (nomark _)) (pw_or1 (pt_cmpR (op_neD hr.units) (pe_cal c_alarms (hr.mono (by decide)) (by rfl) (pa_cons (pv 1) (pa_cons (pv 2) (pa_cons (pv 3) (pa_cons (pv 6) pa_nil))))) (pe_op op_rep (pe_lst (pa_cons pe_int pa_nil)) (pe_callB call_len_seq (by rfl) T.len (by decide +kernel) (pa_cons (pv 2) pa_nil))) (nomark _))))) (pss_one (ps_ret pe_bl)) pss_nil)
    (pss_cons (ps_set (i := 11) nd rfl (Or.inl rfl) (pe_cal c_l_bent (hr.mono (by decide)) (by rfl) (pa_cons (pv 0) (pa_cons (pv 1) (pa_cons (pv 6) (pa_cons (pe_op op_add pe_int (pe_cal c_l_random (hr.mono (by decide)) (by rfl) (pa_cons (pv 0) (pa_cons pe_int pa_nil)))) pa_nil))))))
    (pss_cons (ps_set (i := 12) nd rfl (Or.inl rfl) (pe_cal c_l_sums (hr.mono (by decide)) (by rfl) (pa_cons (pv 1) (pa_cons (pv 10) (pa_cons (pv 11) pa_nil)))))
    (pss_cons (ps_setLc (i := 13) (own := [("_law_number", 14), ("_law_total", 15)]) (g := (gTup K 2 (gCons (gName 14) (gCons (gName 15) gNil)))) (tt := (tTest (tOp rNe (tVar 15) (tC (.int 0))))) rfl nd rfl rfl (sw_true rfl rfl rfl (by decide +kernel)) (pi_enum (by rfl) T.enumerate (pa_cons (pv 12) pa_nil)) (blkOk_by (own := [("_law_number", 14), ("_law_total", 15)]) (N := N_l_far_right) (sc := (defScope s_l_far_right)) (by decide +kernel)) (fun _ _ _ _ _ => (pg_tup rfl (pgs_cons (pg_name (i := 14) nd rfl (Or.inl rfl)) (pgs_cons (pg_name (i := 15) nd rfl (Or.inl rfl)) pgs_nil)))) (fun _ _ _ _ _ => (pts_one (pt_cmpR op_ne (pv 15) pe_int (nomark _)))) (fun _ _ _ _ _ => (pe_tup (pa_cons (pv 14) (pa_cons (pv 15) pa_nil)))))
    (pss_one (ps_ret (pe_and (pe_cmpR (op_eqD hr.units) (pe_cal c_alarms (hr.mono (by decide)) (by rfl) (pa_cons (pv 1) (pa_cons (pv 2) (pa_cons (pv 3) (pa_cons (pv 11) pa_nil))))) (pv 12) (nomark _)) (pe_one (pe_cmpR (op_eqD hr.units) (pe_cal c_alarm (hr.mono (by decide)) (by rfl) (pa_cons (pv 1) (pa_cons (pv 2) (pa_cons (pv 3) (pa_cons (pv 11) pa_nil))))) (pe_ifExp (pt_cmpR (op_neD hr.units) (pv 13) (pe_lst pa_nil) (nomark _)) (pe_ix ix_list (pv 13) pe_int (fun _ _ => rfl)) pe_non) (nomark _))))))))))))))))
abbrev s_law : Stmt := topS 53
abbrev N_law : List Str := ["_law_script", "_law_index", "_law_four", "_law_told"]
abbrev ps_law : List Str := ["_law_script"]
theorem sc_law : FnScope N_law ps_law (defScope s_law) := ⟨rfl, rfl, rfl, by decide +kernel, rfl, by decide +kernel, by decide +kernel⟩
def t_law (K : PySem.W.Frag) : TS :=
    (tSeq (tFor (iRng1 (tCons (tC (.int 2)) tNil)) (gName 1) (tIfS (tOr (tNot (tB (tCall (sp_l_right K) [] E0 (tCons (tCall (sp_l_generator K) [] E0 (tCons (tVar 0) (tCons (tVar 1) tNil))) tNil)))) (tNot (tB (tCall (sp_l_far_right K) [] E0 (tCons (tCall (sp_l_generator K) [] E0 (tCons (tVar 0) (tCons (tOp oAdd (tC (.int 2)) (tVar 1)) tNil))) tNil))))) (tRet (tC (.bl false))) tNext))
    (tSeq (tAsg (tLst (tCons (tC (.int 0)) (tCons (tC (.int 1)) (tCons (tC (.int 2)) (tCons (tC (.int 4)) tNil))))) (gName 2))
    (tSeq (tAsg (tLst (tCons (tCall (sp_alarm K) [] E0 (tCons (tC (.int 3)) (tCons (tVar 2) (tCons (tC (.int 2)) (tCons (tLst (tCons (tC (.int 0)) (tCons (tC (.int 1)) (tCons (tC (.int 2)) (tCons (tC (.int 4)) tNil))))) tNil))))) (tCons (tCall (sp_alarm K) [] E0 (tCons (tC (.int 3)) (tCons (tVar 2) (tCons (tC (.int 2)) (tCons (tLst (tCons (tC (.int 0)) (tCons (tC (.int 1)) (tCons (tC (.int 3)) (tCons (tC (.int 4)) tNil))))) tNil))))) (tCons (tCall (sp_alarms K) [] E0 (tCons (tC (.int 3)) (tCons (tVar 2) (tCons (tC (.int 2)) (tCons (tLst (tCons (tC (.int 0)) (tCons (tC (.int 1)) (tCons (tC (.int 3)) (tCons (tC (.int 5)) tNil))))) tNil))))) (tCons (tCall (sp_alarm K) [] E0 (tCons (tC (.int 3)) (tCons (tVar 2) (tCons (tC (.int 3)) (tCons (tLst (tCons (tC (.int 0)) (tCons (tC (.int 1)) (tCons (tC (.int 1)) (tCons (tC (.int 0)) tNil))))) tNil))))) tNil))))) (gName 3))
    (tSeq (tIfS (tOr (tTest (tOp (rNeD K) (tCall (sp_alarms K) [] E0 (tCons (tC (.int 3)) (tCons (tLst (tCons (tC (.int 0)) (tCons (tC (.int 1)) tNil))) (tCons (tOp oPow (tC (.int 10)) (tC (.int 29))) (tCons (tLst (tCons (tC (.int 5)) (tCons (tC (.int 2)) tNil))) tNil))))) (tLst (tCons (tC (.int 0)) (tCons (tC (.int 0)) tNil))))) (tTest (tOp oNotN (tCall (sp_alarm K) [] E0 (tCons (tC (.int 3)) (tCons (tLst (tCons (tC (.int 0)) (tCons (tC (.int 1)) tNil))) (tCons (tOp oPow (tC (.int 10)) (tC (.int 29))) (tCons (tLst (tCons (tC (.int 5)) (tCons (tC (.int 2)) tNil))) tNil))))) (tC .non)))) (tRet (tC (.bl false))) tNext)
    (tRet (tAndV (tOp rEq (tCB (rRepr K) (tCons (tVar 3) tNil)) (tCB (rRepr K) (tCons (tLst (tCons (tC .non) (tCons (tTup (tCons (tC (.int 2)) (tCons (tC (.int 1)) tNil))) (tCons (tLst (tCons (tC (.int 0)) (tCons (tC (.int 0)) (tCons (tC (.int 1)) (tCons (tC (.int 1)) tNil))))) (tCons (tTup (tCons (tC (.int 2)) (tCons (tC (.int 4)) tNil))) tNil))))) tNil))) (tOp (rEqD K) (tCallK (sp_alarm K) gKw E0 tNil (tCons (tLst (tCons (tOp oPow (tC (.int 2)) (tC (.int 63))) tNil)) (tCons (tC (.int 0)) (tCons (tLst (tCons (tC (.int 9)) tNil)) (tCons (tC (.int 64)) tNil))))) (tTup (tCons (tC (.int 0)) (tCons (tOp oPow (tC (.int 2)) (tC (.int 63))) tNil))))))))))
theorem d_law (T : Txt K mg) (c_l_right : CalG P w K mg base "_law_right" ps_l_right 9 (sp_l_right K)) (c_l_generator : Cal P w K mg base "_law_generator" ps_l_generator 2 (sp_l_generator K)) (c_l_far_right : Cal P w K mg base "_law_far_right" ps_l_far_right 9 (sp_l_far_right K)) (c_alarm : Cal P w K mg base "alarm" ps_alarm 8 (sp_alarm K)) (c_alarms : Cal P w K mg base "alarms" ps_alarms 7 (sp_alarms K)) (k_alarm : CalK P w K mg base "alarm" ["words", "count", "places", "width"] 8 (sp_alarm K)) {f : Addr} {cdv : Value} {A : Around} {outer : List Env} {s : Shared} {H : Hp} {E : XK} (hA : A.guards = some []) (hr : Room 9 (A.deeper (envOfC "law" (defScope s_law) s.heap.objs.size f cdv))) :
    PSs (cxOf CX0 P w K mg base N_law "law" (defScope s_law) f cdv A outer s H E).nox (defBody s_law) (t_law K) := by
  have nd := sc_law.nd
  exact (pss_cons (ps_for PassesOwn.never rfl (pi_range1 (by rfl) T.range (pa_cons pe_int pa_nil)) (pg_name (i := 1) nd rfl (Or.inl rfl)) (pss_one (ps_if (PW.pt (pw_or (pt_not (pt_val (pe_calG c_l_right hA (hr.mono (by decide)) (by rfl) (pa_cons (pe_cal c_l_generator (hr.mono (by decide)) (by rfl) (pa_cons (pv 0) (pa_cons (pv 1) pa_nil))) pa_nil)))) (pw_or1 (pt_not (pt_val (pe_cal c_l_far_right (hr.mono (by decide)) (by rfl) (pa_cons (pe_cal c_l_generator (hr.mono (by decide)) (by rfl) (pa_cons (pv 0) (pa_cons (pe_op op_add pe_int (pv 1)) pa_nil))) pa_nil))))))) (pss_one (ps_ret pe_bl)) pss_nil)))
    (pss_cons (ps_set (i := 2) nd rfl (Or.inl rfl) (pe_lst (pa_cons pe_int (pa_cons pe_int (pa_cons pe_int (pa_cons pe_int pa_nil))))))
    (pss_cons (ps_set (i := 3) nd rfl (Or.inl rfl) (pe_lst (pa_cons (pe_cal c_alarm (hr.mono (by decide)) (by rfl) (pa_cons pe_int (pa_cons (pv 2) (pa_cons pe_int (pa_cons (pe_lst (pa_cons pe_int (pa_cons pe_int (pa_cons pe_int (pa_cons pe_int pa_nil))))) pa_nil))))) (pa_cons (pe_cal c_alarm (hr.mono (by decide)) (by rfl) (pa_cons pe_int (pa_cons (pv 2) (pa_cons pe_int (pa_cons (pe_lst (pa_cons pe_int (pa_cons pe_int (pa_cons pe_int (pa_cons pe_int pa_nil))))) pa_nil))))) (pa_cons (pe_cal c_alarms (hr.mono (by decide)) (by rfl) (pa_cons pe_int (pa_cons (pv 2) (pa_cons pe_int (pa_cons (pe_lst (pa_cons pe_int (pa_cons pe_int (pa_cons pe_int (pa_cons pe_int pa_nil))))) pa_nil))))) (pa_cons (pe_cal c_alarm (hr.mono (by decide)) (by rfl) (pa_cons pe_int (pa_cons (pv 2) (pa_cons pe_int (pa_cons (pe_lst (pa_cons pe_int (pa_cons pe_int (pa_cons pe_int (pa_cons pe_int pa_nil))))) pa_nil))))) pa_nil))))))
    (pss_cons (ps_if (PW.pt (pw_or (pt_cmpR (op_neD hr.units) (pe_cal c_alarms (hr.mono (by decide)) (by rfl) (pa_cons pe_int (pa_cons (pe_lst (pa_cons pe_int (pa_cons pe_int pa_nil))) (pa_cons (pe_op op_pow pe_int pe_int) (pa_cons (pe_lst (pa_cons pe_int (pa_cons pe_int pa_nil))) pa_nil))))) (pe_lst (pa_cons pe_int (pa_cons pe_int pa_nil))) (nomark _)) (pw_or1 (pt_cmpR op_notN (pe_cal c_alarm (hr.mono (by decide)) (by rfl) (pa_cons pe_int (pa_cons (pe_lst (pa_cons pe_int (pa_cons pe_int pa_nil))) (pa_cons (pe_op op_pow pe_int pe_int) (pa_cons (pe_lst (pa_cons pe_int (pa_cons pe_int pa_nil))) pa_nil))))) pe_non (nomark _))))) (pss_one (ps_ret pe_bl)) pss_nil)
    (pss_one (ps_ret (pe_and (pe_cmpR op_eq (pe_callB (cr_repr hA hr.units) (by rfl) T.repr (by decide +kernel) (pa_cons (pv 3) pa_nil)) (pe_callB (cr_repr hA hr.units) (by rfl) T.repr (by decide +kernel) (pa_cons (pe_lst (pa_cons pe_non (pa_cons (pe_tup (pa_cons pe_int (pa_cons pe_int pa_nil))) (pa_cons (pe_lst (pa_cons pe_int (pa_cons pe_int (pa_cons pe_int (pa_cons pe_int pa_nil))))) (pa_cons (pe_tup (pa_cons pe_int (pa_cons pe_int pa_nil))) pa_nil))))) pa_nil)) (nomark _)) (pe_one (pe_cmpR (op_eqD hr.units) (pe_kwCal k_alarm (hr.mono (by decide)) (by rfl) (pk_cons (pe_lst (pa_cons (pe_op op_pow pe_int pe_int) pa_nil)) (pk_cons pe_int (pk_cons (pe_lst (pa_cons pe_int pa_nil)) (pk_cons pe_int pk_nil))))) (pe_tup (pa_cons pe_int (pa_cons (pe_op op_pow pe_int pe_int) pa_nil))) (nomark _))))))))))
end
end K53

/-! K53R1: readings: numbers, widths, words. -/
namespace K53
open PySem PySem.Spec PyProof.Rows L2

abbrev fin (Q : VK) : Ends := { nx := fun _ H' => Q .non H', rt := Q }
theorem same_new {H : Hp} {p : Addr} {o : HO} (h : H p = none) : Same H (upd H p o) := fun b x e => by
  rw [upd_ne (ne_of_none e h)]
  exact e
/-- what a base does not know may change -/
theorem same_mut {B H : Hp} {p : Addr} {o : HO} (s : Same B H) (h : B p = none) : Same B (upd H p o) := fun b x e => by
  rw [upd_ne (ne_of_none e h)]
  exact s _ _ e
theorem sql {K : PySem.W.Frag} {H : Hp} {a : Addr} {xs : List V} (h : H a = some (.lst xs)) : SqL K H a xs := .inl (.inl h)
theorem sqt {K : PySem.W.Frag} {H : Hp} {a : Addr} {xs : List V} (h : H a = some (.tup xs)) : SqT K H a xs := .inl (.inl h)

section
variable {K : PySem.W.Frag} {vs : List V} {H : Hp} {Q : VK} {E : XK}
theorem r_is_whole (h : sp_is_whole K vs H Q E) : t_is_whole K (fin Q) (start N_is_whole vs) H := by
  obtain ⟨i, rfl, q⟩ := h
  refine ⟨_, rfl, _, _, _, _, true, rfl, .ty _, .base (.int i), kit_ty (by decide +kernel), true, rfl, ?_⟩
  refine iteT ⟨_, rfl, _, _, _, _, false, rfl, .ty _, .base (.int i), kit_ty (by decide +kernel), false, rfl, q H (Same.refl H)⟩
theorem r_is_between (h : sp_is_between K vs H Q E) : t_is_between K (fin Q) (start N_is_between vs) H := by
  obtain ⟨i, lo, hi, rfl, h1, h2, q⟩ := h
  refine ⟨_, rfl, i, rfl, fun H1 s1 => ⟨true, rfl, iteF ?_⟩⟩
  refine ⟨_, rfl, rfl, ?_⟩
  have last : ((fun σ H Q => tOrV (tOp oIsN (tVar 2) (tC .non)) (tOp oLe (tVar 0) (tVar 2)) σ H Q) : TE) (start N_is_between [.int i, ov lo, ov hi]) H1 Q := by
    refine ⟨_, rfl, rfl, ?_⟩
    cases hi with
    | none => exact ⟨true, rfl, iteT (q H1 s1)⟩
    | some z =>
      refine ⟨false, rfl, iteF ⟨_, rfl, _, rfl, i, z, rfl, rfl, ?_⟩⟩
      show Q (.bl (decide (i ≤ z))) H1
      rw [decide_eq_true (h2 z rfl)]
      exact q H1 s1
  cases lo with
  | none => exact ⟨true, rfl, iteT ⟨true, rfl, iteT last⟩⟩
  | some z =>
    refine ⟨false, rfl, iteF ⟨_, rfl, _, rfl, i, z, rfl, rfl, ?_⟩⟩
    have e : decide (z ≤ i) = true := decide_eq_true (h1 z rfl)
    exact ⟨_, rfl, by rw [if_pos e]; exact last⟩
theorem r_check_number (h : sp_check_number K vs H Q E) : t_check_number K (fin Q) (start N_check_number vs) H := by
  obtain ⟨c, rfl, q⟩ := h
  refine ⟨_, rfl, _, rfl, _, rfl, (c : Int), some 0, none, rfl, fun l e => ?_, (fun _ e => by cases e), fun H1 s1 => ⟨true, rfl, iteF (q H1 s1)⟩⟩
  cases e
  exact Int.natCast_nonneg c
theorem r_power_of_two (h : sp_power_of_two K vs H Q E) : t_power_of_two K (fin Q) (start N_power_of_two vs) H := by
  obtain ⟨n, rfl, hn, q⟩ := h
  refine ⟨_, rfl, 1, n, rfl, rfl, ⟨Int.natCast_nonneg n, by omega, by decide⟩, ?_⟩
  show Q (.int (1 * 2 ^ ((n : Int).toNat))) H
  rw [Int.one_mul, Int.toNat_natCast]
  exact q H (Same.refl H)
theorem r_is_width (h : sp_is_width K vs H Q E) : t_is_width K (fin Q) (start N_is_width vs) H := by
  obtain ⟨w, rfl, h1, h2, q⟩ := h
  refine ⟨_, rfl, (w : Int), some 1, some 64, rfl, fun l e => ?_, fun l e => ?_, q⟩
  · cases e
    omega
  · cases e
    omega
theorem r_check_width (h : sp_check_width K vs H Q E) : t_check_width K (fin Q) (start N_check_width vs) H := by
  obtain ⟨w, rfl, h1, h2, q⟩ := h
  exact ⟨_, rfl, w, rfl, h1, h2, fun H1 s1 => ⟨true, rfl, iteF (q H1 s1)⟩⟩
theorem r_is_of_width (h : sp_is_of_width K vs H Q E) : t_is_of_width K (fin Q) (start N_is_of_width vs) H := by
  obtain ⟨w, x, rfl, h1, h2, h3, q⟩ := h
  refine ⟨_, rfl, _, rfl, w, rfl, by omega, fun H1 s1 => ⟨_, _, rfl, rfl, ?_⟩⟩
  refine ⟨x, some 0, some (2 ^ w - 1), rfl, fun l e => ?_, fun l e => ?_, fun H2 s2 => q H2 (s1.trans s2)⟩
  · cases e
    exact h2
  · cases e
    omega
end
end K53

/-! K53Comp: comprehensions whose elements only make new things. -/
namespace K53
open PySem PySem.Spec PyProof.Rows L2

/-- evaluates to v at every heap that has what B has, and keeps it -/
def Ev1 (te : TE) (σ : L2.St) (B : Hp) (v : V) : Prop := ∀ H, Same B H → ∀ R : VK, (∀ H2, Same H H2 → R v H2) → te σ H R
def EvT1 (tt : TT) (σ : L2.St) (B : Hp) (b : Bool) : Prop := ∀ H, Same B H → ∀ R : Bool → Hp → Prop, (∀ H2, Same H H2 → R b H2) → tt σ H R
/-- evaluates to a new list -/
def EvN (te : TE) (σ : L2.St) (B : Hp) (xs : List V) : Prop := ∀ H, Same B H → ∀ R : VK, (∀ p H2, Same H H2 → H p = none → H2 p = some (.lst xs) → R (.ref p) H2) → te σ H R
/-- .. to a list -/
def EvS (K : PySem.W.Frag) (te : TE) (σ : L2.St) (B : Hp) (xs : List V) : Prop := ∀ H, Same B H → ∀ R : VK, (∀ a H2, Same H H2 → SqL K H2 a xs → R (.ref a) H2) → te σ H R
def EvA1 (ta : TA) (σ : L2.St) (B : Hp) (vs : List V) : Prop := ∀ H, Same B H → ∀ R : List V → Hp → Prop, (∀ H2, Same H H2 → R vs H2) → ta σ H R
section
variable {K : PySem.W.Frag} {σ : L2.St} {B H : Hp} {te tl ta tb : TE} {tt tu : TT} {v x y : V} {xs : List V} {r : R2}
theorem EvN.s (h : EvN te σ B xs) : EvS K te σ B xs := fun H s R k => h H s R fun p H2 s2 _ e => k p H2 s2 (sql e)
theorem evs_var {i : Nat} {a : Addr} (h : σ[i]? = some (some (.ref a))) (hx : SqL K B a xs) : EvS K (tVar i) σ B xs := fun H s R k => ⟨_, h, k a H (Same.refl H) (s.seq hx)⟩
theorem ev1_var {i : Nat} (h : σ[i]? = some (some v)) : Ev1 (tVar i) σ B v := fun H s R k => ⟨_, h, k H (Same.refl H)⟩
theorem ev1_c : Ev1 (tC v) σ B v := fun H s R k => k H (Same.refl H)
theorem evt_yes : EvT1 tYes σ B true := fun H _ R k => k H (Same.refl H)
theorem ev1_I0 {g : Int → Int → V} {i j : Int} (ha : Ev1 ta σ B (.int i)) (hb : Ev1 tb σ B (.int j)) : Ev1 (tOp (rI0 g) ta tb) σ B (g i j) := fun H s R k =>
  ha H s _ fun H1 s1 => hb H1 (s.trans s1) _ fun H2 s2 => ⟨i, j, rfl, rfl, k H2 (s1.trans s2)⟩
theorem ev1_I {C : Int → Int → Prop} {g : Int → Int → V} {i j : Int} (ha : Ev1 ta σ B (.int i)) (hb : Ev1 tb σ B (.int j)) (hc : C i j) : Ev1 (tOp (rI C g) ta tb) σ B (g i j) := fun H s R k =>
  ha H s _ fun H1 s1 => hb H1 (s.trans s1) _ fun H2 s2 => ⟨i, j, rfl, rfl, hc, k H2 (s1.trans s2)⟩
theorem ev1_is (h : Ev1 te σ B v) (e : v = x) : Ev1 te σ B x := e ▸ h
theorem ev1_ix {i : Nat} {a : Addr} {j : Nat} (ha : EvS K ta σ B xs) (hb : Ev1 tb σ B (.int (j : Int))) (hv : xs[j]? = some v) : Ev1 (tOp (rIxL K) ta tb) σ B v := fun H s R k =>
  ha H s _ fun p H1 s1 hp => hb H1 (s.trans s1) _ fun H2 s2 => ⟨p, xs, (j : Int), v, rfl, rfl, s2.seq hp, atI_nat hv, k H2 (s1.trans s2)⟩
theorem evt_op {b : Bool} (h : Ev1 te σ B (.bl b)) : EvT1 (tTest te) σ B b := fun H s R k => h H s _ fun H2 s2 => ⟨b, rfl, k H2 s2⟩
theorem evt_B {b : Bool} (h : Ev1 te σ B (.bl b)) : EvT1 (tB te) σ B b := fun H s R k => h H s _ fun H2 s2 => ⟨b, rfl, k H2 s2⟩
theorem evt_not {b : Bool} (h : EvT1 tt σ B b) : EvT1 (tNot tt) σ B (!b) := fun H s R k => h H s _ fun H2 s2 => k H2 s2
theorem evt_and {b c : Bool} (h : EvT1 tt σ B b) (h2 : EvT1 tu σ B c) : EvT1 (tAnd tt tu) σ B (b && c) := fun H s R k => h H s _ fun H1 s1 => by
  cases b with
  | true =>
    show tu σ H1 R
    exact h2 H1 (s.trans s1) R fun H2 s2 => k H2 (s1.trans s2)
  | false => exact k H1 s1
theorem evt_is {b c : Bool} (h : EvT1 tt σ B b) (e : b = c) : EvT1 tt σ B c := e ▸ h
theorem ev1_if {b : Bool} (h : EvT1 tt σ B b) (h1 : b = true → Ev1 ta σ B v) (h2 : b = false → Ev1 tb σ B v) : Ev1 (tIf tt ta tb) σ B v := fun H s R k => h H s _ fun H1 s1 => by
  cases b with
  | true =>
    show ta σ H1 R
    exact h1 rfl H1 (s.trans s1) R fun H2 s2 => k H2 (s1.trans s2)
  | false =>
    show tb σ H1 R
    exact h2 rfl H1 (s.trans s1) R fun H2 s2 => k H2 (s1.trans s2)
theorem eva_nil : EvA1 tNil σ B [] := fun H _ R k => k H (Same.refl H)
theorem eva_cons {tr : TA} {vs : List V} (h : Ev1 te σ B v) (hr : EvA1 tr σ B vs) : EvA1 (tCons te tr) σ B (v :: vs) := fun H s R k => h H s _ fun H1 s1 => hr H1 (s.trans s1) _ fun H2 s2 => k H2 (s1.trans s2)
theorem ev1_call {sp : Sp} {tr : TA} {vs : List V} (h : EvA1 tr σ B vs) (q : ∀ H, Same B H → ∀ R : VK, (∀ H2, Same H H2 → R v H2) → sp vs H R E0) : Ev1 (tCall sp [] E0 tr) σ B v := fun H s R k => h H s _ fun H1 s1 => by
  show sp (vs ++ []) H1 R E0
  rw [List.append_nil]
  exact q H1 (s.trans s1) R fun H2 s2 => k H2 (s1.trans s2)
theorem ev1_sum {ns : List Int} (h : EvS K te σ B (ns.map V.int)) : Ev1 (tCB (rSum K) (tCons te tNil)) σ B (.int ns.sum) := fun H s R k => h H s _ fun a H1 s1 ha => ⟨a, ns, rfl, ha, k H1 s1⟩
theorem ev1_len (h : EvS K te σ B xs) : Ev1 (tCB (rLenS K) (tCons te tNil)) σ B (.int xs.length) := fun H s R k => h H s _ fun a H1 s1 ha => ⟨a, xs, rfl, .inl ha, k H1 s1⟩
theorem ev1_int {i : Int} (h : Ev1 te σ B (.int i)) : Ev1 (tCB oInt (tCons te tNil)) σ B (.int i) := fun H s R k => h H s _ fun H1 s1 => .inl ⟨i, rfl, k H1 s1⟩

/-! ### what is collected -/
def picked (n : Nat) (p : Nat → Bool) (f : Nat → V) : List V := ((List.range n).filter p).map f
theorem picked_zero (p : Nat → Bool) (f : Nat → V) : picked 0 p f = [] := rfl
theorem picked_yes {n : Nat} {p : Nat → Bool} {f : Nat → V} (h : p n = true) : picked (n + 1) p f = picked n p f ++ [f n] := by
  unfold picked
  rw [List.range_succ, List.filter_append, List.map_append, List.filter_cons_of_pos h]
  rfl
theorem picked_no {n : Nat} {p : Nat → Bool} {f : Nat → V} (h : p n = false) : picked (n + 1) p f = picked n p f := by
  unfold picked
  rw [List.range_succ, List.filter_append, List.map_append, List.filter_cons_of_neg (by rw [h]; decide)]
  simp
theorem picked_len (n : Nat) (p : Nat → Bool) (f : Nat → V) : (picked n p f).length ≤ n := by
  unfold picked
  rw [List.length_map]
  exact Nat.le_trans (List.length_filter_le _ _) (by rw [List.length_range]; exact Nat.le_refl _)
theorem picked_none {n : Nat} {p : Nat → Bool} {f : Nat → V} (h : ∀ i, i < n → p i = false) : picked n p f = [] := by
  unfold picked
  rw [List.filter_eq_nil_iff.mpr]
  · rfl
  · intro i hi
    rw [h i (List.mem_range.mp hi)]
    decide
theorem picked_all (n : Nat) (f : Nat → V) : picked n (fun _ => true) f = (List.range n).map f := by
  unfold picked
  rw [List.filter_eq_self.mpr fun _ _ => rfl]
/-- the word between two turns -/
def Col (H : Hp) (p : Nat → Bool) (f : Nat → V) (D : Addr) (i : Nat) (H' : Hp) : Prop := Same H H' ∧ H' D = some (.lst (picked i p f))
theorem col_turn {H H' : Hp} {p : Nat → Bool} {f : Nat → V} {D : Addr} {i : Nat} {σ2 : L2.St} (hD : H D = none) (c : Col H p f D i H') (hi : i < 1000000) (ht : EvT1 tt σ2 H (p i)) (he : p i = true → Ev1 te σ2 H (f i)) :
    tt σ2 H' fun b H3 => if b = true then te σ2 H3 fun y H4 => ∃ acc, H4 D = some (.lst acc) ∧ acc.length < sizeLine ∧ Col H p f D (i + 1) (upd H4 D (.lst (acc ++ [y]))) else Col H p f D (i + 1) H3 := by
  obtain ⟨s, d⟩ := c
  refine ht H' s _ fun H3 s3 => ?_
  cases hp : p i with
  | true =>
    refine iteT (he hp H3 (s.trans s3) _ fun H4 s4 => ⟨picked i p f, s4 _ _ (s3 _ _ d), ?_, same_mut ((s.trans s3).trans s4) hD, ?_⟩)
    · have := picked_len i p f
      exact Nat.lt_of_lt_of_le (Nat.lt_of_le_of_lt this hi) (by decide)
    · rw [picked_yes hp]
      exact upd_same
  | false => exact iteF ⟨s.trans s3, by rw [picked_no hp]; exact s3 _ _ d⟩
/-- over a list, one name -/
theorem lcL (p : Nat → Bool) (f : Nat → V) {j : Nat} {vs : List Nat} (hs : EvS K tl σ B xs) (hz : xs.length ≤ 1000000) (hw : ∀ x, wipe ((wipe σ vs).set j (some x)) vs = wipe σ vs)
    (ht : ∀ i x H, xs[i]? = some x → Same B H → EvT1 tt ((wipe σ vs).set j (some x)) H (p i)) (he : ∀ i x H, xs[i]? = some x → Same B H → p i = true → Ev1 te ((wipe σ vs).set j (some x)) H (f i)) :
    EvN (tLc (iList K tl) (gName j) tt te vs) σ B (picked xs.length p f) := fun H s R k => hs H s _ fun a H1 s1 ha => ⟨a, rfl, ⟨xs, ha⟩, fun D hD =>
  lc_list (xs := xs) (Col H1 p f D) ⟨same_new hD, upd_same⟩ (fun i H' _ c => c.1.seq ha) (fun i x H' hi c => ⟨hw x, col_turn hD c (by have := (List.getElem?_eq_some_iff.mp hi).1; omega) (ht i x H1 hi (s.trans s1)) (he i x H1 hi (s.trans s1))⟩)
    fun H' c => k D H' (s1.trans c.1) (s1.free hD) c.2⟩
/-- over range(n), range(a, b) -/
theorem lcR1 (p : Nat → Bool) (f : Nat → V) {n : Nat} {j : Nat} {vs : List Nat} {ta : TA} (hs : EvA1 ta σ B [.int n]) (hz : n ≤ 1000000) (hw : ∀ x, wipe ((wipe σ vs).set j (some x)) vs = wipe σ vs)
    (ht : ∀ (i : Nat) H, i < n → Same B H → EvT1 tt ((wipe σ vs).set j (some (.int i))) H (p i)) (he : ∀ (i : Nat) H, i < n → Same B H → p i = true → Ev1 te ((wipe σ vs).set j (some (.int i))) H (f i)) :
    EvN (tLc (iRng1 ta) (gName j) tt te vs) σ B (picked n p f) := fun H s R k => hs H s _ fun H1 s1 => ⟨(n : Int), rfl, by omega, by omega, fun D hD => by
  have e : ∀ i : Nat, (0 : Int) + (i : Int) = i := fun i => Int.zero_add _
  refine lc_range (lo := 0) (Col H1 p f D) ⟨same_new hD, upd_same⟩ (fun i H' hi c => ?_) fun H' c => k D H' (s1.trans c.1) (s1.free hD) (by have := c.2; rwa [Int.toNat_natCast] at this)
  rw [Int.toNat_natCast] at hi
  rw [e]
  exact ⟨hw _, col_turn hD c (by omega) (ht i H1 hi (s.trans s1)) (he i H1 hi (s.trans s1))⟩⟩
theorem lcR2 (p : Nat → Bool) (f : Nat → V) {a n : Nat} {j : Nat} {vs : List Nat} {ta : TA} (hs : EvA1 ta σ B [.int a, .int n]) (hz : a ≤ 1000000 ∧ n ≤ 1000000) (hw : ∀ x, wipe ((wipe σ vs).set j (some x)) vs = wipe σ vs)
    (ht : ∀ (i : Nat) H, i < n - a → Same B H → EvT1 tt ((wipe σ vs).set j (some (.int (a + i : Nat)))) H (p i)) (he : ∀ (i : Nat) H, i < n - a → Same B H → p i = true → Ev1 te ((wipe σ vs).set j (some (.int (a + i : Nat)))) H (f i)) :
    EvN (tLc (iRng2 ta) (gName j) tt te vs) σ B (picked (n - a) p f) := fun H s R k => hs H s _ fun H1 s1 => ⟨(a : Int), (n : Int), rfl, by omega, fun D hD => by
  have e : ∀ i : Nat, (a : Int) + (i : Int) = ((a + i : Nat) : Int) := fun i => by omega
  have en : ((n : Int) - (a : Int)).toNat = n - a := by omega
  rw [en]
  refine lc_range (lo := (a : Int)) (Col H1 p f D) ⟨same_new hD, upd_same⟩ (fun i H' hi c => ?_) fun H' c => k D H' (s1.trans c.1) (s1.free hD) c.2
  rw [e]
  exact ⟨hw _, col_turn hD c (by omega) (ht i H1 hi (s.trans s1)) (he i H1 hi (s.trans s1))⟩⟩
/-- two names -/
def put2 (σ : L2.St) (j l : Nat) (x y : V) : L2.St := (σ.set j (some x)).set l (some y)
theorem pair_in {x y : V} {T : Addr} {j l : Nat} {σ : L2.St} {H : Hp} {R : L2.St → Hp → Prop} (h : R (put2 σ j l x y) (upd H T (.tup [x, y]))) : gTup K 2 (gCons (gName j) (gCons (gName l) gNil)) (.ref T) σ (upd H T (.tup [x, y])) R :=
  ⟨T, [x, y], rfl, sqt upd_same, rfl, x, [y], rfl, y, [], rfl, rfl, h⟩
theorem col_pair {H H' : Hp} {p : Nat → Bool} {f : Nat → V} {D T : Addr} {i : Nat} {o : HO} (c : Col H p f D i H') (hT : H' T = none) : Col H p f D i (upd H' T o) := ⟨c.1.trans (same_new hT), same_new hT _ _ c.2⟩
theorem lcJ (p : Nat → Bool) (f : Nat → V) {fx fy : Nat → V} {n : Nat} {J : It} {j l : Nat} {vs : List Nat} {H1 : Hp} {D : Addr} {Q : VK} (hz : n ≤ 1000000) (hw : ∀ x y, wipe (put2 (wipe σ vs) j l x y) vs = wipe σ vs)
    (go : ∀ i H, Same H1 H → i < n → J.go i H) (yld : ∀ i H v H', Same H1 H → i < n → J.yld i H v H' → ∃ T, v = .ref T ∧ H T = none ∧ H' = upd H T (.tup [fx i, fy i])) (stop : ∀ H, Same H1 H → J.stop n H)
    (ht : ∀ i, i < n → EvT1 tt (put2 (wipe σ vs) j l (fx i) (fy i)) H1 (p i)) (he : ∀ i, i < n → p i = true → Ev1 te (put2 (wipe σ vs) j l (fx i) (fy i)) H1 (f i)) (hD : H1 D = none)
    (k : ∀ H', Same H1 H' → H' D = some (.lst (picked n p f)) → Q (.ref D) H') :
    ∃ W : Nat → Nat → Hp → Prop, (∃ m, W 0 m (upd H1 D (.lst []))) ∧ ∀ i m H, W i m H → (J.stop i H ∧ Q (.ref D) H) ∨ (J.go i H ∧ ∃ Nx : Hp → Prop, (∀ H', Nx H' → ∃ m', m' < m ∧ W (i + 1) m' H') ∧
      ∀ x H', J.yld i H x H' → gTup K 2 (gCons (gName j) (gCons (gName l) gNil)) x (wipe σ vs) H' fun σ2 H2 => wipe σ2 vs = wipe σ vs ∧ tt σ2 H2 fun b H3 =>
        if b = true then te σ2 H3 fun y H4 => ∃ acc, H4 D = some (.lst acc) ∧ acc.length < sizeLine ∧ Nx (upd H4 D (.lst (acc ++ [y]))) else Nx H3) := by
  refine ⟨fun i m H' => m = n - i ∧ i ≤ n ∧ Col H1 p f D i H', ⟨n, rfl, Nat.zero_le _, same_new hD, upd_same⟩, ?_⟩
  rintro i m H' ⟨rfl, hi, c⟩
  by_cases hlt : i < n
  · refine .inr ⟨go i H' c.1 hlt, fun H' => i + 1 ≤ n ∧ Col H1 p f D (i + 1) H', fun H' hN => ⟨_, by omega, rfl, hN.1, hN.2⟩, ?_⟩
    intro v H3 hy
    obtain ⟨T, rfl, hT, rfl⟩ := yld i H' v H3 c.1 hlt hy
    refine pair_in ⟨hw _ _, ?_⟩
    refine ht i hlt _ (c.1.trans (same_new hT)) _ fun H4 s4 => ?_
    have c4 : Col H1 p f D i H4 := ⟨(c.1.trans (same_new hT)).trans s4, s4 _ _ (same_new hT _ _ c.2)⟩
    cases hp : p i with
    | true =>
      refine iteT (he i hlt hp H4 c4.1 _ fun H5 s5 => ⟨picked i p f, s5 _ _ c4.2, ?_, hlt, same_mut (c4.1.trans s5) hD, ?_⟩)
      · have := picked_len i p f
        exact Nat.lt_of_lt_of_le (Nat.lt_of_le_of_lt this (Nat.lt_of_lt_of_le hlt hz)) (by decide)
      · rw [picked_yes hp]
        exact upd_same
    | false => exact iteF ⟨hlt, c4.1, by rw [picked_no hp]; exact c4.2⟩
  · have e : i = n := by omega
    subst e
    exact .inl ⟨stop H' c.1, k H' c.1 c.2⟩
theorem get_of {xs : List V} {i : Nat} (h : i < xs.length) : xs[i]? = some (xs.getD i .non) := getD_lt h
/-- zip(.., strict=True) -/
theorem lcZS (p : Nat → Bool) (f : Nat → V) {ys : List V} {j l : Nat} {vs : List Nat} (hs : EvS K tl σ B xs) (hs2 : EvS K ta σ B ys) (hl : xs.length = ys.length) (hz : xs.length ≤ 1000000) (hw : ∀ x y, wipe (put2 (wipe σ vs) j l x y) vs = wipe σ vs)
    (ht : ∀ i x y H, xs[i]? = some x → ys[i]? = some y → Same B H → EvT1 tt (put2 (wipe σ vs) j l x y) H (p i)) (he : ∀ i x y H, xs[i]? = some x → ys[i]? = some y → Same B H → p i = true → Ev1 te (put2 (wipe σ vs) j l x y) H (f i)) :
    EvN (tLc (iZipS K (tCons tl (tCons ta tNil))) (gTup K 2 (gCons (gName j) (gCons (gName l) gNil))) tt te vs) σ B (picked xs.length p f) := fun H s R k => hs H s _ fun a H1 s1 ha => hs2 H1 (s.trans s1) _ fun b H2 s2 hb => ⟨a, b, xs, ys, rfl, s2.seq ha, hb, fun D hD =>
  lcJ p f (fx := fun i => xs.getD i .non) (fy := fun i => ys.getD i .non) hz hw (fun i H' c h => ⟨xs, ys, _, _, c.seq (s2.seq ha), c.seq hb, get_of h, get_of (by omega)⟩)
    (fun i H' v H3 c h y => by
      obtain ⟨T, x, y, rfl, hT, rfl, hx, hy⟩ := y
      have ex := (get_of h).symm.trans (hx _ (c.seq (s2.seq ha)))
      have ey := (get_of (show i < ys.length by omega)).symm.trans (hy _ (c.seq hb))
      cases ex
      cases ey
      exact ⟨T, rfl, hT, rfl⟩)
    (fun H' c => ⟨xs, ys, c.seq (s2.seq ha), c.seq hb, Nat.le_refl _, by omega⟩) (fun i h => ht i _ _ H2 (get_of h) (get_of (by omega)) (s.trans (s1.trans s2))) (fun i h => he i _ _ H2 (get_of h) (get_of (by omega)) (s.trans (s1.trans s2))) hD
    fun H' c e => k D H' ((s1.trans s2).trans c) ((s1.trans s2).free hD) e⟩
/-- zip of two lists of one length -/
theorem lcZ (p : Nat → Bool) (f : Nat → V) {ys : List V} {j l : Nat} {vs : List Nat} (hs : EvS K tl σ B xs) (hs2 : EvS K ta σ B ys) (hl : xs.length = ys.length) (hz : xs.length ≤ 1000000) (hw : ∀ x y, wipe (put2 (wipe σ vs) j l x y) vs = wipe σ vs)
    (ht : ∀ i x y H, xs[i]? = some x → ys[i]? = some y → Same B H → EvT1 tt (put2 (wipe σ vs) j l x y) H (p i)) (he : ∀ i x y H, xs[i]? = some x → ys[i]? = some y → Same B H → p i = true → Ev1 te (put2 (wipe σ vs) j l x y) H (f i)) :
    EvN (tLc (iZip K (tCons tl (tCons ta tNil))) (gTup K 2 (gCons (gName j) (gCons (gName l) gNil))) tt te vs) σ B (picked xs.length p f) := fun H s R k => hs H s _ fun a H1 s1 ha => hs2 H1 (s.trans s1) _ fun b H2 s2 hb => ⟨a, b, xs, ys, rfl, s2.seq ha, hb, fun D hD =>
  lcJ p f (fx := fun i => xs.getD i .non) (fy := fun i => ys.getD i .non) hz hw (fun i H' c h => ⟨xs, ys, _, _, c.seq (s2.seq ha), c.seq hb, get_of h, get_of (by omega)⟩)
    (fun i H' v H3 c h y => by
      obtain ⟨T, x, y, rfl, hT, rfl, hx, hy⟩ := y
      have ex := (get_of h).symm.trans (hx _ (c.seq (s2.seq ha)))
      have ey := (get_of (show i < ys.length by omega)).symm.trans (hy _ (c.seq hb))
      cases ex
      cases ey
      exact ⟨T, rfl, hT, rfl⟩)
    (fun H' c => ⟨xs, ys, c.seq (s2.seq ha), c.seq hb, .inl (Nat.le_refl _)⟩) (fun i h => ht i _ _ H2 (get_of h) (get_of (by omega)) (s.trans (s1.trans s2))) (fun i h => he i _ _ H2 (get_of h) (get_of (by omega)) (s.trans (s1.trans s2))) hD
    fun H' c e => k D H' ((s1.trans s2).trans c) ((s1.trans s2).free hD) e⟩
/-- enumerate -/
theorem lcE (p : Nat → Bool) (f : Nat → V) {j l : Nat} {vs : List Nat} (hs : EvS K tl σ B xs) (hz : xs.length ≤ 1000000) (hw : ∀ x y, wipe (put2 (wipe σ vs) j l x y) vs = wipe σ vs)
    (ht : ∀ (i : Nat) x H, xs[i]? = some x → Same B H → EvT1 tt (put2 (wipe σ vs) j l (.int i) x) H (p i)) (he : ∀ (i : Nat) x H, xs[i]? = some x → Same B H → p i = true → Ev1 te (put2 (wipe σ vs) j l (.int i) x) H (f i)) :
    EvN (tLc (iEnum K (tCons tl tNil)) (gTup K 2 (gCons (gName j) (gCons (gName l) gNil))) tt te vs) σ B (picked xs.length p f) := fun H s R k => hs H s _ fun a H1 s1 ha => ⟨a, xs, rfl, ha, fun D hD =>
  lcJ p f (fx := fun i => .int (i : Int)) (fy := fun i => xs.getD i .non) hz hw (fun i H' c h => ⟨xs, _, c.seq ha, get_of h⟩)
    (fun i H' v H3 c h y => by
      obtain ⟨T, x, rfl, hT, rfl, hx⟩ := y
      have ex := (get_of h).symm.trans (hx _ (c.seq ha))
      cases ex
      exact ⟨T, rfl, hT, rfl⟩)
    (fun H' c => ⟨xs, c.seq ha, Nat.le_refl _⟩) (fun i h => ht i _ H1 (get_of h) (s.trans s1)) (fun i h => he i _ H1 (get_of h) (s.trans s1)) hD
    fun H' c e => k D H' (s1.trans c) (s1.free hD) e⟩

/-! ### a list of new lists -/
/-- the lists made so far -/
def RowCol (H : Hp) (rows : Nat → List Int) (D : Addr) (i : Nat) (H' : Hp) : Prop := Same H H' ∧ ∃ rs : List Addr, H' D = some (.lst (rs.map V.ref)) ∧ Paired (fun r xs => r ≠ D ∧ H r = none ∧ Ls H' r xs) rs ((List.range i).map rows)
theorem paired_snoc {α β : Type} {F : α → β → Prop} : ∀ {l : List α} {r : List β} {a : α} {b : β}, Paired F l r → F a b → Paired F (l ++ [a]) (r ++ [b])
  | _, _, _, _, .nil, h => .cons h .nil
  | _, _, _, _, .cons q t, h => .cons q (paired_snoc t h)
theorem RowCol.rows {H H' : Hp} {rows : Nat → List Int} {D : Addr} {n : Nat} (c : RowCol H rows D n H') : Rows H H' D ((List.range n).map rows) := by
  obtain ⟨s, rs, d, q⟩ := c
  exact ⟨rs, d, Paired.mapP q fun r xs h => h.2⟩
theorem RowCol.len {H H' : Hp} {rows : Nat → List Int} {D : Addr} {n : Nat} (c : RowCol H rows D n H') : ∃ rs : List Addr, H' D = some (.lst (rs.map V.ref)) ∧ rs.length = n := by
  obtain ⟨s, rs, d, q⟩ := c
  refine ⟨rs, d, ?_⟩
  have := Paired.length q
  rw [List.length_map, List.length_range] at this
  exact this
theorem refs_inj : ∀ {a b : List Addr}, a.map V.ref = b.map V.ref → a = b
  | [], [], _ => rfl
  | [], _ :: _, h => by cases h
  | _ :: _, [], h => by cases h
  | x :: a, y :: b, h => by
    injection h with h1 h2
    injection h1 with h1
    rw [h1, refs_inj h2]
theorem RowCol.add {H H' H2 : Hp} {rows : Nat → List Int} {D r : Addr} {i : Nat} (hD : H D = none) (c : RowCol H rows D i H') (s2 : Same H' H2) (hr : H' r = none) (e : Ls H2 r (rows i)) {rs : List Addr} (d2 : H2 D = some (.lst (rs.map V.ref))) :
    RowCol H rows D (i + 1) (upd H2 D (.lst (rs.map V.ref ++ [.ref r]))) := by
  obtain ⟨s, rs', d, q⟩ := c
  have ers : rs' = rs := by
    have z := (s2 _ _ d).symm.trans d2
    injection z with z
    injection z with z
    exact refs_inj z
  subst ers
  have hne : r ≠ D := fun z => by
    rw [z, d] at hr
    cases hr
  refine ⟨same_mut (s.trans s2) hD, rs' ++ [r], by rw [List.map_append]; exact upd_same, ?_⟩
  rw [List.range_succ, List.map_append]
  refine paired_snoc (Paired.mapP q fun r' xs h => ⟨h.1, h.2.1, ?_⟩) ⟨hne, s.free hr, ?_⟩
  · show upd _ _ _ r' = _
    rw [upd_ne h.1]
    exact s2 _ _ h.2.2
  · show upd _ _ _ r = _
    rw [upd_ne hne]
    exact e
/-- evaluates to a new list of new lists -/
def EvRows (te : TE) (σ : L2.St) (B : Hp) (rows : List (List Int)) : Prop := ∀ H, Same B H → ∀ R : VK, (∀ p H2, Same H H2 → H p = none → Rows H H2 p rows → R (.ref p) H2) → te σ H R
theorem lcRows (rows : Nat → List Int) {j : Nat} {vs : List Nat} (hs : EvS K tl σ B xs) (hz : xs.length ≤ 1000000) (hw : ∀ x, wipe ((wipe σ vs).set j (some x)) vs = wipe σ vs)
    (he : ∀ i x H, xs[i]? = some x → Same B H → EvN te ((wipe σ vs).set j (some x)) H ((rows i).map V.int)) : EvRows (tLc (iList K tl) (gName j) tYes te vs) σ B ((List.range xs.length).map rows) := fun H s R k => hs H s _ fun a H1 s1 ha => ⟨a, rfl, ⟨xs, ha⟩, fun D hD => by
  have fin : ∀ H', RowCol H1 rows D xs.length H' → R (.ref D) H' := fun H' c => by
    refine k D H' (s1.trans c.1) (s1.free hD) ?_
    obtain ⟨rs, d, q⟩ := c.rows
    exact ⟨rs, d, Paired.mapP q fun r xs h => ⟨s1.free h.1, h.2⟩⟩
  refine lc_list (xs := xs) (RowCol H1 rows D) ⟨same_new hD, [], upd_same, .nil⟩ (fun i H' _ c => c.1.seq ha) (fun i x H' hi c => ⟨hw x, ?_⟩) fin
  show te ((wipe σ vs).set j (some x)) H' _
  refine he i x H1 hi (s.trans s1) H' c.1 _ fun p H2 s2 hp e => ?_
  obtain ⟨rs, d, hlen⟩ := c.len
  have hi' := (List.getElem?_eq_some_iff.mp hi).1
  refine ⟨rs.map V.ref, s2 _ _ d, ?_, c.add hD s2 hp e (s2 _ _ d)⟩
  rw [List.length_map, hlen]
  exact Nat.lt_of_lt_of_le (Nat.lt_of_lt_of_le hi' hz) (by decide)⟩
end
end K53

/-! K53R2: readings: places, words, checks of arguments; twos, products, items, steps. -/
namespace K53
open PySem PySem.Spec PyProof.Rows L2

/-! ### lists of ints as data -/
def dI (l : List Int) : PyData := .list (l.map PyData.int)
theorem dpall_ints {K : PySem.W.Frag} {H : Hp} : ∀ l : List Int, DpAll K H (l.map V.int) (l.map PyData.int)
  | [] => .nil
  | x :: r => .cons (.int x) (dpall_ints r)
theorem dp_ints {K : PySem.W.Frag} {H : Hp} {a : Addr} {l : List Int} (h : SqL K H a (l.map V.int)) : Dp K H (.ref a) (dI l) := .lst h (dpall_ints l)
theorem lay_ints : ∀ l : List Int, PyData.canLayAll0 (l.map PyData.int) = true
  | [] => by simp [PyData.canLayAll0]
  | x :: r => by simp [PyData.canLayAll0, PyData.canLay0, lay_ints r]
theorem deep_ints : ∀ l : List Int, PyData.depthAll (l.map PyData.int) ≤ 1
  | [] => by simp [PyData.depthAll]
  | x :: r => by
    have h := deep_ints r
    simp only [List.map_cons, PyData.depthAll, PyData.depth]
    omega
theorem shaped_list {ds : List PyData} (h1 : PyData.canLayAll0 ds = true) (h2 : PyData.depthAll ds ≤ 60) : SeqAt.shaped (.list ds) = true := by
  show (PyData.canLay0 (.list ds) && decide (PyData.depth (.list ds) ≤ 64)) = true
  rw [Bool.and_eq_true]
  exact ⟨by simp only [PyData.canLay0]; exact h1, decide_eq_true (by simp only [PyData.depth]; omega)⟩
theorem shaped_ints (l : List Int) : SeqAt.shaped (dI l) = true := shaped_list (lay_ints l) (Nat.le_trans (deep_ints l) (by decide))
theorem eqv_ints : ∀ a b : List Int, PyData.eqv (dI a) (dI b) = decide (a = b) := by
  have all : ∀ a b : List Int, PyData.eqvAll (a.map PyData.int) (b.map PyData.int) = decide (a = b) := by
    intro a
    induction a with
    | nil =>
      intro b
      cases b with
      | nil => simp [PyData.eqvAll]
      | cons y r => simp [PyData.eqvAll]
    | cons x a ih =>
      intro b
      cases b with
      | nil => simp [PyData.eqvAll]
      | cons y r =>
        have h := ih r
        simp only [List.map_cons, PyData.eqvAll, PyData.eqv, h]
        by_cases e : x = y
        · subst e
          by_cases e2 : a = r
          · subst e2
            simp
          · simp [e2]
        · simp [e]
  intro a b
  unfold dI
  simp only [PyData.eqv]
  exact all a b
theorem ni_len (l : List Nat) : (ni l).length = l.length := by unfold ni; rw [List.length_map]
theorem ni_get {l : List Nat} {i n : Nat} (h : l[i]? = some n) : (ni l)[i]? = some (n : Int) := by
  unfold ni
  rw [List.getElem?_map, h] <;> rfl
theorem vi_get {l : List Int} {i : Nat} {x : Int} (h : l[i]? = some x) : (l.map V.int)[i]? = some (.int x) := by
  rw [List.getElem?_map, h] <;> rfl
theorem vi_of {l : List Int} {i : Nat} {v : V} (h : (l.map V.int)[i]? = some v) : ∃ x, l[i]? = some x ∧ v = .int x := by
  rw [List.getElem?_map] at h
  cases e : l[i]? with
  | none =>
    rw [e] at h
    cases h
  | some x =>
    rw [e] at h
    exact ⟨x, rfl, (Option.some.inj h).symm⟩
section
variable {K : PySem.W.Frag} {vs : List V} {H : Hp} {Q : VK} {E : XK}
/-- [..] == [] where nothing is picked -/
theorem ev1_none {te : TE} {σ : L2.St} {B : Hp} (h : EvN te σ B []) : Ev1 (tOp (rEqD K) te (tLst tNil)) σ B (.bl true) := fun H s R k => h H s _ fun p H1 s1 _ e => by
  refine ⟨Nat.zero_le _, fun q hq => ?_⟩
  have s2 : Same H1 (upd H1 q (.lst [])) := same_new hq
  refine ⟨dI [], dI [], dp_ints (l := []) (sql (s2 _ _ e)), dp_ints (l := []) (sql upd_same), shaped_ints _, shaped_ints _, ?_⟩
  rw [eqv_ints]
  exact k _ (s1.trans s2)
theorem r_rises (h : sp_rises K vs H Q E) : t_rises K (fin Q) (start N_rises vs) H := by
  obtain ⟨a, l, rfl, ha, asc, hl, q⟩ := h
  have hs : EvS K (tVar 0) (start N_rises [.ref a]) H (l.map V.int) := evs_var rfl (sql ha)
  have c := lcR2 (te := tVar 1) (σ := start N_rises [.ref a]) (B := H) (j := 1) (vs := [1]) (tt := tTest (tOp oGe (tOp (rIxL K) (tVar 0) (tOp oSub (tVar 1) (tC (.int 1)))) (tOp (rIxL K) (tVar 0) (tVar 1)))) (fun _ => false) (fun _ => .non) (a := 1) (n := l.length)
    (eva_cons ev1_c (eva_cons (ev1_is (ev1_len hs) (by rw [List.length_map])) eva_nil)) (by omega) (fun x => rfl) (fun i H1 hi s1 => ?_) (fun i H1 hi s1 z => nomatch z)
  · rw [picked_none fun _ _ => rfl] at c
    exact ev1_none c H (Same.refl H) Q fun H2 s2 => q H2 s2
  · have g1 : l[i]? = some l[i] := List.getElem?_eq_getElem (by omega)
    have g2 : l[i + 1]? = some (l[i + 1]'(by omega)) := List.getElem?_eq_getElem (by omega)
    have lt : l[i] < l[i + 1]'(by omega) := (List.pairwise_iff_getElem.mp asc) i (i + 1) (by omega) (by omega) (by omega)
    have hs1 : EvS K (tVar 0) ((wipe (start N_rises [.ref a]) [1]).set 1 (some (.int (1 + i : Nat)))) H1 (l.map V.int) := evs_var rfl (s1.seq (sql ha))
    refine evt_is (evt_op (ev1_I0 (g := fun i j => .bl (decide (j ≤ i))) (ev1_ix (i := 0) (a := a) (j := i) hs1 (ev1_is (ev1_I0 (ev1_var rfl) ev1_c) ?_) (vi_get g1)) (ev1_ix (i := 0) (a := a) (j := i + 1) hs1 (ev1_is (ev1_var rfl) ?_) (vi_get g2)))) ?_
    · show V.int (((1 + i : Nat) : Int) - 1) = _
      congr 1
      omega
    · show V.int ((1 + i : Nat) : Int) = _
      congr 1
      omega
    · exact decide_eq_false (by omega)
/-- all items are words -/
theorem none_bad {σ : L2.St} {w : Nat} {l : List Int} {tl : TE} {j : Nat} {vs : List Nat} (hs : EvS K tl σ H (l.map V.int)) (hw64 : w ≤ 64) (hr : ∀ x ∈ l, 0 ≤ x ∧ x < 2 ^ w) (hl : l.length ≤ 64)
    (h0 : ∀ x, ((wipe σ vs).set j (some x))[0]? = some (some (.int w))) (hj : ∀ x, ((wipe σ vs).set j (some x))[j]? = some (some x)) (hw : ∀ x, wipe ((wipe σ vs).set j (some x)) vs = wipe σ vs) :
    EvN (tLc (iList K tl) (gName j) (tNot (tB (tCall (sp_is_of_width K) [] E0 (tCons (tVar 0) (tCons (tVar j) tNil))))) (tVar j) vs) σ H [] := by
  have c := lcL (te := tVar j) (j := j) (vs := vs) (tt := tNot (tB (tCall (sp_is_of_width K) [] E0 (tCons (tVar 0) (tCons (tVar j) tNil))))) (fun _ => false) (fun _ => .non) hs (by rw [List.length_map]; omega) hw (fun i v H1 hi s1 => ?_) (fun i x H1 hi s1 z => nomatch z)
  · rw [picked_none fun _ _ => rfl] at c
    exact c
  · obtain ⟨x, hx, rfl⟩ := vi_of hi
    obtain ⟨h1, h2⟩ := hr x (List.mem_of_getElem? hx)
    exact evt_not (b := true) (evt_B (ev1_call (eva_cons (ev1_var (h0 _)) (eva_cons (ev1_var (hj _)) eva_nil)) fun H2 s2 R k => ⟨w, x, rfl, hw64, h1, h2, k⟩))
theorem isi_list {a : Addr} {xs : List V} {σ : L2.St} {i : Nat} (h : σ[i]? = some (some (.ref a))) (e : H a = some (.lst xs)) : Ev1 (tCB (rIsi K) (tCons (tVar i) (tCons (tC (.ty "list")) tNil))) σ H (.bl true) := fun H1 s1 R k =>
  ⟨_, h, _, _, _, _, true, rfl, .ty _, .base (.lst (s1 _ _ e)), kit_ty (by decide +kernel), k H1 (Same.refl _)⟩
theorem r_are_places (h : sp_are_places K vs H Q E) : t_are_places K (fin Q) (start N_are_places vs) H := by
  obtain ⟨w, a, l, rfl, ha, p, q⟩ := h
  refine isi_list (i := 1) rfl ha H (Same.refl H) _ fun H1 s1 => ⟨true, rfl, iteF ?_⟩
  refine ⟨_, rfl, Nat.zero_le _, fun e he => ?_⟩
  have s2 : Same H1 (upd H1 e (.lst [])) := same_new he
  refine ⟨dI l, dI [], dp_ints (sql (s2 _ _ (s1 _ _ ha))), dp_ints (l := []) (sql upd_same), shaped_ints _, shaped_ints _, _, rfl, ?_⟩
  rw [eqv_ints, decide_eq_false p.ne]
  refine iteF ?_
  have s12 := s1.trans s2
  have nb := none_bad (K := K) (H := upd H1 e (.lst [])) (σ := start N_are_places [.int w, .ref a]) (w := w) (l := l) (tl := tVar 1) (j := 2) (vs := [2]) (evs_var rfl (sql (s12 _ _ ha))) p.w64 p.rng (by have := p.len; omega) (fun x => rfl) (fun x => rfl) (fun x => rfl)
  refine ev1_none nb _ (Same.refl _) _ fun H3 s3 => ⟨true, rfl, iteT ⟨_, rfl, a, l, rfl, s3 _ _ (s12 _ _ ha), p.asc, by have := p.len; omega, fun H4 s4 => q H4 (s12.trans (s3.trans s4))⟩⟩
theorem r_check_places (h : sp_check_places K vs H Q E) : t_check_places K (fin Q) (start N_check_places vs) H := by
  obtain ⟨w, a, l, rfl, ha, p, q⟩ := h
  refine ⟨_, rfl, w, rfl, p.w1, p.w64, fun H1 s1 => ?_⟩
  exact ⟨_, rfl, _, rfl, w, a, l, rfl, s1 _ _ ha, p, fun H2 s2 => ⟨true, rfl, iteF (q H2 (s1.trans s2))⟩⟩
theorem r_are_words (h : sp_are_words K vs H Q E) : t_are_words K (fin Q) (start N_are_words vs) H := by
  obtain ⟨w, a, b, l, ws, rfl, ha, hb, p, hw, q⟩ := h
  refine isi_list (i := 2) rfl hb H (Same.refl H) _ fun H1 s1 => ⟨true, rfl, iteF ?_⟩
  refine ⟨_, rfl, _, _, rfl, .inl (sql (s1 _ _ hb)), _, rfl, _, _, rfl, .inl (sql (s1 _ _ ha)), rfl, _, rfl, ?_⟩
  rw [List.length_map, List.length_map, hw.1, decide_eq_true rfl]
  refine iteF ?_
  have nb := none_bad (K := K) (H := H1) (σ := start N_are_words [.int w, .ref a, .ref b]) (w := w) (l := ws) (tl := tVar 2) (j := 3) (vs := [3]) (evs_var rfl (sql (s1 _ _ hb))) p.w64 hw.2 (by have := p.len; rw [hw.1]; omega) (fun x => rfl) (fun x => rfl) (fun x => rfl)
  exact ev1_none nb _ (Same.refl _) _ fun H3 s3 => q H3 (s1.trans s3)
theorem r_check_words (h : sp_check_words K vs H Q E) : t_check_words K (fin Q) (start N_check_words vs) H := by
  obtain ⟨w, a, b, l, ws, rfl, ha, hb, p, hw, q⟩ := h
  exact ⟨_, rfl, _, rfl, _, rfl, w, a, b, l, ws, rfl, ha, hb, p, hw, fun H2 s2 => ⟨true, rfl, iteF (q H2 s2)⟩⟩
theorem r_check_code (h : sp_check_code K vs H Q E) : t_check_code K (fin Q) (start N_check_code vs) H := by
  obtain ⟨w, c, a, l, rfl, ha, p, q⟩ := h
  refine ⟨_, rfl, _, rfl, w, a, l, rfl, ha, p, fun H1 s1 => ?_⟩
  exact ⟨_, rfl, c, rfl, fun H2 s2 => q H2 (s1.trans s2)⟩
end
end K53

/-! K53R3: readings: twos, products, items, undoing, steps. -/
namespace K53
open PySem PySem.Spec PyProof.Rows L2

/-! ### slices -/
theorem cut_to (xs : List V) (m : Nat) : cutV xs none (some (m : Int)) = xs.take m := by
  unfold cutV
  rw [HT.sIx_none, HT.sIx_nat, List.drop_zero, Nat.sub_zero]
  rcases Nat.le_total m xs.length with h | h
  · rw [Nat.min_eq_left h]
  · rw [Nat.min_eq_right h, List.take_length, List.take_of_length_le h]
theorem cut_from (xs : List V) (m : Nat) : cutV xs (some (m : Int)) none = xs.drop m := by
  unfold cutV
  rw [HT.sIx_none, HT.sIx_nat]
  rcases Nat.le_total m xs.length with h | h
  · rw [Nat.min_eq_left h]
    exact List.take_of_length_le (by rw [List.length_drop]; exact Nat.le_refl _)
  · rw [Nat.min_eq_right h, Nat.sub_self, List.take_zero, List.drop_eq_nil_of_le h]
def EvO (to : TO) (σ : L2.St) (B : Hp) (o : Option Int) : Prop := ∀ H, Same B H → ∀ R : Option Int → Hp → Prop, (∀ H2, Same H H2 → R o H2) → to σ H R
theorem evo_none {σ : L2.St} {B : Hp} : EvO tNoPart σ B none := fun H _ R k => k H (Same.refl H)
theorem evo_some {σ : L2.St} {B : Hp} {te : TE} {i : Int} (h : Ev1 te σ B (.int i)) : EvO (tPart te) σ B (some i) := fun H s R k => h H s _ fun H2 s2 => ⟨i, rfl, k H2 s2⟩
theorem ev_slice {K : PySem.W.Frag} {σ : L2.St} {B : Hp} {te : TE} {tl th : TO} {xs : List V} {lo hi : Option Int} (h : EvS K te σ B xs) (hl : EvO tl σ B lo) (hh : EvO th σ B hi) : EvN (tSl (rSlL K) te tl th) σ B (cutV xs lo hi) := fun H s R k =>
  h H s _ fun a H1 s1 ha => hl H1 (s.trans s1) _ fun H2 s2 => hh H2 (s.trans (s1.trans s2)) _ fun H3 s3 => ⟨a, xs, rfl, s3.seq (s2.seq ha), fun p hp => k p _ ((s1.trans s2).trans (s3.trans (same_new hp))) ((s1.trans (s2.trans s3)).free hp) upd_same⟩
theorem map_take (l : List Int) (m : Nat) : (l.map V.int).take m = (l.take m).map V.int := (List.map_take).symm
theorem map_drop (l : List Int) (m : Nat) : (l.map V.int).drop m = (l.drop m).map V.int := (List.map_drop).symm
theorem ni_take (l : List Nat) (m : Nat) : (ni l).take m = ni (l.take m) := by unfold ni; rw [List.map_take]

theorem range_getD {α : Type} (d : α) (l : List α) : (List.range l.length).map (fun i => l.getD i d) = l := by
  refine List.ext_getElem? fun i => ?_
  rw [List.getElem?_map]
  by_cases h : i < l.length
  · rw [List.getElem?_range h]
    exact (getD_lt h).symm
  · rw [List.getElem?_eq_none (by rw [List.length_range]; omega), List.getElem?_eq_none (by omega)] <;> rfl
theorem filter_len {α : Type} (d : α) (p : α → Bool) (l : List α) : ((List.range l.length).filter fun i => p (l.getD i d)).length = (l.filter p).length := by
  have h : l.filter p = ((List.range l.length).filter (p ∘ fun i => l.getD i d)).map fun i => l.getD i d := by
    rw [← List.filter_map, range_getD]
  rw [h, List.length_map] <;> rfl
section
variable {K : PySem.W.Frag} {vs : List V} {H : Hp} {Q : VK} {E : XK}
theorem r_twos (h : sp_twos K vs H Q E) : t_twos K (fin Q) (start N_twos vs) H := by
  obtain ⟨i, rfl, h0, hb, q⟩ := h
  refine ⟨fun m σ H' => H' = H ∧ ∃ (n : Int) (k f : Nat), σ = [some (.int n), some (.int k)] ∧ n ≠ 0 ∧ n.natAbs = m ∧ n.natAbs < 2 ^ f ∧ k + twF f n = tw i, ⟨i.natAbs, rfl, i, 0, 900, rfl, h0, rfl, hb, Nat.zero_add _⟩, ?_⟩
  rintro m σ H' ⟨rfl, n, k, f, rfl, n0, rfl, nb, e⟩
  obtain ⟨f, rfl⟩ : ∃ f', f = f' + 1 := by
    cases f with
    | zero => omega
    | succ f => exact ⟨f, rfl⟩
  have nb2 : n.natAbs < 2 ^ f * 2 := by rw [← Nat.pow_succ]; exact nb
  refine ⟨_, rfl, n, 2, rfl, rfl, (show (0 : Int) < 2 by decide), rfl, _, rfl, ?_⟩
  by_cases hn : n % 2 = 0
  · have e1 : decide (V.int (n % 2) = V.int 0) = true := decide_eq_true (by rw [hn])
    rw [e1]
    refine iteT ⟨fun σ' H2 => H2 = H' ∧ σ' = [some (.int (n / 2)), some (.int ((k : Int) + 1))], fun σ' H2 z => ⟨(n / 2).natAbs, by omega, z.1, n / 2, k + 1, f, ?_, by omega, rfl, by omega, ?_⟩, ?_⟩
    · rw [z.2] <;> rfl
    · have : twF (f + 1) n = twF f (n / 2) + 1 := if_neg (by omega)
      omega
    · exact ⟨_, rfl, n, 2, rfl, rfl, ⟨by decide, by decide⟩, _, rfl, (k : Int), 1, rfl, rfl, _, _, rfl, rfl, rfl⟩
  · have e1 : decide (V.int (n % 2) = V.int 0) = false := decide_eq_false (fun z => hn (by injection z))
    rw [e1]
    refine iteF ⟨_, rfl, ?_⟩
    have : twF (f + 1) n = 0 := if_pos (by omega)
    have ek : k = tw i := by omega
    rw [ek]
    exact q H' (Same.refl H')
theorem r_product_at (h : sp_product_at K vs H Q E) : t_product_at K (fin Q) (start N_product_at vs) H := by
  obtain ⟨a, o, m, x, rfl, ha, hb, q⟩ := h
  have sl : EvN (tSl (rSlL K) (tVar 0) tNoPart (tPart (tVar 1))) ((start N_product_at [.ref a, .int m, .int x]).set 3 (some (.int 1))) H ((o.take m).map V.int) := by
    have z := ev_slice (K := K) (B := H) (σ := (start N_product_at [.ref a, .int m, .int x]).set 3 (some (.int 1))) (te := tVar 0) (evs_var rfl (sql ha)) evo_none (evo_some (te := tVar 1) (i := (m : Int)) (ev1_var rfl))
    rw [cut_to, map_take] at z
    exact z
  refine sl H (Same.refl H) _ fun p H1 s1 hp e => ⟨p, rfl, ⟨_, sql e⟩, ?_⟩
  refine for_list (K := K) (a := p) (xs := (o.take m).map V.int) (fun i σ H' => Same H1 H' ∧ ∃ y, σ = [some (.ref a), some (.int m), some (.int x), some (.int (pr ((o.take m).take i) x)), y]) ⟨Same.refl _, none, rfl⟩ (fun i σ H' _ c => c.1.seq (sql e)) ?_ ?_
  · rintro i v σ H' hi ⟨s2, y, rfl⟩
    obtain ⟨z, hz, rfl⟩ := vi_of hi
    have hm : z ∈ o := List.mem_of_mem_take (List.mem_of_getElem? hz)
    have hzb := hb z hm
    refine ⟨_, rfl, _, rfl, _, rfl, x, z, rfl, rfl, _, _, rfl, rfl, .inr ⟨by omega, by omega⟩, s2, some (.int z), ?_⟩
    have e2 : (o.take m).take (i + 1) = (o.take m).take i ++ [z] := by
      rw [List.take_add_one, hz] <;> rfl
    rw [e2, pr_snoc] <;> rfl
  · rintro σ H' ⟨s2, y, rfl⟩
    refine ⟨_, rfl, ?_⟩
    rw [List.length_map, List.take_length]
    exact q H' (s1.trans s2)
theorem r_items_counted (h : sp_items_counted K vs H Q E) : t_items_counted K (fin Q) (start N_items_counted vs) H := by
  obtain ⟨w, c, a, n, rfl, ha, hl, q⟩ := h
  have sl : EvN (tSl (rSlL K) (tVar 1) tNoPart (tPart (tVar 2))) (start N_items_counted [.int w, .ref a, .int c]) H ((ni (n.take c)).map V.int) := by
    have z := ev_slice (K := K) (B := H) (σ := start N_items_counted [.int w, .ref a, .int c]) (te := tVar 1) (evs_var rfl (sql ha)) evo_none (evo_some (te := tVar 2) (i := (c : Int)) (ev1_var rfl))
    rw [cut_to, map_take, ni_take] at z
    exact z
  have cp := lcL (K := K) (te := tVar 3) (j := 3) (vs := [3]) (tt := tTest (tOp oLt (tVar 3) (tVar 0))) (fun i => decide ((n.take c).getD i 0 < w)) (fun i => .int ((n.take c).getD i 0)) sl.s (by rw [List.length_map, ni_len, List.length_take]; omega) (fun x => rfl) (fun i v H1 hi s1 => ?_) (fun i v H1 hi s1 _ => ?_)
  · refine ev1_is (ev1_len cp.s) ?_ H (Same.refl H) Q fun H2 s2 => q H2 s2
    congr 2
    rw [List.length_map, ni_len]
    unfold picked cnt
    rw [List.length_map]
    exact filter_len 0 (fun x => decide (x < w)) (n.take c)
  all_goals
    obtain ⟨z, hz, rfl⟩ := vi_of hi
    have e : z = (((n.take c).getD i 0 : Nat) : Int) := by
      have hi2 : i < (n.take c).length := by
        have := (List.getElem?_eq_some_iff.mp hz).1
        rwa [ni_len] at this
      have := (ni_get (getD_lt (d := 0) hi2)).symm.trans hz
      exact (Option.some.inj this).symm
    subst e
  · refine evt_is (evt_op (ev1_I0 (g := fun i j => .bl (decide (i < j))) (ev1_var rfl) (ev1_var rfl))) ?_
    exact decide_eq_decide.mpr (by omega)
  · exact ev1_var rfl
theorem inv_fold (n b : Int) (i : Nat) : (List.range (i + 1)).foldl (fun f _ => f * (2 - n * f) % b) 1 = (List.range i).foldl (fun f _ => f * (2 - n * f) % b) 1 * (2 - n * (List.range i).foldl (fun f _ => f * (2 - n * f) % b) 1) % b := by
  rw [List.range_succ, List.foldl_append] <;> rfl
theorem r_odd_undone (h : sp_odd_undone K vs H Q E) : t_odd_undone K (fin Q) (start N_odd_undone vs) H := by
  obtain ⟨n, e, rfl, he, q⟩ := h
  have p2 := two_pow_pos e
  have le64 : (2 : Int) ^ e ≤ 2 ^ 64 := Int.le_of_dvd (by decide) (pow_dvd he)
  refine ⟨7, rfl, by decide, by decide, for_range (lo := 0) (n := 7) (fun i σ H' => H' = H ∧ ∃ (f : Int) (y : Option V), f = (List.range i).foldl (fun f _ => f * (2 - n * f) % 2 ^ e) 1 ∧ 0 ≤ f ∧ f < 2 ^ 64 ∧ σ = [some (.int n), some (.int (2 ^ e)), some (.int f), y]) ⟨rfl, 1, none, rfl, by decide, by decide, rfl⟩ ?_ ?_⟩
  · rintro i σ H' hi ⟨rfl, f, y, ef, f0, f1, rfl⟩
    refine ⟨_, rfl, _, rfl, _, rfl, n, f, rfl, rfl, .inr ⟨by omega, f1⟩, 2, _, rfl, rfl, f, _, rfl, rfl, .inl ⟨by omega, f1⟩, _, rfl, _, _, rfl, rfl, p2, rfl, _, _, ?_, Int.emod_nonneg _ (Int.ne_of_gt p2), Int.lt_of_lt_of_le (Int.emod_lt_of_pos _ p2) le64, rfl⟩
    rw [inv_fold, ← ef]
  · rintro σ H' ⟨rfl, f, y, ef, f0, f1, rfl⟩
    refine ⟨_, rfl, ?_⟩
    have e7 : f = inv7 n (2 ^ e) := ef
    rw [e7]
    exact q H' (Same.refl _)
theorem r_steps_of (h : sp_steps_of K vs H Q E) : t_steps_of K (fin Q) (start N_steps_of vs) H := by
  obtain ⟨w, c, a, n, rfl, ha, hl, hw, q⟩ := h
  have cp := lcE (K := K) (te := tIf (tAnd (tTest (tOp oLt (tVar 3) (tVar 2))) (tTest (tOp oLt (tVar 4) (tVar 0)))) (tCall (sp_power_of_two K) [] E0 (tCons (tOp oSub (tVar 0) (tVar 4)) tNil)) (tC (.int 1))) (tt := tYes) (j := 3) (l := 4) (vs := [3, 4]) (tl := tVar 1) (B := H) (σ := start N_steps_of [.int w, .ref a, .int c])
    (fun _ => true) (fun i => .int (stp w c n i)) (evs_var rfl (sql ha)) (by rw [List.length_map, ni_len]; omega) (fun x y => rfl) (fun i x H1 hi s1 => evt_yes) (fun i x H1 hi s1 _ => ?_)
  · rw [picked_all, List.length_map, ni_len] at cp
    refine cp H (Same.refl H) Q fun p H2 s2 hp e => q H2 p s2 hp ?_
    have e2 : (stepsM w c n).map V.int = (List.range n.length).map fun i => V.int (stp w c n i) := by
      unfold stepsM
      rw [List.map_map] <;> rfl
    show H2 p = some (.lst _)
    rw [e2]
    exact e
  · obtain ⟨z, hz, rfl⟩ := vi_of hi
    have e : z = ((n.getD i 0 : Nat) : Int) := by
      have hi2 : i < n.length := by
        have := (List.getElem?_eq_some_iff.mp hz).1
        rwa [ni_len] at this
      have := (ni_get (getD_lt (d := 0) hi2)).symm.trans hz
      exact (Option.some.inj this).symm
    subst e
    refine ev1_if (b := decide (i < c) && decide (n.getD i 0 < w)) (evt_and (evt_is (evt_op (ev1_I0 (g := fun i j => .bl (decide (i < j))) (ev1_var rfl) (ev1_var rfl))) (decide_eq_decide.mpr (by omega))) (evt_is (evt_op (ev1_I0 (g := fun i j => .bl (decide (i < j))) (ev1_var rfl) (ev1_var rfl))) (decide_eq_decide.mpr (by omega)))) (fun hb => ?_) fun hb => ?_
    · rw [Bool.and_eq_true, decide_eq_true_eq, decide_eq_true_eq] at hb
      have es : stp w c n i = 2 ^ (w - n.getD i 0) := if_pos hb
      rw [es]
      have hv : ((w : Int) - ((n.getD i 0 : Nat) : Int)) = ((w - n.getD i 0 : Nat) : Int) := by omega
      exact ev1_call (eva_cons (ev1_is (ev1_I0 (g := fun i j => .int (i - j)) (ev1_var rfl) (ev1_var rfl)) (by rw [hv])) eva_nil) fun H2 s2 R k => ⟨w - n.getD i 0, rfl, by omega, k⟩
    · have es : stp w c n i = 1 := if_neg fun z => by
        rw [decide_eq_true z.1, decide_eq_true z.2] at hb
        cases hb
      rw [es]
      exact ev1_c
end
end K53

/-! K53R4: readings: the good order, by the program and by the law. -/
namespace K53
open PySem PySem.Spec PyProof.Rows L2

theorem ix_nat {j n : Nat} (h : j < n) : ixN n (j : Int) = some j := by
  unfold ixN
  rw [if_pos (Int.natCast_nonneg j), if_pos (by omega), Int.toNat_natCast]
theorem seq_nat {j n : Nat} (h : j < n) : seqIndex? (j : Int) n = some j := (ixN_seq (ix_nat h)).1
theorem flat_ints (l : List Int) : (l.map V.int).all flatV = true := by
  rw [List.all_eq_true]
  intro v hv
  obtain ⟨x, _, rfl⟩ := List.mem_map.mp hv
  rfl
theorem erase_map' {α β : Type} {f : α → β} : ∀ (l : List α) (j : Nat), (l.map f).eraseIdx j = (l.eraseIdx j).map f
  | [], _ => rfl
  | _ :: _, 0 => rfl
  | x :: r, j + 1 => by
    show f x :: (r.map f).eraseIdx j = f x :: (r.eraseIdx j).map f
    rw [erase_map' r j]
theorem ni_snoc (l : List Nat) (n : Nat) : ni (l ++ [n]) = ni l ++ [(n : Int)] := by unfold ni; rw [List.map_append] <;> rfl
theorem ni_erase (l : List Nat) (j : Nat) : (ni l).eraseIdx j = ni (l.eraseIdx j) := by unfold ni; exact erase_map' _ _
theorem vi_snoc (l : List Int) (x : Int) : (l ++ [x]).map V.int = l.map V.int ++ [.int x] := by rw [List.map_append] <;> rfl
theorem vi_erase (l : List Int) (j : Nat) : (l.map V.int).eraseIdx j = (l.eraseIdx j).map V.int := erase_map' _ _
theorem ni_getD {l : List Nat} {j : Nat} (h : j < l.length) : (ni l)[j]? = some ((l.getD j 0 : Nat) : Int) := ni_get (getD_lt h)
theorem big_bd {x : Int} (h : x.natAbs < 2 ^ 64) : x.natAbs < 2 ^ 900 := Nat.lt_trans h (by decide)
/-- the least of a list, and where it stands first -/
theorem least_at {l : List Nat} (h : l ≠ []) {m : Int} (hm : m ∈ ni l) (hle : ∀ y ∈ ni l, m ≤ y) : m = ((l.getD (amin l) 0 : Nat) : Int) ∧ ∀ (i : Nat) (z : Int), i < amin l → (ni l)[i]? = some z → z ≠ m := by
  have f := amin_spec l h
  have h1 : m ≤ ((l.getD (amin l) 0 : Nat) : Int) := hle _ (List.mem_of_getElem? (ni_getD f.lt))
  have h2 : ((l.getD (amin l) 0 : Nat) : Int) ≤ m := by
    unfold ni at hm
    obtain ⟨n, hn, rfl⟩ := List.mem_map.mp hm
    obtain ⟨i, hi, e⟩ := List.getElem_of_mem hn
    have := f.le i hi
    have e2 : l.getD i 0 = n := by rw [List.getD_eq_getElem?_getD, List.getElem?_eq_getElem hi, e] <;> rfl
    omega
  have e : m = ((l.getD (amin l) 0 : Nat) : Int) := by omega
  refine ⟨e, fun i z hi hz => ?_⟩
  have := f.first i hi
  have hil : i < l.length := Nat.lt_trans hi f.lt
  have z2 := (ni_getD hil).symm.trans hz
  cases z2
  omega
theorem eqv_int_ne {a b : Int} (h : a ≠ b) : eqV (.int a) (.int b) = false := by
  show (a == b) = false
  exact beq_eq_false_iff_ne.mpr h
theorem eqv_int_eq (a : Int) : eqV (.int a) (.int a) = true := by
  show (a == a) = true
  exact beq_self_eq_true a
/-- sums.index(min(sums)) -/
theorem ev_argmin {K : PySem.W.Frag} {σ : L2.St} {B : Hp} {i : Nat} {s : Addr} {l : List Nat} (hi : σ[i]? = some (some (.ref s))) (hs : SqL K B s ((ni l).map V.int)) (h : l ≠ []) :
    Ev1 (tBM K "list" (rIndex K) (tVar i) (tCons (tCB (rMin K) (tCons (tVar i) tNil)) tNil)) σ B (.int (amin l)) := fun H s1 R k => by
  have hs1 := s1.seq hs
  refine ⟨_, hi, .inl ⟨rfl, _, hs1⟩, _, hi, s, ni l, rfl, hs1, ?_, fun m hm hle => ?_⟩
  · rw [ni_len]
    exact List.length_pos_iff.mpr h
  · obtain ⟨e, first⟩ := least_at h hm hle
    have f := amin_spec l h
    refine ⟨s, (ni l).map V.int, .int m, amin l, .int m, rfl, rfl, hs1, rfl, flat_ints _, ?_, eqv_int_eq m, fun j z hj hz => ?_, k H (Same.refl H)⟩
    · rw [e]
      exact vi_get (ni_getD f.lt)
    · obtain ⟨z', hz', rfl⟩ := vi_of hz
      exact eqv_int_ne (first j z' hj hz')
theorem sum_step {ord : List Int} {t : Int} {left : List Int} {i : Nat} (h : i < left.length) : (left.map (sT (ord ++ [t]))).getD i 0 = (left.map (sT ord)).getD i 0 + tw (left.getD i 0 - t) := by
  rw [getD_map (d := (0 : Int)) h, getD_map (d := (0 : Int)) h, sT_snoc]
theorem sT_zero (left : List Int) : left.map (sT []) = List.replicate left.length 0 := by
  rw [List.eq_replicate_iff]
  refine ⟨by rw [List.length_map], fun b hb => ?_⟩
  obtain ⟨x, _, e⟩ := List.mem_map.mp hb
  exact e.symm
theorem erase_map {f : Int → Nat} (l : List Int) (j : Nat) : (l.map f).eraseIdx j = (l.eraseIdx j).map f := erase_map' _ _
theorem flat_rep (n : Nat) : (List.replicate n [V.int 0]).flatten = ((ni (List.replicate n 0)).map V.int) := by
  induction n with
  | zero => rfl
  | succ n ih =>
    rw [List.replicate_succ, List.flatten_cons, ih]
    rfl
theorem grow_cons {f : Nat} {o : List Int} {n : List Nat} {l : List Int} (h : l ≠ []) : grow (f + 1) o n l = grow f (o ++ [l.getD (amin (l.map (sT o))) 0]) (n ++ [(l.map (sT o)).getD (amin (l.map (sT o))) 0]) (l.eraseIdx (amin (l.map (sT o)))) := by
  cases l with
  | nil => exact absurd rfl h
  | cons a r => rfl
theorem asgN {te : TE} {i : Nat} {D : Ends} {σ : L2.St} {H : Hp} {xs : List V} (c : EvN te σ H xs) (k : ∀ p H2, Same H H2 → H p = none → H2 p = some (.lst xs) → D.nx (σ.set i (some (.ref p))) H2) : tAsg te (gName i) D σ H := c H (Same.refl H) _ k
section
variable {K : PySem.W.Frag} {vs : List V} {H : Hp} {Q : VK} {E : XK}
structure GR (H : Hp) (places : List Int) (a : Addr) (m : Nat) (σ : L2.St) (H' : Hp) (o n l s : Addr) (ord : List Int) (nums : List Nat) (left : List Int) : Prop where
  st : ∃ y5 y6 y7 y8, σ = [some (.ref a), some (.ref o), some (.ref n), some (.ref l), some (.ref s), y5, y6, y7, y8]
  same : Same H H'
  ho : Ls H' o ord
  hn : Ls H' n (ni nums)
  hl : Ls H' l left
  hs : Ls H' s (ni (left.map (sT ord)))
  fo : H o = none
  fn : H n = none
  fl : H l = none
  fs : H s = none
  on : o ≠ n
  ol : o ≠ l
  os : o ≠ s
  nl : n ≠ l
  ns : n ≠ s
  ls : l ≠ s
  m : left.length = m
  sz : ord.length + left.length ≤ 64
  nz : nums.length = ord.length
  perm : (ord ++ left).Perm places
  go : grow left.length ord nums left = good places
theorem r_good_row (h : sp_good_row K vs H Q E) : t_good_row K (fin Q) (start N_good_row vs) H := by
  obtain ⟨a, places, rfl, ha, od, q⟩ := h
  refine ⟨Nat.zero_le _, fun o ho => ⟨Nat.zero_le _, fun n hn => ?_⟩⟩
  have s1 : Same H (upd H o (.lst [])) := same_new ho
  have s2 : Same (upd H o (.lst [])) (upd (upd H o (.lst [])) n (.lst [])) := same_new hn
  refine ⟨_, rfl, a, _, rfl, .inl (sql (s2 _ _ (s1 _ _ ha))), fun l hl => ?_⟩
  generalize e2 : upd (upd H o (.lst [])) n (.lst []) = H2 at *
  have s3 : Same H2 (upd H2 l (.lst (places.map V.int))) := same_new hl
  refine ⟨by decide, fun z hz => ?_⟩
  have s4 : Same (upd H2 l (.lst (places.map V.int))) (upd (upd H2 l (.lst (places.map V.int))) z (.lst [.int 0])) := same_new hz
  generalize e3 : upd H2 l (.lst (places.map V.int)) = H3 at *
  refine ⟨_, rfl, a, _, rfl, .inl (sql (s4 _ _ (s3 _ _ (s2 _ _ (s1 _ _ ha))))), ?_⟩
  refine ⟨z, _, [.int 0], rfl, rfl, upd_same, by omega, ?_, ?_, fun s hs => ?_⟩
  · have := od.len
    rw [List.length_map]
    omega
  · have := od.len
    rw [List.length_map]
    show 1 * _ ≤ _
    have e : sizeLine = 16777216 := sizeLine_eq
    omega
  generalize e4 : upd H3 z (.lst [.int 0]) = H4 at *
  have s5 : Same H4 (upd H4 s (.lst (List.replicate ((places.map V.int).length : Int).toNat [V.int 0]).flatten)) := same_new hs
  refine ⟨by show 4 ≤ sizeLine; decide, fun t ht => ⟨t, _, rfl, sqt upd_same, rfl, _, _, rfl, _, _, rfl, _, _, rfl, _, _, rfl, rfl, ?_⟩⟩
  have s6 : Same (upd H4 s (.lst (List.replicate ((places.map V.int).length : Int).toNat [V.int 0]).flatten)) (upd (upd H4 s (.lst (List.replicate ((places.map V.int).length : Int).toNat [V.int 0]).flatten)) t (.tup [.ref o, .ref n, .ref l, .ref s])) := same_new ht
  generalize e6 : upd (upd H4 s (.lst (List.replicate ((places.map V.int).length : Int).toNat [V.int 0]).flatten)) t (.tup [.ref o, .ref n, .ref l, .ref s]) = H6 at *
  generalize e5 : upd H4 s (.lst (List.replicate ((places.map V.int).length : Int).toNat [V.int 0]).flatten) = H5 at *
  have o1 : upd H o (.lst []) o = some (.lst []) := upd_same
  have n2 : H2 n = some (.lst []) := by rw [← e2]; exact upd_same
  have l3 : H3 l = some (.lst (places.map V.int)) := by rw [← e3]; exact upd_same
  have s5' : H5 s = some (.lst ((ni (places.map (sT []))).map V.int)) := by
    rw [← e5, sT_zero, ← flat_rep, List.length_map, Int.toNat_natCast]
    exact upd_same
  have o2 := s2 _ _ o1
  have o3 := s3 _ _ o2
  have o4 := s4 _ _ o3
  have n3 := s3 _ _ n2
  have n4 := s4 _ _ n3
  have l4 := s4 _ _ l3
  have start_ : GR H places a places.length ([some (.ref a), some (.ref o), some (.ref n), some (.ref l), some (.ref s), none, none, none, none] : L2.St) H6 o n l s [] [] places :=
    ⟨⟨none, none, none, none, rfl⟩, s1.trans (s2.trans (s3.trans (s4.trans (s5.trans s6)))), s6 _ _ (s5 _ _ o4), s6 _ _ (s5 _ _ n4), s6 _ _ (s5 _ _ l4), s6 _ _ s5', ho, s1.free hn, s1.free (s2.free hl), s1.free (s2.free (s3.free (s4.free hs))),
      ne_of_none o1 hn, ne_of_none o2 hl, ne_of_none o4 hs, ne_of_none n2 hl, ne_of_none n4 hs, ne_of_none l4 hs, rfl, by have := od.len; simpa using this, rfl, List.Perm.refl _, rfl⟩
  refine ⟨fun m σ H' => ∃ s ord nums left, GR H places a m σ H' o n l s ord nums left, ⟨_, s, [], [], places, start_⟩, ?_⟩
  rintro m σ H' ⟨s, ord, nums, left, g⟩
  obtain ⟨y5, y6, y7, y8, rfl⟩ := g.st
  refine ⟨_, rfl, Nat.zero_le _, fun e he => ?_⟩
  have sE : Same H' (upd H' e (.lst [])) := same_new he
  refine ⟨dI left, dI [], dp_ints (sql (sE _ _ g.hl)), dp_ints (l := []) (sql upd_same), shaped_ints _, shaped_ints _, _, rfl, ?_⟩
  rw [eqv_ints]
  generalize eE : upd H' e (.lst []) = G1 at *
  have so := sE _ _ g.ho
  have sn := sE _ _ g.hn
  have sl := sE _ _ g.hl
  have ss := sE _ _ g.hs
  by_cases hleft : left = []
  · subst hleft
    rw [decide_eq_true rfl]
    refine iteF ⟨_, rfl, _, rfl, by show 2 ≤ sizeLine; decide, fun t ht => ?_⟩
    have eg := g.go
    have eg2 : (ord, nums) = good places := eg
    have e1 : oP places = ord := by show (good places).1 = ord; rw [← eg2]
    have e2 : nP places = nums := by show (good places).2 = nums; rw [← eg2]
    have sT' : Same G1 (upd G1 t (.tup [.ref o, .ref n])) := same_new ht
    exact q _ t o n (g.same.trans (sE.trans sT')) (g.same.free (sE.free ht)) g.fo g.fn upd_same (by rw [e1]; exact sT' _ _ so) (by rw [e2]; exact sT' _ _ sn)
  · rw [decide_eq_false hleft]
    have hsum : left.map (sT ord) ≠ [] := by simpa using hleft
    have fm := amin_spec _ hsum
    generalize ej : amin (left.map (sT ord)) = j at *
    have hj : j < left.length := by have := fm.lt; rwa [List.length_map] at this
    refine iteT ⟨fun σ' H2 => ∃ s' ord' nums' left', left'.length < left.length ∧ GR H places a left'.length σ' H2 o n l s' ord' nums' left', fun σ' H2 z => ?_, ?_⟩
    · obtain ⟨s', ord', nums', left', hlt, g'⟩ := z
      exact ⟨left'.length, by rw [← g.m]; exact hlt, s', ord', nums', left', g'⟩
    -- at = sums.index(min(sums))
    have am := ev_argmin (K := K) (σ := [some (.ref a), some (.ref o), some (.ref n), some (.ref l), some (.ref s), y5, y6, y7, y8]) (B := G1) (i := 4) rfl (sql ss) hsum
    rw [ej] at am
    refine am G1 (Same.refl _) _ fun G2 s2' => ?_
    -- taken = left.pop(at)
    have tl : (left.map V.int)[j]? = some (.int (left.getD j 0)) := vi_get (getD_lt hj)
    refine ⟨_, rfl, .inl ⟨rfl, _, sql (s2' _ _ sl)⟩, _, rfl, l, _, (j : Int), j, _, rfl, rfl, s2' _ _ sl, by omega, by have := g.sz; omega, seq_nat (by rw [List.length_map]; exact hj), tl, ?_⟩
    generalize eG3 : upd G2 l (.lst ((left.map V.int).eraseIdx j)) = G3
    have l3 : G3 l = some (.lst ((left.eraseIdx j).map V.int)) := by rw [← eG3, ← vi_erase]; exact upd_same
    have o3 : Ls G3 o ord := by rw [← eG3]; show upd _ _ _ _ = _; rw [upd_ne g.ol]; exact s2' _ _ so
    have n3 : Ls G3 n (ni nums) := by rw [← eG3]; show upd _ _ _ _ = _; rw [upd_ne g.nl]; exact s2' _ _ sn
    have s3 : Ls G3 s (ni (left.map (sT ord))) := by rw [← eG3]; show upd _ _ _ _ = _; rw [upd_ne g.ls.symm]; exact s2' _ _ ss
    have b3 : Same H G3 := by rw [← eG3]; exact same_mut (g.same.trans (sE.trans s2')) g.fl
    -- order.append(taken)
    refine ⟨_, rfl, .inl ⟨rfl, _, sql o3⟩, _, rfl, o, _, _, rfl, rfl, o3, ?_, ?_⟩
    · have := g.sz
      rw [List.length_map]
      exact Nat.lt_of_le_of_lt (show ord.length ≤ 64 by omega) (by decide)
    generalize eG4 : upd G3 o (.lst (ord.map V.int ++ [.int (left.getD j 0)])) = G4
    have o4 : Ls G4 o (ord ++ [left.getD j 0]) := by rw [← eG4]; show upd _ _ _ _ = _; rw [vi_snoc]; exact upd_same
    have l4 : Ls G4 l (left.eraseIdx j) := by rw [← eG4]; show upd _ _ _ _ = _; rw [upd_ne g.ol.symm]; exact l3
    have n4 : Ls G4 n (ni nums) := by rw [← eG4]; show upd _ _ _ _ = _; rw [upd_ne g.on.symm]; exact n3
    have s4 : Ls G4 s (ni (left.map (sT ord))) := by rw [← eG4]; show upd _ _ _ _ = _; rw [upd_ne g.os.symm]; exact s3
    have b4 : Same H G4 := by rw [← eG4]; exact same_mut b3 g.fo
    -- numbers.append(sums.pop(at))
    have tsum : ((ni (left.map (sT ord))).map V.int)[j]? = some (.int (((left.map (sT ord)).getD j 0 : Nat) : Int)) := vi_get (ni_getD (by rw [List.length_map]; exact hj))
    refine ⟨_, rfl, .inl ⟨rfl, _, sql n4⟩, _, rfl, .inl ⟨rfl, _, sql s4⟩, _, rfl, s, _, (j : Int), j, _, rfl, rfl, s4, by omega, by have := g.sz; omega, seq_nat (by rw [List.length_map, ni_len, List.length_map]; exact hj), tsum, ?_⟩
    generalize eG5 : upd G4 s (.lst (((ni (left.map (sT ord))).map V.int).eraseIdx j)) = G5
    have s5 : Ls G5 s (ni ((left.eraseIdx j).map (sT ord))) := by
      rw [← eG5]
      show upd _ _ _ _ = _
      rw [upd_same, vi_erase, ni_erase, erase_map]
    have o5 : Ls G5 o (ord ++ [left.getD j 0]) := by rw [← eG5]; show upd _ _ _ _ = _; rw [upd_ne g.os]; exact o4
    have l5 : Ls G5 l (left.eraseIdx j) := by rw [← eG5]; show upd _ _ _ _ = _; rw [upd_ne g.ls]; exact l4
    have n5 : Ls G5 n (ni nums) := by rw [← eG5]; show upd _ _ _ _ = _; rw [upd_ne g.ns]; exact n4
    have b5 : Same H G5 := by rw [← eG5]; exact same_mut b4 g.fs
    refine ⟨n, _, _, rfl, rfl, n5, ?_, ?_⟩
    · have := g.sz
      rw [List.length_map, ni_len, g.nz]
      exact Nat.lt_of_le_of_lt (show ord.length ≤ 64 by omega) (by decide)
    generalize eG6 : upd G5 n (.lst ((ni nums).map V.int ++ [.int (((left.map (sT ord)).getD j 0 : Nat) : Int)])) = G6
    have n6 : Ls G6 n (ni (nums ++ [(left.map (sT ord)).getD j 0])) := by rw [← eG6]; show upd _ _ _ _ = _; rw [ni_snoc, vi_snoc]; exact upd_same
    have o6 : Ls G6 o (ord ++ [left.getD j 0]) := by rw [← eG6]; show upd _ _ _ _ = _; rw [upd_ne g.on]; exact o5
    have l6 : Ls G6 l (left.eraseIdx j) := by rw [← eG6]; show upd _ _ _ _ = _; rw [upd_ne g.nl.symm]; exact l5
    have s6 : Ls G6 s (ni ((left.eraseIdx j).map (sT ord))) := by rw [← eG6]; show upd _ _ _ _ = _; rw [upd_ne g.ns.symm]; exact s5
    have b6 : Same H G6 := by rw [← eG6]; exact same_mut b5 g.fn
    -- sums = [..]
    have perm' : ((ord ++ [left.getD j 0]) ++ left.eraseIdx j).Perm places := by
      rw [List.append_assoc]
      exact ((perm_erase hj).append_left ord).trans g.perm
    have nd' := perm'.nodup_iff.mpr od.nd
    have cp := lcZS (K := K) (te := tOp oAdd (tVar 7) (tCall (sp_twos K) [] E0 (tCons (tOp oSub (tVar 8) (tVar 6)) tNil))) (tt := tYes) (j := 7) (l := 8) (vs := [7, 8]) (tl := tVar 4) (ta := tVar 3) (B := G6)
      (σ := [some (.ref a), some (.ref o), some (.ref n), some (.ref l), some (.ref s), some (.int (j : Int)), some (.int (left.getD j 0)), y7, y8])
      (fun _ => true) (fun i => .int ((((left.eraseIdx j).map (sT (ord ++ [left.getD j 0]))).getD i 0 : Nat) : Int)) (evs_var rfl (sql s6)) (evs_var rfl (sql l6)) (by rw [List.length_map, ni_len, List.length_map, List.length_map]) (by
        rw [List.length_map, ni_len, List.length_map, List.length_eraseIdx_of_lt hj]
        have := g.sz
        omega) (fun x y => rfl) (fun i x y G hx hy sG => evt_yes) (fun i x y G hx hy sG _ => ?_)
    · refine asgN (i := 4) cp fun p G7 s7 hp e7 => ?_
      have elen : (left.eraseIdx j).length = left.length - 1 := List.length_eraseIdx_of_lt hj
      refine ⟨p, ord ++ [left.getD j 0], nums ++ [(left.map (sT ord)).getD j 0], left.eraseIdx j, by omega, ⟨⟨_, _, _, _, rfl⟩, b6.trans s7, s7 _ _ o6, s7 _ _ n6, s7 _ _ l6, ?_, g.fo, g.fn, g.fl, b6.free hp, g.on, g.ol, ne_of_none o6 hp, g.nl, ne_of_none n6 hp, ne_of_none l6 hp, rfl, ?_, ?_, perm', ?_⟩⟩
      · show G7 p = _
        rw [e7, picked_all, List.length_map, ni_len, List.length_map]
        congr 2
        have z := range_getD 0 ((left.eraseIdx j).map (sT (ord ++ [left.getD j 0])))
        rw [List.length_map] at z
        conv => rhs; rw [← z]
        unfold ni
        rw [List.map_map, List.map_map] <;> rfl
      · have := g.sz
        rw [List.length_append, elen]
        show ord.length + 1 + (left.length - 1) ≤ 64
        omega
      · rw [List.length_append, List.length_append, g.nz] <;> rfl
      · have eg := g.go
        have el2 : left.length = (left.eraseIdx j).length + 1 := by omega
        rw [el2, grow_cons hleft, ej] at eg
        exact eg
    · obtain ⟨x', hx', rfl⟩ := vi_of hx
      obtain ⟨y', hy', rfl⟩ := vi_of hy
      have hi : i < (left.eraseIdx j).length := (List.getElem?_eq_some_iff.mp hy').1
      have ey : y' = (left.eraseIdx j).getD i 0 := by rw [List.getD_eq_getElem?_getD, hy'] <;> rfl
      have ex : x' = ((((left.eraseIdx j).map (sT ord)).getD i 0 : Nat) : Int) := by
        have := (ni_getD (show i < ((left.eraseIdx j).map (sT ord)).length by rw [List.length_map]; exact hi)).symm.trans hx'
        exact (Option.some.inj this).symm
      subst ey ex
      have hym : (left.eraseIdx j).getD i 0 ∈ places := perm'.subset (List.mem_append_right _ (getD_mem hi))
      have htm : left.getD j 0 ∈ places := perm'.subset (List.mem_append_left _ (List.mem_append_right _ (List.mem_singleton.mpr rfl)))
      have hne : (left.eraseIdx j).getD i 0 - left.getD j 0 ≠ 0 := fun z => by
        have z2 : left.getD j 0 = (left.eraseIdx j).getD i 0 := by omega
        exact (List.nodup_append.mp nd').2.2 (left.getD j 0) (List.mem_append_right _ (List.mem_singleton.mpr rfl)) ((left.eraseIdx j).getD i 0) (getD_mem hi) z2
      refine ev1_is (ev1_I0 (g := fun i j => .int (i + j)) (ev1_var rfl) (ev1_call (v := .int (tw ((left.eraseIdx j).getD i 0 - left.getD j 0))) (eva_cons (ev1_I0 (g := fun i j => .int (i - j)) (ev1_var rfl) (ev1_var rfl)) eva_nil) fun G' sG' R k => ⟨_, rfl, hne, big_bd (od.bd _ hym _ htm), k⟩)) ?_
      rw [sum_step hi]
      congr 1
end
end K53

/-! K53R5: readings: the triangle of checks. -/
namespace K53
open PySem PySem.Spec PyProof.Rows L2

/-! ### sizes -/
theorem pr_bd {x : Int} : ∀ l : List Int, (∀ y ∈ l, (x - y).natAbs < 2 ^ 64) → (pr l x).natAbs < 2 ^ (64 * l.length + 1) := by
  refine snoc_ind (fun _ => by rw [pr_nil]; decide) fun l a ih h => ?_
  rw [pr_snoc, List.length_append]
  have h1 := ih fun y hy => h y (List.mem_append_left _ hy)
  have h2 := h a (by simp)
  have h3 := wide_lt h1 h2
  have e : 64 * l.length + 1 + 64 = 64 * (l.length + [a].length) + 1 := by simp; omega
  rw [← e]
  exact h3
theorem P_bd {x : Int} {o : List Int} (h : ∀ y ∈ o, (x - y).natAbs < 2 ^ 64) (hl : o.length ≤ 64) (k : Nat) : (P o k x).natAbs < 2 ^ 4097 := by
  have h1 := pr_bd (o.take k) fun y hy => h y (List.mem_of_mem_take hy)
  refine Nat.lt_of_lt_of_le h1 (Nat.pow_le_pow_right (by decide) ?_)
  have : (o.take k).length ≤ o.length := by rw [List.length_take]; exact Nat.min_le_right _ _
  omega
theorem stp_pow {w c : Nat} {n : List Nat} {k : Nat} (hw : w ≤ 64) : ∃ e, e ≤ 64 ∧ stp w c n k = 2 ^ e := by
  unfold stp
  by_cases h : k < c ∧ n.getD k 0 < w
  · rw [if_pos h]
    exact ⟨_, by omega, rfl⟩
  · rw [if_neg h]
    exact ⟨0, by omega, rfl⟩
theorem pow_bd {e : Nat} (h : e ≤ 64) : (2 : Int) ^ e ≤ 2 ^ 64 := Int.le_of_dvd (by decide) (pow_dvd h)
theorem stp_bd {w c : Nat} {n : List Nat} {k : Nat} (hw : w ≤ 64) : 0 < stp w c n k ∧ stp w c n k ≤ 2 ^ 64 := by
  obtain ⟨e, he, h⟩ := stp_pow (w := w) (c := c) (n := n) (k := k) hw
  rw [h]
  exact ⟨two_pow_pos e, pow_bd he⟩
theorem inv7_bd {n : Int} {e : Nat} (he : e ≤ 64) : 0 ≤ inv7 n (2 ^ e) ∧ inv7 n (2 ^ e) < 2 ^ 64 := by
  have h : inv7 n (2 ^ e) = (List.range 6).foldl (fun f _ => f * (2 - n * f) % 2 ^ e) 1 * (2 - n * (List.range 6).foldl (fun f _ => f * (2 - n * f) % 2 ^ e) 1) % 2 ^ e := inv_fold n (2 ^ e) 6
  rw [h]
  have p2 := two_pow_pos e
  exact ⟨Int.emod_nonneg _ (Int.ne_of_gt p2), Int.lt_of_lt_of_le (Int.emod_lt_of_pos _ p2) (pow_bd he)⟩
theorem abs65 {x : Int} (h0 : 0 ≤ x) (h1 : x ≤ 2 ^ 64) : x.natAbs < 2 ^ 65 := by omega
theorem min_cast (a b : Nat) : (if (b : Int) < (a : Int) then (b : Int) else (a : Int)) = ((min a b : Nat) : Int) := by
  by_cases h : b < a
  · rw [if_pos (by omega)]
    omega
  · rw [if_neg (by omega)]
    omega
theorem coef_bd {w c : Nat} {o : List Int} {n : List Nat} {last m : Nat} {fs : List Int} {t : Nat} (hw : w ≤ 64) : 0 ≤ coef w c o n last m fs t ∧ coef w c o n last m fs t ≤ 2 ^ 64 := by
  obtain ⟨h0, h1⟩ := stp_bd (w := w) (c := c) (n := n) (k := t) hw
  unfold coef
  refine ⟨Int.emod_nonneg _ (Int.ne_of_gt h0), ?_⟩
  have := Int.emod_lt_of_pos (-(due w c o n last m fs t % 2 ^ w / 2 ^ n.getD t 0) * inv7 (P o t (o.getD t 0) / 2 ^ n.getD t 0) (stp w c n t)) h0
  omega
theorem mem_set_bd {l : List Int} {j : Nat} {x : Int} {p : Int → Prop} (h : ∀ y ∈ l, p y) (hx : p x) : ∀ y ∈ l.set j x, p y := fun y hy => by
  rcases List.mem_or_eq_of_mem_set hy with h1 | h1
  · exact h y h1
  · rw [h1]
    exact hx
theorem Pl.od {w : Nat} {places : List Int} (p : Pl w places) : Od places := by
  refine ⟨p.asc.imp fun h => Int.ne_of_lt h, fun x hx y hy => ?_, Nat.le_trans p.len (by decide)⟩
  have h1 := p.rng x hx
  have h2 := p.rng y hy
  have := pow_bd p.w64
  omega
theorem Od.good {places : List Int} (h : Od places) : Good places (oP places) (nP places) := good_good h.nd fun x hx y hy => big_bd (h.bd x hx y hy)
theorem Od.obd {places : List Int} (h : Od places) {x : Int} (hx : x ∈ oP places) : ∀ y ∈ oP places, (x - y).natAbs < 2 ^ 64 := fun y hy => h.bd x (h.good.perm.subset hx) y (h.good.perm.subset hy)
theorem Od.olen {places : List Int} (h : Od places) : (oP places).length = places.length := h.good.perm.length_eq

theorem range_getD0 {n k : Nat} (h : k < n) : (List.range n).getD k 0 = k := by
  rw [List.getD_eq_getElem?_getD, List.getElem?_range h] <;> rfl
/-- enumerate over a list that the body leaves as it is -/
theorem for_enum {K : PySem.W.Frag} {a : Addr} {xs : List V} {g : TG} {tb : TS} {D : Ends} {σ : L2.St} {H : Hp} (Pv : Nat → L2.St → Hp → Prop) (h0 : Pv 0 σ H) (hl : ∀ i σ H, i ≤ xs.length → Pv i σ H → SqL K H a xs)
    (hs : ∀ (i : Nat) x σ H T, xs[i]? = some x → Pv i σ H → H T = none → g (.ref T) σ (upd H T (.tup [.int i, x])) fun σ2 H2 => tb { D with nx := Pv (i + 1), ct := Pv (i + 1), bk := D.nx } σ2 H2) (hd : ∀ σ H, Pv xs.length σ H → D.nx σ H) :
    ∃ W : Nat → Nat → L2.St → Hp → Prop, (∃ m, W 0 m σ H) ∧ ∀ i m σ H, W i m σ H →
      ((Ite K a).stop i H ∧ D.nx σ H) ∨ ((Ite K a).go i H ∧ ∃ N : L2.St → Hp → Prop, (∀ σ' H', N σ' H' → ∃ m', m' < m ∧ W (i + 1) m' σ' H') ∧ ∀ x H', (Ite K a).yld i H x H' → g x σ H' fun σ2 H2 => tb { D with nx := N, ct := N, bk := D.nx } σ2 H2) := by
  refine ⟨fun i m σ H => m = xs.length - i ∧ i ≤ xs.length ∧ Pv i σ H, ⟨xs.length, by simp, Nat.zero_le _, h0⟩, ?_⟩
  rintro i m σ H ⟨rfl, hi, p⟩
  have q := hl i σ H hi p
  by_cases hlt : i < xs.length
  · refine .inr ⟨⟨xs, _, q, get_of hlt⟩, Pv (i + 1), fun σ' H' p' => ⟨xs.length - (i + 1), by omega, rfl, hlt, p'⟩, fun x H' y => ?_⟩
    obtain ⟨T, x, rfl, hT, rfl, hx⟩ := y
    exact hs i x σ H T (hx _ q) p hT
  · have e : i = xs.length := by omega
    subst e
    exact .inl ⟨⟨xs, q, Nat.le_refl _⟩, hd σ H p⟩

/-! ### steps -/
section
variable {K : PySem.W.Frag} {σ : L2.St} {B H : Hp} {te ti ta tb : TE} {v : V} {D : Ends}
theorem asg1 {i : Nat} (c : Ev1 te σ H v) (k : ∀ H2, Same H H2 → D.nx (σ.set i (some v)) H2) : tAsg te (gName i) D σ H := c H (Same.refl H) _ k
theorem asgSub {i p j : Nat} {z : Int} {fs : List Int} (c : Ev1 te σ H (.int z)) (hi : σ[i]? = some (some (.ref p))) (d : Ev1 ti σ H (.int j)) (hp : Ls H p fs) (hj : j < fs.length)
    (k : ∀ H2, Same H H2 → D.nx σ (upd H2 p (.lst ((fs.set j z).map V.int)))) : tAsg te (gSub (tVar i) ti rSetL) D σ H := c H (Same.refl H) _ fun H1 s1 => ⟨_, hi, d H1 s1 _ fun H2 s2 =>
  ⟨p, fs.map V.int, j, j, rfl, rfl, s2 _ _ (s1 _ _ hp), by rw [List.length_map]; exact ix_nat hj, by
    have := k H2 (s1.trans s2)
    rw [List.map_set] at this
    exact this⟩⟩
theorem ev1_neg {i : Int} (h : Ev1 te σ B (.int i)) : Ev1 (tUn oNeg te) σ B (.int (-i)) := fun H s R k => h H s _ fun H1 s1 => ⟨i, rfl, k H1 s1⟩
theorem ev1_at {j : Nat} {l : List Int} (ha : EvS K ta σ B (l.map V.int)) (hb : Ev1 tb σ B (.int j)) (hj : j < l.length) : Ev1 (tOp (rIxL K) ta tb) σ B (.int (l.getD j 0)) := fun H s R k => ha H s _ fun p H1 s1 hp => hb H1 (s.trans s1) _ fun H2 s2 => ⟨p, l.map V.int, (j : Int), _, rfl, rfl, s2.seq hp, atI_nat (vi_get (getD_lt hj)), k H2 (s1.trans s2)⟩
theorem ev1_P {a : Addr} {i m : Nat} {o : List Int} {x : Int} {tm tx : TE} (hi : σ[i]? = some (some (.ref a))) (ha : Ls B a o) (hm : Ev1 tm σ B (.int m)) (hx : Ev1 tx σ B (.int x)) (hb : ∀ y ∈ o, (x - y).natAbs < 2 ^ 64) :
    Ev1 (tCall (sp_product_at K) [] E0 (tCons (tVar i) (tCons tm (tCons tx tNil)))) σ B (.int (P o m x)) :=
  ev1_call (eva_cons (ev1_var hi) (eva_cons hm (eva_cons hx eva_nil))) fun H s R k => ⟨a, o, m, x, rfl, s _ _ ha, hb, k⟩
theorem ev1_pow {n : Nat} (h : Ev1 te σ B (.int n)) (hn : n ≤ 1000) : Ev1 (tCall (sp_power_of_two K) [] E0 (tCons te tNil)) σ B (.int (2 ^ n)) :=
  ev1_call (eva_cons h eva_nil) fun H s R k => ⟨n, rfl, hn, k⟩
theorem ev1_min {a b : Nat} (h : Ev1 ta σ B (.int a)) (h2 : Ev1 tb σ B (.int b)) : Ev1 (tCB oMin2 (tCons ta (tCons tb tNil))) σ B (.int ((min a b : Nat) : Int)) := fun H s R k => h H s _ fun H1 s1 => h2 H1 (s.trans s1) _ fun H2 s2 =>
  ⟨a, b, rfl, by rw [min_cast]; exact k H2 (s1.trans s2)⟩
theorem rep_flat (z : Int) : ∀ n : Nat, (List.replicate n [V.int z]).flatten = (List.replicate n z).map V.int
  | 0 => rfl
  | n + 1 => by
    rw [List.replicate_succ, List.flatten_cons, rep_flat z n]
    rfl
theorem evn_rep {z : Int} {n : Nat} (ha : Ev1 ta σ B (.int z)) (h : Ev1 tb σ B (.int n)) (hn : n ≤ 1000) : EvN (tOp rRep (tLst (tCons ta tNil)) tb) σ B ((List.replicate n z).map V.int) := fun H s R k =>
  ha H s _ fun H0 s0 => ⟨by show 1 ≤ sizeLine; decide, fun l hl => h _ ((s.trans s0).trans (same_new hl)) _ fun H2 s2 => ⟨l, n, [.int z], rfl, rfl, s2 _ _ upd_same, by omega, by omega, by
    show 1 * _ ≤ _
    have e : sizeLine = 16777216 := sizeLine_eq
    omega, fun s' hs => k s' _ (s0.trans ((same_new hl).trans (s2.trans (same_new hs)))) ((s0.trans ((same_new hl).trans s2)).free hs) (by
      rw [upd_same, Int.toNat_natCast]
      rw [rep_flat])⟩⟩
end

section
variable {K : PySem.W.Frag} {vs : List V} {H : Hp} {Q : VK} {E : XK}
structure TT1 (w c : Nat) (a o n st F fa : Addr) (ord : List Int) (nums : List Nat) (last m : Nat) (fs : List Int) (B H' : Hp) : Prop where
  same : Same B H'
  hfa : Ls H' fa fs
  len : fs.length = ord.length
  bd : ∀ y ∈ fs, 0 ≤ y ∧ y ≤ 2 ^ 64
theorem r_told_triangle (h : sp_told_triangle K vs H Q E) : t_told_triangle K (fin Q) (start N_told_triangle vs) H := by
  obtain ⟨w, c, a, places, rfl, ha, pl, q⟩ := h
  have od := pl.od
  have g := od.good
  have w64 := pl.w64
  refine ⟨_, rfl, a, places, rfl, ha, od, fun H1 t o n s1 ht ho hn et eo en => ⟨t, _, rfl, sqt et, rfl, _, _, rfl, _, _, rfl, rfl, ?_⟩⟩
  have olen := od.olen
  have len8 : (oP places).length ≤ 8 := by rw [olen]; exact pl.len
  have nlen : (nP places).length = (oP places).length := g.len
  have obd : ∀ {x : Int}, x ∈ oP places → ∀ y ∈ oP places, (x - y).natAbs < 2 ^ 64 := od.obd
  generalize eO : oP places = ord at *
  generalize eN : nP places = nums at *
  refine ⟨_, rfl, w, rfl, by omega, fun H2 s2 => ⟨_, rfl, _, rfl, _, rfl, w, c, n, nums, rfl, s2 _ _ en, by omega, w64, fun H3 st s3 hst est => ⟨Nat.zero_le _, fun F hF => ?_⟩⟩⟩
  refine ⟨_, _, _, rfl, ?_⟩
  have est2 : Ls H3 st (stepsM w c nums) := est
  have slen : (stepsM w c nums).length = ord.length := by unfold stepsM; rw [List.length_map, List.length_range, nlen]
  have sget : ∀ {k : Nat}, k < ord.length → (stepsM w c nums).getD k 0 = stp w c nums k := fun {k} hk => by
    unfold stepsM
    rw [getD_map (d := 0) (by rw [List.length_range]; omega), range_getD0 (by omega)]
  generalize stepsM w c nums = sts at *
  have eo3 := s3 _ _ (s2 _ _ eo)
  have en3 := s3 _ _ (s2 _ _ en)
  -- items
  have im : Ev1 (tCall (sp_items_counted K) [] E0 (tCons (tVar 0) (tCons (tVar 4) (tCons (tVar 2) tNil)))) [some (.int w), some (.ref a), some (.int c), some (.ref o), some (.ref n), some (.int (2 ^ w)), some (.ref st), some (.ref F), none, none, none, none, none, none, none, none, none] (upd H3 F (.lst [])) (.int ((cnt w c nums : Nat) : Int)) :=
    ev1_call (eva_cons (ev1_var rfl) (eva_cons (ev1_var rfl) (eva_cons (ev1_var rfl) eva_nil))) fun G sG R k => ⟨w, c, n, nums, rfl, sG _ _ (same_new hF _ _ en3), by omega, k⟩
  refine asg1 (i := 8) im fun H4 s4 => ?_
  have cle : cnt w c nums ≤ ord.length := cnt_le g
  have cw : ∀ {k : Nat}, k < cnt w c nums → nums.getD k 0 < w := fun {k} hk => ((lt_cnt g).mp hk).2.2
  generalize eC : cnt w c nums = items at *
  refine ⟨_, rfl, o, _, rfl, sql (s4 _ _ (same_new hF _ _ eo3)), for_enum (xs := ord.map V.int) (fun i σ H' => (∃ y9 y10 y11 y12 y13 y14 y15 y16 : Option V, σ = [some (.int w), some (.ref a), some (.int c), some (.ref o), some (.ref n), some (.int (2 ^ w)), some (.ref st), some (.ref F), some (.int items), y9, y10, y11, y12, y13, y14, y15, y16]) ∧ RowCol H3 (row w c ord nums) F i H') ⟨⟨_, _, _, _, _, _, _, _, rfl⟩, (same_new hF).trans s4, [], s4 _ _ upd_same, .nil⟩ (fun i σ H' _ ⟨_, c⟩ => sql (c.1 _ _ eo3)) ?_ ?_⟩
  · rintro i x σ H' T hx ⟨⟨y9, y10, y11, y12, y13, y14, y15, y16, rfl⟩, rc⟩ hT
    obtain ⟨x', hx', rfl⟩ := vi_of hx
    have hi : i < ord.length := (List.getElem?_eq_some_iff.mp hx').1
    have ex : x' = ord.getD i 0 := by rw [List.getD_eq_getElem?_getD, hx'] <;> rfl
    subst ex
    refine ⟨T, _, rfl, sqt upd_same, rfl, _, _, rfl, _, _, rfl, rfl, ?_⟩
    have sT : Same H' (upd H' T (.tup [.int i, .int (ord.getD i 0)])) := same_new hT
    generalize eH5 : upd H' T (.tup [.int i, .int (ord.getD i 0)]) = H5 at *
    have s05 := rc.1.trans sT
    -- factors = [0] * len(order)
    refine asgN (i := 11) (evn_rep (n := ord.length) ev1_c (ev1_is (ev1_len (xs := ord.map V.int) (evs_var (i := 3) rfl (sql (s05 _ _ eo3)))) (by rw [List.length_map])) (by omega)) fun fa H6 s6 hfa efa => ?_
    have s06 := s05.trans s6
    have s36 := sT.trans s6
    -- factors[last] = steps[last] % whole
    have sp := stp_bd (w := w) (c := c) (n := nums) (k := i) w64
    refine asgSub (i := 11) (p := fa) (j := i) (z := stp w c nums i % 2 ^ w) (fs := List.replicate ord.length 0) (ev1_I (C := fun _ j => 0 < j) (g := fun i j => .int (i % j)) (ev1_is (ev1_at (l := sts) (evs_var (i := 6) rfl (sql (s06 _ _ est2))) (ev1_var (i := 9) rfl) (by omega)) (by rw [sget hi])) (ev1_var (i := 5) rfl) (two_pow_pos w)) rfl (ev1_var (i := 9) rfl) efa (by rw [List.length_replicate]; exact hi) fun H7 s7 => ?_
    have e0 : (List.replicate ord.length (0 : Int)).set i (stp w c nums i % 2 ^ w) = row0 w c ord nums i := rfl
    rw [e0]
    have bd0 : ∀ y ∈ row0 w c ord nums i, 0 ≤ y ∧ y ≤ 2 ^ 64 := mem_set_bd (p := fun y => 0 ≤ y ∧ y ≤ 2 ^ 64) (fun y hy => by rw [List.eq_of_mem_replicate hy]; decide) ⟨Int.emod_nonneg _ (Int.ne_of_gt (two_pow_pos w)), Int.le_trans (Int.le_of_lt (Int.emod_lt_of_pos _ (two_pow_pos w))) (pow_bd w64)⟩
    have hfa' : H' fa = none := sT.free hfa
    have s0fa : H3 fa = none := rc.1.free hfa'
    have s07 : Same H' (upd H7 fa (.lst ((row0 w c ord nums i).map V.int))) := same_mut (s36.trans s7) hfa'
    -- for at in range(min(last, items) - 1, -1, -1)
    have mle : min i items ≤ ord.length := by omega
    generalize eM : min i items = m at *
    have mi : m ≤ i := by omega
    have mc : m ≤ items := by omega
    have rg : RgC ((m : Int) - 1) (-1) (-1) m := by
      have z := RgC.neg (i := (m : Int) - 1) (j := -1) (by omega) (by omega) (by decide) (by decide)
      have en : ((m : Int) - 1 - -1).toNat = m := by omega
      rwa [en] at z
    refine ev1_I0 (g := fun i j => .int (i - j)) (ev1_is (ev1_min (a := i) (b := items) (ev1_var (i := 9) rfl) (ev1_var (i := 8) rfl)) (by rw [eM])) ev1_c _ (Same.refl _) _ fun H8 s8 => ⟨_, rfl, _, rfl, _, _, _, m, rfl, rg, ?_⟩
    have len0 : (row0 w c ord nums i).length = ord.length := row0_len
    have go0 : rowL w c ord nums i m m (row0 w c ord nums i) = row w c ord nums i := by
      unfold row
      rw [eC, eM]
    generalize row0 w c ord nums i = fs0 at *
    have opos : ∀ {k : Nat}, k < ord.length → ∀ y ∈ ord, (ord.getD k 0 - y).natAbs < 2 ^ 64 := fun {k} hk => obd (getD_mem hk)
    refine for_rangeC (fun j σ G => (∃ y12 y13 y14 y15 y16 : Option V, σ = [some (.int w), some (.ref a), some (.int c), some (.ref o), some (.ref n), some (.int (2 ^ w)), some (.ref st), some (.ref F), some (.int items), some (.int i), some (.int (ord.getD i 0)), some (.ref fa), y12, y13, y14, y15, y16]) ∧ ∃ fs, TT1 w c a o n st F fa ord nums i m fs H' G ∧ rowL w c ord nums i m (m - j) fs = row w c ord nums i)
      ⟨⟨_, _, _, _, _, rfl⟩, fs0, ⟨s07.trans s8, s8 _ _ upd_same, len0, bd0⟩, go0⟩ ?_ ?_
    · rintro j σ G hj ⟨⟨y12, y13, y14, y15, y16, rfl⟩, fs, tt, go⟩
      have eat : (m : Int) - 1 + (j : Nat) * (-1) = ((m - 1 - j : Nat) : Int) := by omega
      rw [eat]
      have emj : m - j = (m - 1 - j) + 1 := by omega
      rw [emj] at go
      have emj2 : m - (j + 1) = m - 1 - j := by omega
      generalize m - 1 - j = t at *
      have tm : t < m := by omega
      have tlen : t < ord.length := by omega
      have tnum : nums.getD t 0 < w := cw (by omega)
      have go2 : rowL w c ord nums i m t (fs.set t (coef w c ord nums i m fs t)) = row w c ord nums i := go
      have b0 := rc.1.trans tt.same
      have pb : ∀ k, (P ord k (ord.getD i 0)).natAbs < 2 ^ 4097 := P_bd (opos hi) (by omega)
      -- product = steps[last] * product_at(..)
      refine asg1 (i := 13) (v := .int (stp w c nums i * P ord t (ord.getD i 0))) ?c1 fun G1 g1 => ?_
      case c1 => exact ev1_I (C := CMulX) (g := fun i j => .int (i * j)) (ev1_is (x := .int (stp w c nums i)) (ev1_at (j := i) (l := sts) (evs_var (i := 6) rfl (sql (b0 _ _ est2))) (ev1_var (i := 9) rfl) (by omega)) (by rw [sget hi])) (ev1_P (i := 3) (m := t) (x := ord.getD i 0) rfl (b0 _ _ eo3) (ev1_var (i := 12) rfl) (ev1_var (i := 10) rfl) (opos hi)) (mulx_ok (abs65 (Int.le_of_lt sp.1) sp.2) (pb t) (by decide))
      -- the sum
      refine ev1_I0 (g := fun i j => .int (i + j)) (ev1_var (i := 12) rfl) ev1_c _ (Same.refl _) _ fun G2 g2 => ev1_is (x := .int (m : Int)) (ev1_min (a := i) (b := items) (ev1_var (i := 9) rfl) (ev1_var (i := 8) rfl)) (by rw [eM]) _ g2 _ fun G3 g3 => ⟨_, _, rfl, by omega, ?_⟩
      have en2 : ((m : Int) - ((t : Int) + 1)).toNat = m - (t + 1) := by omega
      rw [en2]
      refine for_range (fun l σ G' => (∃ y14 y15 y16 : Option V, σ = [some (.int w), some (.ref a), some (.int c), some (.ref o), some (.ref n), some (.int (2 ^ w)), some (.ref st), some (.ref F), some (.int items), some (.int i), some (.int (ord.getD i 0)), some (.ref fa), some (.int t), some (.int (stp w c nums i * P ord t (ord.getD i 0) + sm l fun i => fs.getD (t + 1 + i) 0 * P ord t (ord.getD (t + 1 + i) 0))), y14, y15, y16]) ∧ Same G G') ⟨⟨_, _, _, by rw [show (sm 0 fun i => fs.getD (t + 1 + i) 0 * P ord t (ord.getD (t + 1 + i) 0)) = 0 from rfl, Int.add_zero]; rfl⟩, g1.trans (g2.trans g3)⟩ ?_ ?_
      · rintro l σ G' hl ⟨⟨y14, y15, y16, rfl⟩, sg⟩
        have ela : (t : Int) + 1 + (l : Nat) = ((t + 1 + l : Nat) : Int) := by omega
        rw [ela]
        have hla : t + 1 + l < ord.length := by omega
        have b1 := b0.trans sg
        have fb := tt.bd _ (getD_mem (d := 0) (show t + 1 + l < fs.length by rw [tt.len]; exact hla))
        refine asg1 (i := 13) (ev1_I0 (g := fun i j => .int (i + j)) (ev1_var (i := 13) rfl) (ev1_I (C := CMulX) (g := fun i j => .int (i * j)) (ev1_at (l := fs) (evs_var (i := 11) rfl (sql (sg _ _ tt.hfa))) (ev1_var (i := 14) rfl) (by rw [tt.len]; exact hla)) (ev1_P (i := 3) rfl (b1 _ _ eo3) (ev1_var (i := 12) rfl) (ev1_at (l := ord) (evs_var (i := 3) rfl (sql (b1 _ _ eo3))) (ev1_var (i := 14) rfl) hla) (opos hla)) (mulx_ok (abs65 fb.1 fb.2) (P_bd (opos hla) (by omega) t) (by decide)))) fun G4 g4 => ⟨⟨some (.int ((t + 1 + l : Nat) : Int)), y15, y16, ?_⟩, sg.trans g4⟩
        rw [show (sm (l + 1) fun i => fs.getD (t + 1 + i) 0 * P ord t (ord.getD (t + 1 + i) 0)) = (sm l fun i => fs.getD (t + 1 + i) 0 * P ord t (ord.getD (t + 1 + i) 0)) + fs.getD (t + 1 + l) 0 * P ord t (ord.getD (t + 1 + l) 0) from rfl, ← Int.add_assoc]
        rfl
      · rintro σ G' ⟨⟨y14, y15, y16, rfl⟩, sg⟩
        have edue : (stp w c nums i * P ord t (ord.getD i 0) + sm (m - (t + 1)) fun i => fs.getD (t + 1 + i) 0 * P ord t (ord.getD (t + 1 + i) 0)) = due w c ord nums i m fs t := rfl
        rw [edue]
        have b1 := b0.trans sg
        have enums : (ni nums).getD t 0 = ((nums.getD t 0 : Nat) : Int) := by
          unfold ni
          rw [getD_map (d := 0) (by omega)]
        have pp := two_pow_pos (nums.getD t 0)
        have ppb : (2 : Int) ^ nums.getD t 0 ≤ 2 ^ 64 := pow_bd (by omega)
        -- part
        refine asg1 (i := 15) (ev1_pow (n := nums.getD t 0) (ev1_is (ev1_at (l := ni nums) (evs_var (i := 4) rfl (sql (b1 _ _ en3))) (ev1_var (i := 12) rfl) (by rw [ni_len]; omega)) (by rw [enums])) (by omega)) fun G5 g5 => ?_
        -- odd
        have b2 := b1.trans g5
        refine asg1 (i := 16) (ev1_I (C := CDivW) (g := fun i j => .int (i / j)) (ev1_P (i := 3) rfl (b2 _ _ eo3) (ev1_var (i := 12) rfl) (ev1_at (l := ord) (evs_var (i := 3) rfl (sql (b2 _ _ eo3))) (ev1_var (i := 12) rfl) tlen) (opos tlen)) (ev1_var (i := 15) rfl) (wide_div pp (abs65 (Int.le_of_lt pp) ppb) (by decide) (by decide))) fun G6 g6 => ?_
        have b3 := b2.trans g6
        -- factors[at] = ..
        obtain ⟨e, he, hst⟩ := stp_pow (w := w) (c := c) (n := nums) (k := t) w64
        have eget : sts.getD t 0 = 2 ^ e := by rw [sget tlen, hst]
        have iv := inv7_bd (n := P ord t (ord.getD t 0) / 2 ^ nums.getD t 0) he
        have w2 := two_pow_pos w
        have dm0 := Int.emod_nonneg (due w c ord nums i m fs t) (Int.ne_of_gt w2)
        have dm1 := Int.emod_lt_of_pos (due w c ord nums i m fs t) w2
        have dv0 := Int.ediv_nonneg dm0 (Int.le_of_lt pp)
        have dv1 : due w c ord nums i m fs t % 2 ^ w / 2 ^ nums.getD t 0 ≤ due w c ord nums i m fs t % 2 ^ w := Int.ediv_le_self _ dm0
        have wb := pow_bd w64
        have steps_t : ∀ {B : Hp} {σ : L2.St}, σ[6]? = some (some (.ref st)) → σ[12]? = some (some (.int t)) → Same G6 B → Ev1 (tOp (rIxL K) (tVar 6) (tVar 12)) σ B (.int (2 ^ e)) := fun {B σ} h1 h2 sb => ev1_is (ev1_at (l := sts) (evs_var h1 (sql (sb _ _ (b3 _ _ est2)))) (ev1_var h2) (by omega)) (by rw [eget])
        refine asgSub (i := 11) (p := fa) (j := t) (z := coef w c ord nums i m fs t) (fs := fs) (ev1_is (ev1_I (C := fun _ j => 0 < j) (g := fun i j => .int (i % j)) (ev1_I (C := CMulX) (g := fun i j => .int (i * j)) (ev1_neg (ev1_I (C := CDivW) (g := fun i j => .int (i / j)) (ev1_I (C := fun _ j => 0 < j) (g := fun i j => .int (i % j)) (ev1_var (i := 13) rfl) (ev1_var (i := 5) rfl) w2) (ev1_var (i := 15) rfl) (wide_div pp (abs65 (Int.le_of_lt pp) ppb) (by decide) (by decide))))
            (ev1_call (v := .int (inv7 (P ord t (ord.getD t 0) / 2 ^ nums.getD t 0) (2 ^ e))) (eva_cons (ev1_var (i := 16) rfl) (eva_cons (steps_t rfl rfl (Same.refl _)) eva_nil)) fun B sB R k => ⟨_, e, rfl, he, k⟩) (mulx_ok (a := 65) (b := 65) (by rw [Int.natAbs_neg]; exact abs65 dv0 (by omega)) (abs65 iv.1 (Int.le_of_lt iv.2)) (by decide))) (steps_t rfl rfl (Same.refl _)) (two_pow_pos e)) (by unfold coef; rw [hst])) rfl (ev1_var (i := 12) rfl) ((sg.trans (g5.trans g6)) _ _ tt.hfa) (by rw [tt.len]; exact tlen) fun G7 g7 => ?_
        refine ⟨⟨_, _, _, _, _, rfl⟩, fs.set t (coef w c ord nums i m fs t), ⟨same_mut (tt.same.trans (sg.trans (g5.trans (g6.trans g7)))) hfa', upd_same, by rw [List.length_set]; exact tt.len, mem_set_bd (p := fun y => 0 ≤ y ∧ y ≤ 2 ^ 64) tt.bd (coef_bd w64)⟩, ?_⟩
        rw [emj2]
        exact go2
    · rintro σ G ⟨⟨y12, y13, y14, y15, y16, rfl⟩, fs, tt, go⟩
      rw [Nat.sub_self] at go
      have efs : fs = row w c ord nums i := go
      subst efs
      obtain ⟨rs, d, hlen⟩ := rc.len
      have dG := tt.same _ _ d
      refine ⟨_, rfl, .inl ⟨rfl, _, sql dG⟩, _, rfl, F, _, _, rfl, rfl, dG, by rw [List.length_map, hlen]; exact Nat.lt_of_lt_of_le (show i < 8 by omega) (by decide), ⟨_, _, _, _, _, _, _, _, rfl⟩, rc.add hF tt.same hfa' tt.hfa dG⟩
  · rintro σ H' ⟨⟨y9, y10, y11, y12, y13, y14, y15, y16, rfl⟩, rc⟩
    rw [List.length_map] at rc
    refine ⟨_, rfl, q H' F ((s1.trans (s2.trans s3)).trans rc.1) ((s1.trans (s2.trans s3)).free hF) ?_⟩
    obtain ⟨rs, d, qq⟩ := rc.rows
    exact ⟨rs, d, Paired.mapP qq fun r xs h => ⟨(s1.trans (s2.trans s3)).free h.1, h.2⟩⟩
end
end K53

/-! K53R6: readings: in places, the triangle, alarms. -/
namespace K53
open PySem PySem.Spec PyProof.Rows L2

theorem map_range {α β : Type} (f : α → β) (l : List α) (d : α) : (List.range l.length).map (fun i => f (l.getD i d)) = l.map f := by
  have z := range_getD d l
  conv => rhs; rw [← z]
  rw [List.map_map] <;> rfl
theorem merge_not {k : Key} : ∀ (more kvs : List (Key × V)), (∀ p ∈ more, p.1 ≠ k) → valV (mergeK kvs more) k = valV kvs k
  | [], kvs, _ => rfl
  | p :: r, kvs, h => by
    show valV (mergeK (putK kvs p.1 p.2) r) k = _
    rw [merge_not r _ fun q hq => h q (List.mem_cons_of_mem _ hq), valV_put, if_neg (h p List.mem_cons_self).symm]
theorem merge_zip : ∀ (ns : List Int) (ys : List V) (kvs : List (Key × V)), ns.Nodup → ns.length = ys.length → ∀ i, i < ns.length → valV (mergeK kvs ((ns.map Sum.inl).zip ys)) (.inl (ns.getD i 0)) = ys[i]?
  | [], _, _, _, _, i, hi => by cases hi
  | _ :: _, [], _, _, hl, _, _ => by cases hl
  | n :: ns, y :: ys, kvs, nd, hl, i, hi => by
    have nd2 := List.nodup_cons.mp nd
    show valV (mergeK (putK kvs (.inl n) y) ((ns.map Sum.inl).zip ys)) _ = _
    cases i with
    | zero =>
      rw [merge_not _ _ fun p hp => ?_, valV_put]
      · exact if_pos rfl
      · intro e
        have h1 := (List.of_mem_zip hp).1
        obtain ⟨m, hm, hz⟩ := List.mem_map.mp h1
        rw [e] at hz
        injection hz with hz
        exact nd2.1 (by rw [← show m = n from hz]; exact hm)
    | succ i => exact merge_zip ns ys _ nd2.2 (by simpa using hl) i (by simpa using hi)
section
variable {K : PySem.W.Frag} {vs : List V} {H : Hp} {Q : VK} {E : XK}
theorem r_in_places (h : sp_in_places K vs H Q E) : t_in_places K (fin Q) (start N_in_places vs) H := by
  obtain ⟨a, b, places, fs, rfl, ha, hb, od, hl, q⟩ := h
  have g := od.good
  have olen := od.olen
  refine ⟨_, rfl, a, places, rfl, ha, od, fun H1 t o n s1 ht ho hn et eo en => ⟨t, [.ref o, .ref n], 0, .ref o, rfl, rfl, sqt et, rfl, _, rfl, o, b, rfl, oP places, fs.map V.int, sql eo, sql (s1 _ _ hb), by rw [List.length_map]; omega, Nat.le_trans (show (oP places).length ≤ 64 by have := od.len; omega) (by decide), fun p hp => ?_⟩⟩
  have s2 : Same H1 (upd H1 p (.dK (mergeK [] (((oP places).map Sum.inl).zip (fs.map V.int))))) := same_new hp
  have ep : upd H1 p (.dK (mergeK [] (((oP places).map Sum.inl).zip (fs.map V.int)))) p = some (.dK (mergeK [] (((oP places).map Sum.inl).zip (fs.map V.int)))) := upd_same
  generalize eH2 : upd H1 p (.dK (mergeK [] (((oP places).map Sum.inl).zip (fs.map V.int)))) = H2 at *
  have cp := lcL (K := K) (te := tDGet (tVar 2) (tVar 3)) (tt := tYes) (j := 3) (vs := [3]) (tl := tVar 0) (xs := places.map V.int) (B := H2) (σ := [some (.ref a), some (.ref b), some (.ref p), none])
    (fun _ => true) (fun i => .int (fs.getD ((oP places).idxOf (places.getD i 0)) 0)) (evs_var rfl (sql (s2 _ _ (s1 _ _ ha)))) (by rw [List.length_map]; exact Nat.le_trans od.len (by decide)) (fun x => rfl) (fun i x G hx sG => evt_yes) (fun i x G hx sG _ => ?_)
  · refine cp H2 (Same.refl _) Q fun r H3 s3 hr er => q H3 r (s1.trans (s2.trans s3)) ((s1.trans s2).free hr) ?_
    show H3 r = _
    rw [er, picked_all, List.length_map]
    have z := map_range (fun x => V.int (fs.getD ((oP places).idxOf x) 0)) places 0
    show some (HO.lst _) = some (HO.lst ((places.map fun p => fs.getD ((oP places).idxOf p) 0).map V.int))
    rw [z, List.map_map] <;> rfl
  · obtain ⟨x', hx', rfl⟩ := vi_of hx
    have hi : i < places.length := (List.getElem?_eq_some_iff.mp hx').1
    have ex : x' = places.getD i 0 := by rw [List.getD_eq_getElem?_getD, hx'] <;> rfl
    subst ex
    have hm : places.getD i 0 ∈ oP places := g.perm.symm.subset (getD_mem hi)
    have hlt : (oP places).idxOf (places.getD i 0) < (oP places).length := List.idxOf_lt_length_iff.mpr hm
    intro G' s' R k
    refine ⟨_, rfl, _, rfl, p, _, rfl, .inl ⟨_, .inl (places.getD i 0), (.inl ((sG.trans s') _ _ ep)), rfl, ?_⟩, k G' (Same.refl _)⟩
    have mz := merge_zip (oP places) (fs.map V.int) [] g.nodup (by rw [List.length_map]; omega) _ hlt
    rw [getD_idxOf hm] at mz
    rw [mz]
    exact (vi_get (getD_lt (by omega))).symm
theorem in_call {σ : L2.St} {B : Hp} {i j : Nat} {a b : Addr} {places fs : List Int} (hi : σ[i]? = some (some (.ref a))) (hj : σ[j]? = some (some (.ref b))) (ha : Ls B a places) (hb : Ls B b fs) (od : Od places) (hl : fs.length = places.length) :
    EvN (tCall (sp_in_places K) [] E0 (tCons (tVar i) (tCons (tVar j) tNil))) σ B ((inPl places (oP places) fs).map V.int) := fun H s R k =>
  ⟨_, hi, _, hj, a, b, places, fs, rfl, s _ _ ha, s _ _ hb, od, hl, fun H' p s' hp e => k p H' s' hp e⟩
theorem tri_mem {w c : Nat} {o : List Int} {n : List Nat} {r : List Int} (h : r ∈ tri w c o n) : r.length = o.length := by
  unfold tri at h
  obtain ⟨k, _, rfl⟩ := List.mem_map.mp h
  exact row_len
theorem paired_get {α β : Type} {F : α → β → Prop} : ∀ {l : List α} {r : List β} {i : Nat} {x : α}, Paired F l r → l[i]? = some x → ∃ y, r[i]? = some y ∧ F x y
  | _, _, 0, _, .cons h _, e => by
    cases e
    exact ⟨_, rfl, h⟩
  | _, _, i + 1, _, .cons _ t, e => paired_get (i := i) t e
theorem rows_get {H : Hp} {Z : Hp} {rs : List Addr} {rows : List (List Int)} {i : Nat} {x : V} (h : RowsAt Z H rs rows) (e : (rs.map V.ref)[i]? = some x) : ∃ r, x = .ref r ∧ Z r = none ∧ Ls H r (rows.getD i []) ∧ i < rows.length := by
  rw [List.getElem?_map] at e
  cases hr : rs[i]? with
  | none => rw [hr] at e; cases e
  | some r =>
    rw [hr] at e
    cases e
    obtain ⟨y, hy, h1, h2⟩ := paired_get h hr
    refine ⟨r, rfl, h1, ?_, (List.getElem?_eq_some_iff.mp hy).1⟩
    rw [List.getD_eq_getElem?_getD, hy]
    exact h2
theorem rows_len {H Z : Hp} {rs : List Addr} {rows : List (List Int)} (h : RowsAt Z H rs rows) : rs.length = rows.length := Paired.length h
theorem r_triangle (h : sp_triangle K vs H Q E) : t_triangle K (fin Q) (start N_triangle vs) H := by
  obtain ⟨w, c, a, places, rfl, ha, pl, q⟩ := h
  have od := pl.od
  refine ⟨_, rfl, _, rfl, _, rfl, w, c, a, places, rfl, ha, pl, fun H1 s1 => ?_⟩
  refine ⟨_, rfl, _, rfl, _, rfl, w, c, a, places, rfl, s1 _ _ ha, pl, fun H2 p s2 hp ⟨rs, ep, rr⟩ => ?_⟩
  have s12 := s1.trans s2
  have rl := rows_len rr
  have tl : (tri w c (oP places) (nP places)).length = places.length := by rw [tri_len, od.olen]
  have cp := lcRows (K := K) (te := tCall (sp_in_places K) [] E0 (tCons (tVar 1) (tCons (tVar 3) tNil))) (j := 3) (vs := [3]) (tl := tC (.ref p)) (xs := rs.map V.ref) (B := H2) (σ := [some (.int w), some (.ref a), some (.int c), none])
    (fun i => inPl places (oP places) ((tri w c (oP places) (nP places)).getD i [])) (fun H s R k => k p H (Same.refl _) (sql (s _ _ ep))) (by rw [List.length_map, rl, tl]; exact Nat.le_trans od.len (by decide)) (fun x => rfl) (fun i x G hx sG => ?_)
  · refine cp H2 (Same.refl _) Q fun r H3 s3 hr er => q H3 r (s12.trans s3) (s12.free hr) ?_
    have e2 : (List.range (rs.map V.ref).length).map (fun i => inPl places (oP places) ((tri w c (oP places) (nP places)).getD i [])) = triP w c places (oP places) (nP places) := by
      rw [List.length_map, rl]
      exact map_range (inPl places (oP places)) _ []
    rw [e2] at er
    obtain ⟨rs2, d, qq⟩ := er
    exact ⟨rs2, d, Paired.mapP qq fun r xs h => ⟨s12.free h.1, h.2⟩⟩
  · obtain ⟨r, rfl, hr, er, hi⟩ := rows_get rr hx
    refine in_call (i := 1) (j := 3) rfl rfl (sG _ _ (s12 _ _ ha)) (sG _ _ er) od ?_
    rw [tri_mem (getD_mem hi), od.olen]
end
end K53

/-! K53R7: readings: sums, alarms, alarm. -/
namespace K53
open PySem PySem.Spec PyProof.Rows L2

theorem zip_range {α : Type} (g : Int → Int → α) : ∀ (a b : List Int), a.length = b.length → (List.range a.length).map (fun i => g (a.getD i 0) (b.getD i 0)) = List.zipWith g a b
  | [], [], _ => rfl
  | [], _ :: _, h => by cases h
  | _ :: _, [], h => by cases h
  | x :: a, y :: b, h => by
    have ih := zip_range g a b (by simpa using h)
    rw [List.length_cons, List.range_succ_eq_map, List.map_cons, List.map_map, List.zipWith_cons_cons, ← ih]
    rfl
theorem zip_ints (g : Int → Int → Int) (a b : List Int) : (List.zipWith g a b).map V.int = List.zipWith (fun x y => V.int (g x y)) a b := by
  rw [List.map_zipWith]
section
variable {K : PySem.W.Frag} {vs : List V} {H : Hp} {Q : VK} {E : XK}
theorem getD_vi {l : List Int} {i : Nat} {x : V} (h : (l.map V.int)[i]? = some x) : x = .int (l.getD i 0) ∧ i < l.length := by
  obtain ⟨x', hx', rfl⟩ := vi_of h
  refine ⟨?_, (List.getElem?_eq_some_iff.mp hx').1⟩
  rw [List.getD_eq_getElem?_getD, hx'] <;> rfl
/-- word * factor for the two -/
theorem ev_prods {σ : L2.St} {B : Hp} {i j k l : Nat} {vs : List Nat} {a b : Addr} {ws fs : List Int} (hi : σ[i]? = some (some (.ref a))) (hj : σ[j]? = some (some (.ref b))) (ha : Ls B a ws) (hb : Ls B b fs) (hl : ws.length = fs.length) (h64 : ws.length ≤ 64) (hw : ∀ x y, wipe (put2 (wipe σ vs) k l x y) vs = wipe σ vs)
    (hk : ∀ x y, (put2 (wipe σ vs) k l x y)[k]? = some (some x)) (hk2 : ∀ x y, (put2 (wipe σ vs) k l x y)[l]? = some (some y)) (hb0 : ∀ x ∈ ws, 0 ≤ x ∧ x < 2 ^ 64) :
    EvN (tLc (iZipS K (tCons (tVar i) (tCons (tVar j) tNil))) (gTup K 2 (gCons (gName k) (gCons (gName l) gNil))) tYes (tOp oMul (tVar k) (tVar l)) vs) σ B ((List.zipWith (fun x y => x * y) ws fs).map V.int) := by
  have cp := lcZS (K := K) (te := tOp oMul (tVar k) (tVar l)) (tt := tYes) (j := k) (l := l) (vs := vs) (tl := tVar i) (ta := tVar j) (B := B) (σ := σ)
    (fun _ => true) (fun i => .int (ws.getD i 0 * fs.getD i 0)) (evs_var hi (sql ha)) (evs_var hj (sql hb)) (by rw [List.length_map, List.length_map]; exact hl) (by rw [List.length_map]; exact Nat.le_trans h64 (by decide)) hw (fun i x y G hx hy sG => evt_yes) (fun i x y G hx hy sG _ => ?_)
  · rw [picked_all, List.length_map, zip_range (fun x y => V.int (x * y)) ws fs hl, ← zip_ints] at cp
    exact cp
  · obtain ⟨rfl, hi⟩ := getD_vi hx
    obtain ⟨rfl, _⟩ := getD_vi hy
    exact ev1_I (C := CMul) (g := fun i j => .int (i * j)) (ev1_var (hk _ _)) (ev1_var (hk2 _ _)) (.inl ⟨by have := hb0 _ (getD_mem (d := 0) hi); omega, (hb0 _ (getD_mem hi)).2⟩)
theorem r_sums_of (h : sp_sums_of K vs H Q E) : t_sums_of K (fin Q) (start N_sums_of vs) H := by
  obtain ⟨w, c, a, b, places, ws, rfl, ha, hb, pl, iw, q⟩ := h
  have od := pl.od
  have w64 := pl.w64
  refine ⟨Nat.zero_le _, fun F hF => ?_⟩
  have s1 : Same H (upd H F (.lst [])) := same_new hF
  refine ⟨_, rfl, _, rfl, _, rfl, w, c, a, places, rfl, s1 _ _ ha, pl, fun H2 p s2 hp ⟨rs, ep, rr⟩ => ?_⟩
  have s12 := s1.trans s2
  have rl := rows_len rr
  have tl : (tri w c (oP places) (nP places)).length = places.length := by rw [tri_len, od.olen]
  have l64 := od.len
  refine ⟨_, rfl, ⟨_, sql ep⟩, for_list (xs := rs.map V.ref) (fun i σ H' => (∃ y5 y6 y7 y8 : Option V, σ = [some (.int w), some (.ref a), some (.int c), some (.ref b), some (.ref F), y5, y6, y7, y8]) ∧ Col H (fun _ => true) (fun i => .int (dot ws (inPl places (oP places) ((tri w c (oP places) (nP places)).getD i [])) % 2 ^ w)) F i H' ∧ H' p = some (.lst (rs.map V.ref)) ∧ RowsAt (upd H F (.lst [])) H' rs (tri w c (oP places) (nP places)))
    ⟨⟨_, _, _, _, rfl⟩, ⟨s12, s2 _ _ upd_same⟩, ep, rr⟩ (fun i σ H' _ c => sql c.2.2.1) ?_ ?_⟩
  · rintro i x σ H' hx ⟨⟨y5, y6, y7, y8, rfl⟩, cl, ep', rr'⟩
    obtain ⟨r, rfl, hr, er, hi⟩ := rows_get rr' hx
    have fl : ((tri w c (oP places) (nP places)).getD i []).length = places.length := by rw [tri_mem (getD_mem hi), od.olen]
    obtain ⟨row, erow⟩ : ∃ row, (tri w c (oP places) (nP places)).getD i [] = row := ⟨_, rfl⟩
    rw [erow] at er fl
    have sl := cl.1
    refine asgN (i := 6) (in_call (i := 1) (j := 5) rfl rfl (sl _ _ ha) er od fl) fun f H3 s3 hf ef => ?_
    have sl3 := sl.trans s3
    have il : (inPl places (oP places) row).length = places.length := by unfold inPl; rw [List.length_map]
    refine ⟨_, rfl, .inl ⟨rfl, _, sql (s3 _ _ cl.2)⟩, ?_⟩
    have ps := ev_prods (K := K) (σ := [some (.int w), some (.ref a), some (.int c), some (.ref b), some (.ref F), some (.ref r), some (.ref f), y7, y8]) (B := H3) (i := 3) (j := 6) (k := 7) (l := 8) (vs := [7, 8]) rfl rfl (sl3 _ _ hb) ef (by rw [iw.1, il]) (by rw [iw.1]; exact l64) (fun x y => rfl) (fun x y => rfl) (fun x y => rfl) (fun x hx => ⟨(iw.2 x hx).1, Int.lt_of_lt_of_le (iw.2 x hx).2 (pow_bd w64)⟩)
    refine ev1_I (C := fun _ j => 0 < j) (g := fun i j => .int (i % j)) (ev1_sum ps.s) (ev1_pow (n := w) (ev1_var rfl) (by omega)) (two_pow_pos w) _ (Same.refl _) _ fun H4 s4 => ?_
    refine ⟨F, _, _, rfl, rfl, s4 _ _ (s3 _ _ cl.2), ?_, ⟨⟨_, _, _, _, rfl⟩, ⟨same_mut (sl3.trans s4) hF, ?_⟩, ?_, ?_⟩⟩
    · have := picked_len i (fun _ => true) fun i => V.int (dot ws (inPl places (oP places) ((tri w c (oP places) (nP places)).getD i [])) % 2 ^ w)
      exact Nat.lt_of_le_of_lt (Nat.le_trans this (show i ≤ 64 by omega)) (by decide)
    · rw [picked_yes rfl, erow]
      exact upd_same
    · show upd _ _ _ p = _
      rw [upd_ne (ne_of_none (upd_same (H := H) (a := F)) hp).symm]
      exact s4 _ _ (s3 _ _ ep')
    · refine Paired.mapP rr' fun r' xs h => ⟨h.1, ?_⟩
      show upd _ _ _ r' = _
      rw [upd_ne (ne_of_none (upd_same (H := H) (a := F)) h.1).symm]
      exact s4 _ _ (s3 _ _ h.2)
  · rintro σ H' ⟨⟨y5, y6, y7, y8, rfl⟩, cl, ep', rr'⟩
    refine ⟨_, rfl, q H' F cl.1 hF ?_⟩
    show H' F = _
    rw [cl.2, picked_all, List.length_map, rl]
    unfold dueM alarmsM triP
    rw [List.map_map, List.map_map]
    exact congrArg some (congrArg HO.lst (map_range (fun r => V.int (dot ws (inPl places (oP places) r) % 2 ^ w)) (tri w c (oP places) (nP places)) []))
theorem r_alarms (h : sp_alarms K vs H Q E) : t_alarms K (fin Q) (start N_alarms vs) H := by
  obtain ⟨w, c, a, b, places, ws, rfl, ha, hb, pl, iw, q⟩ := h
  exact ⟨_, rfl, _, rfl, _, rfl, w, c, a, places, rfl, ha, pl, fun H1 s1 => ⟨_, rfl, _, rfl, _, rfl, w, a, b, places, ws, rfl, s1 _ _ ha, s1 _ _ hb, pl, iw, fun H2 s2 =>
    ⟨_, rfl, _, rfl, _, rfl, _, rfl, w, c, a, b, places, ws, rfl, s2 _ _ (s1 _ _ ha), s2 _ _ (s1 _ _ hb), pl, iw, fun H3 p s3 hp e => q H3 p (s1.trans (s2.trans s3)) ((s1.trans s2).free hp) e⟩⟩⟩
theorem firstNZ_skip : ∀ (l : List Int) (i k : Nat), (∀ j, j < i → l.getD j 0 = 0) → firstNZ k l = firstNZ (k + i) (l.drop i)
  | l, 0, k, _ => rfl
  | [], i + 1, k, _ => rfl
  | x :: r, i + 1, k, h => by
    have hx : x = 0 := h 0 (by omega)
    have ih := firstNZ_skip r i (k + 1) fun j hj => h (j + 1) (by omega)
    show (if x ≠ 0 then _ else firstNZ (k + 1) r) = _
    rw [if_neg (fun z => z hx), ih, List.drop_succ_cons]
    congr 1
    omega
theorem firstNZ_at {l : List Int} {i : Nat} (hi : i < l.length) (h : ∀ j, j < i → l.getD j 0 = 0) (hx : l.getD i 0 ≠ 0) : firstNZ 0 l = some (i, l.getD i 0) := by
  rw [firstNZ_skip l i 0 h, List.drop_eq_getElem_cons hi]
  have e : l[i] = l.getD i 0 := by rw [List.getD_eq_getElem?_getD, List.getElem?_eq_getElem hi] <;> rfl
  rw [e]
  show (if l.getD i 0 ≠ 0 then _ else _) = _
  rw [if_pos hx, Nat.zero_add]
theorem firstNZ_none {l : List Int} (h : ∀ j, j < l.length → l.getD j 0 = 0) : firstNZ 0 l = none := by
  rw [firstNZ_skip l l.length 0 h, List.drop_length] <;> rfl
theorem r_alarm (h : sp_alarm K vs H Q E) : t_alarm K (fin Q) (start N_alarm vs) H := by
  obtain ⟨w, c, a, b, places, ws, rfl, ha, hb, pl, iw, q⟩ := h
  refine ⟨_, rfl, _, rfl, _, rfl, _, rfl, w, c, a, b, places, ws, rfl, ha, hb, pl, iw, fun H1 p s1 hp ep => ?_⟩
  generalize dueM w c places ws = due at *
  refine ⟨p, _, rfl, sql ep, for_enum (xs := due.map V.int) (fun i σ H' => (∃ y4 y5 : Option V, σ = [some (.int w), some (.ref a), some (.int c), some (.ref b), y4, y5]) ∧ Same H1 H' ∧ ∀ j, j < i → due.getD j 0 = 0) ⟨⟨_, _, rfl⟩, Same.refl _, fun j hj => by omega⟩ (fun i σ H' _ c => sql (c.2.1 _ _ ep)) ?_ ?_⟩
  · rintro i x σ H' T hx ⟨⟨y4, y5, rfl⟩, s2, hz⟩ hT
    obtain ⟨rfl, hi⟩ := getD_vi hx
    refine ⟨T, _, rfl, sqt upd_same, rfl, _, _, rfl, _, _, rfl, rfl, ?_⟩
    have s3 : Same H' (upd H' T (.tup [.int i, .int (due.getD i 0)])) := same_new hT
    refine ⟨_, rfl, rfl, _, rfl, ?_⟩
    by_cases hn : due.getD i 0 = 0
    · have e : (!decide (V.int (due.getD i 0) = V.int 0)) = false := by rw [hn] <;> rfl
      rw [e]
      refine iteF ⟨⟨_, _, rfl⟩, s2.trans s3, fun j hj => ?_⟩
      by_cases hji : j = i
      · rw [hji]
        exact hn
      · exact hz j (by omega)
    · have e : (!decide (V.int (due.getD i 0) = V.int 0)) = true := by
        rw [decide_eq_false]
        · rfl
        · intro z
          injection z with z
          exact hn z
      rw [e]
      refine iteT ⟨_, rfl, _, rfl, by show 2 ≤ sizeLine; decide, fun r hr => q _ _ (s1.trans (s2.trans (s3.trans (same_new hr)))) ?_⟩
      rw [firstNZ_at hi hz hn]
      exact ⟨r, rfl, (s1.trans (s2.trans s3)).free hr, upd_same⟩
  · rintro σ H' ⟨⟨y4, y5, rfl⟩, s2, hz⟩
    rw [List.length_map] at hz
    refine q H' .non (s1.trans s2) ?_
    rw [firstNZ_none hz]
    rfl
end
end K53

/-! K53L1: readings of the law's own defs: numbers drawn, twos. -/
namespace K53
open PySem PySem.Spec PyProof.Rows L2

theorem SameX.refl (g : Addr) (H : Hp) : SameX g H H := fun _ _ _ h => h
theorem SameX.trans {g : Addr} {A B C : Hp} (h : SameX g A B) (k : SameX g B C) : SameX g A C := fun b o n e => k b o n (h b o n e)
theorem sx {g : Addr} {A B : Hp} (h : Same A B) : SameX g A B := fun b o _ e => h b o e
theorem SameX.put {g : Addr} {A B : Hp} {o : HO} (h : SameX g A B) : SameX g A (upd B g o) := fun b u n e => by
  rw [upd_ne n]
  exact h b u n e
theorem SameX.mut {g p : Addr} {A B : Hp} {o : HO} (h : SameX g A B) (hp : A p = none) : SameX g A (upd B p o) := fun b u n e => by
  rw [upd_ne (ne_of_none e hp)]
  exact h b u n e
/-- free behind, but for g free before -/
theorem SameX.free {g p : Addr} {A B : Hp} (h : SameX g A B) (n : p ≠ g) (hp : B p = none) : A p = none := by
  cases e : A p with
  | none => rfl
  | some o => rw [h p o n e] at hp; cases hp
theorem Gen.ne {H : Hp} {g p : Addr} {c : Nat} (G : Gen H g c) (hp : H p = none) : p ≠ g := by
  obtain ⟨x, y, z, e, _⟩ := G
  exact (ne_of_none e hp).symm
theorem Gen.same {H H' : Hp} {g : Addr} {c : Nat} (G : Gen H g c) (s : Same H H') : Gen H' g c := by
  obtain ⟨x, y, z, e, h⟩ := G
  exact ⟨x, y, z, s _ _ e, h⟩
theorem Gen.le {H : Hp} {g : Addr} {c d : Nat} (G : Gen H g c) (h : c ≤ d) : Gen H g d := by
  obtain ⟨x, y, z, e, h0, h1⟩ := G
  exact ⟨x, y, z, e, h0, by omega⟩
section
variable {K : PySem.W.Frag} {σ : L2.St} {B H : Hp} {te ti ta tb : TE} {tt : TT} {v : V} {D : Ends} {t u : TS}
theorem ifs {b : Bool} (h : EvT1 tt σ H b) (h1 : b = true → ∀ H2, Same H H2 → t D σ H2) (h2 : b = false → ∀ H2, Same H H2 → u D σ H2) : tIfS tt t u D σ H := h H (Same.refl H) _ fun H2 s => by
  cases b with
  | true => exact iteT (h1 rfl H2 s)
  | false => exact iteF (h2 rfl H2 s)
theorem evt_lt {i j : Int} (ha : Ev1 ta σ B (.int i)) (hb : Ev1 tb σ B (.int j)) : EvT1 (tTest (tOp oLt ta tb)) σ B (decide (i < j)) := evt_op (ev1_I0 (g := fun i j => .bl (decide (i < j))) ha hb)
theorem evt_gt {i j : Int} (ha : Ev1 ta σ B (.int i)) (hb : Ev1 tb σ B (.int j)) : EvT1 (tTest (tOp oGt ta tb)) σ B (decide (j < i)) := evt_op (ev1_I0 (g := fun i j => .bl (decide (j < i))) ha hb)
theorem ev1_add {i j : Int} (ha : Ev1 ta σ B (.int i)) (hb : Ev1 tb σ B (.int j)) : Ev1 (tOp oAdd ta tb) σ B (.int (i + j)) := ev1_I0 (g := fun i j => .int (i + j)) ha hb
theorem ev1_sub {i j : Int} (ha : Ev1 ta σ B (.int i)) (hb : Ev1 tb σ B (.int j)) : Ev1 (tOp oSub ta tb) σ B (.int (i - j)) := ev1_I0 (g := fun i j => .int (i - j)) ha hb
theorem ev1_mul {i j : Int} (ha : Ev1 ta σ B (.int i)) (hb : Ev1 tb σ B (.int j)) (h : CMul i j) : Ev1 (tOp oMul ta tb) σ B (.int (i * j)) := ev1_I (C := CMul) (g := fun i j => .int (i * j)) ha hb h
theorem ev1_mod {i j : Int} (ha : Ev1 ta σ B (.int i)) (hb : Ev1 tb σ B (.int j)) (h : 0 < j) : Ev1 (tOp oMod ta tb) σ B (.int (i % j)) := ev1_I (C := fun _ j => 0 < j) (g := fun i j => .int (i % j)) ha hb h
theorem ev1_shl {i : Int} {n : Nat} (ha : Ev1 ta σ B (.int i)) (hb : Ev1 tb σ B (.int n)) (h : CPow i n) : Ev1 (tOp oShl ta tb) σ B (.int (i * 2 ^ n)) := ev1_is (ev1_I (C := CPow) (g := fun i j => .int (i * 2 ^ j.toNat)) ha hb h) (by rw [Int.toNat_natCast])
theorem ev1_2 {n : Nat} (hb : Ev1 tb σ B (.int n)) (h : n ≤ 64) : Ev1 (tOp oShl (tC (.int 1)) tb) σ B (.int (2 ^ n)) := ev1_is (ev1_shl ev1_c hb ⟨by omega, by omega, by decide⟩) (by rw [Int.one_mul])
theorem ev1_pw {i : Int} {n : Nat} (ha : Ev1 ta σ B (.int i)) (hb : Ev1 tb σ B (.int n)) (h : CPow i n) : Ev1 (tOp oPow ta tb) σ B (.int (i ^ n)) := ev1_is (ev1_I (C := CPow) (g := fun i j => .int (i ^ j.toNat)) ha hb h) (by rw [Int.toNat_natCast])
theorem ret1 (h : Ev1 te σ H v) (k : ∀ H2, Same H H2 → D.rt v H2) : tRet te D σ H := h H (Same.refl H) _ k
end
section
variable {K : PySem.W.Frag} {vs : List V} {H : Hp} {Q : VK} {E : XK}
theorem r_l_hash (h : sp_l_hash K vs H Q E) : t_l_hash K (fin Q) (start N_l_hash vs) H := by
  obtain ⟨s, i, rfl, i0, i1, q⟩ := h
  refine asg1 (i := 2) (v := .int ((s * 1140671 + 27644437 * i * i + 131 * i + 19) % 2147483629)) ?c1 fun H1 s1 => ?_
  case c1 => exact ev1_mod (ev1_int (ev1_add (ev1_add (ev1_add (ev1_mul (ev1_var rfl) ev1_c (.inr (by decide))) (ev1_mul (ev1_mul ev1_c (ev1_var rfl) (.inl (by decide))) (ev1_var rfl) (.inr ⟨by omega, by omega⟩))) (ev1_mul ev1_c (ev1_var rfl) (.inl (by decide)))) ev1_c)) ev1_c (by decide)
  have b0 := Int.emod_nonneg (s * 1140671 + 27644437 * i * i + 131 * i + 19) (show (2147483629 : Int) ≠ 0 by decide)
  have b1 := Int.emod_lt_of_pos (s * 1140671 + 27644437 * i * i + 131 * i + 19) (show (0 : Int) < 2147483629 by decide)
  generalize (s * 1140671 + 27644437 * i * i + 131 * i + 19) % 2147483629 = m at *
  dsimp only [tNext]
  refine asg1 (i := 2) (v := .int ((m * m + 62089 * i + 32416187) % 2147483587)) ?c2 fun H2 s2 => ?_
  case c2 => exact ev1_mod (ev1_int (ev1_add (ev1_add (ev1_mul (ev1_var rfl) (ev1_var rfl) (.inr ⟨by omega, by omega⟩)) (ev1_mul ev1_c (ev1_var rfl) (.inl (by decide)))) ev1_c)) ev1_c (by decide)
  exact ret1 (ev1_mod (ev1_int (ev1_mul (ev1_var rfl) ev1_c (.inr (by decide)))) ev1_c (by decide)) fun H3 s3 => q H3 _ (s1.trans (s2.trans s3))
theorem r_l_random (h : sp_l_random K vs H Q E) : t_l_random K (fin Q) (start N_l_random vs) H := by
  obtain ⟨g, b, c, rfl, b0, b1, ⟨x, y, z, hg, z0, z1⟩, hc, q⟩ := h
  have nn : ∀ {B : Hp} {σ : L2.St} {j : Nat} {l : List Int}, σ[0]? = some (some (.ref g)) → Ls B g l → j < l.length → Ev1 (tOp (rIxL K) (tVar 0) (tC (.int (j : Int)))) σ B (.int (l.getD j 0)) := fun h1 h2 h3 => ev1_at (evs_var h1 (sql h2)) ev1_c h3
  refine ifs (b := decide (0 < x)) (evt_gt (nn (j := 0) rfl hg (by show 0 < 3; decide)) ev1_c) (fun hx H1 s1 => ?_) fun hx H1 s1 => ?_
  · refine asg1 (i := 2) (v := .int (x % b)) (ev1_mod (ev1_int (nn (j := 0) rfl (s1 _ _ hg) (by show 0 < 3; decide))) (ev1_var rfl) b0) fun H2 s2 => ?_
    refine asgSub (i := 0) (p := g) (j := 0) (z := x / b) (fs := [x, y, z]) (ev1_I (C := CDivW) (g := fun i j => .int (i / j)) (nn (j := 0) rfl (s2 _ _ (s1 _ _ hg)) (by show 0 < 3; decide)) (ev1_var rfl) (wide_div b0 (b := 100) (by omega) (by decide) (by decide))) rfl ev1_c (s2 _ _ (s1 _ _ hg)) (by show 0 < 3; decide) fun H3 s3 => ?_
    exact ⟨_, rfl, q _ _ (sx (s1.trans (s2.trans s3))).put ⟨x / b, y, z, upd_same, z0, by omega⟩ (Int.emod_nonneg _ (Int.ne_of_gt b0)) (Int.emod_lt_of_pos _ b0)⟩
  · dsimp only [tNext]
    refine asg1 (i := 2) (v := .int 0) ev1_c fun H2 s2 => ?_
    have bits : Builtin.Int.intBits b ≤ 100 := intBits_le (by omega)
    have s12 := s1.trans s2
    generalize ebt : Builtin.Int.intBits b = bt at *
    have e4 : (1 : Int) + (bt : Int) / 30 = ((1 + bt / 30 : Nat) : Int) := by omega
    have c3 : Ev1 (tOp oDiv (tBits (tVar 1)) (tC (.int 30))) ([some (.ref g), some (.int b), some (.int 0), none] : L2.St) H2 (.int ((bt : Int) / 30)) :=
      ev1_I (C := CDiv) (g := fun i j => .int (i / j)) (fun G sG R k => ⟨_, rfl, b, rfl, by rw [ebt]; exact k G (Same.refl _)⟩) ev1_c (show (0 : Int) < 30 ∧ (30 : Int) < 1073741824 by decide)
    refine ev1_add (i := 1) (j := (bt : Int) / 30) ev1_c c3 _ (Same.refl _) _ fun H3 s3 => ⟨_, rfl, by omega, by omega, ?_⟩
    have en : ((1 : Int) + (bt : Int) / 30).toNat = 1 + bt / 30 := by omega
    refine for_range (fun i σ G => (∃ (d : Int) (y3 : Option V), σ = [some (.ref g), some (.int b), some (.int d), y3]) ∧ SameX g H G ∧ Ls G g [x, y, z + i]) ⟨⟨0, none, rfl⟩, sx (s12.trans s3), by rw [show z + ((0 : Nat) : Int) = z by omega]; exact s3 _ _ (s12 _ _ hg)⟩ ?_ ?_
    · rintro i σ G hi ⟨⟨d, y3, rfl⟩, sg, eg⟩
      refine asgSub (i := 0) (p := g) (j := 2) (z := z + i + 1) (fs := [x, y, z + i]) (ev1_add (nn (j := 2) rfl eg (by show 2 < 3; decide)) ev1_c) rfl ev1_c eg (by show 2 < 3; decide) fun G1 g1 => ?_
      have eg2 : Ls (upd G1 g (.lst ((([x, y, z + i] : List Int).set 2 (z + i + 1)).map V.int))) g [x, y, z + i + 1] := upd_same
      have sg2 : SameX g H (upd G1 g (.lst ((([x, y, z + i] : List Int).set 2 (z + i + 1)).map V.int))) := (sg.trans (sx g1)).put
      generalize upd G1 g (.lst ((([x, y, z + i] : List Int).set 2 (z + i + 1)).map V.int)) = G2 at *
      refine ⟨_, rfl, d, _, rfl, rfl, .inr (by decide), ?_⟩
      refine nn (j := 1) rfl eg2 (by show 1 < 3; decide) _ (Same.refl _) _ fun G3 g3 => nn (j := 2) rfl eg2 (by show 2 < 3; decide) _ g3 _ fun G4 g4 => ⟨y, z + i + 1, rfl, by omega, by omega, fun G5 r g5 => ?_⟩
      refine ⟨_, _, rfl, rfl, ⟨_, _, rfl⟩, sg2.trans (sx (g3.trans (g4.trans g5))), ?_⟩
      rw [show z + ((i + 1 : Nat) : Int) = z + i + 1 by omega]
      exact g5 _ _ (g4 _ _ (g3 _ _ eg2))
    · rintro σ G ⟨⟨d, y3, rfl⟩, sg, eg⟩
      refine ret1 (ev1_mod (ev1_int (ev1_var rfl)) (ev1_var rfl) b0) fun G1 g1 => q G1 _ (sg.trans (sx g1)) ⟨x, y, _, g1 _ _ eg, by omega, by omega⟩ (Int.emod_nonneg _ (Int.ne_of_gt b0)) (Int.emod_lt_of_pos _ b0)
end
end K53

/-! K53L2: readings of the law's own defs: cells, generators, twos, orders, products, items. -/
namespace K53
open PySem PySem.Spec PyProof.Rows L2

theorem int_sum : ∀ l : List Nat, (l.map fun (n : Nat) => (n : Int)).sum = ((l.sum : Nat) : Int)
  | [] => rfl
  | x :: r => by
    rw [List.map_cons, List.sum_cons, List.sum_cons, int_sum r, Int.natCast_add]
theorem max_pos (a b : Int) : (if (0 : Int) > a then (0 : Int) else a) = max a 0 := by
  by_cases h : (0 : Int) > a
  · rw [if_pos h]; omega
  · rw [if_neg h]; omega
theorem amin_first {l : List Nat} (h : ∀ x ∈ l, x = 0) (hl : l ≠ []) : amin l = 0 := by
  have f := amin_spec l hl
  by_cases e : amin l = 0
  · exact e
  · have h1 := f.first 0 (by omega)
    have h2 : l.getD (amin l) 0 = 0 := h _ (getD_mem f.lt)
    have h3 : l.getD 0 0 = 0 := h _ (getD_mem (List.length_pos_iff.mpr hl))
    omega
theorem filter_range {p : Nat → Bool} {m : Nat} : ∀ n, (∀ i, i < n → p i = decide (i < m)) → (List.range n).filter p = List.range (min n m)
  | 0, _ => by rw [Nat.zero_min] <;> rfl
  | n + 1, h => by
    rw [List.range_succ, List.filter_append, filter_range n fun i hi => h i (by omega)]
    by_cases hm : n < m
    · rw [List.filter_cons_of_pos (by rw [h n (by omega)]; exact decide_eq_true hm), Nat.min_eq_left (by omega), Nat.min_eq_left (by omega), List.range_succ] <;> rfl
    · rw [List.filter_cons_of_neg (by rw [h n (by omega), decide_eq_false hm]; decide), Nat.min_eq_right (by omega), Nat.min_eq_right (by omega)]
      simp
theorem good_first {places : List Int} (h : places ≠ []) : grow (places.length - 1) [places.getD 0 0] [0] (places.drop 1) = good places := by
  cases places with
  | nil => exact absurd rfl h
  | cons a r =>
    have z : ∀ x ∈ ((a :: r).map (sT [])), x = 0 := fun x hx => by
      obtain ⟨y, _, e⟩ := List.mem_map.mp hx
      exact e.symm
    have e0 : amin ((a :: r).map (sT [])) = 0 := amin_first z (by simp)
    show grow r.length [a] [0] r = grow (r.length + 1) [] [] (a :: r)
    rw [grow_cons (by simp), e0]
    rfl
section
variable {K : PySem.W.Frag} {σ : L2.St} {B H : Hp} {te ti ta tb : TE} {v : V} {D : Ends} {xs zs : List V}
theorem ev_cat (ha : EvN ta σ B xs) (hb : EvN tb σ B zs) (hz : xs.length + zs.length ≤ 1000000) : EvN (tOp rCat ta tb) σ B (xs ++ zs) := fun H s R k => ha H s _ fun p H1 s1 hp ep => hb H1 (s.trans s1) _ fun r H2 s2 hr er =>
  ⟨p, r, xs, zs, rfl, rfl, s2 _ _ ep, er, Nat.le_trans hz (by decide), fun t ht => k t _ (s1.trans (s2.trans (same_new ht))) ((s1.trans s2).free ht) upd_same⟩
theorem asgS {te : TE} {i : Nat} {D : Ends} {σ : L2.St} {H : Hp} {xs : List V} (c : EvS K te σ H xs) (k : ∀ p H2, Same H H2 → SqL K H2 p xs → D.nx (σ.set i (some (.ref p))) H2) : tAsg te (gName i) D σ H := c H (Same.refl H) _ k
theorem retN {te : TE} {D : Ends} (c : EvN te σ H xs) (k : ∀ p H2, Same H H2 → H p = none → H2 p = some (.lst xs) → D.rt (.ref p) H2) : tRet te D σ H := c H (Same.refl H) _ k
end
section
variable {K : PySem.W.Frag} {vs : List V} {H : Hp} {Q : VK} {E : XK}
theorem r_l_cell (h : sp_l_cell K vs H Q E) : t_l_cell K (fin Q) (start N_l_cell vs) H := by
  obtain ⟨a, i, ns, rfl, ha, q⟩ := h
  refine ifs (b := decide ((i : Int) < ns.length)) (evt_lt (ev1_var rfl) (ev1_is (ev1_len (xs := ns.map V.int) (evs_var rfl ha)) (by rw [List.length_map]))) (fun hb H1 s1 => ?_) fun hb H1 s1 => ?_
  · have hi : i < ns.length := by
      have := of_decide_eq_true hb
      omega
    exact ret1 (ev1_at (l := ns) (evs_var (i := 0) rfl (s1.seq ha)) (ev1_var rfl) hi) fun H2 s2 => q H2 _ (s1.trans s2)
  · have sl : EvN (tSl (rSlL K) (tVar 0) tNoPart (tPart (tC (.int 1)))) ([some (.ref a), some (.int i)] : L2.St) H1 ((ns.take 1).map V.int) := by
      have z := ev_slice (K := K) (B := H1) (σ := ([some (.ref a), some (.int i)] : L2.St)) (te := tVar 0) (evs_var rfl (s1.seq ha)) evo_none (evo_some (te := tC (.int 1)) (i := ((1 : Nat) : Int)) ev1_c)
      rw [cut_to, map_take] at z
      exact z
    dsimp only [tNext]
    exact ret1 (ev1_mod (ev1_sum sl.s) ev1_c (by decide)) fun H2 s2 => q H2 _ (s1.trans s2)
theorem r_l_generator (h : sp_l_generator K vs H Q E) : t_l_generator K (fin Q) (start N_l_generator vs) H := by
  obtain ⟨a, i, ns, rfl, hi, ha, q⟩ := h
  refine ⟨_, rfl, _, rfl, a, i, ns, rfl, ha, fun H1 r s1 => ?_⟩
  have b1 : Ev1 (tOp oMod (tCB oInt (tCons (tCB oMax2 (tCons (tOp oSub (tVar 2) (tOp oPow (tC (.int 10)) (tC (.int 18)))) (tCons (tC (.int 0)) tNil))) tNil)) (tOp oPowW (tOp oPow (tC (.int 10)) (tC (.int 60))) (tC (.int 10)))) ([some (.ref a), some (.int i), some (.int r)] : L2.St) H1 (.int ((if (0 : Int) > r - 10 ^ 18 then (0 : Int) else r - 10 ^ 18) % (((10 : Int) ^ 60) ^ 10))) := by
    refine ev1_mod (ev1_int fun G s R k => ev1_sub (ev1_var (i := 2) rfl) (ev1_pw (n := 18) (ev1_c (v := .int 10)) ev1_c ⟨by decide, by decide, by decide⟩) G s _ fun G2 s2 => ⟨_, _, rfl, k G2 s2⟩) ?_ ?_
    · exact ev1_is (ev1_I (C := CPowW) (g := fun i j => .int (i ^ j.toNat)) (ev1_pw (n := 60) (ev1_c (v := .int 10)) ev1_c ⟨by decide, by decide, by decide⟩) ev1_c ⟨by decide, by decide +kernel⟩) rfl
    · exact Int.pow_pos (Int.pow_pos (by decide))
  refine b1 _ (Same.refl _) _ fun H2 s2 => ?_
  refine ev1_mod (ev1_int (ev1_var (i := 2) rfl)) ev1_c (show (0 : Int) < 2147483647 by decide) _ (Same.refl _) _ fun H3 s3 => ?_
  refine ev1_mul ev1_c (ev1_var (i := 1) rfl) (.inl (by decide)) _ (Same.refl _) _ fun H4 s4 => ⟨by show 3 ≤ sizeLine; decide, fun p hp => ?_⟩
  have s := s1.trans (s2.trans (s3.trans s4))
  exact q _ p (s.trans (same_new hp)) (s.free hp) ⟨_, _, _, upd_same, by omega, by omega⟩
theorem r_l_twos (h : sp_l_twos K vs H Q E) : t_l_twos K (fin Q) (start N_l_twos vs) H := by
  obtain ⟨n, rfl, q⟩ := h
  refine ⟨_, rfl, by decide, by decide, for_range (n := 900) (fun i σ H' => Same H H' ∧ ∃ (m : Int) (y : Option V), σ = [some (.int m), some (.int i), y] ∧ twF (900 - i) m + i = tw n) ⟨Same.refl _, n, none, rfl, rfl⟩ ?_ ?_⟩
  · rintro i σ H' hi ⟨s, m, y, rfl, e⟩
    obtain ⟨k, ek⟩ : ∃ k, 900 - i = k + 1 := ⟨900 - i - 1, by omega⟩
    have ek2 : 900 - (i + 1) = k := by omega
    rw [ek] at e
    refine ifs (b := decide (m % 2 = 1)) (evt_op (fun G sG R k => ev1_mod (ev1_int (ev1_var rfl)) ev1_c (by decide) G sG _ fun G2 s2 => ⟨rfl, by
      have e2 : decide (V.int (m % 2) = V.int 1) = decide (m % 2 = 1) := decide_eq_decide.mpr ⟨fun z => by injection z, fun z => by rw [z]⟩
      rw [e2]
      exact k G2 s2⟩)) (fun hb G sG => ?_) fun hb G sG => ?_
    · have h1 := of_decide_eq_true hb
      have e3 : i = tw n := by
        rw [← e]
        unfold twF
        rw [if_pos h1, Nat.zero_add]
      refine ret1 (ev1_var (i := 1) rfl) fun G2 s2 => ?_
      rw [e3]
      exact q G2 (s.trans (sG.trans s2))
    · have h1 := of_decide_eq_false hb
      refine ev1_add (ev1_var (i := 1) rfl) ev1_c _ (Same.refl _) _ fun G1 s1 => ?_
      refine ev1_I (C := CDiv) (g := fun i j => .int (i / j)) (ev1_var (i := 0) rfl) ev1_c (show (0 : Int) < 2 ∧ (2 : Int) < 1073741824 by decide) _ (Same.refl _) _ fun G2 s2 => ⟨_, _, rfl, s.trans (sG.trans (s1.trans s2)), m / 2, _, rfl, ?_⟩
      rw [ek2, ← e]
      conv => rhs; unfold twF
      rw [if_neg h1]
      omega
  · rintro σ H' ⟨s, m, y, rfl, e⟩
    refine ret1 (ev1_var (i := 1) rfl) fun G2 s2 => ?_
    have e3 : (900 : Nat) = tw n := by
      rw [← e]
      rfl
    rw [e3]
    exact q G2 (s.trans s2)
theorem r_l_product (h : sp_l_product K vs H Q E) : t_l_product K (fin Q) (start N_l_product vs) H := by
  obtain ⟨a, o, m, x, rfl, ha, hb, q⟩ := h
  exact r_product_at (E := E) ⟨a, o, m, x, rfl, ha, hb, q⟩
theorem r_l_items (h : sp_l_items K vs H Q E) : t_l_items K (fin Q) (start N_l_items vs) H := by
  obtain ⟨w, c, a, places, rfl, ha, od, ne, q⟩ := h
  have g := od.good
  refine ⟨_, rfl, a, places, rfl, ha, od, ne, fun H1 t o n s1 ht ho hn et eo en => ⟨t, _, rfl, sql et, rfl, _, _, rfl, _, _, rfl, rfl, ?_⟩⟩
  have l64 := od.len
  have olen := od.olen
  have nlen : (nP places).length = (oP places).length := g.len
  have cp := lcR1 (te := tVar 5) (tt := tAnd (tTest (tOp oLt (tVar 5) (tVar 2))) (tTest (tOp oLt (tOp (rIxL K) (tVar 4) (tVar 5)) (tVar 0)))) (j := 5) (vs := [5]) (n := (oP places).length) (ta := tCons (tCB (rLenS K) (tCons (tVar 3) tNil)) tNil) (B := H1) (σ := [some (.int w), some (.ref a), some (.int c), some (.ref o), some (.ref n), none])
    (fun i => decide (i < c) && decide ((nP places).getD i 0 < w)) (fun i => .int (i : Int)) (eva_cons (ev1_is (ev1_len (xs := (oP places).map V.int) (evs_var (i := 3) rfl (sql eo))) (by rw [List.length_map])) eva_nil) (by omega) (fun x => rfl) (fun i G hi sG => ?_) (fun i G hi sG _ => ev1_var rfl)
  · refine retN cp fun p H2 s2 hp ep => q H2 p (s1.trans s2) (s1.free hp) ?_
    show H2 p = _
    rw [ep]
    have e : ∀ i, i < (oP places).length → (decide (i < c) && decide ((nP places).getD i 0 < w)) = decide (i < cnt w c (nP places)) := fun i hi => by
      rw [← Bool.decide_and]
      exact decide_eq_decide.mpr ⟨fun z => (lt_cnt g).mpr ⟨hi, z⟩, fun z => ((lt_cnt g).mp z).2⟩
    unfold picked ni
    rw [filter_range _ e, Nat.min_eq_right (cnt_le g), List.map_map] <;> rfl
  · refine evt_and (evt_is (evt_lt (ev1_var (i := 5) rfl) (ev1_var (i := 2) rfl)) (decide_eq_decide.mpr (by omega))) (evt_is (evt_lt (ev1_at (l := ni (nP places)) (evs_var (i := 4) rfl (sql (sG _ _ en))) (ev1_var (i := 5) rfl) (by rw [ni_len]; omega)) (ev1_var (i := 0) rfl)) (decide_eq_decide.mpr ?_))
    unfold ni
    rw [getD_map (d := 0) (by omega)]
    omega
end
end K53

/-! K53L3: readings of the law's own defs: the order. -/
namespace K53
open PySem PySem.Spec PyProof.Rows L2
section
variable {K : PySem.W.Frag} {vs : List V} {H : Hp} {Q : VK} {E : XK}
structure GO (H : Hp) (places : List Int) (a : Addr) (i : Nat) (σ : L2.St) (H' : Hp) (o n l : Addr) (ord : List Int) (nums : List Nat) (left : List Int) : Prop where
  st : ∃ y4 y5 y6 y7 y8, σ = [some (.ref a), some (.ref o), some (.ref n), some (.ref l), y4, y5, y6, y7, y8]
  same : Same H H'
  ho : Ls H' o ord
  hn : Ls H' n (ni nums)
  hl : Ls H' l left
  on : o ≠ n
  ol : o ≠ l
  nl : n ≠ l
  len : left.length = places.length - 1 - i
  sz : ord.length + left.length = places.length
  nz : nums.length = ord.length
  go : grow left.length ord nums left = good places
theorem r_l_order (h : sp_l_order K vs H Q E) : t_l_order K (fin Q) (start N_l_order vs) H := by
  obtain ⟨a, places, rfl, ha, od, ne, q⟩ := h
  have l64 := od.len
  have lpos : 0 < places.length := List.length_pos_iff.mpr ne
  refine ev1_at (l := places) (j := 0) (evs_var rfl (sql ha)) ev1_c lpos _ (Same.refl _) _ fun H1 s1 => ⟨by show 1 ≤ sizeLine; decide, fun o ho => ⟨by show 1 ≤ sizeLine; decide, fun n hn => ?_⟩⟩
  have s2 : Same H1 (upd H1 o (.lst [.int (places.getD 0 0)])) := same_new ho
  have o2 : upd H1 o (.lst [.int (places.getD 0 0)]) o = some (.lst [.int (places.getD 0 0)]) := upd_same
  generalize upd H1 o (.lst [.int (places.getD 0 0)]) = H2 at *
  have s3 : Same H2 (upd H2 n (.lst [.int 0])) := same_new hn
  have n3 : upd H2 n (.lst [.int 0]) n = some (.lst [.int 0]) := upd_same
  generalize upd H2 n (.lst [.int 0]) = H3 at *
  have s03 := s1.trans (s2.trans s3)
  have sl : EvN (tSl (rSlL K) (tVar 0) (tPart (tC (.int 1))) tNoPart) (start N_l_order [.ref a]) H3 ((places.drop 1).map V.int) := by
    have z := ev_slice (K := K) (B := H3) (σ := start N_l_order [.ref a]) (te := tVar 0) (evs_var rfl (sql (s03 _ _ ha))) (evo_some (te := tC (.int 1)) (i := ((1 : Nat) : Int)) ev1_c) evo_none
    rw [cut_from, map_drop] at z
    exact z
  refine sl _ (Same.refl _) _ fun l H4 s4 hl el => ⟨by show 3 ≤ sizeLine; decide, fun t ht => ⟨t, _, rfl, sqt upd_same, rfl, _, _, rfl, _, _, rfl, _, _, rfl, rfl, ?_⟩⟩
  have s5 : Same H4 (upd H4 t (.tup [.ref o, .ref n, .ref l])) := same_new ht
  generalize upd H4 t (.tup [.ref o, .ref n, .ref l]) = H5 at *
  have hol : o ≠ l := ne_of_none (s3 _ _ o2) hl
  have hnl : n ≠ l := ne_of_none n3 hl
  have hon : o ≠ n := ne_of_none o2 hn
  have o0 : H o = none := s1.free ho
  have n0 : H n = none := (s1.trans s2).free hn
  have len1 : (places.drop 1).length = places.length - 1 := List.length_drop
  have start_ : GO H places a 0 ([some (.ref a), some (.ref o), some (.ref n), some (.ref l), none, none, none, none, none] : L2.St) H5 o n l [places.getD 0 0] [0] (places.drop 1) :=
    ⟨⟨none, none, none, none, none, rfl⟩, s03.trans (s4.trans s5), s5 _ _ (s4 _ _ (s3 _ _ o2)), s5 _ _ (s4 _ _ n3), s5 _ _ el, hon, hol, hnl, by omega, by show 1 + _ = _; omega, rfl, by rw [len1]; exact good_first ne⟩
  clear el hol hnl s5 s4
  refine ev1_sub (ev1_is (ev1_len (xs := places.map V.int) (evs_var (i := 0) rfl (sql (start_.same _ _ ha)))) (by rw [List.length_map])) ev1_c _ (Same.refl _) _ fun H6 s6 => ⟨_, rfl, by omega, by omega, ?_⟩
  have start2 : GO H places a 0 ([some (.ref a), some (.ref o), some (.ref n), some (.ref l), none, none, none, none, none] : L2.St) H6 o n l [places.getD 0 0] [0] (places.drop 1) :=
    { start_ with st := ⟨none, none, none, none, none, rfl⟩, same := start_.same.trans s6, ho := s6 _ _ start_.ho, hn := s6 _ _ start_.hn, hl := s6 _ _ start_.hl }
  refine for_range (fun i σ H' => ∃ l ord nums left, GO H places a i σ H' o n l ord nums left) ⟨l, _, _, _, start2⟩ ?_ ?_
  · rintro i σ G hi ⟨l, ord, nums, left, g⟩
    obtain ⟨y4, y5, y6, y7, y8, rfl⟩ := g.st
    have hleft : left ≠ [] := by
      have := g.len
      intro z
      rw [z] at this
      simp at this
      omega
    have hord : ord.length ≤ 64 := by have := g.sz; omega
    have hl64 : left.length ≤ 64 := by have := g.sz; omega
    -- the sums
    have cp := lcL (K := K) (te := tCB (rSum K) (tCons (tLc (iList K (tVar 1)) (gName 8) tYes (tCall (sp_l_twos K) [] E0 (tCons (tOp oSub (tVar 7) (tVar 8)) tNil)) [8]) tNil)) (tt := tYes) (j := 7) (vs := [7]) (tl := tVar 3) (xs := left.map V.int) (B := G)
      (σ := [some (.ref a), some (.ref o), some (.ref n), some (.ref l), some (.int (0 + (i : Nat))), y5, y6, y7, y8]) (fun _ => true) (fun k => .int ((sT ord (left.getD k 0) : Nat) : Int)) (evs_var (i := 3) rfl (sql g.hl)) (by rw [List.length_map]; omega) (fun x => rfl) (fun k x G1 hx s1 => evt_yes) (fun k x G1 hx s1 _ => ?_)
    · refine asgN (i := 5) cp fun s G1 g1 hs es => ?_
      have es2 : Ls G1 s (ni (left.map (sT ord))) := by
        show G1 s = _
        rw [es, picked_all, List.length_map, map_range (fun x => V.int ((sT ord x : Nat) : Int)) left 0]
        unfold ni
        rw [List.map_map, List.map_map] <;> rfl
      have hsum : left.map (sT ord) ≠ [] := by simpa using hleft
      have fm := amin_spec _ hsum
      generalize ej : amin (left.map (sT ord)) = j at *
      have hj : j < left.length := by have := fm.lt; rwa [List.length_map] at this
      -- at
      have am := ev_argmin (K := K) (σ := [some (.ref a), some (.ref o), some (.ref n), some (.ref l), some (.int (0 + (i : Nat))), some (.ref s), y6, y7, y8]) (B := G1) (i := 5) rfl (sql es2) hsum
      rw [ej] at am
      refine asg1 (i := 6) am fun G2 g2 => ?_
      -- order.append(left[at])
      have o2' := g2 _ _ (g1 _ _ g.ho)
      have n2' := g2 _ _ (g1 _ _ g.hn)
      have l2' := g2 _ _ (g1 _ _ g.hl)
      have e2' := g2 _ _ es2
      have b2 : Same H G2 := g.same.trans (g1.trans g2)
      refine ⟨_, rfl, .inl ⟨rfl, _, sql o2'⟩, ?_⟩
      refine ev1_at (l := left) (j := j) (evs_var (i := 3) rfl (sql l2')) (ev1_var (i := 6) rfl) hj _ (Same.refl _) _ fun G3 g3 => ⟨o, _, _, rfl, rfl, g3 _ _ o2', by rw [List.length_map]; exact Nat.lt_of_le_of_lt hord (by decide), ?_⟩
      rw [← vi_snoc]
      have o4 : Ls (upd G3 o (.lst ((ord ++ [left.getD j 0]).map V.int))) o (ord ++ [left.getD j 0]) := upd_same
      have n4 : Ls (upd G3 o (.lst ((ord ++ [left.getD j 0]).map V.int))) n (ni nums) := by
        show upd _ _ _ n = _
        rw [upd_ne g.on.symm]
        exact g3 _ _ n2'
      have l4 : Ls (upd G3 o (.lst ((ord ++ [left.getD j 0]).map V.int))) l left := by
        show upd _ _ _ l = _
        rw [upd_ne g.ol.symm]
        exact g3 _ _ l2'
      have hso : s ≠ o := (ne_of_none g.ho hs).symm
      have hsn : s ≠ n := (ne_of_none g.hn hs).symm
      have e4 : Ls (upd G3 o (.lst ((ord ++ [left.getD j 0]).map V.int))) s (ni (left.map (sT ord))) := by
        show upd _ _ _ s = _
        rw [upd_ne hso]
        exact g3 _ _ e2'
      have b4 : Same H (upd G3 o (.lst ((ord ++ [left.getD j 0]).map V.int))) := same_mut (b2.trans g3) o0
      generalize upd G3 o (.lst ((ord ++ [left.getD j 0]).map V.int)) = G4 at *
      -- numbers.append(sums[at])
      refine ⟨_, rfl, .inl ⟨rfl, _, sql n4⟩, ?_⟩
      refine ev1_at (l := ni (left.map (sT ord))) (j := j) (evs_var (i := 5) rfl (sql e4)) (ev1_var (i := 6) rfl) (by rw [ni_len, List.length_map]; exact hj) _ (Same.refl _) _ fun G5 g5 => ⟨n, _, _, rfl, rfl, g5 _ _ n4, by rw [List.length_map, ni_len, g.nz]; exact Nat.lt_of_le_of_lt hord (by decide), ?_⟩
      have en : (ni (left.map (sT ord))).getD j 0 = (((left.map (sT ord)).getD j 0 : Nat) : Int) := by
        have z := ni_getD (l := left.map (sT ord)) (j := j) (by rw [List.length_map]; exact hj)
        rw [List.getD_eq_getElem?_getD, z] <;> rfl
      rw [en, ← vi_snoc, ← ni_snoc]
      have n6 : Ls (upd G5 n (.lst ((ni (nums ++ [(left.map (sT ord)).getD j 0])).map V.int))) n (ni (nums ++ [(left.map (sT ord)).getD j 0])) := upd_same
      have o6 : Ls (upd G5 n (.lst ((ni (nums ++ [(left.map (sT ord)).getD j 0])).map V.int))) o (ord ++ [left.getD j 0]) := by
        show upd _ _ _ o = _
        rw [upd_ne g.on]
        exact g5 _ _ o4
      have l6 : Ls (upd G5 n (.lst ((ni (nums ++ [(left.map (sT ord)).getD j 0])).map V.int))) l left := by
        show upd _ _ _ l = _
        rw [upd_ne g.nl.symm]
        exact g5 _ _ l4
      have b6 : Same H (upd G5 n (.lst ((ni (nums ++ [(left.map (sT ord)).getD j 0])).map V.int))) := same_mut (b4.trans g5) n0
      generalize upd G5 n (.lst ((ni (nums ++ [(left.map (sT ord)).getD j 0])).map V.int)) = G6 at *
      -- left = left[:at] + left[at + 1:]
      have c1 : EvN (tSl (rSlL K) (tVar 3) tNoPart (tPart (tVar 6))) ([some (.ref a), some (.ref o), some (.ref n), some (.ref l), some (.int (0 + (i : Nat))), some (.ref s), some (.int j), y7, y8] : L2.St) G6 ((left.take j).map V.int) := by
        have z := ev_slice (K := K) (B := G6) (σ := ([some (.ref a), some (.ref o), some (.ref n), some (.ref l), some (.int (0 + (i : Nat))), some (.ref s), some (.int j), y7, y8] : L2.St)) (te := tVar 3) (evs_var rfl (sql l6)) evo_none (evo_some (te := tVar 6) (i := (j : Int)) (ev1_var rfl))
        rw [cut_to, map_take] at z
        exact z
      have c2 : EvN (tSl (rSlL K) (tVar 3) (tPart (tOp oAdd (tVar 6) (tC (.int 1)))) tNoPart) ([some (.ref a), some (.ref o), some (.ref n), some (.ref l), some (.int (0 + (i : Nat))), some (.ref s), some (.int j), y7, y8] : L2.St) G6 ((left.drop (j + 1)).map V.int) := by
        have z := ev_slice (K := K) (B := G6) (σ := ([some (.ref a), some (.ref o), some (.ref n), some (.ref l), some (.int (0 + (i : Nat))), some (.ref s), some (.int j), y7, y8] : L2.St)) (te := tVar 3) (evs_var rfl (sql l6)) (evo_some (te := tOp oAdd (tVar 6) (tC (.int 1))) (i := ((j + 1 : Nat) : Int)) (ev1_is (ev1_add (i := (j : Int)) (j := 1) (ev1_var rfl) ev1_c) rfl)) evo_none
        rw [cut_from, map_drop] at z
        exact z
      have cc := ev_cat c1 c2 (by rw [List.length_map, List.length_map, List.length_take, List.length_drop]; omega)
      rw [← List.map_append, ← List.eraseIdx_eq_take_drop_succ] at cc
      refine asgN (i := 3) cc fun l' G7 g7 hl' el' => ?_
      have elen : (left.eraseIdx j).length = left.length - 1 := List.length_eraseIdx_of_lt hj
      refine ⟨l', _, _, left.eraseIdx j, ⟨⟨_, _, _, _, _, rfl⟩, b6.trans g7, g7 _ _ o6, g7 _ _ n6, el', g.on, ne_of_none o6 hl', ne_of_none n6 hl', ?_, ?_, ?_, ?_⟩⟩
      · have := g.len
        omega
      · have := g.sz
        rw [List.length_append, elen]
        show ord.length + 1 + _ = _
        omega
      · rw [List.length_append, List.length_append, g.nz] <;> rfl
      · have eg := g.go
        have el2 : left.length = (left.eraseIdx j).length + 1 := by omega
        rw [el2, grow_cons hleft, ej] at eg
        exact eg
    · obtain ⟨rfl, hk⟩ := getD_vi hx
      have inner := lcL (K := K) (te := tCall (sp_l_twos K) [] E0 (tCons (tOp oSub (tVar 7) (tVar 8)) tNil)) (tt := tYes) (j := 8) (vs := [8]) (tl := tVar 1) (xs := ord.map V.int) (B := G1)
        (σ := [some (.ref a), some (.ref o), some (.ref n), some (.ref l), some (.int (0 + (i : Nat))), y5, y6, some (.int (left.getD k 0)), y8]) (fun _ => true) (fun k' => .int ((tw (left.getD k 0 - ord.getD k' 0) : Nat) : Int)) (evs_var (i := 1) rfl (sql (s1 _ _ g.ho))) (by rw [List.length_map]; omega) (fun x => rfl) (fun k x G1 hx s1 => evt_yes) (fun k' x G2 hx s2 _ => ?_)
      · rw [picked_all, List.length_map, map_range (fun y => V.int ((tw (left.getD k 0 - y) : Nat) : Int)) ord 0] at inner
        refine ev1_is (ev1_sum (ns := (ord.map fun y => tw (left.getD k 0 - y)).map fun (n : Nat) => (n : Int)) (EvN.s ?_)) (by rw [int_sum] <;> rfl)
        rw [List.map_map, List.map_map]
        exact inner
      · obtain ⟨rfl, hk'⟩ := getD_vi hx
        exact ev1_call (eva_cons (ev1_sub (ev1_var (i := 7) rfl) (ev1_var (i := 8) rfl)) eva_nil) fun G s R k => ⟨_, rfl, k⟩
  · rintro σ G ⟨l, ord, nums, left, g⟩
    obtain ⟨y4, y5, y6, y7, y8, rfl⟩ := g.st
    have hl0 : left = [] := by
      have := g.len
      apply List.eq_nil_of_length_eq_zero
      omega
    subst hl0
    have eg : (ord, nums) = good places := g.go
    have e1 : oP places = ord := by show (good places).1 = ord; rw [← eg]
    have e2 : nP places = nums := by show (good places).2 = nums; rw [← eg]
    refine ⟨_, rfl, _, rfl, by show 2 ≤ sizeLine; decide, fun t' ht' => ?_⟩
    have sN : Same G (upd G t' (.lst [.ref o, .ref n])) := same_new ht'
    refine q _ t' o n (g.same.trans sN) (g.same.free ht') o0 n0 upd_same ?_ ?_
    · rw [e1]
      exact sN _ _ g.ho
    · rw [e2]
      exact sN _ _ g.hn
end
end K53

/-! K53L4: readings of the law's own defs: codewords. -/
namespace K53
open PySem PySem.Spec PyProof.Rows L2

theorem Rows.mono {Z H H' : Hp} {p : Addr} {rows : List (List Int)} (h : Rows Z H p rows) (s : Same H H') : Rows Z H' p rows := by
  obtain ⟨rs, d, q⟩ := h
  exact ⟨rs, s _ _ d, Paired.mapP q fun r xs h => ⟨h.1, s _ _ h.2⟩⟩
theorem Rows.less {Z Z' H : Hp} {p : Addr} {rows : List (List Int)} (h : Rows Z' H p rows) (s : ∀ r, Z' r = none → Z r = none) : Rows Z H p rows := by
  obtain ⟨rs, d, q⟩ := h
  exact ⟨rs, d, Paired.mapP q fun r xs h => ⟨s _ h.1, h.2⟩⟩
theorem paired_app {α β : Type} {F : α → β → Prop} : ∀ {l l' : List α} {r r' : List β}, Paired F l r → Paired F l' r' → Paired F (l ++ l') (r ++ r')
  | _, _, _, _, .nil, h => h
  | _, _, _, _, .cons q t, h => .cons q (paired_app t h)
theorem linesN_len {w : Nat} {places o : List Int} {n : List Nat} : ∀ m, (linesN w places o n m).length ≤ 2 ^ (w * m)
  | 0 => by show 1 ≤ _; exact Nat.one_le_two_pow
  | m + 1 => by
    have ih := linesN_len (w := w) (places := places) (o := o) (n := n) m
    show (newLines w places o n m (linesN w places o n m)).length ≤ _
    unfold newLines
    rw [List.length_flatMap]
    have e : ((List.range (2 ^ (w - n.getD m 0))).map fun (item : Nat) => ((linesN w places o n m).map fun line => List.zipWith (fun word one => (word + (item : Int) * one) % 2 ^ w) line (places.map (P o m))).length) = List.replicate (2 ^ (w - n.getD m 0)) (linesN w places o n m).length := by
      rw [List.eq_replicate_iff]
      refine ⟨by rw [List.length_map, List.length_range], fun b hb => ?_⟩
      obtain ⟨x, _, e⟩ := List.mem_map.mp hb
      rw [← e, List.length_map]
    rw [e, List.sum_replicate_nat, Nat.mul_succ, Nat.pow_add, Nat.mul_comm]
    exact Nat.mul_le_mul ih (Nat.pow_le_pow_right (by decide) (Nat.sub_le _ _))
theorem linesN_line {w : Nat} {places o : List Int} {n : List Nat} : ∀ m, ∀ l ∈ linesN w places o n m, l.length = places.length
  | 0, l, h => by
    rw [List.mem_singleton.mp h, List.length_replicate]
  | m + 1, l, h => by
    obtain ⟨item, _, h2⟩ := List.mem_flatMap.mp h
    obtain ⟨l0, h3, e⟩ := List.mem_map.mp h2
    rw [← e, List.length_zipWith, List.length_map, linesN_line m l0 h3, Nat.min_self]
theorem cnt_c {w c : Nat} {n : List Nat} : cnt w c n ≤ c := by
  unfold cnt
  exact Nat.le_trans (List.length_filter_le _ _) (by rw [List.length_take]; exact Nat.min_le_left _ _)
section
variable {K : PySem.W.Frag} {σ : L2.St} {B H : Hp} {ta tb : TE} {v : V} {D : Ends}
theorem gN {i : Nat} {R : L2.St → Hp → Prop} (h : R (σ.set i (some v)) H) : gName i v σ H R := h
theorem tup2 {K : PySem.W.Frag} {i j : Nat} {xs : List V} (c : EvN ta σ H xs) (k : ∀ p H2, Same H H2 → H p = none → H2 p = some (.lst xs) → tb σ H2 fun y H3 => ∀ t, H3 t = none → D.nx ((σ.set i (some (.ref p))).set j (some y)) (upd H3 t (.tup [.ref p, y])))
    (mono : ∀ H1 (R R' : VK), (∀ y H2, R y H2 → R' y H2) → tb σ H1 R → tb σ H1 R') : tAsg (tTup (tCons ta (tCons tb tNil))) (gTup K 2 (gCons (gName i) (gCons (gName j) gNil))) D σ H :=
  c _ (Same.refl _) _ fun p H2 s2 hp ep => mono _ _ _ (fun y H3 h => ⟨by show 2 ≤ sizeLine; decide, fun t ht => ⟨t, _, rfl, sqt upd_same, rfl, _, _, rfl, _, _, rfl, rfl, h t ht⟩⟩) (k p H2 s2 hp ep)
/-- two lists of lists in one -/
theorem rows_cat {Z : Hp} {p r : Addr} {R1 R2' : List (List Int)} {Q : VK} (h1 : Rows Z H p R1) (h2 : Rows Z H r R2') (hz : R1.length + R2'.length ≤ 1000000) (k : ∀ t H2, Same H H2 → H t = none → Rows Z H2 t (R1 ++ R2') → Q (.ref t) H2) : rCat (.ref p) (.ref r) H Q := by
  obtain ⟨rs, d, q⟩ := h1
  obtain ⟨rs2, d2, q2⟩ := h2
  refine ⟨p, r, _, _, rfl, rfl, d, d2, ?_, fun t ht => ?_⟩
  · rw [List.length_map, List.length_map, rows_len q, rows_len q2]
    exact Nat.le_trans hz (by decide)
  · rw [← List.map_append]
    exact k t _ (same_new ht) ht ⟨rs ++ rs2, upd_same, paired_app (Paired.mapP q fun r xs h => ⟨h.1, same_new ht _ _ h.2⟩) (Paired.mapP q2 fun r xs h => ⟨h.1, same_new ht _ _ h.2⟩)⟩
end
section
variable {K : PySem.W.Frag} {vs : List V} {H : Hp} {Q : VK} {E : XK}
theorem r_l_codewords (h : sp_l_codewords K vs H Q E) : t_l_codewords K (fin Q) (start N_l_codewords vs) H := by
  obtain ⟨w, c, a, places, rfl, ha, pl, w4, c3, q⟩ := h
  have od := pl.od
  have g := od.good
  have w64 := pl.w64
  refine ⟨_, rfl, a, places, rfl, ha, od, pl.ne, fun H1 t o n s1 ht ho hn et eo en => ⟨t, _, rfl, sql et, rfl, _, _, rfl, _, _, rfl, rfl, ?_⟩⟩
  have olen := od.olen
  have l8 := pl.len
  have nlen : (nP places).length = (oP places).length := g.len
  have hq : ∀ H' p, Same H H' → H p = none → Rows H H' p (linesN w places (oP places) (nP places) (cnt w c (nP places))) → Q (.ref p) H' := q
  have hcnt : ∀ {k}, k < cnt w c (nP places) → k < (oP places).length ∧ k < c ∧ (nP places).getD k 0 < w := fun hk => (lt_cnt g).mp hk
  have cc : cnt w c (nP places) ≤ 3 := Nat.le_trans cnt_c c3
  have obd : ∀ {x : Int}, x ∈ places → ∀ y ∈ oP places, (x - y).natAbs < 2 ^ 64 := fun hx y hy => od.bd _ hx y (g.perm.subset hy)
  -- found
  refine evn_rep (n := places.length) ev1_c (ev1_is (ev1_len (xs := places.map V.int) (evs_var (i := 1) rfl (sql (s1 _ _ ha)))) (by rw [List.length_map])) (by omega) _ (Same.refl _) _ fun z H2 s2 hz ez => ⟨by show 1 ≤ sizeLine; decide, fun p hp => ?_⟩
  have s3 : Same H2 (upd H2 p (.lst [.ref z])) := same_new hp
  have ep : upd H2 p (.lst [.ref z]) p = some (.lst [.ref z]) := upd_same
  generalize upd H2 p (.lst [.ref z]) = H3 at *
  have s13 := s1.trans (s2.trans s3)
  have rows0 : Rows H H3 p (linesN w places (oP places) (nP places) 0) := ⟨[z], ep, .cons ⟨s1.free hz, s3 _ _ ez⟩ .nil⟩
  have p0 : H p = none := (s1.trans s2).free hp
  -- the items
  refine ⟨_, rfl, _, rfl, _, rfl, w, c, a, places, rfl, s13 _ _ ha, od, pl.ne, fun H4 ip s4 hip eip => ⟨ip, rfl, ⟨_, sql eip⟩, ?_⟩⟩
  refine for_list (xs := (ni (List.range (cnt w c (nP places)))).map V.int) (fun k σ G => Same H4 G ∧ ∃ (p : Addr) (y6 y7 y8 y9 y10 y11 y12 y13 : Option V), σ = [some (.int w), some (.ref a), some (.int c), some (.ref o), some (.ref n), some (.ref p), y6, y7, y8, y9, y10, y11, y12, y13] ∧ H p = none ∧ Rows H G p (linesN w places (oP places) (nP places) k))
    ⟨Same.refl _, p, _, _, _, _, _, _, _, _, rfl, p0, rows0.mono s4⟩ (fun k σ G _ c => c.1.seq (sql eip)) ?_ ?_
  · rintro k x σ G hx ⟨sG, p, y6, y7, y8, y9, y10, y11, y12, y13, rfl, p0, rw_⟩
    obtain ⟨rfl, hk⟩ := getD_vi hx
    rw [ni_len, List.length_range] at hk
    have ek : (ni (List.range (cnt w c (nP places)))).getD k 0 = (k : Int) := by
      unfold ni
      rw [getD_map (d := 0) (by rw [List.length_range]; exact hk), range_getD0 hk]
    rw [ek]
    obtain ⟨k1, k2, k3⟩ := hcnt hk
    have sHG := s13.trans (s4.trans sG)
    have s1G := s2.trans (s3.trans (s4.trans sG))
    -- row, longer
    have cp := lcL (K := K) (te := tCall (sp_l_product K) [] E0 (tCons (tVar 3) (tCons (tVar 6) (tCons (tVar 10) tNil)))) (tt := tYes) (j := 10) (vs := [10]) (tl := tVar 1) (xs := places.map V.int) (B := G)
      (σ := [some (.int w), some (.ref a), some (.int c), some (.ref o), some (.ref n), some (.ref p), some (.int k), y7, y8, y9, y10, y11, y12, y13]) (fun _ => true) (fun i => .int (P (oP places) k (places.getD i 0))) (evs_var (i := 1) rfl (sql (sHG _ _ ha))) (by rw [List.length_map]; omega) (fun x => rfl) (fun k x G1 hx s1 => evt_yes) (fun i x G1 hx s1' _ => ?_)
    · rw [picked_all, List.length_map, map_range (fun x => V.int (P (oP places) k x)) places 0] at cp
      refine gN (tup2 cp (fun r G1 g1 hr er => ⟨Nat.zero_le _, fun q0 hq0 t' ht' => ?_⟩) fun H1 R R' f h => ⟨h.1, fun p hp => f _ _ (h.2 p hp)⟩)
      have g2 : Same G1 (upd G1 q0 (.lst [])) := same_new hq0
      have e2 : upd G1 q0 (.lst []) q0 = some (.lst []) := upd_same
      generalize upd G1 q0 (.lst []) = G2 at *
      have g3 : Same G2 (upd G2 t' (.tup [.ref r, .ref q0])) := same_new ht'
      generalize upd G2 t' (.tup [.ref r, .ref q0]) = G3 at *
      have g03 := g1.trans (g2.trans g3)
      have rows3 : Rows H G3 q0 [] := ⟨[], g3 _ _ e2, .nil⟩
      have q00 : H q0 = none := (sHG.trans g1).free hq0
      have er3 : Ls G3 r (places.map (P (oP places) k)) := by
        show G3 r = _
        rw [g3 _ _ (g2 _ _ er), List.map_map] <;> rfl
      have enk : (ni (nP places)).getD k 0 = (((nP places).getD k 0 : Nat) : Int) := by
        unfold ni
        rw [getD_map (d := 0) (by omega)]
      have cb : Ev1 (tOp oShl (tC (.int 1)) (tOp oSub (tVar 0) (tOp (rIxL K) (tVar 4) (tVar 6)))) ([some (.int w), some (.ref a), some (.int c), some (.ref o), some (.ref n), some (.ref p), some (.int k), some (.ref r), some (.ref q0), y9, y10, y11, y12, y13] : L2.St) G3 (.int ((2 ^ (w - (nP places).getD k 0) : Nat) : Int)) := by
        refine ev1_is (ev1_2 (n := w - (nP places).getD k 0) (ev1_is (ev1_sub (ev1_var (i := 0) rfl) (ev1_at (l := ni (nP places)) (j := k) (evs_var (i := 4) rfl (sql (g03 _ _ (s1G _ _ en)))) (ev1_var (i := 6) rfl) (by rw [ni_len]; omega))) ?_) (by omega)) ?_
        · rw [enk]
          congr 1
          omega
        · rw [Int.natCast_pow] <;> rfl
      have hn16 : 2 ^ (w - (nP places).getD k 0) ≤ 16 := Nat.le_trans (Nat.pow_le_pow_right (by decide) (show w - (nP places).getD k 0 ≤ 4 by omega)) (by decide)
      have lk := linesN_len (w := w) (places := places) (o := oP places) (n := nP places) k
      have lk2 : (linesN w places (oP places) (nP places) k).length ≤ 4096 := Nat.le_trans lk (Nat.le_trans (Nat.pow_le_pow_right (by decide) (show w * k ≤ 12 from Nat.mul_le_mul w4 (show k ≤ 3 by omega))) (by decide))
      have ll := linesN_line (w := w) (places := places) (o := oP places) (n := nP places) k
      have enew : linesN w places (oP places) (nP places) (k + 1) = newLines w places (oP places) (nP places) k (linesN w places (oP places) (nP places) k) := rfl
      generalize linesN w places (oP places) (nP places) k = found at *
      refine cb _ (Same.refl _) _ fun G4 g4 => ⟨_, rfl, Int.le_trans (by decide) (Int.natCast_nonneg _), Int.lt_of_le_of_lt (Int.ofNat_le.mpr hn16) (by decide), ?_⟩
      have rowsG := (rw_.mono g03).mono g4
      rw [Int.toNat_natCast]
      refine for_range (fun i σ G' => Same G4 G' ∧ ∃ (q0 : Addr) (y9 y10 y11 y12 y13 : Option V), σ = [some (.int w), some (.ref a), some (.int c), some (.ref o), some (.ref n), some (.ref p), some (.int k), some (.ref r), some (.ref q0), y9, y10, y11, y12, y13] ∧ H q0 = none ∧ Rows H G' q0 ((List.range i).flatMap fun (item : Nat) => found.map fun line => List.zipWith (fun word one => (word + (item : Int) * one) % 2 ^ w) line (places.map (P (oP places) k))))
        ⟨Same.refl _, q0, _, _, _, _, _, rfl, q00, rows3.mono g4⟩ ?_ ?_
      · rintro i σ G' hi ⟨sG', q0, y9, y10, y11, y12, y13, rfl, q00, rq⟩
        have ei : (0 : Int) + (i : Nat) = (i : Int) := Int.zero_add _
        rw [ei]
        obtain ⟨rs, dp, rr⟩ := rowsG.mono sG'
        have rl := rows_len rr
        have er' : Ls G' r (places.map (P (oP places) k)) := sG' _ _ (g4 _ _ er3)
        have lq := lcRows (K := K) (te := tLc (iZip K (tCons (tVar 11) (tCons (tVar 7) tNil))) (gTup K 2 (gCons (gName 12) (gCons (gName 13) gNil))) tYes (tOp oMod (tCB oInt (tCons (tOp oAdd (tVar 12) (tOp oMul (tVar 9) (tVar 13))) tNil)) (tOp oShl (tC (.int 1)) (tVar 0))) [12, 13]) (j := 11) (vs := [11]) (tl := tVar 5) (xs := rs.map V.ref) (B := G')
          (σ := [some (.int w), some (.ref a), some (.int c), some (.ref o), some (.ref n), some (.ref p), some (.int k), some (.ref r), some (.ref q0), some (.int i), y10, y11, y12, y13]) (fun j => List.zipWith (fun word one => (word + (i : Int) * one) % 2 ^ w) (found.getD j []) (places.map (P (oP places) k))) (evs_var (i := 5) rfl (sql dp)) (by rw [List.length_map, rl]; omega) (fun x => rfl) (fun j x G5 hx s5 => ?_)
        · rw [List.length_map, rl, map_range (fun line => List.zipWith (fun word one => (word + (i : Int) * one) % 2 ^ w) line (places.map (P (oP places) k))) found []] at lq
          refine ⟨_, rfl, lq _ (Same.refl _) _ fun u G6 g6 hu ru => ?_⟩
          refine rows_cat (rq.mono g6) (ru.less fun r' hr' => (sHG.trans (g03.trans (g4.trans sG'))).free hr') ?_ fun t2 G7 g7 ht2 rt2 => ⟨sG'.trans (g6.trans g7), t2, _, _, _, _, _, rfl, (sHG.trans (g03.trans (g4.trans (sG'.trans g6)))).free ht2, ?_⟩
          · rw [List.length_map, List.length_flatMap]
            have e : ((List.range i).map fun (item : Nat) => (found.map fun line => List.zipWith (fun word one => (word + (item : Int) * one) % 2 ^ w) line (places.map (P (oP places) k))).length) = List.replicate i found.length := by
              rw [List.eq_replicate_iff]
              refine ⟨by rw [List.length_map, List.length_range], fun b hb => ?_⟩
              obtain ⟨x, _, e⟩ := List.mem_map.mp hb
              rw [← e, List.length_map]
            rw [e, List.sum_replicate_nat]
            have : i * found.length ≤ 16 * 4096 := Nat.mul_le_mul (by omega) lk2
            omega
          · rw [List.range_succ, List.flatMap_append, List.flatMap_singleton]
            exact rt2
        · obtain ⟨r', rfl, hr', er'', hj⟩ := rows_get rr hx
          have fl := ll _ (getD_mem (d := []) hj)
          generalize found.getD j [] = line at *
          have cz := lcZ (K := K) (te := tOp oMod (tCB oInt (tCons (tOp oAdd (tVar 12) (tOp oMul (tVar 9) (tVar 13))) tNil)) (tOp oShl (tC (.int 1)) (tVar 0))) (tt := tYes) (j := 12) (l := 13) (vs := [12, 13]) (tl := tVar 11) (ta := tVar 7) (B := G5)
            (σ := [some (.int w), some (.ref a), some (.int c), some (.ref o), some (.ref n), some (.ref p), some (.int k), some (.ref r), some (.ref q0), some (.int i), y10, some (.ref r'), y12, y13]) (fun _ => true) (fun m => .int ((line.getD m 0 + (i : Int) * (places.map (P (oP places) k)).getD m 0) % 2 ^ w)) (evs_var (i := 11) rfl (sql (s5 _ _ er''))) (evs_var (i := 7) rfl (sql (s5 _ _ er'))) (by rw [List.length_map, List.length_map, List.length_map]; exact fl) (by rw [List.length_map]; omega) (fun x y => rfl) (fun i x y G hx hy sG => evt_yes) (fun m x y G8 hx hy s8 _ => ?_)
          · rw [picked_all, List.length_map, zip_range (fun x y => V.int ((x + (i : Int) * y) % 2 ^ w)) line (places.map (P (oP places) k)) (by rw [List.length_map]; exact fl), ← zip_ints (fun x y => (x + (i : Int) * y) % 2 ^ w)] at cz
            exact cz
          · obtain ⟨rfl, hm⟩ := getD_vi hx
            obtain ⟨rfl, _⟩ := getD_vi hy
            exact ev1_mod (ev1_int (ev1_add (ev1_var (i := 12) rfl) (ev1_mul (ev1_var (i := 9) rfl) (ev1_var (i := 13) rfl) (.inl ⟨by omega, by omega⟩)))) (ev1_2 (ev1_var (i := 0) rfl) w64) (two_pow_pos w)
      · rintro σ G' ⟨sG', q0, y9, y10, y11, y12, y13, rfl, q00, rq⟩
        refine ⟨_, rfl, sG.trans (g03.trans (g4.trans sG')), q0, _, _, _, _, _, _, _, _, rfl, q00, ?_⟩
        rw [enew]
        exact rq
    · obtain ⟨rfl, hi⟩ := getD_vi hx
      exact ev1_call (eva_cons (ev1_var (i := 3) rfl) (eva_cons (ev1_var (i := 6) rfl) (eva_cons (ev1_var (i := 10) rfl) eva_nil))) fun G2 s R kk => ⟨o, oP places, k, _, rfl, s _ _ (s1' _ _ (s1G _ _ eo)), obd (getD_mem hi), kk⟩
  · rintro σ G ⟨sG, p, y6, y7, y8, y9, y10, y11, y12, y13, rfl, p0, rw_⟩
    refine ⟨_, rfl, ?_⟩
    rw [List.length_map, ni_len, List.length_range] at rw_
    exact hq G p (s13.trans (s4.trans sG)) p0 rw_
end
end K53

/-! K53L5: readings of the law's own defs: places and words drawn, sums. -/
namespace K53
open PySem PySem.Spec PyProof.Rows L2

theorem two_le {w : Nat} (h : w ≤ 64) : (2 : Int) ^ w < 2 ^ 100 := Int.lt_of_le_of_lt (pow_bd h) (by decide)
theorem getD_ni {l : List Nat} {j : Nat} : (ni l).getD j 0 = ((l.getD j 0 : Nat) : Int) := by
  unfold ni
  rw [List.getD_eq_getElem?_getD, List.getElem?_map, List.getD_eq_getElem?_getD]
  cases l[j]? <;> rfl
section
variable {K : PySem.W.Frag} {σ : L2.St} {B H : Hp} {te ti ta tb : TE} {v : V} {D : Ends} {t : TA}
/-- a number is drawn -/
theorem drawn {σ : L2.St} {H : Hp} {R : VK} {g : Addr} {c i : Nat} {b : Int} {tb : TE} (hi : σ[i]? = some (some (.ref g))) (hb : Ev1 tb σ H (.int b)) (b0 : 0 < b) (b1 : b < 2 ^ 100) (G : Gen H g c) (hc : c ≤ 1000)
    (k : ∀ H' (r : Int), SameX g H H' → Gen H' g (c + 1) → 0 ≤ r → r < b → R (.int r) H') : tCall (sp_l_random K) [] E0 (tCons (tVar i) (tCons tb tNil)) σ H R :=
  ⟨_, hi, hb _ (Same.refl _) _ fun H1 s1 => ⟨g, b, c, rfl, b0, b1, G.same s1, hc, fun H' r s2 G2 r0 r1 => k H' r ((sx s1).trans s2) G2 r0 r1⟩⟩
end
section
variable {K : PySem.W.Frag} {vs : List V} {H : Hp} {Q : VK} {E : XK}
theorem r_l_bent (h : sp_l_bent K vs H Q E) : t_l_bent K (fin Q) (start N_l_bent vs) H := by
  obtain ⟨g, a, w, t, c, line, rfl, ag, ha, ne, l64, w64, hb, t3, G, hc, q⟩ := h
  refine ⟨_, rfl, a, _, rfl, .inl (sql ha), fun f hf => ?_⟩
  have fg := G.ne hf
  have s1 : Same H (upd H f (.lst (line.map V.int))) := same_new hf
  have e1 : Ls (upd H f (.lst (line.map V.int))) f line := upd_same
  generalize upd H f (.lst (line.map V.int)) = H1 at *
  have lpos : 0 < line.length := List.length_pos_iff.mpr ne
  refine ⟨_, rfl, _, rfl, by omega, by omega, ?_⟩
  rw [Int.toNat_natCast]
  refine for_range (fun i σ G' => ∃ (y5 : Option V) (ws : List Int), σ = [some (.ref g), some (.int w), some (.ref a), some (.int t), some (.ref f), y5] ∧ SameX g H G' ∧ Gen G' g (c + 2 * i) ∧ Ls G' f ws ∧ ws.length = line.length ∧ ∀ x ∈ ws, 0 ≤ x ∧ x < 2 ^ w) ⟨none, line, rfl, sx s1, G.same s1, e1, rfl, hb⟩ ?_ ?_
  · rintro i σ G' hi ⟨y5, ws, rfl, sG, gG, ef, hl, hw⟩
    refine drawn (i := 0) (c := c + 2 * i) (b := 2 ^ w) rfl (ev1_2 (ev1_var (i := 1) rfl) w64) (two_pow_pos w) (two_le w64) gG (by omega) fun G1 r s2 g1 r0 r1 => ⟨_, rfl, ?_⟩
    have a1 := s2 _ _ ag (sG _ _ ag ha)
    refine drawn (i := 0) (c := c + 2 * i + 1) (b := (line.length : Int)) rfl (ev1_is (ev1_len (xs := line.map V.int) (evs_var (i := 2) rfl (sql a1))) (by rw [List.length_map])) (by omega) (Int.lt_of_le_of_lt (show (line.length : Int) ≤ 64 by omega) (by decide)) g1 (by omega) fun G2 k s3 g2 k0 k1 => ?_
    obtain ⟨j, rfl⟩ : ∃ j : Nat, k = j := ⟨k.toNat, by omega⟩
    have ef2 := s3 _ _ fg (s2 _ _ fg ef)
    refine ⟨f, _, (j : Int), j, rfl, rfl, ef2, ix_nat (by rw [List.length_map, hl]; omega), ?_⟩
    have em : (ws.map V.int).set j (.int r) = (ws.set j r).map V.int := List.map_set.symm
    rw [em]
    refine ⟨_, ws.set j r, rfl, (sG.trans (s2.trans s3)).mut hf, ?_, upd_same, by rw [List.length_set]; exact hl, mem_set_bd (p := fun x => 0 ≤ x ∧ x < 2 ^ w) hw ⟨r0, r1⟩⟩
    obtain ⟨x, y, z, e, z0, z1⟩ := g2
    refine ⟨x, y, z, ?_, z0, by omega⟩
    show upd _ _ _ g = _
    rw [upd_ne fg.symm]
    exact e
  · rintro σ G' ⟨y5, ws, rfl, sG, gG, ef, hl, hw⟩
    exact ⟨_, rfl, q G' f ws sG (gG.le (by omega)) hf ef hl hw⟩
theorem r_l_sums (h : sp_l_sums K vs H Q E) : t_l_sums K (fin Q) (start N_l_sums vs) H := by
  obtain ⟨w, r, b, rows, ws, rfl, ⟨rs, er, rr⟩, hb, hl, w64, hw, r64, l64, q⟩ := h
  have rl := rows_len rr
  have cp := lcL (K := K) (te := tOp oMod (tCB oInt (tCons (tCB (rSum K) (tCons (tLc (iZip K (tCons (tVar 3) (tCons (tVar 2) tNil))) (gTup K 2 (gCons (gName 4) (gCons (gName 5) gNil))) tYes (tOp oMul (tVar 4) (tVar 5)) [4, 5]) tNil)) tNil)) (tOp oShl (tC (.int 1)) (tVar 0))) (tt := tYes) (j := 3) (vs := [3]) (tl := tVar 1) (xs := rs.map V.ref) (B := H)
    (σ := [some (.int w), some (.ref r), some (.ref b), none, none, none]) (fun _ => true) (fun i => .int (dot (rows.getD i []) ws % 2 ^ w)) (evs_var (i := 1) rfl (sql er)) (by rw [List.length_map, rl]; omega) (fun x => rfl) (fun i x G hx sG => evt_yes) (fun i x G hx sG _ => ?_)
  · refine retN cp fun p H2 s2 hp ep => q H2 p s2 hp ?_
    show H2 p = _
    rw [ep, picked_all, List.length_map, rl, map_range (fun r => V.int (dot r ws % 2 ^ w)) rows []]
    unfold sumsM
    rw [List.map_map] <;> rfl
  · obtain ⟨r', rfl, hr', er'', hj⟩ := rows_get rr hx
    have fl := hl _ (getD_mem (d := []) hj)
    generalize rows.getD i [] = row at *
    have cz := lcZ (K := K) (te := tOp oMul (tVar 4) (tVar 5)) (tt := tYes) (j := 4) (l := 5) (vs := [4, 5]) (tl := tVar 3) (ta := tVar 2) (B := G)
      (σ := [some (.int w), some (.ref r), some (.ref b), some (.ref r'), none, none]) (fun _ => true) (fun m => .int (row.getD m 0 * ws.getD m 0)) (evs_var (i := 3) rfl (sql (sG _ _ er''))) (evs_var (i := 2) rfl (sql (sG _ _ hb))) (by rw [List.length_map, List.length_map]; exact fl) (by rw [List.length_map]; omega) (fun x y => rfl) (fun i x y G hx hy sG => evt_yes) (fun m x y G8 hx hy s8 _ => ?_)
    · rw [picked_all, List.length_map, zip_range (fun x y => V.int (x * y)) row ws fl, ← zip_ints (fun x y => x * y)] at cz
      exact ev1_mod (ev1_int (ev1_sum cz.s)) (ev1_2 (ev1_var (i := 0) rfl) w64) (two_pow_pos w)
    · obtain ⟨rfl, hm⟩ := getD_vi hx
      obtain ⟨rfl, hm2⟩ := getD_vi hy
      have hb0 := hw _ (getD_mem (d := 0) hm2)
      exact ev1_mul (ev1_var (i := 4) rfl) (ev1_var (i := 5) rfl) (.inr ⟨by omega, hb0.2⟩)
theorem r_l_spots (h : sp_l_spots K vs H Q E) : t_l_spots K (fin Q) (start N_l_spots vs) H := by
  obtain ⟨g, w, c, rfl, w1, w4, G, hc, q⟩ := h
  have n16 : 2 ^ w ≤ 16 := Nat.le_trans (Nat.pow_le_pow_right (by decide) w4) (by decide)
  have n1 : 1 ≤ 2 ^ w := Nat.one_le_two_pow
  have ep : (2 : Int) ^ w = ((2 ^ w : Nat) : Int) := by rw [Int.natCast_pow] <;> rfl
  have em : min w 5 = w := by omega
  have cb : Ev1 (tOp oShl (tC (.int 1)) (tCB oMin2 (tCons (tVar 1) (tCons (tC (.int 5)) tNil)))) (start N_l_spots [.ref g, .int w, .int 8]) H (.int ((2 ^ w : Nat) : Int)) := by
    refine ev1_is (ev1_2 (n := w) (ev1_is (ev1_min (a := w) (b := 5) (ev1_var (i := 1) rfl) ev1_c) (by rw [em])) (by omega)) (by rw [ep])
  refine cb _ (Same.refl _) _ fun H1 s1 => ⟨_, rfl, RgOk.of_le (by omega) (Int.le_trans (Int.ofNat_le.mpr n16) (by decide)) (by omega) (Int.natCast_nonneg _), fun l hl => ?_⟩
  have e1 : Ls (upd H1 l (.lst (rgV 0 ((2 ^ w : Nat) : Int)))) l (ni (List.range (2 ^ w))) := by
    show upd _ _ _ l = _
    rw [upd_same]
    unfold rgV ni
    rw [Int.sub_zero, Int.toNat_natCast, List.map_map]
    congr 2
    refine List.map_congr_left fun i _ => ?_
    show V.int (0 + (i : Nat)) = V.int (i : Nat)
    rw [Int.zero_add]
  have s2 : Same H1 (upd H1 l (.lst (rgV 0 ((2 ^ w : Nat) : Int)))) := same_new hl
  generalize upd H1 l (.lst (rgV 0 ((2 ^ w : Nat) : Int))) = H2 at *
  have s12 := s1.trans s2
  have l0 : H l = none := s1.free hl
  have lg := G.ne l0
  generalize eN : 2 ^ w = N at *
  have elen : (ni (List.range N)).length = N := by rw [ni_len, List.length_range]
  -- many
  have hb2 : Ev1 (tCB oMin2 (tCons (tVar 2) (tCons (tCB (rLenS K) (tCons (tVar 3) tNil)) tNil))) ([some (.ref g), some (.int w), some (.int 8), some (.ref l), none, none] : L2.St) H2 (.int ((min 8 N : Nat) : Int)) :=
    ev1_min (a := 8) (b := N) (ev1_var (i := 2) rfl) (ev1_is (ev1_len (xs := (ni (List.range N)).map V.int) (evs_var (i := 3) rfl (sql e1))) (by rw [List.length_map, elen]))
  refine drawn (i := 0) (c := c) rfl hb2 (by omega) (Int.lt_of_le_of_lt (show ((min 8 N : Nat) : Int) ≤ 16 by omega) (by decide)) (G.same s12) (by omega) fun H3 r s3 g3 r0 r1 => ?_
  obtain ⟨m, rfl⟩ : ∃ m : Nat, r = m := ⟨r.toNat, by omega⟩
  have e3 := s3 _ _ lg e1
  have sx3 : SameX g H H3 := (sx s12).trans s3
  refine ⟨_, _, rfl, rfl, ?_⟩
  -- the places
  refine ⟨_, rfl, _, rfl, by omega, by omega, fun D hD => ?_⟩
  have en : ((1 : Int) + (m : Int)).toNat = m + 1 := by omega
  rw [en]
  have Dg := g3.ne hD
  have Dl : D ≠ l := (ne_of_none e3 hD).symm
  have D0 : H D = none := sx3.free Dg hD
  refine lc_range (lo := 0) (fun i H' => SameX g H H' ∧ Gen H' g (c + 1 + i) ∧ ∃ left picked : List Int, Ls H' l left ∧ Ls H' D picked ∧ (picked ++ left).Perm (ni (List.range N)) ∧ picked.length = i) ⟨sx3.trans (sx (same_new hD)), g3.same (same_new hD), _, [], same_new hD _ _ e3, upd_same, List.Perm.refl _, rfl⟩ (fun i H' hi ⟨sH, gH, left, picked, el, eD, hp, hpl⟩ => ⟨rfl, ?_⟩) fun H' ⟨sH, gH, left, picked, el, eD, hp, hpl⟩ => ?_
  · have ll : left.length = N - i := by
      have := hp.length_eq
      rw [List.length_append, elen] at this
      omega
    refine ⟨_, rfl, .inl ⟨rfl, _, sql el⟩, ?_⟩
    have hb3 : Ev1 (tCB (rLenS K) (tCons (tVar 3) tNil)) ([some (.ref g), some (.int w), some (.int 8), some (.ref l), some (.int (1 + (m : Int))), some (.int (0 + (i : Nat)))] : L2.St) H' (.int ((left.length : Nat) : Int)) := ev1_is (ev1_len (xs := left.map V.int) (evs_var (i := 3) rfl (sql el))) (by rw [List.length_map])
    refine drawn (i := 0) (c := c + 1 + i) rfl hb3 (by omega) (Int.lt_of_le_of_lt (show ((left.length : Nat) : Int) ≤ 16 by omega) (by decide)) gH (by omega) fun H4 r s4 g4 r0 r1 => ?_
    obtain ⟨j, rfl⟩ : ∃ j : Nat, r = j := ⟨r.toNat, by omega⟩
    have hj : j < left.length := by omega
    have e4 := s4 _ _ lg el
    refine ⟨l, _, (j : Int), j, _, rfl, rfl, e4, by omega, by omega, seq_nat (by rw [List.length_map]; exact hj), vi_get (getD_lt (d := 0) hj), ?_⟩
    rw [vi_erase]
    have eD4 := s4 _ _ Dg eD
    refine ⟨picked.map V.int, ?_, ?_, ?_⟩
    · show upd _ _ _ D = _
      rw [upd_ne Dl]
      exact eD4
    · rw [List.length_map, hpl]
      exact Nat.lt_of_lt_of_le (show i < 16 by omega) (by decide)
    · rw [← vi_snoc]
      refine ⟨((sH.trans s4).mut l0).mut D0, ?_, left.eraseIdx j, picked ++ [left.getD j 0], ?_, upd_same, ?_, by rw [List.length_append, hpl] <;> rfl⟩
      · obtain ⟨x, y, z, e, z0, z1⟩ := g4
        refine ⟨x, y, z, ?_, z0, by omega⟩
        show upd _ _ _ g = _
        rw [upd_ne Dg.symm, upd_ne lg.symm]
        exact e
      · show upd _ _ _ l = _
        rw [upd_ne Dl.symm]
        exact upd_same
      · rw [List.append_assoc]
        exact ((perm_erase hj).append_left picked).trans hp
  · refine ⟨D, picked, rfl, sql eD, by rw [hpl]; omega, fun ns' p hp2 asc hp0 => ?_⟩
    have hsub : ∀ x ∈ ns', 0 ≤ x ∧ x < 2 ^ w := fun x hx => by
      have h1 : x ∈ ni (List.range N) := hp.subset (List.mem_append_left _ (hp2.subset hx))
      unfold ni at h1
      obtain ⟨k, hk, rfl⟩ := List.mem_map.mp h1
      have := List.mem_range.mp hk
      rw [ep]
      omega
    have nd : ns'.Nodup := hp2.nodup_iff.mpr (List.nodup_append.mp (hp.nodup_iff.mpr (by
      unfold ni
      exact List.Pairwise.map _ (fun a b (h : a ≠ b) z => h (by omega)) List.nodup_range))).1
    have asc2 : ns'.Pairwise (· < ·) := by
      refine (asc.and nd).imp fun h => ?_
      omega
    have nl := hp2.length_eq
    refine q _ p ns' (sH.trans (sx (same_new hp0))) ((gH.same (same_new hp0)).le (by omega)) (sH.free (gH.ne hp0) hp0) upd_same ⟨w1, by omega, ?_, hsub, asc2, by omega⟩
    intro z
    rw [z] at nl
    simp at nl
    omega
end
end K53

/-! K53L6: data compared; readings of the law's own defs: small codes, the place of the first misfit. -/
namespace K53
open PySem PySem.Spec PyProof.Rows L2

theorem Same.seqt {K : PySem.W.Frag} {H H' : Hp} {a : Addr} {xs : List V} (e : Same H H') (h : SqT K H a xs) : SqT K H' a xs := by
  rcases h with (h | ⟨o, h⟩) | h
  · exact .inl (.inl (e _ _ h))
  · exact .inl (.inr ⟨o, e _ _ h⟩)
  · exact .inr h
mutual
theorem dp_mono {K : PySem.W.Frag} {H H' : Hp} (s : Same H H') : ∀ (d : PyData) (v : V), Dp K H v d → Dp K H' v d
  | .none, _, h => by
    cases h
    exact .non
  | .bool b, _, h => by
    cases h
    exact .bl b
  | .int i, _, h => by
    cases h
    exact .int i
  | .str x, _, h => by
    cases h
    exact .str x
  | .list ds, _, h => by
    cases h with
    | lst hs ha => exact .lst (s.seq hs) (dp_monoAll s ds _ ha)
  | .tuple ds, _, h => by
    cases h with
    | tup hs ha => exact .tup (Same.seqt s hs) (dp_monoAll s ds _ ha)
  | .dict _, _, h => by cases h
theorem dp_monoAll {K : PySem.W.Frag} {H H' : Hp} (s : Same H H') : ∀ (ds : List PyData) (vs : List V), DpAll K H vs ds → DpAll K H' vs ds
  | [], _, h => by
    cases h
    exact .nil
  | d :: ds, _, h => by
    cases h with
    | cons h1 h2 => exact .cons (dp_mono s d _ h1) (dp_monoAll s ds _ h2)
end
/-- evaluates to a value that spells d -/
def EvD (K : PySem.W.Frag) (te : TE) (σ : L2.St) (B : Hp) (d : PyData) : Prop := ∀ H, Same B H → ∀ R : VK, (∀ v H2, Same H H2 → Dp K H2 v d → R v H2) → te σ H R
def dL (rows : List (List Int)) : PyData := .list (rows.map dI)
theorem eqvAll_nil : ∀ ds : List PyData, PyData.eqvAll ds [] = decide (ds = [])
  | [] => by simp [PyData.eqvAll]
  | d :: r => by simp [PyData.eqvAll]
theorem eqv_nil (ds : List PyData) : PyData.eqv (.list ds) (.list []) = decide (ds = []) := by
  simp only [PyData.eqv]
  exact eqvAll_nil ds
section
variable {K : PySem.W.Frag} {σ : L2.St} {B H : Hp} {te ta tb : TE} {d e : PyData} {v : V} {ns : List Int}
theorem evd_ints (h : EvS K te σ B (ns.map V.int)) : EvD K te σ B (dI ns) := fun H s R k => h H s _ fun a H2 s2 ha => k _ H2 s2 (dp_ints ha)
theorem evd_var {i : Nat} (hi : σ[i]? = some (some v)) (h : Dp K B v d) : EvD K (tVar i) σ B d := fun H s R k => ⟨_, hi, k v H (Same.refl _) (dp_mono s d v h)⟩
theorem evd_e : EvD K (tLst tNil) σ B (.list []) := fun H s R k => ⟨Nat.zero_le _, fun p hp => k _ _ (same_new hp) (.lst (sql upd_same) .nil)⟩
theorem evt_eqD (ha : EvD K ta σ B d) (hb : EvD K tb σ B e) (sd : SeqAt.shaped d = true) (se : SeqAt.shaped e = true) : EvT1 (tTest (tOp (rEqD K) ta tb)) σ B (PyData.eqv d e) := fun H s R k =>
  ha H s _ fun v H1 s1 h1 => hb H1 (s.trans s1) _ fun u H2 s2 h2 => ⟨d, e, dp_mono s2 d v h1, h2, sd, se, _, rfl, k H2 (s1.trans s2)⟩
theorem evt_neD (ha : EvD K ta σ B d) (hb : EvD K tb σ B e) (sd : SeqAt.shaped d = true) (se : SeqAt.shaped e = true) : EvT1 (tTest (tOp (rNeD K) ta tb)) σ B (!PyData.eqv d e) := fun H s R k =>
  ha H s _ fun v H1 s1 h1 => hb H1 (s.trans s1) _ fun u H2 s2 h2 => ⟨d, e, dp_mono s2 d v h1, h2, sd, se, _, rfl, k H2 (s1.trans s2)⟩
theorem ev1_eqD (ha : EvD K ta σ B d) (hb : EvD K tb σ B e) (sd : SeqAt.shaped d = true) (se : SeqAt.shaped e = true) : Ev1 (tOp (rEqD K) ta tb) σ B (.bl (PyData.eqv d e)) := fun H s R k =>
  ha H s _ fun v H1 s1 h1 => hb H1 (s.trans s1) _ fun u H2 s2 h2 => ⟨d, e, dp_mono s2 d v h1, h2, sd, se, k H2 (s1.trans s2)⟩
theorem shaped_nil : SeqAt.shaped (.list []) = true := shaped_ints []
theorem lay_rows : ∀ rows : List (List Int), PyData.canLayAll0 (rows.map dI) = true
  | [] => by simp [PyData.canLayAll0]
  | x :: r => by
    have h := lay_rows r
    have h2 := lay_ints x
    simp only [List.map_cons, PyData.canLayAll0, dI, PyData.canLay0, h2, h] <;> rfl
theorem deep_rows : ∀ rows : List (List Int), PyData.depthAll (rows.map dI) ≤ 2
  | [] => by simp [PyData.depthAll]
  | x :: r => by
    have h := deep_rows r
    have h2 := deep_ints x
    simp only [List.map_cons, PyData.depthAll, dI, PyData.depth]
    omega
theorem shaped_rows (rows : List (List Int)) : SeqAt.shaped (dL rows) = true := shaped_list (lay_rows rows) (Nat.le_trans (deep_rows rows) (by decide))
theorem dp_rows {Z : Hp} : ∀ {rs : List Addr} {rows : List (List Int)}, RowsAt Z H rs rows → DpAll K H (rs.map V.ref) (rows.map dI)
  | [], [], .nil => .nil
  | _ :: _, _ :: _, .cons q t => .cons (dp_ints (sql q.2)) (dp_rows t)
theorem evt_ne {i j : Int} (ha : Ev1 ta σ B (.int i)) (hb : Ev1 tb σ B (.int j)) : EvT1 (tTest (tOp rNe ta tb)) σ B (!decide (i = j)) := fun H s R k => ha H s _ fun H1 s1 => hb H1 (s.trans s1) _ fun H2 s2 => ⟨rfl, _, rfl, by
  have e2 : decide (V.int i = V.int j) = decide (i = j) := decide_eq_decide.mpr ⟨fun z => by injection z, fun z => by rw [z]⟩
  rw [e2]
  exact k H2 (s1.trans s2)⟩
/-- places.index(x) -/
theorem ev_index {i j : Nat} {s : Addr} {l : List Int} {x : Int} (hi : σ[i]? = some (some (.ref s))) (hs : SqL K B s (l.map V.int)) (hj : σ[j]? = some (some (.int x))) (nd : l.Nodup) (hx : x ∈ l) :
    Ev1 (tBM K "list" (rIndex K) (tVar i) (tCons (tVar j) tNil)) σ B (.int (l.idxOf x)) := fun H s1 R k => by
  have hs1 := s1.seq hs
  have hlt : l.idxOf x < l.length := List.idxOf_lt_length_iff.mpr hx
  refine ⟨_, hi, .inl ⟨rfl, _, hs1⟩, _, hj, s, l.map V.int, .int x, l.idxOf x, .int x, rfl, rfl, hs1, rfl, flat_ints _, ?_, eqv_int_eq x, fun m z hm hz => ?_, k H (Same.refl H)⟩
  · have := getD_idxOf hx
    refine vi_get ?_
    rw [getD_lt (d := 0) hlt, this]
  · obtain ⟨z', hz', rfl⟩ := vi_of hz
    refine eqv_int_ne fun e => ?_
    subst e
    have hm2 : m < l.length := (List.getElem?_eq_some_iff.mp hz').1
    have h2 : l.getD m 0 = z' := by rw [List.getD_eq_getElem?_getD, hz'] <;> rfl
    have h3 := idxOf_getD nd hm2
    rw [h2] at h3
    omega
end
section
variable {K : PySem.W.Frag} {vs : List V} {H : Hp} {Q : VK} {E : XK}
theorem dp_sel {G Z : Hp} {rs : List Addr} {rows : List (List Int)} (h : RowsAt Z G rs rows) : ∀ ks : List Nat, (∀ k ∈ ks, k < rows.length) → DpAll K G (ks.map fun k => (rs.map V.ref).getD k .non) (ks.map (dI ∘ fun k => rows.getD k []))
  | [], _ => .nil
  | k :: ks, hk => by
    have h1 := hk k List.mem_cons_self
    have rl := rows_len h
    have e := get_of (show k < (rs.map V.ref).length by rw [List.length_map]; omega)
    obtain ⟨r, e2, _, er, _⟩ := rows_get h e
    refine .cons ?_ (dp_sel h ks fun j hj => hk j (List.mem_cons_of_mem _ hj))
    show Dp K G ((rs.map V.ref).getD k .non) (dI (rows.getD k []))
    rw [e2]
    exact dp_ints (sql er)
theorem picked_nil_iff {n : Nat} {p : Nat → Bool} {f : Nat → V} : picked n p f = [] ↔ ∀ i, i < n → p i = false := by
  unfold picked
  rw [List.map_eq_nil_iff, List.filter_eq_nil_iff]
  constructor
  · intro h i hi
    have := h i (List.mem_range.mpr hi)
    simpa using this
  · intro h i hi
    rw [h i (List.mem_range.mp hi)]
    decide
theorem picked_ints {n : Nat} {p : Nat → Bool} {f : Nat → Int} : picked n p (fun i => .int (f i)) = (((List.range n).filter p).map f).map V.int := by
  unfold picked
  rw [List.map_map] <;> rfl
theorem r_l_misfit (h : sp_l_misfit K vs H Q E) : t_l_misfit K (fin Q) (start N_l_misfit vs) H := by
  obtain ⟨a, r, b, places, ws, rows, rfl, ha, ⟨rs, er, rr⟩, hb, od, ne, hll, hwl, h5, q⟩ := h
  have g := od.good
  have olen := od.olen
  have l64 := od.len
  have rl := rows_len rr
  refine ⟨_, rfl, a, places, rfl, ha, od, ne, fun H1 t o n s1 ht ho hn et eo en => ⟨t, [.ref o, .ref n], 0, .ref o, rfl, rfl, sql et, rfl, ?_⟩⟩
  have omem : ∀ {j}, j < (oP places).length → (oP places).getD j 0 ∈ places := fun hj => g.perm.subset (getD_mem hj)
  generalize oP places = ord at *
  have a1 := s1 _ _ ha
  have b1 := s1 _ _ hb
  have r1 := s1 _ _ er
  refine ⟨_, rfl, _, _, rfl, .inl (sql eo), _, rfl, by omega, by rw [List.length_map]; omega, ?_⟩
  have rr1 : RowsAt noH H1 rs rows := Paired.mapP rr fun r xs h => ⟨h.1, s1 _ _ h.2⟩
  rw [List.length_map, Int.toNat_natCast]
  refine for_range (n := ord.length) (fun i σ G => Same H1 G ∧ (∃ y4 y5 y6 y7 : Option V, σ = [some (.ref a), some (.ref r), some (.ref b), some (.ref o), y4, y5, y6, y7]) ∧ ∀ j, j < i → parts places ord ws rows j = false) ⟨Same.refl _, ⟨_, _, _, _, rfl⟩, fun j hj => by omega⟩ ?_ ?_
  · rintro i σ G hi ⟨sG, ⟨y4, y5, y6, y7, rfl⟩, hp⟩
    have ei : (0 : Int) + (i : Nat) = (i : Int) := Int.zero_add _
    rw [ei]
    -- taken
    have sl : EvN (tSl (rSlL K) (tVar 3) tNoPart (tPart (tOp oAdd (tVar 4) (tC (.int 1))))) ([some (.ref a), some (.ref r), some (.ref b), some (.ref o), some (.int i), y5, y6, y7] : L2.St) G ((ord.take (i + 1)).map V.int) := by
      have z := ev_slice (K := K) (B := G) (σ := ([some (.ref a), some (.ref r), some (.ref b), some (.ref o), some (.int i), y5, y6, y7] : L2.St)) (te := tVar 3) (evs_var rfl (sql (sG _ _ eo))) evo_none (evo_some (te := tOp oAdd (tVar 4) (tC (.int 1))) (i := ((i + 1 : Nat) : Int)) (ev1_is (ev1_add (i := (i : Int)) (j := 1) (ev1_var rfl) ev1_c) rfl))
      rw [cut_to, map_take] at z
      exact z
    have tkl : (ord.take (i + 1)).length = i + 1 := by rw [List.length_take]; omega
    have tkg : ∀ {j}, j < i + 1 → (ord.take (i + 1)).getD j 0 = ord.getD j 0 := fun h => getD_take h
    have cp := lcL (K := K) (te := tBM K "list" (rIndex K) (tVar 0) (tCons (tVar 6) tNil)) (tt := tYes) (j := 6) (vs := [6]) (xs := (ord.take (i + 1)).map V.int) (B := G)
      (σ := [some (.ref a), some (.ref r), some (.ref b), some (.ref o), some (.int i), y5, y6, y7]) (fun _ => true) (fun j => .int ((places.idxOf (ord.getD j 0) : Nat) : Int)) sl.s (by rw [List.length_map, tkl]; omega) (fun x => rfl) (fun k x G1 hx s1 => evt_yes) (fun j x G1 hx s1' _ => ?_)
    · rw [List.length_map, tkl, picked_all] at cp
      have cp2 : EvN (tLc (iList K (tSl (rSlL K) (tVar 3) tNoPart (tPart (tOp oAdd (tVar 4) (tC (.int 1)))))) (gName 6) tYes (tBM K "list" (rIndex K) (tVar 0) (tCons (tVar 6) tNil)) [6]) ([some (.ref a), some (.ref r), some (.ref b), some (.ref o), some (.int i), y5, y6, y7] : L2.St) G ((ni ((List.range (i + 1)).map fun j => places.idxOf (ord.getD j 0))).map V.int) := by
        unfold ni
        rw [List.map_map, List.map_map]
        exact cp
      refine gN (asgN (i := 5) cp2 fun tk G1 g1 htk etk => ?_)
      have eTl : ((List.range (i + 1)).map fun j => places.idxOf (ord.getD j 0)).length = i + 1 := by rw [List.length_map, List.length_range]
      have eTg : ∀ {j}, j < i + 1 → ((List.range (i + 1)).map fun j => places.idxOf (ord.getD j 0)).getD j 0 = places.idxOf (ord.getD j 0) := fun {j} h => by rw [getD_map (d := 0) (by rw [List.length_range]; exact h), range_getD0 h]
      generalize (List.range (i + 1)).map (fun j => places.idxOf (ord.getD j 0)) = tks at *
      -- the lines that go along
      have sG1 := sG.trans g1
      have lp := lcL (K := K) (te := tVar 7) (tt := tTest (tOp (rEqD K) (tLc (iList K (tVar 5)) (gName 6) (tTest (tOp rNe (tOp (rIxL K) (tVar 7) (tVar 6)) (tOp (rIxL K) (tVar 2) (tVar 6)))) (tVar 6) [6]) (tLst tNil))) (j := 7) (vs := [7]) (tl := tVar 1) (xs := rs.map V.ref) (B := G1)
        (σ := [some (.ref a), some (.ref r), some (.ref b), some (.ref o), some (.int i), some (.ref tk), y6, y7]) (fun k => decide (∀ j, j < i + 1 → wd places ord (rows.getD k []) j = wd places ord ws j)) (fun k => (rs.map V.ref).getD k .non) (evs_var (i := 1) rfl (sql (sG1 _ _ r1))) (by rw [List.length_map, rl]; omega) (fun x => rfl) (fun k x G2 hx g2 => ?_) (fun k x G2 hx g2 _ => ?_)
      · have ed : EvD K (tLc (iList K (tVar 1)) (gName 7) (tTest (tOp (rEqD K) (tLc (iList K (tVar 5)) (gName 6) (tTest (tOp rNe (tOp (rIxL K) (tVar 7) (tVar 6)) (tOp (rIxL K) (tVar 2) (tVar 6)))) (tVar 6) [6]) (tLst tNil))) (tVar 7) [7]) ([some (.ref a), some (.ref r), some (.ref b), some (.ref o), some (.int i), some (.ref tk), y6, y7] : L2.St) G1 (dL (((List.range rows.length).filter fun k => decide (∀ j, j < i + 1 → wd places ord (rows.getD k []) j = wd places ord ws j)).map fun k => rows.getD k [])) := fun G2 g2 R kk => lp G2 g2 R fun p G3 g3 hp ep => kk _ G3 g3 (.lst (sql ep) (by
            have rr3 : RowsAt noH G3 rs rows := Paired.mapP rr1 fun r xs h => ⟨h.1, g3 _ _ (g2 _ _ (sG1 _ _ h.2))⟩
            unfold picked
            rw [List.length_map, rl, List.map_map]
            exact dp_sel rr3 _ (fun k hk => (List.mem_range.mp (List.mem_filter.mp hk).1))))
        have tst := evt_eqD ed (evd_e (K := K)) (shaped_rows _) shaped_nil
        have eb : PyData.eqv (dL (((List.range rows.length).filter fun k => decide (∀ j, j < i + 1 → wd places ord (rows.getD k []) j = wd places ord ws j)).map fun k => rows.getD k [])) (.list []) = parts places ord ws rows i := by
          unfold dL
          rw [eqv_nil]
          unfold parts
          refine decide_eq_decide.mpr ?_
          rw [List.map_eq_nil_iff, List.map_eq_nil_iff, List.filter_eq_nil_iff]
          constructor
          · intro h line hl
            obtain ⟨k, hk, e⟩ := List.getElem_of_mem hl
            have h2 := h k (List.mem_range.mpr hk)
            have e2 : rows.getD k [] = line := by rw [List.getD_eq_getElem?_getD, List.getElem?_eq_getElem hk, e] <;> rfl
            rw [e2, decide_eq_true_eq] at h2
            exact Classical.byContradiction fun z => h2 fun j hj => Classical.byContradiction fun z2 => z ⟨j, hj, z2⟩
          · intro h k hk z
            rw [decide_eq_true_eq] at z
            obtain ⟨j, hj, h2⟩ := h _ (getD_mem (d := []) (List.mem_range.mp hk))
            exact h2 (z j hj)
        rw [eb] at tst
        refine ifs (b := parts places ord ws rows i) tst (fun hb H2 s2 => ?_) fun hb H2 s2 => ?_
        · refine ⟨_, rfl, ?_⟩
          have em : misM places ord ws rows = some i := by
            unfold misM
            rw [List.find?_eq_some_iff_getElem]
            refine ⟨hb, i, by rw [List.length_range]; exact hi, by rw [List.getElem_range], fun j hj => ?_⟩
            rw [List.getElem_range, hp j hj]
            rfl
          have := q H2 (s1.trans (sG1.trans s2))
          rw [em] at this
          exact this
        · refine ⟨sG1.trans s2, ⟨_, _, _, _, rfl⟩, fun j hj => ?_⟩
          by_cases e : j = i
          · rw [e]
            exact hb
          · exact hp j (by omega)
      · -- the test of one line
        obtain ⟨r', rfl, _, er', hk⟩ := rows_get (Paired.mapP rr1 fun r xs h => ⟨h.1, g2 _ _ (sG1 _ _ h.2)⟩ : RowsAt noH G2 rs rows) hx
        have fl := hll _ (getD_mem (d := []) hk)
        generalize rows.getD k [] = line at *
        have ip := lcL (K := K) (te := tVar 6) (tt := tTest (tOp rNe (tOp (rIxL K) (tVar 7) (tVar 6)) (tOp (rIxL K) (tVar 2) (tVar 6)))) (j := 6) (vs := [6]) (tl := tVar 5) (xs := (ni tks).map V.int) (B := G2)
          (σ := [some (.ref a), some (.ref r), some (.ref b), some (.ref o), some (.int i), some (.ref tk), y6, some (.ref r')]) (fun j => !decide (wd places ord line j = wd places ord ws j)) (fun j => .int ((tks.getD j 0 : Nat) : Int)) (evs_var (i := 5) rfl (sql (g2 _ _ etk))) (by rw [List.length_map, ni_len, eTl]; omega) (fun x => rfl) (fun j x G3 hx g3 => ?_) (fun j x G3 hx g3 _ => ?_)
        · rw [picked_ints] at ip
          refine evt_is (evt_eqD (evd_ints ip.s) (evd_e (K := K)) (shaped_ints _) shaped_nil) ?_
          unfold dI
          rw [eqv_nil]
          refine decide_eq_decide.mpr ?_
          rw [List.map_eq_nil_iff, List.map_eq_nil_iff, List.filter_eq_nil_iff, List.length_map, ni_len, eTl]
          constructor
          · intro h j hj
            have := h j (List.mem_range.mpr hj)
            simpa using this
          · intro h j hj
            rw [h j (List.mem_range.mp hj)]
            simp
        all_goals
          obtain ⟨rfl, hj⟩ := getD_vi hx
          rw [ni_len, eTl] at hj
          rw [getD_ni]
        · have hidx : places.idxOf (ord.getD j 0) < places.length := List.idxOf_lt_length_iff.mpr (omem (by omega))
          rw [eTg hj]
          exact evt_ne (ev1_at (l := line) (evs_var (i := 7) rfl (sql (g3 _ _ er'))) (ev1_var (i := 6) rfl) (by omega)) (ev1_at (l := ws) (evs_var (i := 2) rfl (sql (g3 _ _ (g2 _ _ (sG1 _ _ b1))))) (ev1_var (i := 6) rfl) (by omega))
        · exact ev1_var rfl
      · refine ev1_is (ev1_var (i := 7) rfl) ?_
        rw [List.getD_eq_getElem?_getD, hx] <;> rfl
    · obtain ⟨rfl, hj⟩ := getD_vi hx
      rw [tkl] at hj
      rw [tkg hj]
      exact ev_index (i := 0) (j := 6) rfl (sql (s1' _ _ (sG _ _ a1))) rfl od.nd (omem (by omega))
  · rintro σ G ⟨sG, ⟨y4, y5, y6, y7, rfl⟩, hp⟩
    have em : misM places ord ws rows = none := by
      unfold misM
      rw [List.find?_eq_none]
      intro k hk
      rw [hp k (List.mem_range.mp hk)]
      decide
    have := q G (s1.trans sG)
    rw [em] at this
    exact this
end
end K53

/-! K53L7: readings of the law's own defs: small codes. -/
namespace K53
open PySem PySem.Spec PyProof.Rows L2
section
variable {K : PySem.W.Frag} {vs : List V} {H : Hp} {Q : VK} {E : XK}
theorem r_l_small (h : sp_l_small K vs H Q E) : t_l_small K (fin Q) (start N_l_small vs) H := by
  obtain ⟨g, c, rfl, G, hc, q⟩ := h
  have c4 : ∀ {σ : L2.St} {B : Hp}, Ev1 (tC (.int 4)) σ B (.int 4) := ev1_c
  refine drawn (K := K) (σ := start N_l_small [.ref g]) (i := 0) (c := c) rfl c4 (by decide) (by decide) G (by omega) fun H1 r s1 g1 r0 r1 => ?_
  obtain ⟨m, rfl⟩ : ∃ m : Nat, r = m := ⟨r.toNat, by omega⟩
  have ew : (1 : Int) + (m : Int) = ((m + 1 : Nat) : Int) := by omega
  refine ⟨_, _, rfl, rfl, ?_⟩
  show gName 1 (V.int ((1 : Int) + (m : Int))) _ H1 _
  rw [ew]
  have w1 : 1 ≤ m + 1 := by omega
  have w4 : m + 1 ≤ 4 := by omega
  generalize m + 1 = w at *
  refine ⟨_, rfl, _, rfl, g, w, c + 1, rfl, w1, w4, g1, by omega, fun H2 a places s2 g2 ha ea pl => ?_⟩
  refine drawn (K := K) (σ := [some (.ref g), some (.int w), none, none, none, none, none]) (i := 0) (c := c + 1 + 9) rfl c4 (by decide) (by decide) g2 (by omega) fun H3 r s3 g3 r0 r1 => ?_
  obtain ⟨t, rfl⟩ : ∃ t : Nat, r = t := ⟨r.toNat, by omega⟩
  have ag := g1.ne ha
  have a0 : H a = none := s1.free ag ha
  have e3 := s3 _ _ ag ea
  have sx3 := (s1.trans s2).trans s3
  refine ⟨_, _, rfl, ?_⟩
  refine ⟨_, rfl, a, places, rfl, e3, pl.od, pl.ne, fun H4 tt o n s4 ht ho hn et eo en => ⟨tt, [.ref o, .ref n], 1, .ref n, rfl, rfl, sql et, rfl, ?_⟩⟩
  have gd := pl.od.good
  have nl : (nP places).length = places.length := by rw [gd.len, pl.od.olen]
  have l8 := pl.len
  generalize nP places = nums at *
  refine ⟨_, rfl, by decide, by decide, for_range (n := 4) (fun i σ G' => Same H4 G' ∧ ∃ (t : Nat) (y5 y6 : Option V), t ≤ 3 ∧ σ = [some (.ref g), some (.int w), some (.ref a), some (.int t), some (.ref n), y5, y6]) ⟨Same.refl _, t, none, none, by omega, rfl⟩ ?_ ?_⟩
  · rintro i σ G' hi ⟨sG, t, y5, y6, t3, rfl⟩
    have sl : EvN (tSl (rSlL K) (tVar 4) tNoPart (tPart (tVar 3))) ([some (.ref g), some (.int w), some (.ref a), some (.int t), some (.ref n), some (.int (0 + (i : Nat))), y6] : L2.St) G' ((ni (nums.take t)).map V.int) := by
      have z := ev_slice (K := K) (B := G') (σ := ([some (.ref g), some (.int w), some (.ref a), some (.int t), some (.ref n), some (.int (0 + (i : Nat))), y6] : L2.St)) (te := tVar 4) (evs_var rfl (sql (sG _ _ en))) evo_none (evo_some (te := tVar 3) (i := (t : Int)) (ev1_var rfl))
      rw [cut_to, map_take, ni_take] at z
      exact z
    have tkl : (nums.take t).length ≤ 8 := by
      rw [List.length_take]
      omega
    have cp := lcL (K := K) (te := tOp oSub (tVar 1) (tVar 6)) (tt := tTest (tOp oLt (tVar 6) (tVar 1))) (j := 6) (vs := [6]) (xs := (ni (nums.take t)).map V.int) (B := G')
      (σ := [some (.ref g), some (.int w), some (.ref a), some (.int t), some (.ref n), some (.int (0 + (i : Nat))), y6]) (fun k => decide ((nums.take t).getD k 0 < w)) (fun k => .int ((w : Int) - (((nums.take t).getD k 0 : Nat) : Int))) sl.s (by rw [List.length_map, ni_len]; omega) (fun x => rfl) (fun k x G1 hx s1 => ?_) (fun k x G1 hx s1' _ => ?_)
    · rw [picked_ints] at cp
      have tst := evt_gt (ev1_sum (K := K) cp.s) (ev1_c (v := .int 8))
      refine gN (ifs tst (fun hb H5 s5 => ?_) fun hb H5 s5 => ?_)
      · have ht0 : t ≠ 0 := by
          intro z
          subst z
          have h2 := of_decide_eq_true hb
          rw [List.length_map, ni_len] at h2
          exact absurd (show (8 : Int) < 0 from h2) (by decide)
        refine asg1 (i := 3) (v := .int ((t - 1 : Nat) : Int)) (ev1_is (ev1_sub (ev1_var (i := 3) rfl) ev1_c) (by congr 1; omega)) fun H6 s6 => ⟨sG.trans (s5.trans s6), t - 1, _, _, by omega, rfl⟩
      · exact ⟨sG.trans s5, t, _, _, t3, rfl⟩
    all_goals
      obtain ⟨rfl, hk⟩ := getD_vi hx
      rw [getD_ni]
    · exact evt_is (evt_lt (ev1_var (i := 6) rfl) (ev1_var (i := 1) rfl)) (decide_eq_decide.mpr (by omega))
    · exact ev1_sub (ev1_var (i := 1) rfl) (ev1_var (i := 6) rfl)
  · rintro σ G' ⟨sG, t, y5, y6, t3, rfl⟩
    refine ⟨_, rfl, _, rfl, _, rfl, by show 3 ≤ sizeLine; decide, fun p hp => ?_⟩
    have sN : Same G' (upd G' p (.lst [.int w, .ref a, .int t])) := same_new hp
    have s4N := s4.trans (sG.trans sN)
    have p4 : H3 p = none := (s4.trans sG).free hp
    exact q _ p a w t places (sx3.trans (sx s4N)) ((g3.same s4N).le (by omega)) (sx3.free (g3.ne p4) p4) a0 (ne_of_none e3 p4).symm upd_same (s4N _ _ e3) pl w4 t3
end
end K53

/-! K53L8: texts of data, pairs, the first that is not nought. -/
namespace K53
open PySem PySem.Spec PyProof.Rows L2

/-! ### texts -/
theorem shown_int {n : Int} (h0 : 0 ≤ n) (h1 : n ≤ 2 ^ 64) : (PyData.shown (.int n)).length ≤ 20 := by
  obtain ⟨k, rfl⟩ := Int.eq_ofNat_of_zero_le h0
  have e : PyData.shown (.int (k : Int)) = Str.ofString (toString ((k : Nat) : Int)) := by simp only [PyData.shown] <;> rfl
  rw [e, TL.len_tl, TL.tl_num]
  exact TL.numL_len (by decide) (by omega)
theorem from_len {m : Nat} : ∀ (ts : List Str) (k : Nat) (acc : Str), (∀ t ∈ ts, t.length ≤ m) → (textFrom k acc ts).length ≤ acc.length + ts.length * (m + 2)
  | [], k, acc, _ => by show acc.length ≤ _; omega
  | t :: r, k, acc, h => by
    have h1 := from_len r (k + 1) (acc ++ (if k > 0 then ", " else "" : String) ++ t) fun x hx => h x (List.mem_cons_of_mem _ hx)
    have e : (acc ++ (if k > 0 then ", " else "" : String) ++ t).length ≤ acc.length + 2 + t.length := by
      rw [strLen_append, strLen_append]
      by_cases hk : k > 0
      · rw [if_pos hk]
        exact Nat.le_refl _
      · rw [if_neg hk]
        show acc.length + 0 + _ ≤ _
        omega
    have ht := h t List.mem_cons_self
    rw [List.length_cons, Nat.add_mul, Nat.one_mul]
    show (textFrom (k + 1) _ r).length ≤ _
    omega
theorem all_len {m : Nat} : ∀ ds : List PyData, (∀ d ∈ ds, (PyData.shown d).length ≤ m) → (PyData.shownAll ds).length = ds.length ∧ ∀ t ∈ PyData.shownAll ds, t.length ≤ m
  | [], _ => by
    simp only [PyData.shownAll]
    exact ⟨rfl, fun _ h => by cases h⟩
  | d :: r, h => by
    obtain ⟨h1, h2⟩ := all_len r fun x hx => h x (List.mem_cons_of_mem _ hx)
    simp only [PyData.shownAll]
    refine ⟨by rw [List.length_cons, List.length_cons, h1], fun t ht => ?_⟩
    rcases List.mem_cons.mp ht with e | e
    · rw [e]
      exact h d List.mem_cons_self
    · exact h2 t e
theorem list_len {m : Nat} {ds : List PyData} (h : ∀ d ∈ ds, (PyData.shown d).length ≤ m) : (PyData.shown (.list ds)).length ≤ 2 + ds.length * (m + 2) := by
  obtain ⟨h1, h2⟩ := all_len ds h
  simp only [PyData.shown]
  unfold listText
  rw [strLen_append]
  have h3 := from_len (PyData.shownAll ds) 0 "[" h2
  rw [h1] at h3
  have e1 : (("[" : String) : Str).length = 1 := rfl
  have e2 : (("]" : String) : Str).length = 1 := rfl
  omega
theorem piled_le {m : Nat} : ∀ ts : List Str, (∀ t ∈ ts, t.length ≤ m) → piled ts ≤ ts.length * (m + 2)
  | [], _ => Nat.zero_le _
  | t :: r, h => by
    have h1 := piled_le r fun x hx => h x (List.mem_cons_of_mem _ hx)
    have ht := h t List.mem_cons_self
    rw [piled_cons, List.length_cons, Nat.add_mul, Nat.one_mul]
    omega
theorem join_le {m : Nat} {ts : List Str} (h : ∀ t ∈ ts, t.length ≤ m) : (Str.join ", " ts).length ≤ ts.length * (m + 2) := by
  by_cases e : ts = []
  · subst e
    exact Nat.zero_le _
  · have h1 := join_length_add ts e
    have h2 := piled_le ts h
    omega
theorem tuple_len {m : Nat} {ds : List PyData} (h : ∀ d ∈ ds, (PyData.shown d).length ≤ m) : (PyData.shown (.tuple ds)).length ≤ 4 + ds.length * (m + 2) := by
  obtain ⟨h1, h2⟩ := all_len ds h
  simp only [PyData.shown]
  unfold tupleText
  rw [strLen_append, strLen_append]
  have h3 := join_le h2
  rw [h1] at h3
  have e1 : (("(" : String) : Str).length = 1 := rfl
  have e2 : ∀ b : Bool, ((if b = true then ",)" else ")" : String) : Str).length ≤ 2 := fun b => by cases b <;> decide
  have := e2 ((PyData.shownAll ds).length == 1)
  omega
/-- what repr takes: data of numbers below 2 ^ 64 -/
structure Sayable (d : PyData) : Prop where
  show_ : d.showable = true
  flat : d.hasDict = false
  deep : d.depth ≤ 8
  len : d.shown.length ≤ sizeLine
theorem ints_sayable {l : List Int} (h : ∀ x ∈ l, 0 ≤ x ∧ x ≤ 2 ^ 64) (hl : l.length ≤ 1000) : Sayable (dI l) := by
  have a1 : ∀ l : List Int, (∀ x ∈ l, 0 ≤ x ∧ x ≤ 2 ^ 64) → PyData.showableAll (l.map PyData.int) = true := by
    intro l
    induction l with
    | nil => intro _; simp [PyData.showableAll]
    | cons x r ih =>
      intro h
      have h1 := ih fun y hy => h y (List.mem_cons_of_mem _ hy)
      have h2 := h x List.mem_cons_self
      have h3 : x.natAbs.log2 < 1920 := PySem.Flt.log2_lt_of (by decide) (Nat.lt_of_le_of_lt (show x.natAbs ≤ 2 ^ 64 by omega) (Nat.pow_lt_pow_right (by decide) (by decide)))
      simp only [List.map_cons, PyData.showableAll, PyData.showable, h1, Bool.and_true]
      exact decide_eq_true h3
  have a2 : ∀ l : List Int, PyData.hasDictAll (l.map PyData.int) = false := by
    intro l
    induction l with
    | nil => simp [PyData.hasDictAll]
    | cons x r ih => simp only [List.map_cons, PyData.hasDictAll, PyData.hasDict, ih, Bool.or_false]
  refine ⟨?_, ?_, ?_, ?_⟩
  · unfold dI
    simp only [PyData.showable]
    exact a1 l h
  · unfold dI
    simp only [PyData.hasDict]
    exact a2 l
  · have := deep_ints l
    unfold dI
    simp only [PyData.depth]
    omega
  · have h1 := list_len (m := 20) (ds := l.map PyData.int) fun d hd => by
      obtain ⟨x, hx, rfl⟩ := List.mem_map.mp hd
      exact shown_int (h x hx).1 (h x hx).2
    rw [List.length_map] at h1
    have e : sizeLine = 16777216 := sizeLine_eq
    show (PyData.shown (.list _)).length ≤ _
    omega
/-- None or a pair, as data -/
def dO : Option (Nat × Int) → PyData
  | none => .none
  | some (k, x) => .tuple [.int k, .int x]
theorem log_small {x : Int} (h0 : 0 ≤ x) (h1 : x ≤ 2 ^ 64) : x.natAbs.log2 < 1920 := PySem.Flt.log2_lt_of (by decide) (Nat.lt_of_le_of_lt (show x.natAbs ≤ 2 ^ 64 by omega) (Nat.pow_lt_pow_right (by decide) (by decide)))
theorem opt_sayable {o : Option (Nat × Int)} (h : ∀ k x, o = some (k, x) → k ≤ 1000 ∧ 0 ≤ x ∧ x ≤ 2 ^ 64) : Sayable (dO o) := by
  cases o with
  | none =>
    refine ⟨by simp [dO, PyData.showable], by simp [dO, PyData.hasDict], by simp [dO, PyData.depth], ?_⟩
    simp only [dO, PyData.shown]
    show 4 ≤ sizeLine
    decide
  | some p =>
    obtain ⟨k, x⟩ := p
    obtain ⟨hk, h0, h1⟩ := h k x rfl
    refine ⟨?_, by simp [dO, PyData.hasDict, PyData.hasDictAll], by simp [dO, PyData.depth, PyData.depthAll], ?_⟩
    · simp only [dO, PyData.showable, PyData.showableAll, Bool.and_true, Bool.and_eq_true]
      exact ⟨decide_eq_true (log_small (by omega) (by omega)), decide_eq_true (log_small h0 h1)⟩
    · have h2 := tuple_len (m := 20) (ds := [.int k, .int x]) fun d hd => by
        rcases List.mem_cons.mp hd with e | e
        · rw [e]
          exact shown_int (by omega) (by omega)
        · rw [List.mem_singleton.mp e]
          exact shown_int h0 h1
      have e : sizeLine = 16777216 := sizeLine_eq
      have e2 : ([PyData.int k, PyData.int x] : List PyData).length = 2 := rfl
      rw [e2] at h2
      show (PyData.shown (.tuple _)).length ≤ _
      omega
theorem shaped_opt (o : Option (Nat × Int)) : SeqAt.shaped (dO o) = true := by
  cases o with
  | none => simp [SeqAt.shaped, dO, PyData.canLay0, PyData.depth]
  | some p =>
    obtain ⟨k, x⟩ := p
    simp [SeqAt.shaped, dO, PyData.canLay0, PyData.canLayAll0, PyData.depth, PyData.depthAll]
theorem eqv_opt (o : Option (Nat × Int)) : PyData.eqv (dO o) (dO o) = true := by
  cases o with
  | none => simp [dO, PyData.eqv]
  | some p =>
    obtain ⟨k, x⟩ := p
    simp [dO, PyData.eqv, PyData.eqvAll]

/-! ### what repr, comparisons and calls give -/
section
variable {K : PySem.W.Frag} {σ : L2.St} {B H : Hp} {te ta tb : TE} {tt tu : TT} {d e : PyData} {v : V} {ns : List Int}
theorem dp_ref {v : V} {d : PyData} (h : Dp K H v d) (hd : (d = .none) ∨ (∃ ds, d = .list ds) ∨ ∃ ds, d = .tuple ds) : (v = .non ∧ d = PyData.none) ∨ ∃ a, v = .ref a := by
  rcases hd with rfl | ⟨ds, rfl⟩ | ⟨ds, rfl⟩
  · cases h
    exact .inl ⟨rfl, rfl⟩
  · cases h
    exact .inr ⟨_, rfl⟩
  · cases h
    exact .inr ⟨_, rfl⟩
theorem ev_repr (h : EvD K te σ B d) (hd : (d = .none) ∨ (∃ ds, d = .list ds) ∨ ∃ ds, d = .tuple ds) (s : Sayable d) : Ev1 (tCB (rRepr K) (tCons te tNil)) σ B (.str d.shown) := fun H s1 R k => h H s1 _ fun v H2 s2 hv =>
  ⟨v, d, rfl, dp_ref hv hd, hv, s.show_, s.flat, s.deep, s.len, k H2 s2⟩
theorem dO_kind (o : Option (Nat × Int)) : (dO o = .none) ∨ (∃ ds, dO o = .list ds) ∨ ∃ ds, dO o = .tuple ds := by
  cases o with
  | none => exact .inl rfl
  | some p => exact .inr (.inr ⟨_, rfl⟩)
theorem dI_kind (l : List Int) : (dI l = .none) ∨ (∃ ds, dI l = .list ds) ∨ ∃ ds, dI l = .tuple ds := .inr (.inl ⟨_, rfl⟩)
theorem evt_neS {x y : Str} (ha : Ev1 ta σ B (.str x)) (hb : Ev1 tb σ B (.str y)) (h : x = y) : EvT1 (tTest (tOp rNe ta tb)) σ B false := fun H s R k => ha H s _ fun H1 s1 => hb H1 (s.trans s1) _ fun H2 s2 => ⟨rfl, _, rfl, by
  rw [h, decide_eq_true rfl]
  exact k H2 (s1.trans s2)⟩
theorem evt_or {b c : Bool} (h : EvT1 tt σ B b) (h2 : EvT1 tu σ B c) : EvT1 (tOr tt tu) σ B (b || c) := fun H s R k => h H s _ fun H1 s1 => by
  cases b with
  | true => exact iteT (k H1 s1)
  | false => exact iteF (h2 H1 (s.trans s1) R fun H2 s2 => k H2 (s1.trans s2))
theorem evd_if {b : Bool} (h : EvT1 tt σ B b) (h1 : b = true → EvD K ta σ B d) (h2 : b = false → EvD K tb σ B d) : EvD K (tIf tt ta tb) σ B d := fun H s R k => h H s _ fun H1 s1 => by
  cases b with
  | true => exact iteT (h1 rfl H1 (s.trans s1) R fun v H2 s2 hv => k v H2 (s1.trans s2) hv)
  | false => exact iteF (h2 rfl H1 (s.trans s1) R fun v H2 s2 hv => k v H2 (s1.trans s2) hv)
theorem evd_none : EvD K (tC .non) σ B .none := fun H s R k => k _ H (Same.refl _) .non
theorem dp_opt {H' : Hp} {o : Option (Nat × Int)} {v : V} (h : OptPair H o H' v) : Dp K H' v (dO o) := by
  cases o with
  | none =>
    have e : v = .non := h
    rw [e]
    exact .non
  | some p =>
    obtain ⟨k, x⟩ := p
    obtain ⟨p, rfl, _, e⟩ := h
    exact .tup (sqt e) (.cons (.int _) (.cons (.int _) .nil))
end

/-! ### the pairs of numbers that are not nought -/
def nzs (l : List Int) : List (Nat × Int) := ((List.range l.length).filter fun i => !decide (l.getD i 0 = 0)).map fun i => (i, l.getD i 0)
theorem nzs_head (l : List Int) : (nzs l).head? = firstNZ 0 l := by
  unfold nzs
  rw [List.head?_map, List.head?_filter]
  by_cases h : ∃ i, i < l.length ∧ l.getD i 0 ≠ 0
  · cases e : (List.range l.length).find? fun i => !decide (l.getD i 0 = 0) with
    | none =>
      obtain ⟨i, hi, hx⟩ := h
      have := List.find?_eq_none.mp e i (List.mem_range.mpr hi)
      simp at this
      exact absurd this (by simpa using hx)
    | some i =>
      rw [List.find?_eq_some_iff_getElem] at e
      obtain ⟨h1, j, hj, e2, h3⟩ := e
      rw [List.getElem_range] at e2
      subst e2
      rw [List.length_range] at hj
      rw [firstNZ_at hj (fun m hm => by
        have := h3 m hm
        rw [List.getElem_range] at this
        simpa using this) (by simpa using h1)]
      rfl
  · have z : ∀ j, j < l.length → l.getD j 0 = 0 := fun j hj => Classical.byContradiction fun hx => h ⟨j, hj, hx⟩
    rw [firstNZ_none z, List.find?_eq_none.mpr]
    · rfl
    · intro j hj
      rw [z j (List.mem_range.mp hj)]
      decide
/-- a list of new pairs -/
def Pairs (H : Hp) (p : Addr) (ps : List (Nat × Int)) : Prop := ∃ rs : List Addr, H p = some (.lst (rs.map V.ref)) ∧ Paired (fun r q => H r = some (.tup [.int (q.1 : Nat), .int q.2])) rs ps
section
variable {K : PySem.W.Frag} {σ : L2.St} {B H : Hp} {te tl ta tb : TE}
theorem lc_pairs {j l : Nat} {vs : List Nat} {due : List Int} (hs : EvS K tl σ B (due.map V.int)) (hz : due.length ≤ 1000) (hw : ∀ x y, wipe (put2 (wipe σ vs) j l x y) vs = wipe σ vs) (h1 : ∀ x y, (put2 (wipe σ vs) j l x y)[j]? = some (some x)) (h2 : ∀ x y, (put2 (wipe σ vs) j l x y)[l]? = some (some y)) :
    ∀ H, Same B H → ∀ R : VK, (∀ p H2, Same H H2 → H p = none → Pairs H2 p (nzs due) → R (.ref p) H2) → tLc (iEnum K (tCons tl tNil)) (gTup K 2 (gCons (gName j) (gCons (gName l) gNil))) (tTest (tOp rNe (tVar l) (tC (.int 0)))) (tTup (tCons (tVar j) (tCons (tVar l) tNil))) vs σ H R := fun H s R k => hs H s _ fun a H1 s1 ha => ⟨a, due.map V.int, rfl, ha, fun D hD => by
  refine ⟨fun i m H' => m = due.length - i ∧ i ≤ due.length ∧ Same H1 H' ∧ ∃ rs : List Addr, H' D = some (.lst (rs.map V.ref)) ∧ rs.length ≤ i ∧ Paired (fun r q => r ≠ D ∧ H' r = some (.tup [.int (q.1 : Nat), .int q.2])) rs (((List.range i).filter fun i => !decide (due.getD i 0 = 0)).map fun i => (i, due.getD i 0)), ⟨due.length, rfl, Nat.zero_le _, same_new hD, [], upd_same, Nat.le_refl _, .nil⟩, ?_⟩
  rintro i m H' ⟨rfl, hi, sH, rs, d, rl, pq⟩
  by_cases hlt : i < due.length
  · have gi : (due.map V.int)[i]? = some (.int (due.getD i 0)) := vi_get (getD_lt hlt)
    refine .inr ⟨⟨due.map V.int, _, sH.seq ha, gi⟩, fun H' => i + 1 ≤ due.length ∧ Same H1 H' ∧ ∃ rs : List Addr, H' D = some (.lst (rs.map V.ref)) ∧ rs.length ≤ i + 1 ∧ Paired (fun r q => r ≠ D ∧ H' r = some (.tup [.int (q.1 : Nat), .int q.2])) rs (((List.range (i + 1)).filter fun i => !decide (due.getD i 0 = 0)).map fun i => (i, due.getD i 0)), fun H' hN => ⟨_, by omega, rfl, hN⟩, ?_⟩
    rintro v H3 ⟨T, x, rfl, hT, rfl, hx⟩
    have ex := gi.symm.trans (hx _ (sH.seq ha))
    cases ex
    refine pair_in ⟨hw _ _, ?_⟩
    have sT : Same H' (upd H' T (.tup [.int i, .int (due.getD i 0)])) := same_new hT
    generalize upd H' T (.tup [.int i, .int (due.getD i 0)]) = H3 at *
    refine evt_ne (ev1_var (h2 _ _)) ev1_c H3 (Same.refl _) _ fun H4 s4 => ?_
    have s34 := sT.trans s4
    cases hb : (!decide (due.getD i 0 = 0)) with
    | false =>
      refine iteF ⟨hlt, sH.trans s34, rs, s34 _ _ d, by omega, ?_⟩
      rw [List.range_succ, List.filter_append, List.filter_cons_of_neg (by rw [hb]; decide), List.filter_nil, List.append_nil]
      exact Paired.mapP pq fun r q h => ⟨h.1, s34 _ _ h.2⟩
    | true =>
      refine iteT ⟨_, h1 _ _, _, h2 _ _, by show 2 ≤ sizeLine; decide, fun r hr => ⟨rs.map V.ref, ?_, ?_, hlt, same_mut (sH.trans (s34.trans (same_new hr))) hD, rs ++ [r], ?_, ?_, ?_⟩⟩
      · exact same_new hr _ _ (s34 _ _ d)
      · rw [List.length_map]
        exact Nat.lt_of_lt_of_le (show rs.length < 1001 by omega) (by decide)
      · rw [List.map_append]
        exact upd_same
      · rw [List.length_append]
        show rs.length + 1 ≤ _
        omega
      · have hrD : r ≠ D := (ne_of_none (s34 _ _ d) hr).symm
        rw [List.range_succ, List.filter_append, List.filter_cons_of_pos (by rw [hb]), List.filter_nil, List.map_append]
        refine paired_snoc (Paired.mapP pq fun r' q h => ⟨h.1, ?_⟩) ⟨hrD, ?_⟩
        · rw [upd_ne h.1]
          exact same_new hr _ _ (s34 _ _ h.2)
        · rw [upd_ne hrD]
          exact upd_same
  · have e : i = due.length := by omega
    subst e
    refine .inl ⟨⟨due.map V.int, sH.seq ha, by rw [List.length_map]; exact Nat.le_refl _⟩, k D H' (s1.trans sH) (s1.free hD) ⟨rs, d, Paired.mapP pq fun r q h => h.2⟩⟩⟩
theorem Pairs.mono {H H' : Hp} {p : Addr} {ps : List (Nat × Int)} (h : Pairs H p ps) (s : Same H H') : Pairs H' p ps := by
  obtain ⟨rs, d, q⟩ := h
  exact ⟨rs, s _ _ d, Paired.mapP q fun r x h => s _ _ h⟩
theorem Pairs.dp {p : Addr} {ps : List (Nat × Int)} (h : Pairs H p ps) : Dp K H (.ref p) (.list (ps.map fun q => dO (some q))) := by
  obtain ⟨rs, d, q⟩ := h
  refine .lst (sql d) ?_
  clear d
  induction q with
  | nil => exact .nil
  | cons h t ih => exact .cons (.tup (sqt h) (.cons (.int _) (.cons (.int _) .nil))) ih
theorem shaped_pairs (ps : List (Nat × Int)) : SeqAt.shaped (.list (ps.map fun q => dO (some q))) = true := by
  refine shaped_list ?_ ?_
  · induction ps with
    | nil => simp [PyData.canLayAll0]
    | cons q r ih =>
      have h1 : (dO (some q)).canLay0 = true := by simp [dO, PyData.canLay0, PyData.canLayAll0]
      simp only [List.map_cons, PyData.canLayAll0]
      rw [h1, ih] <;> rfl
  · have : PyData.depthAll (ps.map fun q => dO (some q)) ≤ 2 := by
      induction ps with
      | nil => simp [PyData.depthAll]
      | cons q r ih =>
        have h1 : (dO (some q)).depth ≤ 2 := by simp [dO, PyData.depth, PyData.depthAll]
        simp only [List.map_cons, PyData.depthAll]
        omega
    omega
/-- first[0] if first != [] else None -/
theorem ev_first {i : Nat} {p : Addr} {ps : List (Nat × Int)} (hi : σ[i]? = some (some (.ref p))) (hp : Pairs B p ps) : EvD K (tIf (tTest (tOp (rNeD K) (tVar i) (tLst tNil))) (tOp (rIxL K) (tVar i) (tC (.int 0))) (tC .non)) σ B (dO ps.head?) := by
  refine evd_if (evt_neD (evd_var hi hp.dp) evd_e (shaped_pairs ps) shaped_nil) (fun hb => ?_) fun hb => ?_
  · rw [eqv_nil] at hb
    cases ps with
    | nil => simp at hb
    | cons q r =>
      intro H s R k
      obtain ⟨rs, d, pq⟩ := hp.mono s
      cases pq with
      | @cons f _ fs _ h t =>
        exact ⟨_, hi, p, _, 0, .ref f, rfl, rfl, sql d, atI_nat (j := 0) rfl, k _ _ (Same.refl _) (.tup (sqt h) (.cons (.int _) (.cons (.int _) .nil)))⟩
  · rw [eqv_nil] at hb
    cases ps with
    | nil => exact evd_none
    | cons q r => simp at hb
/-- first[0][0] if first != [] else None -/
theorem ev_first0 {i : Nat} {p : Addr} {ps : List (Nat × Int)} (hi : σ[i]? = some (some (.ref p))) (hp : Pairs B p ps) : Ev1 (tIf (tTest (tOp (rNeD K) (tVar i) (tLst tNil))) (tOp (rIxT K) (tOp (rIxL K) (tVar i) (tC (.int 0))) (tC (.int 0))) (tC .non)) σ B (ov (ps.head?.map fun q => ((q.1 : Nat) : Int))) := by
  refine ev1_if (evt_neD (evd_var hi hp.dp) evd_e (shaped_pairs ps) shaped_nil) (fun hb => ?_) fun hb => ?_
  · rw [eqv_nil] at hb
    cases ps with
    | nil => simp at hb
    | cons q r =>
      intro H s R k
      obtain ⟨rs, d, pq⟩ := hp.mono s
      cases pq with
      | @cons f _ fs _ h t =>
        exact ⟨_, hi, p, _, 0, .ref f, rfl, rfl, sql d, atI_nat (j := 0) rfl, f, _, 0, _, rfl, rfl, sqt h, atI_nat (j := 0) rfl, k _ (Same.refl _)⟩
  · rw [eqv_nil] at hb
    cases ps with
    | nil => exact ev1_c
    | cons q r => simp at hb
end
/-! ### the first misfit -/
theorem mis_first {w c : Nat} {places ws : List Int} (pl : Pl w places) (hw : IsWords w places ws) :
    misM places (oP places) ws (lines w c places (oP places) (nP places)) = (firstNZ 0 (dueM w c places ws)).map (·.1) := by
  have g := pl.od.good
  have al : (dueM w c places ws).length = (oP places).length := alarms_len
  have pk : ∀ k, k < (oP places).length → (parts places (oP places) ws (lines w c places (oP places) (nP places)) k = true ↔ ∃ j, j < k + 1 ∧ (dueM w c places ws).getD j 0 ≠ 0) := fun k hk => by
    unfold parts
    rw [decide_eq_true_eq]
    have ag := agree_iff (c := c) g pl.w64 hw (m := k + 1) (by omega)
    constructor
    · intro h
      refine Classical.byContradiction fun z => ?_
      obtain ⟨line, hl, h2⟩ := ag.mpr fun j hj => Classical.byContradiction fun z2 => z ⟨j, hj, z2⟩
      obtain ⟨j, hj, h3⟩ := h line hl
      exact h3 (h2 j hj)
    · rintro ⟨j, hj, h2⟩ line hl
      refine Classical.byContradiction fun z => ?_
      exact h2 (ag.mp ⟨line, hl, fun m hm => Classical.byContradiction fun z2 => z ⟨m, hm, z2⟩⟩ j hj)
  unfold misM
  by_cases h : ∃ i, i < (oP places).length ∧ (dueM w c places ws).getD i 0 ≠ 0
  · obtain ⟨i, ⟨hi, hx⟩, hmin⟩ : ∃ i, (i < (oP places).length ∧ (dueM w c places ws).getD i 0 ≠ 0) ∧ ∀ j, j < i → ¬ (j < (oP places).length ∧ (dueM w c places ws).getD j 0 ≠ 0) := by
      obtain ⟨i, hi⟩ := h
      induction i using Nat.strongRecOn with
      | _ i ih =>
        by_cases h2 : ∃ j, j < i ∧ (j < (oP places).length ∧ (dueM w c places ws).getD j 0 ≠ 0)
        · obtain ⟨j, hj, h3⟩ := h2
          exact ih j hj h3
        · exact ⟨i, hi, fun j hj h3 => h2 ⟨j, hj, h3⟩⟩
    have hz : ∀ j, j < i → (dueM w c places ws).getD j 0 = 0 := fun j hj => Classical.byContradiction fun z => hmin j hj ⟨by omega, z⟩
    rw [firstNZ_at (by omega) hz hx]
    show _ = some i
    rw [List.find?_eq_some_iff_getElem]
    refine ⟨(pk i hi).mpr ⟨i, by omega, hx⟩, i, by rw [List.length_range]; exact hi, by rw [List.getElem_range], fun j hj => ?_⟩
    rw [List.getElem_range]
    cases e : parts places (oP places) ws (lines w c places (oP places) (nP places)) j with
    | false => rfl
    | true =>
      obtain ⟨m, hm, h3⟩ := (pk j (by omega)).mp e
      exact absurd (hz m (by omega)) h3
  · have hz : ∀ j, j < (dueM w c places ws).length → (dueM w c places ws).getD j 0 = 0 := fun j hj => Classical.byContradiction fun z => h ⟨j, by omega, z⟩
    rw [firstNZ_none hz]
    show _ = none
    rw [List.find?_eq_none]
    intro k hk hb
    have hk2 := List.mem_range.mp hk
    obtain ⟨m, hm, h3⟩ := (pk k hk2).mp hb
    exact h3 (hz m (by omega))
theorem sums_due {w c : Nat} {places ws : List Int} : sumsM w (triP w c places (oP places) (nP places)) ws = dueM w c places ws := by
  unfold sumsM dueM alarmsM
  refine List.map_congr_left fun r _ => ?_
  rw [dot_comm]
theorem due_bd {w c : Nat} {places ws : List Int} (h : w ≤ 64) : ∀ x ∈ dueM w c places ws, 0 ≤ x ∧ x ≤ 2 ^ 64 := fun x hx => by
  unfold dueM alarmsM at hx
  obtain ⟨r, _, rfl⟩ := List.mem_map.mp hx
  have p2 := two_pow_pos w
  exact ⟨Int.emod_nonneg _ (Int.ne_of_gt p2), Int.le_trans (Int.le_of_lt (Int.emod_lt_of_pos _ p2)) (pow_bd h)⟩
theorem due_len {w c : Nat} {places ws : List Int} (pl : Pl w places) : (dueM w c places ws).length = places.length := by
  have : (dueM w c places ws).length = (oP places).length := alarms_len
  rw [this, pl.od.olen]
end K53

/-! K53L9: readings of the law's own defs: small codes are right. -/
namespace K53
open PySem PySem.Spec PyProof.Rows L2

theorem Rows.monoX {g p : Addr} {Z H H' : Hp} {rows : List (List Int)} (h : Rows Z H p rows) (s : SameX g H H') (hp : p ≠ g) (hz : ∀ r, Z r = none → r ≠ g) : Rows Z H' p rows := by
  obtain ⟨rs, d, q⟩ := h
  exact ⟨rs, s _ _ hp d, Paired.mapP q fun r xs h => ⟨h.1, s _ _ (hz r h.1) h.2⟩⟩
def SameY (g F : Addr) (H H' : Hp) : Prop := ∀ b o, b ≠ g → b ≠ F → H b = some o → H' b = some o
theorem SameX.y {g F : Addr} {H H' : Hp} (h : SameX g H H') : SameY g F H H' := fun b o n _ e => h b o n e
theorem SameY.put {g F : Addr} {H H' : Hp} {o : HO} (h : SameY g F H H') : SameY g F H (upd H' F o) := fun b u n n2 e => by
  rw [upd_ne n2]
  exact h b u n n2 e
def WD (g F : Addr) (w m : Nat) (places : List Int) (G : Hp) (f : Addr) (ws : List Int) : Prop := ∃ wa da : Addr, f ≠ g ∧ f ≠ F ∧ wa ≠ g ∧ wa ≠ F ∧ da ≠ g ∧ da ≠ F ∧ G f = some (.tup [.ref wa, .ref da]) ∧ Ls G wa ws ∧ Ls G da (dueM w m places ws) ∧ IsWords w places ws
theorem WD.mono {g F : Addr} {w m : Nat} {places : List Int} {G G' : Hp} {f : Addr} {ws : List Int} (h : WD g F w m places G f ws) (s : SameY g F G G') : WD g F w m places G' f ws := by
  obtain ⟨wa, da, f1, f2, w1, w2, d1, d2, e1, e2, e3, iw⟩ := h
  exact ⟨wa, da, f1, f2, w1, w2, d1, d2, s _ _ f1 f2 e1, s _ _ w1 w2 e2, s _ _ d1 d2 e3, iw⟩
theorem triP_mem {w c : Nat} {places o : List Int} {n : List Nat} {r : List Int} (h : r ∈ triP w c places o n) : r.length = places.length := by
  unfold triP at h
  obtain ⟨k, _, rfl⟩ := List.mem_map.mp h
  unfold inPl
  rw [List.length_map]
theorem any_rows (rows : List (List Int)) (l : List Int) : ((rows.map dI).any fun z => PyData.eqv z (dI l)) = decide (l ∈ rows) := by
  induction rows with
  | nil => simp
  | cons x r ih =>
    rw [List.map_cons, List.any_cons, ih, eqv_ints]
    by_cases e : x = l
    · subst e
      simp
    · have e2 : l ≠ x := fun z => e z.symm
      simp [e, e2]
section
variable {K : PySem.W.Frag} {σ : L2.St} {B H : Hp} {te ta tb : TE} {i j k l w c : Nat} {a b : Addr} {places ws : List Int}
theorem ev_alarms (h1 : σ[i]? = some (some (.int w))) (h2 : σ[j]? = some (some (.ref a))) (h3 : σ[k]? = some (some (.int c))) (h4 : σ[l]? = some (some (.ref b))) (ha : Ls B a places) (hb : Ls B b ws) (pl : Pl w places) (iw : IsWords w places ws) :
    EvD K (tCall (sp_alarms K) [] E0 (tCons (tVar i) (tCons (tVar j) (tCons (tVar k) (tCons (tVar l) tNil))))) σ B (dI (dueM w c places ws)) := fun H s R kk =>
  ⟨_, h1, _, h2, _, h3, _, h4, w, c, a, b, places, ws, rfl, s _ _ ha, s _ _ hb, pl, iw, fun H2 p s2 _ e => kk _ H2 s2 (dp_ints (sql e))⟩
theorem ev_alarmsK (h1 : σ[i]? = some (some (.int w))) (h2 : σ[j]? = some (some (.ref a))) (h3 : σ[k]? = some (some (.int c))) (h4 : σ[l]? = some (some (.ref b))) (ha : Ls B a places) (hb : Ls B b ws) (pl : Pl w places) (iw : IsWords w places ws) :
    EvD K (tCallK (sp_alarms K) gKw E0 tNil (tCons (tVar l) (tCons (tVar k) (tCons (tVar j) (tCons (tVar i) tNil))))) σ B (dI (dueM w c places ws)) := fun H s R kk =>
  ⟨_, h4, _, h3, _, h2, _, h1, w, c, a, b, places, ws, rfl, s _ _ ha, s _ _ hb, pl, iw, fun H2 p s2 _ e => kk _ H2 s2 (dp_ints (sql e))⟩
theorem ev_alarm (h1 : σ[i]? = some (some (.int w))) (h2 : σ[j]? = some (some (.ref a))) (h3 : σ[k]? = some (some (.int c))) (h4 : σ[l]? = some (some (.ref b))) (ha : Ls B a places) (hb : Ls B b ws) (pl : Pl w places) (iw : IsWords w places ws) :
    EvD K (tCall (sp_alarm K) [] E0 (tCons (tVar i) (tCons (tVar j) (tCons (tVar k) (tCons (tVar l) tNil))))) σ B (dO (firstNZ 0 (dueM w c places ws))) := fun H s R kk =>
  ⟨_, h1, _, h2, _, h3, _, h4, w, c, a, b, places, ws, rfl, s _ _ ha, s _ _ hb, pl, iw, fun H2 v s2 e => kk v H2 s2 (dp_opt e)⟩
theorem asgP {D : Ends} {ps : List (Nat × Int)} (c : ∀ H', Same H H' → ∀ R : VK, (∀ p H2, Same H' H2 → H' p = none → Pairs H2 p ps → R (.ref p) H2) → te σ H' R) (kk : ∀ p H2, Same H H2 → H p = none → Pairs H2 p ps → D.nx (σ.set i (some (.ref p))) H2) : tAsg te (gName i) D σ H := c H (Same.refl H) _ kk
theorem first_sayable {w c : Nat} {places ws : List Int} (pl : Pl w places) : Sayable (dO (firstNZ 0 (dueM w c places ws))) := by
  refine opt_sayable fun k x h => ?_
  rw [← nzs_head] at h
  have hm := List.mem_of_mem_head? h
  unfold nzs at hm
  obtain ⟨i, hi, e⟩ := List.mem_map.mp hm
  have hi2 := List.mem_range.mp (List.mem_filter.mp hi).1
  cases e
  have := due_len (w := w) (c := c) (places := places) (ws := ws) pl
  have l8 := pl.len
  exact ⟨by omega, due_bd pl.w64 _ (getD_mem hi2)⟩
theorem due_sayable (pl : Pl w places) : Sayable (dI (dueM w c places ws)) := ints_sayable (due_bd pl.w64) (by
  have := due_len (w := w) (c := c) (places := places) (ws := ws) pl
  have l8 := pl.len
  omega)
end
theorem wd_get {g F : Addr} {w m : Nat} {places : List Int} {G : Hp} {fs : List Addr} {wss : List (List Int)} {i : Nat} {x : V} (h : Paired (WD g F w m places G) fs wss) (e : (fs.map V.ref)[i]? = some x) :
    ∃ (f wa da : Addr) (ws : List Int), x = .ref f ∧ G f = some (.tup [.ref wa, .ref da]) ∧ Ls G wa ws ∧ Ls G da (dueM w m places ws) ∧ IsWords w places ws := by
  rw [List.getElem?_map] at e
  cases hr : fs[i]? with
  | none => rw [hr] at e; cases e
  | some r =>
    rw [hr] at e
    cases e
    obtain ⟨y, hy, wa, da, _, _, _, _, _, _, e1, e2, e3, iw⟩ := paired_get h hr
    exact ⟨r, wa, da, y, rfl, e1, e2, e3, iw⟩
section
variable {K : PySem.W.Frag} {vs : List V} {H : Hp} {Q : VK} {E : XK}
theorem r_l_right (h : sp_l_right K vs H Q E) : t_l_right K (fin Q) (start N_l_right vs) H := by
  obtain ⟨g, rfl, G0, q⟩ := h
  refine ⟨_, rfl, g, 0, rfl, G0, by omega, fun H1 p a w m places s1 g1 hp ha hpa ep ea pl w4 m3 => ⟨p, _, rfl, sql ep, rfl, _, _, rfl, _, _, rfl, _, _, rfl, rfl, ?_⟩⟩
  refine ⟨_, rfl, _, rfl, _, rfl, w, m, a, places, rfl, ea, pl, w4, m3, fun H2 lp s2 hlp rl => ⟨_, rfl, _, rfl, _, rfl, w, m, a, places, rfl, s2 _ _ ea, pl, fun H3 tp s3 htp rt => ⟨Nat.zero_le _, fun F hF => ⟨_, _, _, rfl, ?_⟩⟩⟩⟩
  have od := pl.od
  have gd := od.good
  have w64 := pl.w64
  have l8 := pl.len
  have ag : a ≠ g := G0.ne ha
  have lpg : lp ≠ g := g1.ne hlp
  have g2 := g1.same s2
  have g3 := g2.same s3
  have tpg : tp ≠ g := g2.ne htp
  have Fg : F ≠ g := g3.ne hF
  have z1 : ∀ r, H1 r = none → r ≠ g := fun r h => g1.ne h
  have z2 : ∀ r, H2 r = none → r ≠ g := fun r h => g2.ne h
  have ea3 := s3 _ _ (s2 _ _ ea)
  have rl3 : Rows H1 H3 lp (lines w m places (oP places) (nP places)) := rl.mono s3
  have aF : a ≠ F := ne_of_none ea3 hF
  have lines_pos : 0 < (lines w m places (oP places) (nP places)).length := List.length_pos_of_mem ((mem_lines (c := m) gd).mpr ⟨fun _ => 0, rfl⟩)
  have lines_le : (lines w m places (oP places) (nP places)).length ≤ 4096 := by
    refine Nat.le_trans (linesN_len _) (Nat.le_trans (Nat.pow_le_pow_right (by decide) (show w * cnt w m (nP places) ≤ 12 from Nat.mul_le_mul w4 (Nat.le_trans cnt_c m3))) (by decide))
  have lines_w : ∀ {line}, line ∈ lines w m places (oP places) (nP places) → IsWords w places line := fun h => line_words gd h
  have gapi : ∀ {x y : List Int}, x.length = places.length → y.length = places.length → (gap w x y ∈ lines w m places (oP places) (nP places) ↔ dueM w m places x = dueM w m places y) := fun hx hy => gap_iff gd w64 hx hy
  have mis : ∀ {ws : List Int}, IsWords w places ws → misM places (oP places) ws (lines w m places (oP places) (nP places)) = (firstNZ 0 (dueM w m places ws)).map (·.1) := fun hw => mis_first pl hw
  generalize lines w m places (oP places) (nP places) = lns at *
  refine ⟨_, rfl, by decide, by decide, for_range (n := 4) (fun i σ G => SameX g H3 G ∧ Gen G g (11 + 7 * i) ∧ (∃ (fs : List Addr) (wss : List (List Int)), G F = some (.lst (fs.map V.ref)) ∧ fs.length ≤ i ∧ Paired (WD g F w m places G) fs wss) ∧
      ∃ y7 y8 y9 y10 y11 y12 y13 y14 y15 y16 y17 y18 y19 : Option V, σ = [some (.ref g), some (.int w), some (.ref a), some (.int m), some (.ref lp), some (.ref tp), some (.ref F), y7, y8, y9, y10, y11, y12, y13, y14, y15, y16, y17, y18, y19] ∧
        (0 < i → ∃ (wa da : Addr) (ws : List Int), y8 = some (.ref wa) ∧ y9 = some (.ref da) ∧ Ls G wa ws ∧ Ls G da (dueM w m places ws) ∧ IsWords w places ws))
    ⟨sx (same_new hF), g3.same (same_new hF), ⟨[], [], upd_same, Nat.le_refl _, .nil⟩, _, _, _, _, _, _, _, _, _, _, _, _, _, rfl, fun h => by omega⟩ ?_ ?_⟩
  · rintro i σ G hi ⟨sG, gG, ⟨fs, wss, eF, fl, pf⟩, y7, y8, y9, y10, y11, y12, y13, y14, y15, y16, y17, y18, y19, rfl, _⟩
    have ei : (0 : Int) + (i : Nat) = (i : Int) := Int.zero_add _
    rw [ei]
    obtain ⟨rs, erl, rrl⟩ := rl3.monoX sG lpg z1
    have rlen := rows_len rrl
    have hb1 : Ev1 (tCB (rLenS K) (tCons (tVar 4) tNil)) ([some (.ref g), some (.int w), some (.ref a), some (.int m), some (.ref lp), some (.ref tp), some (.ref F), some (.int i), y8, y9, y10, y11, y12, y13, y14, y15, y16, y17, y18, y19] : L2.St) G (.int (lns.length : Nat)) := ev1_is (ev1_len (xs := rs.map V.ref) (evs_var (i := 4) rfl (sql erl))) (by rw [List.length_map, rlen])
    refine ⟨_, rfl, _, rfl, _, rfl, ?_⟩
    refine drawn (i := 0) (c := 11 + 7 * i) rfl hb1 (by omega) (Int.lt_of_le_of_lt (show ((lns.length : Nat) : Int) ≤ 4096 by omega) (by decide)) gG (by omega) fun G1 r t1 g1' r0 r1 => ?_
    obtain ⟨j, rfl⟩ : ∃ j : Nat, r = j := ⟨r.toNat, by omega⟩
    have hj : j < (rs.map V.ref).length := by rw [List.length_map]; omega
    obtain ⟨ln, eln, zln, lsl, hj2⟩ := rows_get rrl (get_of hj)
    have iwl := lines_w (getD_mem (d := []) hj2)
    have lng := z1 _ zln
    have erl1 := t1 _ _ lpg erl
    have lsl1 := t1 _ _ lng lsl
    have lne : lns.getD j [] ≠ [] := by
      intro z
      have := iwl.1
      rw [z] at this
      exact pl.ne (List.eq_nil_of_length_eq_zero this.symm)
    refine ⟨lp, _, (j : Int), _, rfl, rfl, sql erl1, atI_nat (get_of hj), ?_⟩
    rw [eln]
    refine ⟨_, rfl, g, ln, w, i, 11 + 7 * i + 1, _, rfl, lng, lsl1, lne, by rw [iwl.1]; omega, w64, iwl.2, by omega, g1', by omega, fun G2 wa ws t2 g2' hwa ewa lws bws => ?_⟩
    have iw : IsWords w places ws := ⟨by rw [lws, iwl.1], bws⟩
    have sx2 : SameX g H3 G2 := (sG.trans t1).trans t2
    have wag : wa ≠ g := g1'.ne hwa
    have eF2 : G2 F = some (.lst (fs.map V.ref)) := t2 _ _ Fg (t1 _ _ Fg eF)
    have waF : wa ≠ F := (ne_of_none (t1 _ _ Fg eF) hwa).symm
    have pf2 : Paired (WD g F w m places G2) fs wss := Paired.mapP pf fun f x h => h.mono (t1.trans t2).y
    -- due, handed
    refine ⟨_, rfl, _, rfl, _, rfl, w, tp, wa, triP w m places (oP places) (nP places), ws, rfl, (rt.monoX sx2 tpg z2).less (fun _ _ => rfl), ewa, fun l hl => by rw [triP_mem hl, iw.1], w64, fun x hx => ⟨(iw.2 x hx).1, Int.lt_of_lt_of_le (iw.2 x hx).2 (pow_bd w64)⟩, by rw [triP_len, od.olen]; omega, by rw [iw.1]; omega, fun G3 da t3 hda eda => ?_⟩
    rw [sums_due] at eda
    refine ⟨_, rfl, wa, _, rfl, .inl (sql (t3 _ _ ewa)), fun hd hhd => ⟨_, _, rfl, ?_⟩⟩
    have t4 : Same G3 (upd G3 hd (.lst (ws.map V.int))) := same_new hhd
    have ehd : Ls (upd G3 hd (.lst (ws.map V.int))) hd ws := upd_same
    generalize upd G3 hd (.lst (ws.map V.int)) = G4 at *
    have dag : da ≠ g := g2'.ne hda
    have daF : da ≠ F := (ne_of_none eF2 hda).symm
    have t24 := t3.trans t4
    have ewa4 := t24 _ _ ewa
    have eda4 := t4 _ _ eda
    have sx4 : SameX g H3 G4 := sx2.trans (sx t24)
    have ea4 : Ls G4 a places := sx4 _ _ ag ea3
    have sd := due_sayable (c := m) (ws := ws) pl
    have sf := first_sayable (c := m) (ws := ws) pl
    -- alarms, and words left alone
    dsimp only
    refine ifs (b := false) ?t1 (fun z => by cases z) fun _ G5 t5 => ?_
    case t1 => exact evt_is (evt_or (evt_neS (ev_repr (ev_alarms (i := 1) (j := 2) (k := 3) (l := 10) rfl rfl rfl rfl ea4 ehd pl iw) (dI_kind _) sd) (ev_repr (evd_var (i := 9) rfl (dp_ints (sql eda4))) (dI_kind _) sd) rfl) (evt_neD (evd_var (i := 10) rfl (dp_ints (sql ehd))) (evd_var (i := 8) rfl (dp_ints (sql ewa4))) (shaped_ints _) (shaped_ints _))) (by rw [eqv_ints, decide_eq_true rfl] <;> rfl)
    dsimp only [tNext]
    -- first
    have lp5 := lc_pairs (K := K) (tl := tVar 9) (j := 17) (l := 18) (vs := [17, 18]) (due := dueM w m places ws) (B := G5) (σ := [some (.ref g), some (.int w), some (.ref a), some (.int m), some (.ref lp), some (.ref tp), some (.ref F), some (.int i), some (.ref wa), some (.ref da), some (.ref hd), y11, y12, y13, y14, y15, y16, y17, y18, y19]) (evs_var (i := 9) rfl (sql (t5 _ _ eda4))) (by rw [due_len pl]; omega) (fun x y => rfl) (fun x y => rfl) (fun x y => rfl)
    refine asgP (i := 11) lp5 fun fp G6 t6 hfp pp => ?_
    have hd0 : (nzs (dueM w m places ws)).head? = firstNZ 0 (dueM w m places ws) := nzs_head _
    have t46 := t5.trans t6
    have ea6 := t46 _ _ ea4
    have ehd6 := t46 _ _ ehd
    dsimp only
    refine ifs (b := false) ?t2 (fun z => by cases z) fun _ G7 t7 => ?_
    case t2 => exact evt_neS (ev_repr (ev_alarm (i := 1) (j := 2) (k := 3) (l := 10) rfl rfl rfl rfl ea6 ehd6 pl iw) (dO_kind _) sf) (ev_repr (ev_first (i := 11) rfl pp) (dO_kind _) (by rw [hd0]; exact sf)) (by rw [hd0])
    dsimp only [tNext]
    have t47 := t46.trans t7
    have sx7 : SameX g H3 G7 := sx4.trans (sx t47)
    refine ifs (b := false) ?t3 (fun z => by cases z) fun _ G8 t8 => ?_
    case t3 =>
      intro G8 t8 R kk
      refine ev_first0 (i := 11) rfl (pp.mono t7) G8 t8 _ fun G9 t9 => ?_
      have sx9 : SameX g H3 G9 := sx7.trans (sx (t8.trans t9))
      refine ⟨_, rfl, _, rfl, _, rfl, a, lp, wa, places, ws, lns, rfl, sx9 _ _ ag ea3, (rl3.monoX sx9 lpg z1).less (fun _ _ => rfl), t9 _ _ (t8 _ _ (t47 _ _ ewa4)), od, pl.ne, fun l hl => (lines_w hl).1, iw.1, by omega, fun G10 t10 => ?_⟩
      rw [mis iw, hd0, Option.map_map]
      refine ⟨?_, _, rfl, ?_⟩
      · cases firstNZ 0 (dueM w m places ws) <;> rfl
      · have e : (!decide (ov (Option.map (fun q => ((q.1 : Nat) : Int)) (firstNZ 0 (dueM w m places ws))) = ov (Option.map ((fun (k : Nat) => (k : Int)) ∘ fun x => x.1) (firstNZ 0 (dueM w m places ws))))) = false := by
          have e0 : decide (ov (Option.map (fun q => ((q.1 : Nat) : Int)) (firstNZ 0 (dueM w m places ws))) = ov (Option.map ((fun (k : Nat) => (k : Int)) ∘ fun x => x.1) (firstNZ 0 (dueM w m places ws)))) = true := decide_eq_true rfl
          rw [e0]
          rfl
        rw [e]
        exact kk G10 (t9.trans t10)
    dsimp only [tNext]
    -- firsts.append(..)
    have t28 : Same G2 G8 := t24.trans (t47.trans t8)
    have eF8 := t28 _ _ eF2
    refine ⟨_, rfl, .inl ⟨rfl, _, sql eF8⟩, _, rfl, _, rfl, by show 2 ≤ sizeLine; decide, fun f hf => ?_⟩
    have t9 : Same G8 (upd G8 f (.tup [.ref wa, .ref da])) := same_new hf
    have ef : upd G8 f (.tup [.ref wa, .ref da]) f = some (.tup [.ref wa, .ref da]) := upd_same
    have ffg : f ≠ g := (g2'.same t28).ne hf
    have ffF : f ≠ F := (ne_of_none eF8 hf).symm
    generalize upd G8 f (.tup [.ref wa, .ref da]) = G9 at *
    have t29 := t28.trans t9
    have eF9 := t29 _ _ eF2
    refine ⟨F, _, _, rfl, rfl, eF9, by rw [List.length_map]; exact Nat.lt_of_lt_of_le (show fs.length < 1000 by omega) (by decide), ?_⟩
    have ey : SameY g F G9 (upd G9 F (.lst (fs.map V.ref ++ [.ref f]))) := (SameX.refl g G9).y.put
    have ewa9 : Ls (upd G9 F (.lst (fs.map V.ref ++ [.ref f]))) wa ws := ey _ _ wag waF (t29 _ _ ewa)
    have eda9 : Ls (upd G9 F (.lst (fs.map V.ref ++ [.ref f]))) da (dueM w m places ws) := ey _ _ dag daF (t9 _ _ ((t47.trans t8) _ _ eda4))
    refine ⟨((sx4.trans (sx (t47.trans (t8.trans t9)))).mut hF), ?_, ⟨fs ++ [f], wss ++ [ws], ?_, ?_, ?_⟩, _, _, _, _, _, _, _, _, _, _, _, _, _, rfl, fun _ => ⟨wa, da, ws, rfl, rfl, ewa9, eda9, iw⟩⟩
    · obtain ⟨x, y, z, e, h0, h1⟩ := g2'.same t29
      refine ⟨x, y, z, ?_, h0, by omega⟩
      show upd _ _ _ g = _
      rw [upd_ne Fg.symm]
      exact e
    · rw [List.map_append]
      exact upd_same
    · rw [List.length_append]
      show fs.length + 1 ≤ i + 1
      omega
    · refine paired_snoc (Paired.mapP pf2 fun f x h => (h.mono (sx t29).y).mono ey) ⟨wa, da, ffg, ffF, wag, waF, dag, daF, ey _ _ ffg ffF ef, ewa9, eda9, iw⟩
  · rintro σ G ⟨sG, gG, ⟨fs, wss, eF, fl, pf⟩, y7, y8, y9, y10, y11, y12, y13, y14, y15, y16, y17, y18, y19, rfl, hlast⟩
    obtain ⟨wa, da, ws, rfl, rfl, ewa, eda, iw⟩ := hlast (by decide)
    have eaG := sG _ _ ag ea3
    obtain ⟨rs, erl, rrl⟩ := rl3.monoX sG lpg z1
    have sd := due_sayable (c := m) (ws := ws) pl
    refine ⟨_, rfl, _, rfl, ⟨_, sql eF⟩, for_list (xs := fs.map V.ref) (fun i σ G' => Same G G' ∧ ∃ y11 y12 y13 y14 y15 y16 y17 y18 y19 : Option V, σ = [some (.ref g), some (.int w), some (.ref a), some (.int m), some (.ref lp), some (.ref tp), some (.ref F), y7, some (.ref wa), some (.ref da), y10, y11, y12, y13, y14, y15, y16, y17, y18, y19]) ⟨Same.refl _, _, _, _, _, _, _, _, _, _, rfl⟩ (fun i σ G' _ c => sql (c.1 _ _ eF)) ?_ ?_⟩
    · rintro i x σ G' hx ⟨sG', y11, y12, y13, y14, y15, y16, y17, y18, y19, rfl⟩
      obtain ⟨f, lo, da1, ws1, rfl, ef1, elo, eda1, iw1⟩ := wd_get pf hx
      refine ⟨f, _, rfl, sqt (sG' _ _ ef1), rfl, _, _, rfl, _, _, rfl, rfl, ?_⟩
      refine ⟨_, rfl, _, rfl, ⟨_, sql (sG' _ _ eF)⟩, for_list (xs := fs.map V.ref) (fun i σ G' => Same G G' ∧ ∃ y11 y14 y15 y16 y17 y18 y19 : Option V, σ = [some (.ref g), some (.int w), some (.ref a), some (.int m), some (.ref lp), some (.ref tp), some (.ref F), y7, some (.ref wa), some (.ref da), y10, y11, some (.ref lo), some (.ref da1), y14, y15, y16, y17, y18, y19]) ⟨sG', _, _, _, _, _, _, _, rfl⟩ (fun i σ G' _ c => sql (c.1 _ _ eF)) ?_ ?_⟩
      · rintro i2 x σ G'' hx2 ⟨sG'', y11, y14, y15, y16, y17, y18, y19, rfl⟩
        obtain ⟨f2, hi2, da2, ws2, rfl, ef2, ehi2, eda2, iw2⟩ := wd_get pf hx2
        refine ⟨f2, _, rfl, sqt (sG'' _ _ ef2), rfl, _, _, rfl, _, _, rfl, rfl, ?_⟩
        have cz := lcZ (K := K) (te := tOp oMod (tCB oInt (tCons (tOp oSub (tVar 11) (tVar 19)) tNil)) (tOp oShl (tC (.int 1)) (tVar 1))) (tt := tYes) (j := 11) (l := 19) (vs := [11, 19]) (tl := tVar 12) (ta := tVar 14) (B := G'')
          (σ := [some (.ref g), some (.int w), some (.ref a), some (.int m), some (.ref lp), some (.ref tp), some (.ref F), y7, some (.ref wa), some (.ref da), y10, y11, some (.ref lo), some (.ref da1), some (.ref hi2), some (.ref da2), y16, y17, y18, y19]) (fun _ => true) (fun k => .int ((ws1.getD k 0 - ws2.getD k 0) % 2 ^ w)) (evs_var (i := 12) rfl (sql (sG'' _ _ elo))) (evs_var (i := 14) rfl (sql (sG'' _ _ ehi2))) (by rw [List.length_map, List.length_map, iw1.1, iw2.1]) (by rw [List.length_map, iw1.1]; omega) (fun x y => rfl) (fun i x y G hx hy sG => evt_yes) (fun k x y G8 hx hy s8 _ => ?_)
        · rw [picked_all, List.length_map, zip_range (fun x y => V.int ((x - y) % 2 ^ w)) ws1 ws2 (by rw [iw1.1, iw2.1]), ← zip_ints (fun x y => (x - y) % 2 ^ w)] at cz
          have cz2 : EvN (tLc (iZip K (tCons (tVar 12) (tCons (tVar 14) tNil))) (gTup K 2 (gCons (gName 11) (gCons (gName 19) gNil))) tYes (tOp oMod (tCB oInt (tCons (tOp oSub (tVar 11) (tVar 19)) tNil)) (tOp oShl (tC (.int 1)) (tVar 1))) [11, 19]) ([some (.ref g), some (.int w), some (.ref a), some (.int m), some (.ref lp), some (.ref tp), some (.ref F), y7, some (.ref wa), some (.ref da), y10, y11, some (.ref lo), some (.ref da1), some (.ref hi2), some (.ref da2), y16, y17, y18, y19] : L2.St) G'' ((gap w ws1 ws2).map V.int) := cz
          refine asgN (i := 16) cz2 fun gp G8 t8 hgp egp => ?_
          have s8 := sG''.trans t8
          dsimp only
          refine ifs (b := false) ?t4 (fun z => by cases z) fun _ G9 t9 => ⟨s8.trans t9, _, _, _, _, _, _, _, rfl⟩
          case t4 =>
            intro G9 t9 R kk
            refine ev1_eqD (evd_var (i := 13) rfl (dp_ints (sql (s8 _ _ eda1)))) (evd_var (i := 15) rfl (dp_ints (sql (s8 _ _ eda2)))) (shaped_ints _) (shaped_ints _) G9 t9 _ fun G10 t10 => ?_
            have s10 := s8.trans (t9.trans t10)
            refine ⟨_, rfl, _, rfl, dI (gap w ws1 ws2), lns.map dI, dp_ints (sql ((t9.trans t10) _ _ egp)), .lst (sql (s10 _ _ erl)) (dp_rows (Z := H1) (Paired.mapP rrl fun r xs h => ⟨h.1, s10 _ _ h.2⟩)), shaped_ints _, shaped_rows _, ?_⟩
            rw [any_rows, eqv_ints]
            refine ⟨rfl, _, rfl, ?_⟩
            have e : decide (dueM w m places ws1 = dueM w m places ws2) = decide (gap w ws1 ws2 ∈ lns) := decide_eq_decide.mpr (gapi iw1.1 iw2.1).symm
            rw [e, decide_eq_true (rfl : V.bl (decide (gap w ws1 ws2 ∈ lns)) = V.bl (decide (gap w ws1 ws2 ∈ lns)))]
            exact kk G10 t10
        · obtain ⟨rfl, hk⟩ := getD_vi hx
          obtain ⟨rfl, hk2⟩ := getD_vi hy
          exact ev1_mod (ev1_int (ev1_sub (ev1_var (i := 11) rfl) (ev1_var (i := 19) rfl))) (ev1_2 (ev1_var (i := 1) rfl) w64) (two_pow_pos w)
      · rintro σ G'' ⟨sG'', y11, y14, y15, y16, y17, y18, y19, rfl⟩
        exact ⟨sG'', _, _, _, _, _, _, _, _, _, rfl⟩
    · rintro σ G' ⟨sG', y11, y12, y13, y14, y15, y16, y17, y18, y19, rfl⟩
      refine ev_repr (ev_alarmsK (i := 1) (j := 2) (k := 3) (l := 8) rfl rfl rfl rfl (sG' _ _ eaG) (sG' _ _ ewa) pl iw) (dI_kind _) sd G' (Same.refl _) _ fun G1 t1 => ?_
      refine ev_repr (evd_var (i := 9) rfl (dp_ints (sql ((sG'.trans t1) _ _ eda)))) (dI_kind _) sd G1 (Same.refl _) _ fun G2 t2 => ⟨rfl, ?_⟩
      rw [decide_eq_true rfl]
      exact q G2 (s1.trans ((sx (s2.trans s3)).trans (sG.trans (sx (sG'.trans (t1.trans t2))))))
end
end K53

/-! K53LA: readings of the law's own defs: wide codes are right. -/
namespace K53
open PySem PySem.Spec PyProof.Rows L2

theorem in_ints (x : Int) (l : List Int) : inV (.int x) (l.map V.int) = decide (x ∈ l) := by
  unfold inV
  induction l with
  | nil => simp
  | cons y r ih =>
    rw [List.map_cons, List.any_cons, ih]
    show ((y == x) || _) = _
    by_cases e : y = x
    · subst e
      simp
    · have e2 : x ≠ y := fun z => e z.symm
      have e3 : (y == x) = false := beq_eq_false_iff_ne.mpr e
      simp [e2, e3]
theorem hor_bd {w : Nat} {x : Int} : ∀ qs : List Int, ∀ v : Int, 0 ≤ v → v < 2 ^ w → 0 ≤ qs.foldl (fun v q => (v * x + q) % 2 ^ w) v ∧ qs.foldl (fun v q => (v * x + q) % 2 ^ w) v < 2 ^ w
  | [], v, h0, h1 => ⟨h0, h1⟩
  | q :: r, v, _, _ => hor_bd r _ (Int.emod_nonneg _ (Int.ne_of_gt (two_pow_pos w))) (Int.emod_lt_of_pos _ (two_pow_pos w))
theorem hor_words {w : Nat} {places : List Int} (qs : List Int) : IsWords w places (places.map fun x => hor (2 ^ w) x qs) := by
  refine ⟨by rw [List.length_map], fun y hy => ?_⟩
  obtain ⟨x, _, rfl⟩ := List.mem_map.mp hy
  exact hor_bd qs 0 (Int.le_refl _) (two_pow_pos w)
theorem SameX.fresh {g L : Addr} {A B C : Hp} (s : SameX g A B) (hL : A L = none) (t : SameX L B C) : SameX g A C := fun b o n e => t b o (ne_of_none e hL) (s b o n e)
section
variable {K : PySem.W.Frag} {vs : List V} {H : Hp} {Q : VK} {E : XK}
theorem r_l_far_right (h : sp_l_far_right K vs H Q E) : t_l_far_right K (fin Q) (start N_l_far_right vs) H := by
  obtain ⟨g, rfl, G0, q⟩ := h
  have cc : ∀ {σ : L2.St} {B : Hp} {n : Int}, Ev1 (tC (.int n)) σ B (.int n) := ev1_c
  -- bits, spots, many
  refine ⟨by show 4 ≤ sizeLine; decide, fun wl hwl => ?_⟩
  have s1 : Same H (upd H wl (.lst [.int 8, .int 16, .int 33, .int 64])) := same_new hwl
  have e1 : Ls (upd H wl (.lst [.int 8, .int 16, .int 33, .int 64])) wl [8, 16, 33, 64] := upd_same
  have wlg := G0.ne hwl
  generalize upd H wl (.lst [.int 8, .int 16, .int 33, .int 64]) = H1 at *
  refine drawn (K := K) (i := 0) (c := 0) (b := 4) rfl cc (by decide) (by decide) (G0.same s1) (by omega) fun H2 r s2 g2 r0 r1 => ?_
  obtain ⟨wi, rfl⟩ : ∃ j : Nat, r = j := ⟨r.toNat, by omega⟩
  obtain ⟨w, hw, w1, w64, w8⟩ : ∃ w : Nat, ([8, 16, 33, 64] : List Int)[wi]? = some (w : Int) ∧ 1 ≤ w ∧ w ≤ 64 ∧ 8 ≤ w := by
    rcases (show wi = 0 ∨ wi = 1 ∨ wi = 2 ∨ wi = 3 by omega) with rfl | rfl | rfl | rfl
    · exact ⟨8, rfl, by omega, by omega, by omega⟩
    · exact ⟨16, rfl, by omega, by omega, by omega⟩
    · exact ⟨33, rfl, by omega, by omega, by omega⟩
    · exact ⟨64, rfl, by omega, by omega, by omega⟩
  have e2 := s2 _ _ wlg e1
  refine ⟨wl, _, (wi : Int), .int w, rfl, rfl, sql e2, atI_nat (vi_get hw), Nat.zero_le _, fun S0 hS0 => ?_⟩
  have s3 : Same H2 (upd H2 S0 (.lst [])) := same_new hS0
  have e3 : Ls (upd H2 S0 (.lst [])) S0 [] := upd_same
  have S0g := g2.ne hS0
  have g3 := g2.same s3
  generalize upd H2 S0 (.lst []) = H3 at *
  refine drawn (K := K) (i := 0) (c := 0 + 1) (b := 5) rfl cc (by decide) (by decide) g3 (by omega) fun H4 r s4 g4 r0 r1 => ?_
  obtain ⟨m0, rfl⟩ : ∃ j : Nat, r = j := ⟨r.toNat, by omega⟩
  refine ⟨_, _, rfl, rfl, _, _, _, rfl, ?_⟩
  have em : (1 : Int) + (m0 : Int) = ((m0 + 1 : Nat) : Int) := by omega
  show Ends.nx _ ((((start N_l_far_right [.ref g]).set 1 (some (.int w))).set 2 (some (.ref S0))).set 3 (some (.int ((1 : Int) + (m0 : Int))))) H4
  rw [em]
  have m1 : 1 ≤ m0 + 1 := by omega
  have m5 : m0 + 1 ≤ 5 := by omega
  generalize m0 + 1 = m at *
  have sx4 : SameX g H H4 := ((sx s1).trans s2).trans ((sx s3).trans s4)
  have e4 := s4 _ _ S0g e3
  -- the places
  refine drawn (K := K) (i := 0) (c := 0 + 1 + 1) (b := 7) rfl cc (by decide) (by decide) g4 (by omega) fun H5 r s5 g5 r0 r1 => ?_
  obtain ⟨n0, rfl⟩ : ∃ j : Nat, r = j := ⟨r.toNat, by omega⟩
  refine ⟨_, _, rfl, rfl, _, rfl, by omega, by omega, ?_⟩
  have en : ((2 : Int) + (n0 : Int)).toNat = n0 + 2 := by omega
  rw [en]
  have sx5 := sx4.trans s5
  have e5 := s5 _ _ S0g e4
  refine for_range (n := n0 + 2) (fun i σ G => SameX g H G ∧ Gen G g (3 + 2 * i) ∧ ∃ (p : Addr) (l : List Int) (y4 y5 : Option V), σ = [some (.ref g), some (.int w), some (.ref p), some (.int m), y4, y5, none, none, none, none, none, none, none, none, none, none] ∧ p ≠ g ∧ Ls G p l ∧ l.Nodup ∧ (∀ x ∈ l, 0 ≤ x ∧ x < 2 ^ w) ∧ l.length ≤ i ∧ (0 < i → l ≠ []))
    ⟨sx5, g5, S0, [], none, none, rfl, S0g, e5, List.nodup_nil, (fun x hx => by cases hx), Nat.le_refl _, fun h => by omega⟩ ?_ ?_
  · rintro i σ G hi ⟨sG, gG, p, l, y4, y5, rfl, pg, ep, nd, rng, ll, lne⟩
    refine gN ?_
    refine ⟨_, rfl, ?_⟩
    refine ev1_2 (n := w) (ev1_var (i := 1) rfl) w64 _ (Same.refl _) _ fun G1 t1 => ⟨by show 2 ≤ sizeLine; decide, fun bl hbl => ?_⟩
    have t2 : Same G1 (upd G1 bl (.lst [.int 200, .int (2 ^ w)])) := same_new hbl
    have e2 : Ls (upd G1 bl (.lst [.int 200, .int (2 ^ w)])) bl [200, 2 ^ w] := upd_same
    have blg := (gG.same t1).ne hbl
    have gG2 := (gG.same t1).same t2
    generalize upd G1 bl (.lst [.int 200, .int (2 ^ w)]) = G2 at *
    refine drawn (K := K) (i := 0) (c := 3 + 2 * i) (b := 2) rfl cc (by decide) (by decide) gG2 (by omega) fun G3 r t3 gG3 r0 r1 => ?_
    obtain ⟨bi, rfl⟩ : ∃ j : Nat, r = j := ⟨r.toNat, by omega⟩
    have p8 : (2 : Int) ^ 8 ≤ 2 ^ w := Int.le_of_dvd (two_pow_pos w) (pow_dvd w8)
    obtain ⟨bd, hbd, bd0, bdw⟩ : ∃ bd : Int, ([200, 2 ^ w] : List Int)[bi]? = some bd ∧ 0 < bd ∧ bd ≤ 2 ^ w := by
      rcases (show bi = 0 ∨ bi = 1 by omega) with rfl | rfl
      · exact ⟨200, rfl, by decide, by omega⟩
      · exact ⟨2 ^ w, rfl, two_pow_pos w, Int.le_refl _⟩
    refine ⟨bl, _, (bi : Int), .int bd, rfl, rfl, sql (t3 _ _ blg e2), atI_nat (vi_get hbd), g, bd, 3 + 2 * i + 1, rfl, bd0, Int.lt_of_le_of_lt bdw (two_le w64), gG3, by omega, fun G4 sp t4 gG4 sp0 sp1 => ?_⟩
    have sx4 : SameX g H G4 := (sG.trans (sx (t1.trans t2))).trans (t3.trans t4)
    have ep4 : Ls G4 p l := t4 _ _ pg (t3 _ _ pg (t2 _ _ (t1 _ _ ep)))
    -- spots = spots + [spot] * int(..)
    have cin : Ev1 (tCB oInt (tCons (tOp (rIn K true) (tVar 5) (tVar 2)) tNil)) ([some (.ref g), some (.int w), some (.ref p), some (.int m), some (.int (0 + (i : Nat))), some (.int sp), none, none, none, none, none, none, none, none, none, none] : L2.St) G4 (.int (((if sp ∈ l then 0 else 1 : Nat) : Nat) : Int)) := fun G5 t5 R kk => ⟨_, rfl, _, rfl, p, _, rfl, .inl (sql (t5 _ _ ep4)), rfl, flat_ints l, .inr ⟨_, rfl, by
      rw [in_ints]
      by_cases hm : sp ∈ l
      · rw [decide_eq_true hm]
        rw [if_pos hm] at kk
        exact kk G5 (Same.refl _)
      · rw [decide_eq_false hm]
        rw [if_neg hm] at kk
        exact kk G5 (Same.refl _)⟩⟩
    have crep := evn_rep (ta := tVar 5) (z := sp) (ev1_var rfl) cin (by by_cases hm : sp ∈ l <;> simp [hm])
    have cp4 : EvS K (tVar 2) ([some (.ref g), some (.int w), some (.ref p), some (.int m), some (.int (0 + (i : Nat))), some (.int sp), none, none, none, none, none, none, none, none, none, none] : L2.St) G4 (l.map V.int) := evs_var rfl (sql ep4)
    refine ⟨_, rfl, crep _ (Same.refl _) _ fun r5 G5 t5 hr5 er5 => ?_⟩
    refine ⟨p, r5, _, _, rfl, rfl, t5 _ _ ep4, er5, ?_, fun p6 hp6 => ?_⟩
    · rw [List.length_map, List.length_map, List.length_replicate]
      have : (if sp ∈ l then 0 else 1 : Nat) ≤ 1 := by by_cases hm : sp ∈ l <;> simp [hm]
      exact Nat.le_trans (show _ ≤ 1000 by omega) (by decide)
    · rw [← List.map_append]
      refine ⟨sx4.trans (sx (t5.trans (same_new hp6))), ((gG4.same t5).same (same_new hp6)).le (by omega), p6, _, _, _, rfl, (gG4.same t5).ne hp6, upd_same, ?_, ?_, ?_, ?_⟩
      · by_cases hm : sp ∈ l
        · rw [if_pos hm]
          simpa using nd
        · rw [if_neg hm]
          refine List.nodup_append.mpr ⟨nd, by simp, fun x hx y hy z => ?_⟩
          have : y = sp := by simpa using hy
          exact hm (by rw [← this, ← z]; exact hx)
      · intro x hx
        rcases List.mem_append.mp hx with h | h
        · exact rng x h
        · rw [List.eq_of_mem_replicate h]
          exact ⟨sp0, Int.lt_of_lt_of_le sp1 bdw⟩
      · rw [List.length_append, List.length_replicate]
        have : (if sp ∈ l then 0 else 1 : Nat) ≤ 1 := by by_cases hm : sp ∈ l <;> simp [hm]
        omega
      · intro _ z
        obtain ⟨z1, z2⟩ := List.append_eq_nil_iff.mp z
        by_cases hm : sp ∈ l
        · rw [z1] at hm
          cases hm
        · rw [if_neg hm] at z2
          cases z2
  · rintro σ G ⟨sG, gG, p, l, y4, y5, rfl, pg, ep, nd, rng, ll, lne⟩
    refine ⟨_, rfl, p, l, rfl, sql ep, by omega, fun places a perm asc ha0 => ?_⟩
    have pl : Pl w places := by
      refine ⟨w1, w64, fun z => ?_, fun x hx => rng x (perm.subset hx), ?_, by rw [perm.length_eq]; omega⟩
      · have := perm.length_eq
        rw [z] at this
        exact lne (by omega) (List.eq_nil_of_length_eq_zero this.symm)
      · refine (asc.and (perm.nodup_iff.mpr nd)).imp fun h => ?_
        omega
    have t1 : Same G (upd G a (.lst (places.map V.int))) := same_new ha0
    have ea : Ls (upd G a (.lst (places.map V.int))) a places := upd_same
    have ag := gG.ne ha0
    have gG1 := gG.same t1
    generalize upd G a (.lst (places.map V.int)) = G1 at *
    refine ⟨Nat.zero_le _, fun L hL => ⟨_, _, rfl, ?_⟩⟩
    have t2 : Same G1 (upd G1 L (.lst [])) := same_new hL
    have eL : Ls (upd G1 L (.lst [])) L [] := upd_same
    have Lg := gG1.ne hL
    have gG2 := gG1.same t2
    have aL : a ≠ L := ne_of_none ea hL
    generalize upd G1 L (.lst []) = G2 at *
    have sx2 : SameX g H G2 := sG.trans (sx (t1.trans t2))
    have ea2 := t2 _ _ ea
    -- the powers
    refine ⟨_, rfl, _, rfl, by omega, by omega, fun D hD => ?_⟩
    rw [Int.toNat_natCast]
    have Dg := gG2.ne hD
    have D0 : G2 D = none := hD
    refine lc_range (lo := 0) (fun i H' => SameX g G2 H' ∧ Gen H' g (3 + 2 * (n0 + 2) + i) ∧ ∃ ps : List Int, Ls H' D ps ∧ ps.length = i) ⟨sx (same_new hD), gG2.same (same_new hD), [], upd_same, rfl⟩ (fun i H' hi ⟨sH, gH, ps, eD, hps⟩ => ⟨rfl, ?_⟩) fun H' ⟨sH, gH, ps, eD, hps⟩ => ?_
    · have hb3 : Ev1 (tOp oPow (tC (.int 10)) (tC (.int 25))) ([some (.ref g), some (.int w), some (.ref a), some (.int m), y4, y5, some (.ref L), none, none, some (.int (0 + (i : Nat))), none, none, none, none, none, none] : L2.St) H' (.int (10 ^ 25)) := ev1_pw (n := 25) (ev1_c (v := .int 10)) ev1_c ⟨by decide, by decide, by decide⟩
      refine drawn (i := 0) (c := 3 + 2 * (n0 + 2) + i) rfl hb3 (by decide) (by decide) gH (by omega) fun H4 r s4 g4 r0 r1 => ?_
      have eD4 := s4 _ _ Dg eD
      refine ⟨ps.map V.int, eD4, by rw [List.length_map, hps]; exact Nat.lt_of_lt_of_le (show i < 16 by omega) (by decide), ?_⟩
      rw [← vi_snoc]
      refine ⟨(sH.trans s4).mut D0, ?_, ps ++ [r], upd_same, by rw [List.length_append, hps] <;> rfl⟩
      obtain ⟨x, y, z, e, z0, z1⟩ := g4
      refine ⟨x, y, z, ?_, z0, by omega⟩
      show upd _ _ _ g = _
      rw [upd_ne Dg.symm]
      exact e
    · have ea3 := sH _ _ ag ea2
      have eL3 := sH _ _ Lg eL
      have DL : D ≠ L := (ne_of_none eL hD).symm
      have aD : a ≠ D := ne_of_none ea2 hD
      have gL : g ≠ L := Lg.symm
      have L0 : H L = none := (sG.trans (sx t1)).free Lg hL
      have sxH : SameX g H H' := sx2.trans sH
      -- the line
      dsimp only
      refine ⟨_, rfl, a, rfl, ⟨_, sql ea3⟩, for_list (xs := places.map V.int) (fun i σ G => SameX L H' G ∧ Ls G L ((places.take i).map fun x => hor (2 ^ w) x ps.reverse) ∧ ∃ y5 y8 y9 : Option V, σ = [some (.ref g), some (.int w), some (.ref a), some (.int m), y4, y5, some (.ref L), some (.ref D), y8, y9, none, none, none, none, none, none]) ⟨SameX.refl _ _, eL3, _, _, _, rfl⟩ (fun i σ G _ c => sql (c.1 _ _ aL ea3)) ?_ ?_⟩
      · rintro i x σ G hx ⟨sL, eLG, y5, y8, y9, rfl⟩
        obtain ⟨rfl, hi⟩ := getD_vi hx
        refine gN ?_
        dsimp only
        refine ⟨_, rfl, D, ps.map V.int, rfl, sql (sL _ _ DL eD), fun rp hrp => ⟨rp, rfl, ⟨_, sql upd_same⟩, ?_⟩⟩
        have tr : Same G (upd G rp (.lst (ps.map V.int).reverse)) := same_new hrp
        have er : Ls (upd G rp (.lst (ps.map V.int).reverse)) rp ps.reverse := by
          show upd _ _ _ rp = _
          rw [upd_same, List.map_reverse]
        generalize upd G rp (.lst (ps.map V.int).reverse) = Gr at *
        have eLr := tr _ _ eLG
        refine for_list (xs := ps.reverse.map V.int) (fun j σ G' => Same Gr G' ∧ ∃ (v : Int) (y9 : Option V), v = (ps.reverse.take j).foldl (fun v q => (v * places.getD i 0 + q) % 2 ^ w) 0 ∧ 0 ≤ v ∧ v < 2 ^ w ∧ σ = [some (.ref g), some (.int w), some (.ref a), some (.int m), y4, some (.int (places.getD i 0)), some (.ref L), some (.ref D), some (.int v), y9, none, none, none, none, none, none]) ⟨Same.refl _, 0, y9, rfl, by decide, two_pow_pos w, rfl⟩ (fun j σ G' _ c => sql (c.1 _ _ er)) ?_ ?_
        · rintro j z σ G' hz ⟨sG', v, y9, ev, v0, v1, rfl⟩
          obtain ⟨z', hz', rfl⟩ := vi_of hz
          refine gN ?_
          refine asg1 (i := 8) (ev1_mod (ev1_int (ev1_add (ev1_mul (ev1_var (i := 8) rfl) (ev1_var (i := 5) rfl) (.inl ⟨by omega, Int.lt_of_lt_of_le v1 (pow_bd w64)⟩)) (ev1_var (i := 9) rfl))) (ev1_2 (ev1_var (i := 1) rfl) w64) (two_pow_pos w)) fun G2 t2 => ⟨sG'.trans t2, _, _, ?_, Int.emod_nonneg _ (Int.ne_of_gt (two_pow_pos w)), Int.emod_lt_of_pos _ (two_pow_pos w), rfl⟩
          have e2 : ps.reverse.take (j + 1) = ps.reverse.take j ++ [z'] := by
            rw [List.take_add_one, hz'] <;> rfl
          rw [e2, List.foldl_append, ← ev] <;> rfl
        · rintro σ G' ⟨sG', v, y9, ev, v0, v1, rfl⟩
          rw [List.length_map, List.take_length] at ev
          have eL' := sG' _ _ eLr
          refine ⟨_, rfl, .inl ⟨rfl, _, sql eL'⟩, _, rfl, L, _, _, rfl, rfl, eL', ?_, ?_, ?_, _, _, _, rfl⟩
          · rw [List.length_map, List.length_map, List.length_take]
            exact Nat.lt_of_le_of_lt (Nat.min_le_left _ _) (Nat.lt_of_lt_of_le (show i < 1000 by have := pl.len; omega) (by decide))
          · exact (sL.trans (sx (tr.trans sG'))).put
          · show upd _ _ _ L = _
            rw [upd_same, ← vi_snoc]
            congr 2
            have e2 : places.take (i + 1) = places.take i ++ [places.getD i 0] := by
              rw [List.take_add_one, getD_lt hi] <;> rfl
            have e3 : (places.take (i + 1)).map (fun x => hor (2 ^ w) x ps.reverse) = (places.take i).map (fun x => hor (2 ^ w) x ps.reverse) ++ [v] := by
              rw [e2, List.map_append, ev] <;> rfl
            rw [e3]
      · rintro σ G ⟨sL, eLG, y5, y8, y9, rfl⟩
        rw [List.length_map, List.take_length] at eLG
        have iw : IsWords w places (places.map fun x => hor (2 ^ w) x ps.reverse) := hor_words ps.reverse
        have calm : dueM w m places (places.map fun x => hor (2 ^ w) x ps.reverse) = List.replicate (oP places).length 0 := poly_calm pl.od.good w64 (by rw [List.length_reverse, hps])
        have l8 := pl.len
        have lpos : 0 < places.length := List.length_pos_iff.mpr pl.ne
        generalize places.map (fun x => hor (2 ^ w) x ps.reverse) = line at *
        have eaG := sL _ _ aL ea3
        have sxG : SameX g H G := sxH.fresh L0 sL
        have gGG : Gen G g (3 + 2 * (n0 + 2) + m) := by
          obtain ⟨x, y, z, e, h0, h1⟩ := gH
          exact ⟨x, y, z, sL _ _ gL e, h0, h1⟩
        -- rows
        dsimp only
        refine ⟨_, rfl, _, rfl, _, rfl, w, m, a, places, rfl, eaG, pl, fun G1 tp t1 htp rt => ?_⟩
        refine gN ?_
        dsimp only
        have tpg := gGG.ne htp
        have z1 : ∀ r, G r = none → r ≠ g := fun r h => gGG.ne h
        have ea1 := t1 _ _ eaG
        have eL1 := t1 _ _ eLG
        have olen := pl.od.olen
        have fz : firstNZ 0 (dueM w m places line) = none := by
          rw [calm]
          exact firstNZ_none fun j hj => by rw [getD_replicate]
        refine ifs (b := false) ?t1 (fun z => by cases z) fun _ G2 t2 => ?_
        case t1 =>
          have rz : EvN (tOp rRep (tLst (tCons (tC (.int 0)) tNil)) (tCB (rLenS K) (tCons (tVar 2) tNil))) ([some (.ref g), some (.int w), some (.ref a), some (.int m), y4, y5, some (.ref L), some (.ref D), y8, y9, some (.ref tp), none, none, none, none, none] : L2.St) G1 ((List.replicate places.length (0 : Int)).map V.int) := evn_rep (n := places.length) ev1_c (ev1_is (ev1_len (xs := places.map V.int) (evs_var (i := 2) rfl (sql ea1))) (by rw [List.length_map])) (by omega)
          refine evt_is (evt_or (b := false) (fun G5 t5 R kk => ⟨_, rfl, _, rfl, _, rfl, _, rfl, w, m, a, L, places, line, rfl, t5 _ _ ea1, t5 _ _ eL1, pl, iw, fun G6 v t6 hv => ?_⟩) (evt_neD (ev_alarms (i := 1) (j := 2) (k := 3) (l := 6) rfl rfl rfl rfl ea1 eL1 pl iw) (evd_ints rz.s) (shaped_ints _) (shaped_ints _))) ?_
          · rw [fz] at hv
            have ev : v = .non := hv
            subst ev
            refine ⟨rfl, _, rfl, ?_⟩
            rw [decide_eq_true rfl]
            exact kk G6 t6
          · rw [eqv_ints, calm, olen, decide_eq_true rfl] <;> rfl
        dsimp only [tNext]
        -- bent
        have gG2 := gGG.same (t1.trans t2)
        refine ⟨_, rfl, _, rfl, _, rfl, ?_⟩
        refine drawn (K := K) (i := 0) (c := 3 + 2 * (n0 + 2) + m) (b := 2) rfl cc (by decide) (by decide) gG2 (by omega) fun G3 r t3 gG3 r0 r1 => ?_
        obtain ⟨b0, rfl⟩ : ∃ j : Nat, r = j := ⟨r.toNat, by omega⟩
        refine ⟨_, _, rfl, rfl, ?_⟩
        have lne : line ≠ [] := by
          intro z
          have := iw.1
          rw [z] at this
          exact pl.ne (List.eq_nil_of_length_eq_zero this.symm)
        refine ⟨g, L, w, b0 + 1, 3 + 2 * (n0 + 2) + m + 1, line, ?_, Lg, t3 _ _ Lg (t2 _ _ eL1), lne, by rw [iw.1]; omega, w64, iw.2, by omega, gG3, by omega, fun G4 bp bt t4 gG4 hbp ebp bl bb => ?_⟩
        · show [V.ref g, V.int w, V.ref L, V.int ((1 : Int) + (b0 : Int))] ++ [] = _
          rw [show (1 : Int) + (b0 : Int) = ((b0 + 1 : Nat) : Int) by omega] <;> rfl
        have iwb : IsWords w places bt := ⟨by rw [bl, iw.1], bb⟩
        have bpg := gG3.ne hbp
        have sx24 : SameX g G G4 := ((sx (t1.trans t2)).trans t3).trans t4
        have ea4 := sx24 _ _ ag eaG
        refine gN ?_
        dsimp only
        -- due
        refine ⟨_, rfl, _, rfl, _, rfl, w, tp, bp, triP w m places (oP places) (nP places), bt, rfl, (rt.monoX (((sx t2).trans t3).trans t4) tpg z1).less (fun _ _ => rfl), ebp, fun l hl => by rw [triP_mem hl, iwb.1], w64, fun x hx => ⟨(iwb.2 x hx).1, Int.lt_of_lt_of_le (iwb.2 x hx).2 (pow_bd w64)⟩, by rw [triP_len, pl.od.olen]; omega, by rw [iwb.1]; omega, fun G5 da t5 hda eda => ?_⟩
        rw [sums_due] at eda
        refine gN ?_
        dsimp only
        have lp5 := lc_pairs (K := K) (tl := tVar 12) (j := 14) (l := 15) (vs := [14, 15]) (due := dueM w m places bt) (B := G5) (σ := [some (.ref g), some (.int w), some (.ref a), some (.int m), y4, y5, some (.ref L), some (.ref D), y8, y9, some (.ref tp), some (.ref bp), some (.ref da), none, none, none]) (evs_var (i := 12) rfl (sql eda)) (by rw [due_len pl]; omega) (fun x y => rfl) (fun x y => rfl) (fun x y => rfl)
        refine asgP (i := 13) lp5 fun fp G6 t6 hfp pp => ?_
        have hd0 : (nzs (dueM w m places bt)).head? = firstNZ 0 (dueM w m places bt) := nzs_head _
        have t56 := t5.trans t6
        have ea6 := t56 _ _ ea4
        have eb6 := t56 _ _ ebp
        refine ev1_eqD (ev_alarms (i := 1) (j := 2) (k := 3) (l := 11) rfl rfl rfl rfl ea6 eb6 pl iwb) (evd_var (i := 12) rfl (dp_ints (sql (t6 _ _ eda)))) (shaped_ints _) (shaped_ints _) G6 (Same.refl _) _ fun G7 t7 => ⟨true, ?_, iteT ?_⟩
        · rw [eqv_ints, decide_eq_true rfl]
        · refine ev1_eqD (ev_alarm (i := 1) (j := 2) (k := 3) (l := 11) rfl rfl rfl rfl (t7 _ _ ea6) (t7 _ _ eb6) pl iwb) (ev_first (i := 13) rfl (pp.mono t7)) (shaped_opt _) (shaped_opt _) G7 (Same.refl _) _ fun G8 t8 => ?_
          rw [hd0, eqv_opt]
          exact q G8 (sxG.trans (sx24.trans (sx (t56.trans (t7.trans t8)))))
end
end K53

/-! K53LB: reading of the law. -/
namespace K53
open PySem PySem.Spec PyProof.Rows L2

/-- evaluates to a list of ints in the heap -/
def EvM (te : TE) (σ : L2.St) (B : Hp) (l : List Int) : Prop := ∀ H, Same B H → ∀ R : VK, (∀ a H2, Same H H2 → Ls H2 a l → R (.ref a) H2) → te σ H R
def EvDA (K : PySem.W.Frag) (ta : TA) (σ : L2.St) (B : Hp) (ds : List PyData) : Prop := ∀ H, Same B H → ∀ R : List V → Hp → Prop, (∀ vs H2, Same H H2 → DpAll K H2 vs ds → vs.length = ds.length → R vs H2) → ta σ H R
section
variable {K : PySem.W.Frag} {σ : L2.St} {B H : Hp} {te ta tb tc tw : TE} {tr : TA} {d : PyData} {ds : List PyData} {l places ws : List Int} {w c : Nat} {D : Ends}
theorem evm_var {i : Nat} {a : Addr} (hi : σ[i]? = some (some (.ref a))) (h : Ls B a l) : EvM (tVar i) σ B l := fun H s R k => ⟨_, hi, k a H (Same.refl _) (s _ _ h)⟩
theorem eva_ints : ∀ l : List Int, EvA1 (l.foldr (fun n t => tCons (tC (.int n)) t) tNil) σ B (l.map V.int)
  | [] => eva_nil
  | _ :: r => eva_cons ev1_c (eva_ints r)
theorem evm_lst (h : EvA1 tr σ B (l.map V.int)) (hl : l.length ≤ 1000) : EvM (tLst tr) σ B l := fun H s R k => h H s _ fun H2 s2 => ⟨by rw [List.length_map]; exact Nat.le_trans hl (by decide), fun p hp => k p _ (s2.trans (same_new hp)) upd_same⟩
theorem EvM.dat (h : EvM te σ B l) : EvD K te σ B (dI l) := fun H s R k => h H s _ fun a H2 s2 e => k _ H2 s2 (dp_ints (sql e))
theorem evd_int {i : Int} (h : Ev1 te σ B (.int i)) : EvD K te σ B (.int i) := fun H s R k => h H s _ fun H2 s2 => k _ H2 s2 (.int i)
theorem evda_nil : EvDA K tNil σ B [] := fun H s R k => k [] H (Same.refl _) .nil rfl
theorem evda_cons (h : EvD K te σ B d) (hr : EvDA K tr σ B ds) : EvDA K (tCons te tr) σ B (d :: ds) := fun H s R k => h H s _ fun v H1 s1 hv => hr H1 (s.trans s1) _ fun vs H2 s2 hvs hl => k (v :: vs) H2 (s1.trans s2) (.cons (dp_mono s2 d v hv) hvs) (by rw [List.length_cons, List.length_cons, hl])
theorem evd_lst (h : EvDA K tr σ B ds) (hl : ds.length ≤ 1000) : EvD K (tLst tr) σ B (.list ds) := fun H s R k => h H s _ fun vs H2 s2 hv hvl => ⟨by rw [hvl]; exact Nat.le_trans hl (by decide), fun p hp => k _ _ (s2.trans (same_new hp)) (.lst (sql upd_same) (dp_monoAll (same_new hp) ds vs hv))⟩
theorem evd_tup (h : EvDA K tr σ B ds) (hl : ds.length ≤ 1000) : EvD K (tTup tr) σ B (.tuple ds) := fun H s R k => h H s _ fun vs H2 s2 hv hvl => ⟨by rw [hvl]; exact Nat.le_trans hl (by decide), fun p hp => k _ _ (s2.trans (same_new hp)) (.tup (sqt upd_same) (dp_monoAll (same_new hp) ds vs hv))⟩
theorem asgD {i : Nat} (c : EvD K te σ H d) (k : ∀ v H2, Same H H2 → Dp K H2 v d → D.nx (σ.set i (some v)) H2) : tAsg te (gName i) D σ H := c H (Same.refl H) _ k
theorem asgM {i : Nat} (c : EvM te σ H l) (k : ∀ a H2, Same H H2 → Ls H2 a l → D.nx (σ.set i (some (.ref a))) H2) : tAsg te (gName i) D σ H := c H (Same.refl H) _ k
theorem alarm_to (hw : Ev1 tw σ B (.int w)) (ha : EvM ta σ B places) (hc : Ev1 tc σ B (.int c)) (hb : EvM tb σ B ws) (pl : Pl w places) (iw : IsWords w places ws) :
    ∀ H, Same B H → ∀ R : VK, (∀ v H2, Same H H2 → OptPair H (firstNZ 0 (dueM w c places ws)) H2 v → R v H2) → tCall (sp_alarm K) [] E0 (tCons tw (tCons ta (tCons tc (tCons tb tNil)))) σ H R := fun H s R k =>
  hw H s _ fun H1 s1 => ha H1 (s.trans s1) _ fun a H2 s2 ea => hc H2 (s.trans (s1.trans s2)) _ fun H3 s3 => hb H3 (s.trans (s1.trans (s2.trans s3))) _ fun b H4 s4 eb =>
    ⟨w, c, a, b, places, ws, rfl, s4 _ _ (s3 _ _ ea), eb, pl, iw, fun H5 v s5 hv => k v H5 (s1.trans (s2.trans (s3.trans (s4.trans s5)))) (by
      cases hf : firstNZ 0 (dueM w c places ws) with
      | none => rw [hf] at hv; exact hv
      | some q =>
        obtain ⟨i, x⟩ := q
        rw [hf] at hv
        obtain ⟨p, e1, e2, e3⟩ := hv
        exact ⟨p, e1, (s1.trans (s2.trans (s3.trans s4))).free e2, e3⟩)⟩
theorem evd_alarm (hw : Ev1 tw σ B (.int w)) (ha : EvM ta σ B places) (hc : Ev1 tc σ B (.int c)) (hb : EvM tb σ B ws) (pl : Pl w places) (iw : IsWords w places ws) :
    EvD K (tCall (sp_alarm K) [] E0 (tCons tw (tCons ta (tCons tc (tCons tb tNil))))) σ B (dO (firstNZ 0 (dueM w c places ws))) := fun H s R k => alarm_to hw ha hc hb pl iw H s R fun v H2 s2 hv => k v H2 s2 (dp_opt hv)
theorem evd_alarmK (hw : Ev1 tw σ B (.int w)) (ha : EvM ta σ B places) (hc : Ev1 tc σ B (.int c)) (hb : EvM tb σ B ws) (pl : Pl w places) (iw : IsWords w places ws) :
    EvD K (tCallK (sp_alarm K) gKw E0 tNil (tCons tb (tCons tc (tCons ta (tCons tw tNil))))) σ B (dO (firstNZ 0 (dueM w c places ws))) := fun H s R k =>
  hb H s _ fun b H1 s1 eb => hc H1 (s.trans s1) _ fun H2 s2 => ha H2 (s.trans (s1.trans s2)) _ fun a H3 s3 ea => hw H3 (s.trans (s1.trans (s2.trans s3))) _ fun H4 s4 =>
    ⟨w, c, a, b, places, ws, rfl, s4 _ _ ea, s4 _ _ (s3 _ _ (s2 _ _ eb)), pl, iw, fun H5 v s5 hv => k v H5 (s1.trans (s2.trans (s3.trans (s4.trans s5)))) (dp_opt hv)⟩
theorem evd_alarms (hw : Ev1 tw σ B (.int w)) (ha : EvM ta σ B places) (hc : Ev1 tc σ B (.int c)) (hb : EvM tb σ B ws) (pl : Pl w places) (iw : IsWords w places ws) :
    EvD K (tCall (sp_alarms K) [] E0 (tCons tw (tCons ta (tCons tc (tCons tb tNil))))) σ B (dI (dueM w c places ws)) := fun H s R k =>
  hw H s _ fun H1 s1 => ha H1 (s.trans s1) _ fun a H2 s2 ea => hc H2 (s.trans (s1.trans s2)) _ fun H3 s3 => hb H3 (s.trans (s1.trans (s2.trans s3))) _ fun b H4 s4 eb =>
    ⟨w, c, a, b, places, ws, rfl, s4 _ _ (s3 _ _ ea), eb, pl, iw, fun H5 p s5 hp e => k _ H5 (s1.trans (s2.trans (s3.trans (s4.trans s5)))) (dp_ints (sql e))⟩
end

/-! ### the constants -/
theorem pl4 : Pl 3 [0, 1, 2, 4] := ⟨by decide, by decide, by decide, by decide, by decide, by decide⟩
theorem pl2 : Pl 3 [0, 1] := ⟨by decide, by decide, by decide, by decide, by decide, by decide⟩
theorem pl1 : Pl 64 [9] := ⟨by decide, by decide, by decide, by decide, by decide, by decide⟩
theorem k1 : firstNZ 0 (dueM 3 2 [0, 1, 2, 4] [0, 1, 2, 4]) = none := by decide +kernel
theorem k2 : firstNZ 0 (dueM 3 2 [0, 1, 2, 4] [0, 1, 3, 4]) = some (2, 1) := by decide +kernel
theorem k3 : dueM 3 2 [0, 1, 2, 4] [0, 1, 3, 5] = [0, 0, 1, 1] := by decide +kernel
theorem k4 : firstNZ 0 (dueM 3 3 [0, 1, 2, 4] [0, 1, 1, 0]) = some (2, 4) := by decide +kernel
theorem k5 : dueM 3 (10 ^ 29) [0, 1] [5, 2] = [0, 0] := by decide +kernel
theorem k6 : firstNZ 0 (dueM 3 (10 ^ 29) [0, 1] [5, 2]) = none := by decide +kernel
theorem k7 : firstNZ 0 (dueM 64 0 [9] [2 ^ 63]) = some (0, 2 ^ 63) := by decide +kernel
def dTold : List PyData := [dO none, dO (some (2, 1)), dI [0, 0, 1, 1], dO (some (2, 4))]
theorem told_sayable : Sayable (.list dTold) := by
  refine ⟨?_, ?_, ?_, ?_⟩
  · simp only [dTold, dO, dI, List.map_cons, List.map_nil, PyData.showable, PyData.showableAll, Bool.and_true, Bool.true_and]
    decide +kernel
  · simp [dTold, dO, dI, PyData.hasDict, PyData.hasDictAll]
  · simp [dTold, dO, dI, PyData.depth, PyData.depthAll]
  · have h : ∀ d ∈ dTold, (PyData.shown d).length ≤ 100 := fun d hd => by
      have nn : ∀ x : Int, 0 ≤ x → x ≤ 100 → (PyData.shown (.int x)).length ≤ 20 := fun x h0 h1 => shown_int h0 (Int.le_trans h1 (by decide))
      have tt : ∀ x y : Int, 0 ≤ x → x ≤ 100 → 0 ≤ y → y ≤ 100 → (PyData.shown (.tuple [.int x, .int y])).length ≤ 100 := fun x y h0 h1 h2 h3 => by
        have := tuple_len (m := 20) (ds := [.int x, .int y]) fun d hd => by
          rcases List.mem_cons.mp hd with e | e
          · rw [e]
            exact nn x h0 h1
          · rw [List.mem_singleton.mp e]
            exact nn y h2 h3
        exact Nat.le_trans this (by show 4 + 2 * (20 + 2) ≤ 100; decide)
      rcases List.mem_cons.mp hd with e | hd
      · rw [e]
        simp only [dO, PyData.shown]
        show 4 ≤ 100
        decide
      rcases List.mem_cons.mp hd with e | hd
      · rw [e]
        exact tt 2 1 (by decide) (by decide) (by decide) (by decide)
      rcases List.mem_cons.mp hd with e | hd
      · rw [e]
        have := list_len (m := 20) (ds := ([0, 0, 1, 1] : List Int).map PyData.int) fun d hd => by
          obtain ⟨x, hx, rfl⟩ := List.mem_map.mp hd
          have hx2 : x = 0 ∨ x = 1 := by simpa using hx
          rcases hx2 with rfl | rfl
          · exact nn 0 (by decide) (by decide)
          · exact nn 1 (by decide) (by decide)
        exact Nat.le_trans this (by decide)
      · rw [List.mem_singleton.mp hd]
        exact tt 2 4 (by decide) (by decide) (by decide) (by decide)
    have h2 := list_len h
    have e : sizeLine = 16777216 := sizeLine_eq
    have e2 : dTold.length = 4 := rfl
    omega
theorem sqlX {K : PySem.W.Frag} {H H' : Hp} {a : Addr} {xs : List V} (h : SqL K H a xs) (s : Same H H') : SqL K H' a xs := s.seq h
section
variable {K : PySem.W.Frag} {vs : List V} {H : Hp} {Q : VK} {E : XK}
/-- a new generator's def says yes -/
theorem gen_yes {σ : L2.St} {B : Hp} {a : Addr} {ns : List Int} {i : Nat} {te : TE} {sp : PySem.W.Frag → Sp} (hsp : ∀ {g : Addr} {H : Hp} {R : VK}, Gen H g 0 → (∀ H', SameX g H H' → R (.bl true) H') → sp K [.ref g] H R E0)
    (h0 : σ[0]? = some (some (.ref a))) (ha : SqL K B a (ns.map V.int)) (h1 : Ev1 te σ B (.int i)) (hi : i ≤ 3) :
    EvT1 (tB (tCall (sp K) [] E0 (tCons (tCall (sp_l_generator K) [] E0 (tCons (tVar 0) (tCons te tNil))) tNil))) σ B true := fun H s R k =>
  ⟨_, h0, h1 H s _ fun H1 s1 => ⟨a, i, ns, rfl, hi, (s.trans s1).seq ha, fun H2 g s2 hg G => hsp G fun H3 s3 => ⟨true, rfl, k H3 (fun b o e => s3 b o (ne_of_none (s1 b o e) hg) (s2 b o (s1 b o e)))⟩⟩⟩
theorem r_law (h : sp_law K vs H Q E) : t_law K (fin Q) (start N_law vs) H := by
  obtain ⟨a, ns, rfl, ha, q⟩ := h
  have cc : ∀ {σ : L2.St} {B : Hp} {n : Int}, Ev1 (tC (.int n)) σ B (.int n) := ev1_c
  refine ⟨_, rfl, by decide, by decide, for_range (n := 2) (fun i σ G => Same H G ∧ ∃ y1 : Option V, σ = [some (.ref a), y1, none, none]) ⟨Same.refl _, _, rfl⟩ ?_ ?_⟩
  · rintro i σ G hi ⟨sG, y1, rfl⟩
    have ei : (0 : Int) + (i : Nat) = (i : Int) := Int.zero_add _
    rw [ei]
    have haG := sG.seq ha
    refine gN ?_
    dsimp only
    refine ifs (b := false) ?t1 (fun z => by cases z) fun _ G2 t2 => ⟨sG.trans t2, _, rfl⟩
    case t1 =>
      have r1 := gen_yes (K := K) (σ := [some (.ref a), some (.int i), none, none]) (B := G) (sp := sp_l_right) (i := i) (te := tVar 1) (fun {g H R} G0 k => ⟨g, rfl, G0, k⟩) rfl haG (ev1_var rfl) (by omega)
      have r2 := gen_yes (K := K) (σ := [some (.ref a), some (.int i), none, none]) (B := G) (sp := sp_l_far_right) (i := 2 + i) (te := tOp oAdd (tC (.int 2)) (tVar 1)) (fun {g H R} G0 k => ⟨g, rfl, G0, k⟩) rfl haG (ev1_is (ev1_add cc (ev1_var (i := 1) rfl)) (by rw [Int.natCast_add] <;> rfl)) (by omega)
      exact evt_or (evt_not r1) (evt_not r2)
  · rintro σ G ⟨sG, y1, rfl⟩
    dsimp only
    have w3 : ∀ {σ : L2.St} {B : Hp}, Ev1 (tC (.int 3)) σ B (.int ((3 : Nat) : Int)) := ev1_c
    have c2 : ∀ {σ : L2.St} {B : Hp}, Ev1 (tC (.int 2)) σ B (.int ((2 : Nat) : Int)) := ev1_c
    have i4 : ∀ {σ : L2.St} {B : Hp} (a b c d : Int), EvM (tLst (tCons (tC (.int a)) (tCons (tC (.int b)) (tCons (tC (.int c)) (tCons (tC (.int d)) tNil))))) σ B [a, b, c, d] := fun a b c d => evm_lst (l := [a, b, c, d]) (eva_cons ev1_c (eva_cons ev1_c (eva_cons ev1_c (eva_cons ev1_c eva_nil)))) (by show 4 ≤ 1000; decide)
    have i2 : ∀ {σ : L2.St} {B : Hp} (a b : Int), EvM (tLst (tCons (tC (.int a)) (tCons (tC (.int b)) tNil))) σ B [a, b] := fun a b => evm_lst (l := [a, b]) (eva_cons ev1_c (eva_cons ev1_c eva_nil)) (by show 2 ≤ 1000; decide)
    refine asgM (i := 2) (i4 0 1 2 4) fun p4 G1 t1 e4 => ?_
    dsimp only
    have v4 : EvM (tVar 2) ([some (.ref a), y1, some (.ref p4), none] : L2.St) G1 [0, 1, 2, 4] := evm_var rfl e4
    have d1 := evd_alarm (K := K) w3 v4 c2 (i4 0 1 2 4) pl4 (by unfold IsWords; decide)
    have d2 := evd_alarm (K := K) w3 v4 c2 (i4 0 1 3 4) pl4 (by unfold IsWords; decide)
    have d3 := evd_alarms (K := K) w3 v4 c2 (i4 0 1 3 5) pl4 (by unfold IsWords; decide)
    have d4 := evd_alarm (K := K) w3 v4 w3 (i4 0 1 1 0) pl4 (by unfold IsWords; decide)
    rw [k1] at d1
    rw [k2] at d2
    rw [k3] at d3
    rw [k4] at d4
    have dT : EvD K (tLst _) _ _ (.list dTold) := evd_lst (evda_cons d1 (evda_cons d2 (evda_cons d3 (evda_cons d4 evda_nil)))) (by decide)
    refine asgD (i := 3) dT fun v G2 t2 hv => ?_
    dsimp only
    have ce : (10 : Int) ^ 29 = ((10 ^ 29 : Nat) : Int) := by rw [Int.natCast_pow] <;> rfl
    have c29 : ∀ {σ : L2.St} {B : Hp}, Ev1 (tOp oPow (tC (.int 10)) (tC (.int 29))) σ B (.int ((10 ^ 29 : Nat) : Int)) := fun {σ B} => ev1_is (ev1_pw (n := 29) (ev1_c (v := .int 10)) ev1_c ⟨by decide, by decide, by decide⟩) (by rw [ce])
    refine ifs (b := false) ?t2 (fun z => by cases z) fun _ G3 t3 => ?_
    case t2 =>
      have d5 := evd_alarms (K := K) (σ := [some (.ref a), y1, some (.ref p4), some v]) (B := G2) w3 (i2 0 1) c29 (i2 5 2) pl2 (by unfold IsWords; decide)
      have d6 := alarm_to (K := K) (σ := [some (.ref a), y1, some (.ref p4), some v]) (B := G2) w3 (i2 0 1) c29 (i2 5 2) pl2 (by unfold IsWords; decide)
      rw [k5] at d5
      rw [k6] at d6
      refine evt_is (evt_or (c := false) (evt_neD d5 (i2 0 0).dat (shaped_ints _) (shaped_ints _)) fun G5 t5 R kk => d6 G5 t5 _ fun u G6 t6 hu => ?_) (by rw [eqv_ints, decide_eq_true rfl] <;> rfl)
      have eu : u = .non := hu
      subst eu
      refine ⟨rfl, _, rfl, ?_⟩
      rw [decide_eq_true rfl]
      exact kk G6 t6
    dsimp only [tNext]
    have dv : EvD K (tVar 3) ([some (.ref a), y1, some (.ref p4), some v] : L2.St) G3 (.list dTold) := evd_var rfl (dp_mono t3 _ _ hv)
    have tup : ∀ {σ : L2.St} {B : Hp} (x y : Int), EvD K (tTup (tCons (tC (.int x)) (tCons (tC (.int y)) tNil))) σ B (.tuple [.int x, .int y]) := fun x y => evd_tup (evda_cons (evd_int ev1_c) (evda_cons (evd_int ev1_c) evda_nil)) (by show 2 ≤ 1000; decide)
    have dw : EvD K (tLst (tCons (tC .non) (tCons (tTup (tCons (tC (.int 2)) (tCons (tC (.int 1)) tNil))) (tCons (tLst (tCons (tC (.int 0)) (tCons (tC (.int 0)) (tCons (tC (.int 1)) (tCons (tC (.int 1)) tNil))))) (tCons (tTup (tCons (tC (.int 2)) (tCons (tC (.int 4)) tNil))) tNil))))) ([some (.ref a), y1, some (.ref p4), some v] : L2.St) G3 (.list dTold) :=
      evd_lst (evda_cons evd_none (evda_cons (tup 2 1) (evda_cons (i4 0 0 1 1).dat (evda_cons (tup 2 4) evda_nil)))) (by decide)
    refine ev_repr dv (.inr (.inl ⟨_, rfl⟩)) told_sayable G3 (Same.refl _) _ fun G4 t4 => ev_repr dw (.inr (.inl ⟨_, rfl⟩)) told_sayable G4 t4 _ fun G5 t5 => ⟨rfl, true, ?_, iteT ?_⟩
    · rw [decide_eq_true rfl]
    · have p63 : ∀ {σ : L2.St} {B : Hp}, Ev1 (tOp oPow (tC (.int 2)) (tC (.int 63))) σ B (.int (2 ^ 63)) := fun {σ B} => ev1_pw (n := 63) (ev1_c (v := .int 2)) ev1_c ⟨by decide, by decide, by decide⟩
      have w64 : ∀ {σ : L2.St} {B : Hp}, Ev1 (tC (.int 64)) σ B (.int ((64 : Nat) : Int)) := ev1_c
      have c0 : ∀ {σ : L2.St} {B : Hp}, Ev1 (tC (.int 0)) σ B (.int ((0 : Nat) : Int)) := ev1_c
      have d7 := evd_alarmK (K := K) (σ := [some (.ref a), y1, some (.ref p4), some v]) (B := G5) w64 (evm_lst (l := [9]) (eva_cons ev1_c eva_nil) (by decide)) c0 (evm_lst (l := [2 ^ 63]) (eva_cons p63 eva_nil) (by show 1 ≤ 1000; decide)) pl1 (by unfold IsWords; decide)
      rw [k7] at d7
      have d8 : EvD K (tTup (tCons (tC (.int 0)) (tCons (tOp oPow (tC (.int 2)) (tC (.int 63))) tNil))) ([some (.ref a), y1, some (.ref p4), some v] : L2.St) G5 (dO (some (0, 2 ^ 63))) := evd_tup (evda_cons (evd_int ev1_c) (evda_cons (evd_int p63) evda_nil)) (by show 2 ≤ 1000; decide)
      refine ev1_eqD d7 d8 (shaped_opt _) (shaped_opt _) G5 (Same.refl _) _ fun G6 t6 => ?_
      rw [eqv_opt]
      exact q G6
end
end K53

/-! K53All: every def keeps its promise (printed by wip/genall.py). -/
namespace K53
open PySem PySem.Spec PyProof.Rows L2

/-- a def that stands at the top -/
def Dfn (K : PySem.W.Frag) (x : Str) (st : Stmt) : Prop := ∃ f fd, Fun K x x st f fd ∧ PySem.W.nsIn K mainGlobals x = some (some (.ref f))
theorem dfn_mk {K : PySem.W.Frag} {x : Str} {st : Stmt} {f : Addr} {oc : Value} {od an : Option Addr} {osl : Array (Option Value)} {kV doc pm cdv ct : Value} (a : PySem.W.nsIn K mainGlobals x = some (some (.ref f)))
    (l : K.lookup f = some ⟨oc, od, .func (PySem.W.fnOf x x (defArgs st) (defBody st) (defScope st) .none kV doc pm an cdv ct), osl⟩) (c : PySem.W.codeIn K cdv x = true) (k : PySem.W.keepIn K (.ref f) = true) : Dfn K x st := ⟨_, _, fun_mk l c k, a⟩
theorem vals_app : ∀ {a b : List V} {x y : List Value}, Vals a x → Vals b y → Vals (a ++ b) (x ++ y)
  | _, _, _, _, .nil, h => h
  | _, _, _, _, .cons q t, h => .cons q (vals_app t h)
theorem vals_rev : ∀ {a : List V} {x : List Value}, Vals a x → Vals a.reverse x.reverse
  | _, _, .nil => .nil
  | _, _, .cons q t => by
    rw [List.reverse_cons, List.reverse_cons]
    exact vals_app (vals_rev t) (.cons q .nil)
theorem four {α : Type} {us ws : List α} (h : (us ++ ws.reverse).length = 4) (P : List α → List α → Prop) (h0 : ∀ a b c d, P [] [a, b, c, d]) (h1 : ∀ x a b c, P [x] [a, b, c]) (h2 : ∀ x y a b, P [x, y] [a, b]) (h3 : ∀ x y z a, P [x, y, z] [a]) (h4 : ∀ x y z t, P [x, y, z, t] []) : P us ws := by
  rw [List.length_append, List.length_reverse] at h
  have l5 : ∀ {l : List α}, l.length = 4 → ∃ a b c d, l = [a, b, c, d] := fun {l} e => by
    match l, e with
    | [a, b, c, d], _ => exact ⟨a, b, c, d, rfl⟩
  match us, h with
  | [], h =>
    obtain ⟨a, b, c, d, rfl⟩ := l5 (by simpa using h)
    exact h0 a b c d
  | [x], h =>
    have h' : ws.length = 3 := by
      have h2 : 1 + ws.length = 4 := h
      omega
    match ws, h' with
    | [a, b, c], _ => exact h1 x a b c
  | [x, y], h =>
    have h' : ws.length = 2 := by
      have h2 : 2 + ws.length = 4 := h
      omega
    match ws, h' with
    | [a, b], _ => exact h2 x y a b
  | [x, y, z], h =>
    have h' : ws.length = 1 := by
      have h2 : 3 + ws.length = 4 := h
      omega
    match ws, h' with
    | [a], _ => exact h3 x y z a
  | [x, y, z, t], h =>
    have h' : ws.length = 0 := by
      have h2 : 4 + ws.length = 4 := h
      omega
    match ws, h' with
    | [], _ => exact h4 x y z t
  | x :: y :: z :: t :: u :: r, h => exact absurd (show r.length + 5 + ws.length = 4 from h) (by omega)
section
variable {P : Program} {w : World} {K : PySem.W.Frag} {mg : Str → Option Value} {base : Heap}

theorem ok_is_whole (T : Txt K mg) {f : Addr} {fd : FuncData} (F : Fun K "is_whole" "is_whole" s_is_whole f fd) : FnOk P w K mg base CX0 1 f fd ps_is_whole (sp_is_whole K) :=
  F.ok sc_is_whole (fun vs H Q E h => by
      obtain ⟨_, rfl, _⟩ := h
      rfl) fun cdv A outer s H vs Q E hr h => ⟨t_is_whole K, d_is_whole T hr, r_is_whole (E := E) h⟩
theorem b_is_whole {f : Addr} {fd : FuncData} (F : Fun K "is_whole" "is_whole" s_is_whole f fd) : Binds K fd ps_is_whole [] := F.binds fun _ _ _ _ _ _ us hl => match us, hl with | [_], _ => rfl
theorem c_is_whole (M : ∀ x v, PySem.W.nsIn K mainGlobals x = some (some v) → mg x = some v) (T : Txt K mg) (D : Dfn K "is_whole" s_is_whole) : Cal P w K mg base "is_whole" ps_is_whole 1 (sp_is_whole K) := by
  obtain ⟨f, fd, F, hn⟩ := D
  exact ⟨f, fd, ok_is_whole T F, M _ _ hn, F.kp, b_is_whole F⟩
theorem ok_is_between (T : Txt K mg) (c_is_whole : Cal P w K mg base "is_whole" ps_is_whole 1 (sp_is_whole K)) {f : Addr} {fd : FuncData} (F : Fun K "is_between" "is_between" s_is_between f fd) : FnOk P w K mg base CX0 2 f fd ps_is_between (sp_is_between K) :=
  F.ok sc_is_between (fun vs H Q E h => by
      obtain ⟨_, _, _, rfl, _⟩ := h
      rfl) fun cdv A outer s H vs Q E hr h => ⟨t_is_between K, d_is_between T c_is_whole hr, r_is_between (E := E) h⟩
theorem b_is_between {f : Addr} {fd : FuncData} (F : Fun K "is_between" "is_between" s_is_between f fd) : Binds K fd ps_is_between [] := F.binds fun _ _ _ _ _ _ us hl => match us, hl with | [_, _, _], _ => rfl
theorem c_is_between (M : ∀ x v, PySem.W.nsIn K mainGlobals x = some (some v) → mg x = some v) (T : Txt K mg) (D : Dfn K "is_between" s_is_between) (c_is_whole : Cal P w K mg base "is_whole" ps_is_whole 1 (sp_is_whole K)) : Cal P w K mg base "is_between" ps_is_between 2 (sp_is_between K) := by
  obtain ⟨f, fd, F, hn⟩ := D
  exact ⟨f, fd, ok_is_between T c_is_whole F, M _ _ hn, F.kp, b_is_between F⟩
theorem ok_check_number (T : Txt K mg) (c_is_between : Cal P w K mg base "is_between" ps_is_between 2 (sp_is_between K)) {f : Addr} {fd : FuncData} (F : Fun K "check_number" "check_number" s_check_number f fd) : FnOk P w K mg base CX0 3 f fd ps_check_number (sp_check_number K) :=
  F.ok sc_check_number (fun vs H Q E h => by
      obtain ⟨_, rfl, _⟩ := h
      rfl) fun cdv A outer s H vs Q E hr h => ⟨t_check_number K, d_check_number T c_is_between hr, r_check_number (E := E) h⟩
theorem b_check_number {f : Addr} {fd : FuncData} (F : Fun K "check_number" "check_number" s_check_number f fd) : Binds K fd ps_check_number [] := F.binds fun _ _ _ _ _ _ us hl => match us, hl with | [_, _, _], _ => rfl
theorem c_check_number (M : ∀ x v, PySem.W.nsIn K mainGlobals x = some (some v) → mg x = some v) (T : Txt K mg) (D : Dfn K "check_number" s_check_number) (c_is_between : Cal P w K mg base "is_between" ps_is_between 2 (sp_is_between K)) : Cal P w K mg base "check_number" ps_check_number 3 (sp_check_number K) := by
  obtain ⟨f, fd, F, hn⟩ := D
  exact ⟨f, fd, ok_check_number T c_is_between F, M _ _ hn, F.kp, b_check_number F⟩
theorem ok_power_of_two (T : Txt K mg) {f : Addr} {fd : FuncData} (F : Fun K "power_of_two" "power_of_two" s_power_of_two f fd) : FnOk P w K mg base CX0 1 f fd ps_power_of_two (sp_power_of_two K) :=
  F.ok sc_power_of_two (fun vs H Q E h => by
      obtain ⟨_, rfl, _⟩ := h
      rfl) fun cdv A outer s H vs Q E hr h => ⟨t_power_of_two K, d_power_of_two T hr, r_power_of_two (E := E) h⟩
theorem b_power_of_two {f : Addr} {fd : FuncData} (F : Fun K "power_of_two" "power_of_two" s_power_of_two f fd) : Binds K fd ps_power_of_two [] := F.binds fun _ _ _ _ _ _ us hl => match us, hl with | [_], _ => rfl
theorem c_power_of_two (M : ∀ x v, PySem.W.nsIn K mainGlobals x = some (some v) → mg x = some v) (T : Txt K mg) (D : Dfn K "power_of_two" s_power_of_two) : Cal P w K mg base "power_of_two" ps_power_of_two 1 (sp_power_of_two K) := by
  obtain ⟨f, fd, F, hn⟩ := D
  exact ⟨f, fd, ok_power_of_two T F, M _ _ hn, F.kp, b_power_of_two F⟩
theorem ok_twos (T : Txt K mg) {f : Addr} {fd : FuncData} (F : Fun K "twos" "twos" s_twos f fd) : FnOk P w K mg base CX0 1 f fd ps_twos (sp_twos K) :=
  F.ok sc_twos (fun vs H Q E h => by
      obtain ⟨_, rfl, _⟩ := h
      rfl) fun cdv A outer s H vs Q E hr h => ⟨t_twos K, d_twos T hr, r_twos (E := E) h⟩
theorem b_twos {f : Addr} {fd : FuncData} (F : Fun K "twos" "twos" s_twos f fd) : Binds K fd ps_twos [] := F.binds fun _ _ _ _ _ _ us hl => match us, hl with | [_], _ => rfl
theorem c_twos (M : ∀ x v, PySem.W.nsIn K mainGlobals x = some (some v) → mg x = some v) (T : Txt K mg) (D : Dfn K "twos" s_twos) : Cal P w K mg base "twos" ps_twos 1 (sp_twos K) := by
  obtain ⟨f, fd, F, hn⟩ := D
  exact ⟨f, fd, ok_twos T F, M _ _ hn, F.kp, b_twos F⟩
theorem ok_good_row (T : Txt K mg) (c_twos : Cal P w K mg base "twos" ps_twos 1 (sp_twos K)) {f : Addr} {fd : FuncData} (F : Fun K "good_row" "good_row" s_good_row f fd) : FnOk P w K mg base CX0 2 f fd ps_good_row (sp_good_row K) :=
  F.ok sc_good_row (fun vs H Q E h => by
      obtain ⟨_, _, rfl, _⟩ := h
      rfl) fun cdv A outer s H vs Q E hr h => ⟨t_good_row K, d_good_row T c_twos hr, r_good_row (E := E) h⟩
theorem b_good_row {f : Addr} {fd : FuncData} (F : Fun K "good_row" "good_row" s_good_row f fd) : Binds K fd ps_good_row [] := F.binds fun _ _ _ _ _ _ us hl => match us, hl with | [_], _ => rfl
theorem c_good_row (M : ∀ x v, PySem.W.nsIn K mainGlobals x = some (some v) → mg x = some v) (T : Txt K mg) (D : Dfn K "good_row" s_good_row) (c_twos : Cal P w K mg base "twos" ps_twos 1 (sp_twos K)) : Cal P w K mg base "good_row" ps_good_row 2 (sp_good_row K) := by
  obtain ⟨f, fd, F, hn⟩ := D
  exact ⟨f, fd, ok_good_row T c_twos F, M _ _ hn, F.kp, b_good_row F⟩
theorem ok_product_at (T : Txt K mg) {f : Addr} {fd : FuncData} (F : Fun K "product_at" "product_at" s_product_at f fd) : FnOk P w K mg base CX0 1 f fd ps_product_at (sp_product_at K) :=
  F.ok sc_product_at (fun vs H Q E h => by
      obtain ⟨_, _, _, _, rfl, _⟩ := h
      rfl) fun cdv A outer s H vs Q E hr h => ⟨t_product_at K, d_product_at T hr, r_product_at (E := E) h⟩
theorem b_product_at {f : Addr} {fd : FuncData} (F : Fun K "product_at" "product_at" s_product_at f fd) : Binds K fd ps_product_at [] := F.binds fun _ _ _ _ _ _ us hl => match us, hl with | [_, _, _], _ => rfl
theorem c_product_at (M : ∀ x v, PySem.W.nsIn K mainGlobals x = some (some v) → mg x = some v) (T : Txt K mg) (D : Dfn K "product_at" s_product_at) : Cal P w K mg base "product_at" ps_product_at 1 (sp_product_at K) := by
  obtain ⟨f, fd, F, hn⟩ := D
  exact ⟨f, fd, ok_product_at T F, M _ _ hn, F.kp, b_product_at F⟩
theorem ok_items_counted (T : Txt K mg) {f : Addr} {fd : FuncData} (F : Fun K "items_counted" "items_counted" s_items_counted f fd) : FnOk P w K mg base CX0 1 f fd ps_items_counted (sp_items_counted K) :=
  F.ok sc_items_counted (fun vs H Q E h => by
      obtain ⟨_, _, _, _, rfl, _⟩ := h
      rfl) fun cdv A outer s H vs Q E hr h => ⟨t_items_counted K, d_items_counted T hr, r_items_counted (E := E) h⟩
theorem b_items_counted {f : Addr} {fd : FuncData} (F : Fun K "items_counted" "items_counted" s_items_counted f fd) : Binds K fd ps_items_counted [] := F.binds fun _ _ _ _ _ _ us hl => match us, hl with | [_, _, _], _ => rfl
theorem c_items_counted (M : ∀ x v, PySem.W.nsIn K mainGlobals x = some (some v) → mg x = some v) (T : Txt K mg) (D : Dfn K "items_counted" s_items_counted) : Cal P w K mg base "items_counted" ps_items_counted 1 (sp_items_counted K) := by
  obtain ⟨f, fd, F, hn⟩ := D
  exact ⟨f, fd, ok_items_counted T F, M _ _ hn, F.kp, b_items_counted F⟩
theorem ok_is_width (T : Txt K mg) (c_is_between : Cal P w K mg base "is_between" ps_is_between 2 (sp_is_between K)) {f : Addr} {fd : FuncData} (F : Fun K "is_width" "is_width" s_is_width f fd) : FnOk P w K mg base CX0 3 f fd ps_is_width (sp_is_width K) :=
  F.ok sc_is_width (fun vs H Q E h => by
      obtain ⟨_, rfl, _⟩ := h
      rfl) fun cdv A outer s H vs Q E hr h => ⟨t_is_width K, d_is_width T c_is_between hr, r_is_width (E := E) h⟩
theorem b_is_width {f : Addr} {fd : FuncData} (F : Fun K "is_width" "is_width" s_is_width f fd) : Binds K fd ps_is_width [] := F.binds fun _ _ _ _ _ _ us hl => match us, hl with | [_], _ => rfl
theorem c_is_width (M : ∀ x v, PySem.W.nsIn K mainGlobals x = some (some v) → mg x = some v) (T : Txt K mg) (D : Dfn K "is_width" s_is_width) (c_is_between : Cal P w K mg base "is_between" ps_is_between 2 (sp_is_between K)) : Cal P w K mg base "is_width" ps_is_width 3 (sp_is_width K) := by
  obtain ⟨f, fd, F, hn⟩ := D
  exact ⟨f, fd, ok_is_width T c_is_between F, M _ _ hn, F.kp, b_is_width F⟩
theorem ok_check_width (T : Txt K mg) (c_is_width : Cal P w K mg base "is_width" ps_is_width 3 (sp_is_width K)) {f : Addr} {fd : FuncData} (F : Fun K "check_width" "check_width" s_check_width f fd) : FnOk P w K mg base CX0 4 f fd ps_check_width (sp_check_width K) :=
  F.ok sc_check_width (fun vs H Q E h => by
      obtain ⟨_, rfl, _⟩ := h
      rfl) fun cdv A outer s H vs Q E hr h => ⟨t_check_width K, d_check_width T c_is_width hr, r_check_width (E := E) h⟩
theorem b_check_width {f : Addr} {fd : FuncData} (F : Fun K "check_width" "check_width" s_check_width f fd) : Binds K fd ps_check_width [] := F.binds fun _ _ _ _ _ _ us hl => match us, hl with | [_], _ => rfl
theorem c_check_width (M : ∀ x v, PySem.W.nsIn K mainGlobals x = some (some v) → mg x = some v) (T : Txt K mg) (D : Dfn K "check_width" s_check_width) (c_is_width : Cal P w K mg base "is_width" ps_is_width 3 (sp_is_width K)) : Cal P w K mg base "check_width" ps_check_width 4 (sp_check_width K) := by
  obtain ⟨f, fd, F, hn⟩ := D
  exact ⟨f, fd, ok_check_width T c_is_width F, M _ _ hn, F.kp, b_check_width F⟩
theorem ok_is_of_width (T : Txt K mg) (c_is_between : Cal P w K mg base "is_between" ps_is_between 2 (sp_is_between K)) (c_power_of_two : Cal P w K mg base "power_of_two" ps_power_of_two 1 (sp_power_of_two K)) {f : Addr} {fd : FuncData} (F : Fun K "is_of_width" "is_of_width" s_is_of_width f fd) : FnOk P w K mg base CX0 3 f fd ps_is_of_width (sp_is_of_width K) :=
  F.ok sc_is_of_width (fun vs H Q E h => by
      obtain ⟨_, _, rfl, _⟩ := h
      rfl) fun cdv A outer s H vs Q E hr h => ⟨t_is_of_width K, d_is_of_width T c_is_between c_power_of_two hr, r_is_of_width (E := E) h⟩
theorem b_is_of_width {f : Addr} {fd : FuncData} (F : Fun K "is_of_width" "is_of_width" s_is_of_width f fd) : Binds K fd ps_is_of_width [] := F.binds fun _ _ _ _ _ _ us hl => match us, hl with | [_, _], _ => rfl
theorem c_is_of_width (M : ∀ x v, PySem.W.nsIn K mainGlobals x = some (some v) → mg x = some v) (T : Txt K mg) (D : Dfn K "is_of_width" s_is_of_width) (c_is_between : Cal P w K mg base "is_between" ps_is_between 2 (sp_is_between K)) (c_power_of_two : Cal P w K mg base "power_of_two" ps_power_of_two 1 (sp_power_of_two K)) : Cal P w K mg base "is_of_width" ps_is_of_width 3 (sp_is_of_width K) := by
  obtain ⟨f, fd, F, hn⟩ := D
  exact ⟨f, fd, ok_is_of_width T c_is_between c_power_of_two F, M _ _ hn, F.kp, b_is_of_width F⟩
theorem ok_rises (T : Txt K mg) {f : Addr} {fd : FuncData} (F : Fun K "rises" "rises" s_rises f fd) : FnOk P w K mg base CX0 1 f fd ps_rises (sp_rises K) :=
  F.ok sc_rises (fun vs H Q E h => by
      obtain ⟨_, _, rfl, _⟩ := h
      rfl) fun cdv A outer s H vs Q E hr h => ⟨t_rises K, d_rises T hr, r_rises (E := E) h⟩
theorem b_rises {f : Addr} {fd : FuncData} (F : Fun K "rises" "rises" s_rises f fd) : Binds K fd ps_rises [] := F.binds fun _ _ _ _ _ _ us hl => match us, hl with | [_], _ => rfl
theorem c_rises (M : ∀ x v, PySem.W.nsIn K mainGlobals x = some (some v) → mg x = some v) (T : Txt K mg) (D : Dfn K "rises" s_rises) : Cal P w K mg base "rises" ps_rises 1 (sp_rises K) := by
  obtain ⟨f, fd, F, hn⟩ := D
  exact ⟨f, fd, ok_rises T F, M _ _ hn, F.kp, b_rises F⟩
theorem ok_are_places (T : Txt K mg) (c_is_of_width : Cal P w K mg base "is_of_width" ps_is_of_width 3 (sp_is_of_width K)) (c_rises : Cal P w K mg base "rises" ps_rises 1 (sp_rises K)) {f : Addr} {fd : FuncData} (F : Fun K "are_places" "are_places" s_are_places f fd) : FnOk P w K mg base CX0 4 f fd ps_are_places (sp_are_places K) :=
  F.ok sc_are_places (fun vs H Q E h => by
      obtain ⟨_, _, _, rfl, _⟩ := h
      rfl) fun cdv A outer s H vs Q E hr h => ⟨t_are_places K, d_are_places T c_is_of_width c_rises hr, r_are_places (E := E) h⟩
theorem b_are_places {f : Addr} {fd : FuncData} (F : Fun K "are_places" "are_places" s_are_places f fd) : Binds K fd ps_are_places [] := F.binds fun _ _ _ _ _ _ us hl => match us, hl with | [_, _], _ => rfl
theorem c_are_places (M : ∀ x v, PySem.W.nsIn K mainGlobals x = some (some v) → mg x = some v) (T : Txt K mg) (D : Dfn K "are_places" s_are_places) (c_is_of_width : Cal P w K mg base "is_of_width" ps_is_of_width 3 (sp_is_of_width K)) (c_rises : Cal P w K mg base "rises" ps_rises 1 (sp_rises K)) : Cal P w K mg base "are_places" ps_are_places 4 (sp_are_places K) := by
  obtain ⟨f, fd, F, hn⟩ := D
  exact ⟨f, fd, ok_are_places T c_is_of_width c_rises F, M _ _ hn, F.kp, b_are_places F⟩
theorem ok_check_places (T : Txt K mg) (c_check_width : Cal P w K mg base "check_width" ps_check_width 4 (sp_check_width K)) (c_are_places : Cal P w K mg base "are_places" ps_are_places 4 (sp_are_places K)) {f : Addr} {fd : FuncData} (F : Fun K "check_places" "check_places" s_check_places f fd) : FnOk P w K mg base CX0 5 f fd ps_check_places (sp_check_places K) :=
  F.ok sc_check_places (fun vs H Q E h => by
      obtain ⟨_, _, _, rfl, _⟩ := h
      rfl) fun cdv A outer s H vs Q E hr h => ⟨t_check_places K, d_check_places T c_check_width c_are_places hr, r_check_places (E := E) h⟩
theorem b_check_places {f : Addr} {fd : FuncData} (F : Fun K "check_places" "check_places" s_check_places f fd) : Binds K fd ps_check_places [] := F.binds fun _ _ _ _ _ _ us hl => match us, hl with | [_, _], _ => rfl
theorem c_check_places (M : ∀ x v, PySem.W.nsIn K mainGlobals x = some (some v) → mg x = some v) (T : Txt K mg) (D : Dfn K "check_places" s_check_places) (c_check_width : Cal P w K mg base "check_width" ps_check_width 4 (sp_check_width K)) (c_are_places : Cal P w K mg base "are_places" ps_are_places 4 (sp_are_places K)) : Cal P w K mg base "check_places" ps_check_places 5 (sp_check_places K) := by
  obtain ⟨f, fd, F, hn⟩ := D
  exact ⟨f, fd, ok_check_places T c_check_width c_are_places F, M _ _ hn, F.kp, b_check_places F⟩
theorem ok_are_words (T : Txt K mg) (c_is_of_width : Cal P w K mg base "is_of_width" ps_is_of_width 3 (sp_is_of_width K)) {f : Addr} {fd : FuncData} (F : Fun K "are_words" "are_words" s_are_words f fd) : FnOk P w K mg base CX0 4 f fd ps_are_words (sp_are_words K) :=
  F.ok sc_are_words (fun vs H Q E h => by
      obtain ⟨_, _, _, _, _, rfl, _⟩ := h
      rfl) fun cdv A outer s H vs Q E hr h => ⟨t_are_words K, d_are_words T c_is_of_width hr, r_are_words (E := E) h⟩
theorem b_are_words {f : Addr} {fd : FuncData} (F : Fun K "are_words" "are_words" s_are_words f fd) : Binds K fd ps_are_words [] := F.binds fun _ _ _ _ _ _ us hl => match us, hl with | [_, _, _], _ => rfl
theorem c_are_words (M : ∀ x v, PySem.W.nsIn K mainGlobals x = some (some v) → mg x = some v) (T : Txt K mg) (D : Dfn K "are_words" s_are_words) (c_is_of_width : Cal P w K mg base "is_of_width" ps_is_of_width 3 (sp_is_of_width K)) : Cal P w K mg base "are_words" ps_are_words 4 (sp_are_words K) := by
  obtain ⟨f, fd, F, hn⟩ := D
  exact ⟨f, fd, ok_are_words T c_is_of_width F, M _ _ hn, F.kp, b_are_words F⟩
theorem ok_check_words (T : Txt K mg) (c_are_words : Cal P w K mg base "are_words" ps_are_words 4 (sp_are_words K)) {f : Addr} {fd : FuncData} (F : Fun K "check_words" "check_words" s_check_words f fd) : FnOk P w K mg base CX0 5 f fd ps_check_words (sp_check_words K) :=
  F.ok sc_check_words (fun vs H Q E h => by
      obtain ⟨_, _, _, _, _, rfl, _⟩ := h
      rfl) fun cdv A outer s H vs Q E hr h => ⟨t_check_words K, d_check_words T c_are_words hr, r_check_words (E := E) h⟩
theorem b_check_words {f : Addr} {fd : FuncData} (F : Fun K "check_words" "check_words" s_check_words f fd) : Binds K fd ps_check_words [] := F.binds fun _ _ _ _ _ _ us hl => match us, hl with | [_, _, _], _ => rfl
theorem c_check_words (M : ∀ x v, PySem.W.nsIn K mainGlobals x = some (some v) → mg x = some v) (T : Txt K mg) (D : Dfn K "check_words" s_check_words) (c_are_words : Cal P w K mg base "are_words" ps_are_words 4 (sp_are_words K)) : Cal P w K mg base "check_words" ps_check_words 5 (sp_check_words K) := by
  obtain ⟨f, fd, F, hn⟩ := D
  exact ⟨f, fd, ok_check_words T c_are_words F, M _ _ hn, F.kp, b_check_words F⟩
theorem ok_check_code (T : Txt K mg) (c_check_places : Cal P w K mg base "check_places" ps_check_places 5 (sp_check_places K)) (c_check_number : Cal P w K mg base "check_number" ps_check_number 3 (sp_check_number K)) {f : Addr} {fd : FuncData} (F : Fun K "check_code" "check_code" s_check_code f fd) : FnOk P w K mg base CX0 6 f fd ps_check_code (sp_check_code K) :=
  F.ok sc_check_code (fun vs H Q E h => by
      obtain ⟨_, _, _, _, rfl, _⟩ := h
      rfl) fun cdv A outer s H vs Q E hr h => ⟨t_check_code K, d_check_code T c_check_places c_check_number hr, r_check_code (E := E) h⟩
theorem b_check_code {f : Addr} {fd : FuncData} (F : Fun K "check_code" "check_code" s_check_code f fd) : Binds K fd ps_check_code [] := F.binds fun _ _ _ _ _ _ us hl => match us, hl with | [_, _, _], _ => rfl
theorem c_check_code (M : ∀ x v, PySem.W.nsIn K mainGlobals x = some (some v) → mg x = some v) (T : Txt K mg) (D : Dfn K "check_code" s_check_code) (c_check_places : Cal P w K mg base "check_places" ps_check_places 5 (sp_check_places K)) (c_check_number : Cal P w K mg base "check_number" ps_check_number 3 (sp_check_number K)) : Cal P w K mg base "check_code" ps_check_code 6 (sp_check_code K) := by
  obtain ⟨f, fd, F, hn⟩ := D
  exact ⟨f, fd, ok_check_code T c_check_places c_check_number F, M _ _ hn, F.kp, b_check_code F⟩
theorem ok_odd_undone (T : Txt K mg) {f : Addr} {fd : FuncData} (F : Fun K "odd_undone" "odd_undone" s_odd_undone f fd) : FnOk P w K mg base CX0 1 f fd ps_odd_undone (sp_odd_undone K) :=
  F.ok sc_odd_undone (fun vs H Q E h => by
      obtain ⟨_, _, rfl, _⟩ := h
      rfl) fun cdv A outer s H vs Q E hr h => ⟨t_odd_undone K, d_odd_undone T hr, r_odd_undone (E := E) h⟩
theorem b_odd_undone {f : Addr} {fd : FuncData} (F : Fun K "odd_undone" "odd_undone" s_odd_undone f fd) : Binds K fd ps_odd_undone [] := F.binds fun _ _ _ _ _ _ us hl => match us, hl with | [_, _], _ => rfl
theorem c_odd_undone (M : ∀ x v, PySem.W.nsIn K mainGlobals x = some (some v) → mg x = some v) (T : Txt K mg) (D : Dfn K "odd_undone" s_odd_undone) : Cal P w K mg base "odd_undone" ps_odd_undone 1 (sp_odd_undone K) := by
  obtain ⟨f, fd, F, hn⟩ := D
  exact ⟨f, fd, ok_odd_undone T F, M _ _ hn, F.kp, b_odd_undone F⟩
theorem ok_steps_of (T : Txt K mg) (c_power_of_two : Cal P w K mg base "power_of_two" ps_power_of_two 1 (sp_power_of_two K)) {f : Addr} {fd : FuncData} (F : Fun K "steps_of" "steps_of" s_steps_of f fd) : FnOk P w K mg base CX0 2 f fd ps_steps_of (sp_steps_of K) :=
  F.ok sc_steps_of (fun vs H Q E h => by
      obtain ⟨_, _, _, _, rfl, _⟩ := h
      rfl) fun cdv A outer s H vs Q E hr h => ⟨t_steps_of K, d_steps_of T c_power_of_two hr, r_steps_of (E := E) h⟩
theorem b_steps_of {f : Addr} {fd : FuncData} (F : Fun K "steps_of" "steps_of" s_steps_of f fd) : Binds K fd ps_steps_of [] := F.binds fun _ _ _ _ _ _ us hl => match us, hl with | [_, _, _], _ => rfl
theorem c_steps_of (M : ∀ x v, PySem.W.nsIn K mainGlobals x = some (some v) → mg x = some v) (T : Txt K mg) (D : Dfn K "steps_of" s_steps_of) (c_power_of_two : Cal P w K mg base "power_of_two" ps_power_of_two 1 (sp_power_of_two K)) : Cal P w K mg base "steps_of" ps_steps_of 2 (sp_steps_of K) := by
  obtain ⟨f, fd, F, hn⟩ := D
  exact ⟨f, fd, ok_steps_of T c_power_of_two F, M _ _ hn, F.kp, b_steps_of F⟩
theorem ok_told_triangle (T : Txt K mg) (c_good_row : Cal P w K mg base "good_row" ps_good_row 2 (sp_good_row K)) (c_steps_of : Cal P w K mg base "steps_of" ps_steps_of 2 (sp_steps_of K)) (c_power_of_two : Cal P w K mg base "power_of_two" ps_power_of_two 1 (sp_power_of_two K)) (c_items_counted : Cal P w K mg base "items_counted" ps_items_counted 1 (sp_items_counted K)) (c_product_at : Cal P w K mg base "product_at" ps_product_at 1 (sp_product_at K)) (c_odd_undone : Cal P w K mg base "odd_undone" ps_odd_undone 1 (sp_odd_undone K)) {f : Addr} {fd : FuncData} (F : Fun K "told_triangle" "told_triangle" s_told_triangle f fd) : FnOk P w K mg base CX0 3 f fd ps_told_triangle (sp_told_triangle K) :=
  F.ok sc_told_triangle (fun vs H Q E h => by
      obtain ⟨_, _, _, _, rfl, _⟩ := h
      rfl) fun cdv A outer s H vs Q E hr h => ⟨t_told_triangle K, d_told_triangle T c_good_row c_steps_of c_power_of_two c_items_counted c_product_at c_odd_undone hr, r_told_triangle (E := E) h⟩
theorem b_told_triangle {f : Addr} {fd : FuncData} (F : Fun K "told_triangle" "told_triangle" s_told_triangle f fd) : Binds K fd ps_told_triangle [] := F.binds fun _ _ _ _ _ _ us hl => match us, hl with | [_, _, _], _ => rfl
theorem c_told_triangle (M : ∀ x v, PySem.W.nsIn K mainGlobals x = some (some v) → mg x = some v) (T : Txt K mg) (D : Dfn K "told_triangle" s_told_triangle) (c_good_row : Cal P w K mg base "good_row" ps_good_row 2 (sp_good_row K)) (c_steps_of : Cal P w K mg base "steps_of" ps_steps_of 2 (sp_steps_of K)) (c_power_of_two : Cal P w K mg base "power_of_two" ps_power_of_two 1 (sp_power_of_two K)) (c_items_counted : Cal P w K mg base "items_counted" ps_items_counted 1 (sp_items_counted K)) (c_product_at : Cal P w K mg base "product_at" ps_product_at 1 (sp_product_at K)) (c_odd_undone : Cal P w K mg base "odd_undone" ps_odd_undone 1 (sp_odd_undone K)) : Cal P w K mg base "told_triangle" ps_told_triangle 3 (sp_told_triangle K) := by
  obtain ⟨f, fd, F, hn⟩ := D
  exact ⟨f, fd, ok_told_triangle T c_good_row c_steps_of c_power_of_two c_items_counted c_product_at c_odd_undone F, M _ _ hn, F.kp, b_told_triangle F⟩
theorem ok_in_places (T : Txt K mg) (c_good_row : Cal P w K mg base "good_row" ps_good_row 2 (sp_good_row K)) {f : Addr} {fd : FuncData} (F : Fun K "in_places" "in_places" s_in_places f fd) : FnOk P w K mg base CX0 3 f fd ps_in_places (sp_in_places K) :=
  F.ok sc_in_places (fun vs H Q E h => by
      obtain ⟨_, _, _, _, rfl, _⟩ := h
      rfl) fun cdv A outer s H vs Q E hr h => ⟨t_in_places K, d_in_places T c_good_row hr, r_in_places (E := E) h⟩
theorem b_in_places {f : Addr} {fd : FuncData} (F : Fun K "in_places" "in_places" s_in_places f fd) : Binds K fd ps_in_places [] := F.binds fun _ _ _ _ _ _ us hl => match us, hl with | [_, _], _ => rfl
theorem c_in_places (M : ∀ x v, PySem.W.nsIn K mainGlobals x = some (some v) → mg x = some v) (T : Txt K mg) (D : Dfn K "in_places" s_in_places) (c_good_row : Cal P w K mg base "good_row" ps_good_row 2 (sp_good_row K)) : Cal P w K mg base "in_places" ps_in_places 3 (sp_in_places K) := by
  obtain ⟨f, fd, F, hn⟩ := D
  exact ⟨f, fd, ok_in_places T c_good_row F, M _ _ hn, F.kp, b_in_places F⟩
theorem ok_triangle (T : Txt K mg) (c_check_code : Cal P w K mg base "check_code" ps_check_code 6 (sp_check_code K)) (c_told_triangle : Cal P w K mg base "told_triangle" ps_told_triangle 3 (sp_told_triangle K)) (c_in_places : Cal P w K mg base "in_places" ps_in_places 3 (sp_in_places K)) {f : Addr} {fd : FuncData} (F : Fun K "triangle" "triangle" s_triangle f fd) : FnOk P w K mg base CX0 7 f fd ps_triangle (sp_triangle K) :=
  F.ok sc_triangle (fun vs H Q E h => by
      obtain ⟨_, _, _, _, rfl, _⟩ := h
      rfl) fun cdv A outer s H vs Q E hr h => ⟨t_triangle K, d_triangle T c_check_code c_told_triangle c_in_places hr, r_triangle (E := E) h⟩
theorem b_triangle {f : Addr} {fd : FuncData} (F : Fun K "triangle" "triangle" s_triangle f fd) : Binds K fd ps_triangle [] := F.binds fun _ _ _ _ _ _ us hl => match us, hl with | [_, _, _], _ => rfl
theorem c_triangle (M : ∀ x v, PySem.W.nsIn K mainGlobals x = some (some v) → mg x = some v) (T : Txt K mg) (D : Dfn K "triangle" s_triangle) (c_check_code : Cal P w K mg base "check_code" ps_check_code 6 (sp_check_code K)) (c_told_triangle : Cal P w K mg base "told_triangle" ps_told_triangle 3 (sp_told_triangle K)) (c_in_places : Cal P w K mg base "in_places" ps_in_places 3 (sp_in_places K)) : Cal P w K mg base "triangle" ps_triangle 7 (sp_triangle K) := by
  obtain ⟨f, fd, F, hn⟩ := D
  exact ⟨f, fd, ok_triangle T c_check_code c_told_triangle c_in_places F, M _ _ hn, F.kp, b_triangle F⟩
theorem ok_sums_of (T : Txt K mg) (c_told_triangle : Cal P w K mg base "told_triangle" ps_told_triangle 3 (sp_told_triangle K)) (c_in_places : Cal P w K mg base "in_places" ps_in_places 3 (sp_in_places K)) (c_power_of_two : Cal P w K mg base "power_of_two" ps_power_of_two 1 (sp_power_of_two K)) {f : Addr} {fd : FuncData} (F : Fun K "sums_of" "sums_of" s_sums_of f fd) : FnOk P w K mg base CX0 4 f fd ps_sums_of (sp_sums_of K) :=
  F.ok sc_sums_of (fun vs H Q E h => by
      obtain ⟨_, _, _, _, _, _, rfl, _⟩ := h
      rfl) fun cdv A outer s H vs Q E hr h => ⟨t_sums_of K, d_sums_of T c_told_triangle c_in_places c_power_of_two hr, r_sums_of (E := E) h⟩
theorem b_sums_of {f : Addr} {fd : FuncData} (F : Fun K "sums_of" "sums_of" s_sums_of f fd) : Binds K fd ps_sums_of [] := F.binds fun _ _ _ _ _ _ us hl => match us, hl with | [_, _, _, _], _ => rfl
theorem c_sums_of (M : ∀ x v, PySem.W.nsIn K mainGlobals x = some (some v) → mg x = some v) (T : Txt K mg) (D : Dfn K "sums_of" s_sums_of) (c_told_triangle : Cal P w K mg base "told_triangle" ps_told_triangle 3 (sp_told_triangle K)) (c_in_places : Cal P w K mg base "in_places" ps_in_places 3 (sp_in_places K)) (c_power_of_two : Cal P w K mg base "power_of_two" ps_power_of_two 1 (sp_power_of_two K)) : Cal P w K mg base "sums_of" ps_sums_of 4 (sp_sums_of K) := by
  obtain ⟨f, fd, F, hn⟩ := D
  exact ⟨f, fd, ok_sums_of T c_told_triangle c_in_places c_power_of_two F, M _ _ hn, F.kp, b_sums_of F⟩
theorem ok_alarms (T : Txt K mg) (c_check_code : Cal P w K mg base "check_code" ps_check_code 6 (sp_check_code K)) (c_check_words : Cal P w K mg base "check_words" ps_check_words 5 (sp_check_words K)) (c_sums_of : Cal P w K mg base "sums_of" ps_sums_of 4 (sp_sums_of K)) {f : Addr} {fd : FuncData} (F : Fun K "alarms" "alarms" s_alarms f fd) : FnOk P w K mg base CX0 7 f fd ps_alarms (sp_alarms K) :=
  F.ok sc_alarms (fun vs H Q E h => by
      obtain ⟨_, _, _, _, _, _, rfl, _⟩ := h
      rfl) fun cdv A outer s H vs Q E hr h => ⟨t_alarms K, d_alarms T c_check_code c_check_words c_sums_of hr, r_alarms (E := E) h⟩
theorem b_alarms {f : Addr} {fd : FuncData} (F : Fun K "alarms" "alarms" s_alarms f fd) : Binds K fd ps_alarms [] := F.binds fun _ _ _ _ _ _ us hl => match us, hl with | [_, _, _, _], _ => rfl
theorem c_alarms (M : ∀ x v, PySem.W.nsIn K mainGlobals x = some (some v) → mg x = some v) (T : Txt K mg) (D : Dfn K "alarms" s_alarms) (c_check_code : Cal P w K mg base "check_code" ps_check_code 6 (sp_check_code K)) (c_check_words : Cal P w K mg base "check_words" ps_check_words 5 (sp_check_words K)) (c_sums_of : Cal P w K mg base "sums_of" ps_sums_of 4 (sp_sums_of K)) : Cal P w K mg base "alarms" ps_alarms 7 (sp_alarms K) := by
  obtain ⟨f, fd, F, hn⟩ := D
  exact ⟨f, fd, ok_alarms T c_check_code c_check_words c_sums_of F, M _ _ hn, F.kp, b_alarms F⟩
theorem kb_alarms {f : Addr} {fd : FuncData} (F : Fun K "alarms" "alarms" s_alarms f fd) : KBinds K fd ps_alarms ["words", "count", "places", "width"] gKw gKw := by
  obtain ⟨oc, od, kV, doc, pm, an, cdv, ct, osl, rfl, lk, hcd⟩ := F.ex
  exact ⟨fun s us ws _ hl => four hl (fun us ws => BindsTo s _ ⟨us, List.zip ["words", "count", "places", "width"] ws⟩ (List.zip ps_alarms (us ++ ws.reverse))) (fun _ _ _ _ => .of_eq rfl) (fun _ _ _ _ => .of_eq rfl) (fun _ _ _ _ => .of_eq rfl) (fun _ _ _ _ => .of_eq rfl) (fun _ _ _ _ => .of_eq rfl), fun r rz => vals_app r (vals_rev rz)⟩
theorem k_alarms (M : ∀ x v, PySem.W.nsIn K mainGlobals x = some (some v) → mg x = some v) (T : Txt K mg) (D : Dfn K "alarms" s_alarms) (c_check_code : Cal P w K mg base "check_code" ps_check_code 6 (sp_check_code K)) (c_check_words : Cal P w K mg base "check_words" ps_check_words 5 (sp_check_words K)) (c_sums_of : Cal P w K mg base "sums_of" ps_sums_of 4 (sp_sums_of K)) : CalK P w K mg base "alarms" ["words", "count", "places", "width"] 7 (sp_alarms K) := by
  obtain ⟨f, fd, F, hn⟩ := D
  exact ⟨f, fd, _, ok_alarms T c_check_code c_check_words c_sums_of F, M _ _ hn, F.kp, kb_alarms F⟩
theorem ok_alarm (T : Txt K mg) (c_alarms : Cal P w K mg base "alarms" ps_alarms 7 (sp_alarms K)) {f : Addr} {fd : FuncData} (F : Fun K "alarm" "alarm" s_alarm f fd) : FnOk P w K mg base CX0 8 f fd ps_alarm (sp_alarm K) :=
  F.ok sc_alarm (fun vs H Q E h => by
      obtain ⟨_, _, _, _, _, _, rfl, _⟩ := h
      rfl) fun cdv A outer s H vs Q E hr h => ⟨t_alarm K, d_alarm T c_alarms hr, r_alarm (E := E) h⟩
theorem b_alarm {f : Addr} {fd : FuncData} (F : Fun K "alarm" "alarm" s_alarm f fd) : Binds K fd ps_alarm [] := F.binds fun _ _ _ _ _ _ us hl => match us, hl with | [_, _, _, _], _ => rfl
theorem c_alarm (M : ∀ x v, PySem.W.nsIn K mainGlobals x = some (some v) → mg x = some v) (T : Txt K mg) (D : Dfn K "alarm" s_alarm) (c_alarms : Cal P w K mg base "alarms" ps_alarms 7 (sp_alarms K)) : Cal P w K mg base "alarm" ps_alarm 8 (sp_alarm K) := by
  obtain ⟨f, fd, F, hn⟩ := D
  exact ⟨f, fd, ok_alarm T c_alarms F, M _ _ hn, F.kp, b_alarm F⟩
theorem kb_alarm {f : Addr} {fd : FuncData} (F : Fun K "alarm" "alarm" s_alarm f fd) : KBinds K fd ps_alarm ["words", "count", "places", "width"] gKw gKw := by
  obtain ⟨oc, od, kV, doc, pm, an, cdv, ct, osl, rfl, lk, hcd⟩ := F.ex
  exact ⟨fun s us ws _ hl => four hl (fun us ws => BindsTo s _ ⟨us, List.zip ["words", "count", "places", "width"] ws⟩ (List.zip ps_alarm (us ++ ws.reverse))) (fun _ _ _ _ => .of_eq rfl) (fun _ _ _ _ => .of_eq rfl) (fun _ _ _ _ => .of_eq rfl) (fun _ _ _ _ => .of_eq rfl) (fun _ _ _ _ => .of_eq rfl), fun r rz => vals_app r (vals_rev rz)⟩
theorem k_alarm (M : ∀ x v, PySem.W.nsIn K mainGlobals x = some (some v) → mg x = some v) (T : Txt K mg) (D : Dfn K "alarm" s_alarm) (c_alarms : Cal P w K mg base "alarms" ps_alarms 7 (sp_alarms K)) : CalK P w K mg base "alarm" ["words", "count", "places", "width"] 8 (sp_alarm K) := by
  obtain ⟨f, fd, F, hn⟩ := D
  exact ⟨f, fd, _, ok_alarm T c_alarms F, M _ _ hn, F.kp, kb_alarm F⟩
theorem ok_l_hash (T : Txt K mg) {f : Addr} {fd : FuncData} (F : Fun K "_law_hash" "_law_hash" s_l_hash f fd) : FnOk P w K mg base CX0 1 f fd ps_l_hash (sp_l_hash K) :=
  F.ok sc_l_hash (fun vs H Q E h => by
      obtain ⟨_, _, rfl, _⟩ := h
      rfl) fun cdv A outer s H vs Q E hr h => ⟨t_l_hash K, d_l_hash T hr, r_l_hash (E := E) h⟩
theorem b_l_hash {f : Addr} {fd : FuncData} (F : Fun K "_law_hash" "_law_hash" s_l_hash f fd) : Binds K fd ps_l_hash [] := F.binds fun _ _ _ _ _ _ us hl => match us, hl with | [_, _], _ => rfl
theorem c_l_hash (M : ∀ x v, PySem.W.nsIn K mainGlobals x = some (some v) → mg x = some v) (T : Txt K mg) (D : Dfn K "_law_hash" s_l_hash) : Cal P w K mg base "_law_hash" ps_l_hash 1 (sp_l_hash K) := by
  obtain ⟨f, fd, F, hn⟩ := D
  exact ⟨f, fd, ok_l_hash T F, M _ _ hn, F.kp, b_l_hash F⟩
theorem ok_l_random (T : Txt K mg) (c_l_hash : Cal P w K mg base "_law_hash" ps_l_hash 1 (sp_l_hash K)) {f : Addr} {fd : FuncData} (F : Fun K "_law_random" "_law_random" s_l_random f fd) : FnOk P w K mg base CX0 2 f fd ps_l_random (sp_l_random K) :=
  F.ok sc_l_random (fun vs H Q E h => by
      obtain ⟨_, _, _, rfl, _⟩ := h
      rfl) fun cdv A outer s H vs Q E hr h => ⟨t_l_random K, d_l_random T c_l_hash hr, r_l_random (E := E) h⟩
theorem b_l_random {f : Addr} {fd : FuncData} (F : Fun K "_law_random" "_law_random" s_l_random f fd) : Binds K fd ps_l_random [] := F.binds fun _ _ _ _ _ _ us hl => match us, hl with | [_, _], _ => rfl
theorem c_l_random (M : ∀ x v, PySem.W.nsIn K mainGlobals x = some (some v) → mg x = some v) (T : Txt K mg) (D : Dfn K "_law_random" s_l_random) (c_l_hash : Cal P w K mg base "_law_hash" ps_l_hash 1 (sp_l_hash K)) : Cal P w K mg base "_law_random" ps_l_random 2 (sp_l_random K) := by
  obtain ⟨f, fd, F, hn⟩ := D
  exact ⟨f, fd, ok_l_random T c_l_hash F, M _ _ hn, F.kp, b_l_random F⟩
theorem ok_l_cell (T : Txt K mg) {f : Addr} {fd : FuncData} (F : Fun K "_law_cell" "_law_cell" s_l_cell f fd) : FnOk P w K mg base CX0 1 f fd ps_l_cell (sp_l_cell K) :=
  F.ok sc_l_cell (fun vs H Q E h => by
      obtain ⟨_, _, _, rfl, _⟩ := h
      rfl) fun cdv A outer s H vs Q E hr h => ⟨t_l_cell K, d_l_cell T hr, r_l_cell (E := E) h⟩
theorem b_l_cell {f : Addr} {fd : FuncData} (F : Fun K "_law_cell" "_law_cell" s_l_cell f fd) : Binds K fd ps_l_cell [] := F.binds fun _ _ _ _ _ _ us hl => match us, hl with | [_, _], _ => rfl
theorem c_l_cell (M : ∀ x v, PySem.W.nsIn K mainGlobals x = some (some v) → mg x = some v) (T : Txt K mg) (D : Dfn K "_law_cell" s_l_cell) : Cal P w K mg base "_law_cell" ps_l_cell 1 (sp_l_cell K) := by
  obtain ⟨f, fd, F, hn⟩ := D
  exact ⟨f, fd, ok_l_cell T F, M _ _ hn, F.kp, b_l_cell F⟩
theorem ok_l_generator (T : Txt K mg) (c_l_cell : Cal P w K mg base "_law_cell" ps_l_cell 1 (sp_l_cell K)) {f : Addr} {fd : FuncData} (F : Fun K "_law_generator" "_law_generator" s_l_generator f fd) : FnOk P w K mg base CX0 2 f fd ps_l_generator (sp_l_generator K) :=
  F.ok sc_l_generator (fun vs H Q E h => by
      obtain ⟨_, _, _, rfl, _⟩ := h
      rfl) fun cdv A outer s H vs Q E hr h => ⟨t_l_generator K, d_l_generator T c_l_cell hr, r_l_generator (E := E) h⟩
theorem b_l_generator {f : Addr} {fd : FuncData} (F : Fun K "_law_generator" "_law_generator" s_l_generator f fd) : Binds K fd ps_l_generator [] := F.binds fun _ _ _ _ _ _ us hl => match us, hl with | [_, _], _ => rfl
theorem c_l_generator (M : ∀ x v, PySem.W.nsIn K mainGlobals x = some (some v) → mg x = some v) (T : Txt K mg) (D : Dfn K "_law_generator" s_l_generator) (c_l_cell : Cal P w K mg base "_law_cell" ps_l_cell 1 (sp_l_cell K)) : Cal P w K mg base "_law_generator" ps_l_generator 2 (sp_l_generator K) := by
  obtain ⟨f, fd, F, hn⟩ := D
  exact ⟨f, fd, ok_l_generator T c_l_cell F, M _ _ hn, F.kp, b_l_generator F⟩
theorem ok_l_twos (T : Txt K mg) {f : Addr} {fd : FuncData} (F : Fun K "_law_twos" "_law_twos" s_l_twos f fd) : FnOk P w K mg base CX0 1 f fd ps_l_twos (sp_l_twos K) :=
  F.ok sc_l_twos (fun vs H Q E h => by
      obtain ⟨_, rfl, _⟩ := h
      rfl) fun cdv A outer s H vs Q E hr h => ⟨t_l_twos K, d_l_twos T hr, r_l_twos (E := E) h⟩
theorem b_l_twos {f : Addr} {fd : FuncData} (F : Fun K "_law_twos" "_law_twos" s_l_twos f fd) : Binds K fd ps_l_twos [] := F.binds fun _ _ _ _ _ _ us hl => match us, hl with | [_], _ => rfl
theorem c_l_twos (M : ∀ x v, PySem.W.nsIn K mainGlobals x = some (some v) → mg x = some v) (T : Txt K mg) (D : Dfn K "_law_twos" s_l_twos) : Cal P w K mg base "_law_twos" ps_l_twos 1 (sp_l_twos K) := by
  obtain ⟨f, fd, F, hn⟩ := D
  exact ⟨f, fd, ok_l_twos T F, M _ _ hn, F.kp, b_l_twos F⟩
theorem ok_l_order (T : Txt K mg) (c_l_twos : Cal P w K mg base "_law_twos" ps_l_twos 1 (sp_l_twos K)) {f : Addr} {fd : FuncData} (F : Fun K "_law_order" "_law_order" s_l_order f fd) : FnOk P w K mg base CX0 2 f fd ps_l_order (sp_l_order K) :=
  F.ok sc_l_order (fun vs H Q E h => by
      obtain ⟨_, _, rfl, _⟩ := h
      rfl) fun cdv A outer s H vs Q E hr h => ⟨t_l_order K, d_l_order T c_l_twos hr, r_l_order (E := E) h⟩
theorem b_l_order {f : Addr} {fd : FuncData} (F : Fun K "_law_order" "_law_order" s_l_order f fd) : Binds K fd ps_l_order [] := F.binds fun _ _ _ _ _ _ us hl => match us, hl with | [_], _ => rfl
theorem c_l_order (M : ∀ x v, PySem.W.nsIn K mainGlobals x = some (some v) → mg x = some v) (T : Txt K mg) (D : Dfn K "_law_order" s_l_order) (c_l_twos : Cal P w K mg base "_law_twos" ps_l_twos 1 (sp_l_twos K)) : Cal P w K mg base "_law_order" ps_l_order 2 (sp_l_order K) := by
  obtain ⟨f, fd, F, hn⟩ := D
  exact ⟨f, fd, ok_l_order T c_l_twos F, M _ _ hn, F.kp, b_l_order F⟩
theorem ok_l_product (T : Txt K mg) {f : Addr} {fd : FuncData} (F : Fun K "_law_product" "_law_product" s_l_product f fd) : FnOk P w K mg base CX0 1 f fd ps_l_product (sp_l_product K) :=
  F.ok sc_l_product (fun vs H Q E h => by
      obtain ⟨_, _, _, _, rfl, _⟩ := h
      rfl) fun cdv A outer s H vs Q E hr h => ⟨t_l_product K, d_l_product T hr, r_l_product (E := E) h⟩
theorem b_l_product {f : Addr} {fd : FuncData} (F : Fun K "_law_product" "_law_product" s_l_product f fd) : Binds K fd ps_l_product [] := F.binds fun _ _ _ _ _ _ us hl => match us, hl with | [_, _, _], _ => rfl
theorem c_l_product (M : ∀ x v, PySem.W.nsIn K mainGlobals x = some (some v) → mg x = some v) (T : Txt K mg) (D : Dfn K "_law_product" s_l_product) : Cal P w K mg base "_law_product" ps_l_product 1 (sp_l_product K) := by
  obtain ⟨f, fd, F, hn⟩ := D
  exact ⟨f, fd, ok_l_product T F, M _ _ hn, F.kp, b_l_product F⟩
theorem ok_l_items (T : Txt K mg) (c_l_order : Cal P w K mg base "_law_order" ps_l_order 2 (sp_l_order K)) {f : Addr} {fd : FuncData} (F : Fun K "_law_items" "_law_items" s_l_items f fd) : FnOk P w K mg base CX0 3 f fd ps_l_items (sp_l_items K) :=
  F.ok sc_l_items (fun vs H Q E h => by
      obtain ⟨_, _, _, _, rfl, _⟩ := h
      rfl) fun cdv A outer s H vs Q E hr h => ⟨t_l_items K, d_l_items T c_l_order hr, r_l_items (E := E) h⟩
theorem b_l_items {f : Addr} {fd : FuncData} (F : Fun K "_law_items" "_law_items" s_l_items f fd) : Binds K fd ps_l_items [] := F.binds fun _ _ _ _ _ _ us hl => match us, hl with | [_, _, _], _ => rfl
theorem c_l_items (M : ∀ x v, PySem.W.nsIn K mainGlobals x = some (some v) → mg x = some v) (T : Txt K mg) (D : Dfn K "_law_items" s_l_items) (c_l_order : Cal P w K mg base "_law_order" ps_l_order 2 (sp_l_order K)) : Cal P w K mg base "_law_items" ps_l_items 3 (sp_l_items K) := by
  obtain ⟨f, fd, F, hn⟩ := D
  exact ⟨f, fd, ok_l_items T c_l_order F, M _ _ hn, F.kp, b_l_items F⟩
theorem ok_l_codewords (T : Txt K mg) (c_l_order : Cal P w K mg base "_law_order" ps_l_order 2 (sp_l_order K)) (c_l_items : Cal P w K mg base "_law_items" ps_l_items 3 (sp_l_items K)) (c_l_product : Cal P w K mg base "_law_product" ps_l_product 1 (sp_l_product K)) {f : Addr} {fd : FuncData} (F : Fun K "_law_codewords" "_law_codewords" s_l_codewords f fd) : FnOk P w K mg base CX0 4 f fd ps_l_codewords (sp_l_codewords K) :=
  F.ok sc_l_codewords (fun vs H Q E h => by
      obtain ⟨_, _, _, _, rfl, _⟩ := h
      rfl) fun cdv A outer s H vs Q E hr h => ⟨t_l_codewords K, d_l_codewords T c_l_order c_l_items c_l_product hr, r_l_codewords (E := E) h⟩
theorem b_l_codewords {f : Addr} {fd : FuncData} (F : Fun K "_law_codewords" "_law_codewords" s_l_codewords f fd) : Binds K fd ps_l_codewords [] := F.binds fun _ _ _ _ _ _ us hl => match us, hl with | [_, _, _], _ => rfl
theorem c_l_codewords (M : ∀ x v, PySem.W.nsIn K mainGlobals x = some (some v) → mg x = some v) (T : Txt K mg) (D : Dfn K "_law_codewords" s_l_codewords) (c_l_order : Cal P w K mg base "_law_order" ps_l_order 2 (sp_l_order K)) (c_l_items : Cal P w K mg base "_law_items" ps_l_items 3 (sp_l_items K)) (c_l_product : Cal P w K mg base "_law_product" ps_l_product 1 (sp_l_product K)) : Cal P w K mg base "_law_codewords" ps_l_codewords 4 (sp_l_codewords K) := by
  obtain ⟨f, fd, F, hn⟩ := D
  exact ⟨f, fd, ok_l_codewords T c_l_order c_l_items c_l_product F, M _ _ hn, F.kp, b_l_codewords F⟩
theorem ok_l_spots (T : Txt K mg) (c_l_random : Cal P w K mg base "_law_random" ps_l_random 2 (sp_l_random K)) {f : Addr} {fd : FuncData} (F : Fun K "_law_spots" "_law_spots" s_l_spots f fd) : FnOk P w K mg base CX0 3 f fd ps_l_spots (sp_l_spots K) :=
  F.ok sc_l_spots (fun vs H Q E h => by
      obtain ⟨_, _, _, rfl, _⟩ := h
      rfl) fun cdv A outer s H vs Q E hr h => ⟨t_l_spots K, d_l_spots T c_l_random hr, r_l_spots (E := E) h⟩
theorem b_l_spots {f : Addr} {fd : FuncData} (F : Fun K "_law_spots" "_law_spots" s_l_spots f fd) : Binds K fd ps_l_spots [] := F.binds fun _ _ _ _ _ _ us hl => match us, hl with | [_, _, _], _ => rfl
theorem c_l_spots (M : ∀ x v, PySem.W.nsIn K mainGlobals x = some (some v) → mg x = some v) (T : Txt K mg) (D : Dfn K "_law_spots" s_l_spots) (c_l_random : Cal P w K mg base "_law_random" ps_l_random 2 (sp_l_random K)) : Cal P w K mg base "_law_spots" ps_l_spots 3 (sp_l_spots K) := by
  obtain ⟨f, fd, F, hn⟩ := D
  exact ⟨f, fd, ok_l_spots T c_l_random F, M _ _ hn, F.kp, b_l_spots F⟩
theorem ok_l_small (T : Txt K mg) (c_l_random : Cal P w K mg base "_law_random" ps_l_random 2 (sp_l_random K)) (c_l_spots : Cal P w K mg base "_law_spots" ps_l_spots 3 (sp_l_spots K)) (c_l_order : Cal P w K mg base "_law_order" ps_l_order 2 (sp_l_order K)) {f : Addr} {fd : FuncData} (F : Fun K "_law_small" "_law_small" s_l_small f fd) : FnOk P w K mg base CX0 4 f fd ps_l_small (sp_l_small K) :=
  F.ok sc_l_small (fun vs H Q E h => by
      obtain ⟨_, _, rfl, _⟩ := h
      rfl) fun cdv A outer s H vs Q E hr h => ⟨t_l_small K, d_l_small T c_l_random c_l_spots c_l_order hr, r_l_small (E := E) h⟩
theorem b_l_small {f : Addr} {fd : FuncData} (F : Fun K "_law_small" "_law_small" s_l_small f fd) : Binds K fd ps_l_small [] := F.binds fun _ _ _ _ _ _ us hl => match us, hl with | [_], _ => rfl
theorem c_l_small (M : ∀ x v, PySem.W.nsIn K mainGlobals x = some (some v) → mg x = some v) (T : Txt K mg) (D : Dfn K "_law_small" s_l_small) (c_l_random : Cal P w K mg base "_law_random" ps_l_random 2 (sp_l_random K)) (c_l_spots : Cal P w K mg base "_law_spots" ps_l_spots 3 (sp_l_spots K)) (c_l_order : Cal P w K mg base "_law_order" ps_l_order 2 (sp_l_order K)) : Cal P w K mg base "_law_small" ps_l_small 4 (sp_l_small K) := by
  obtain ⟨f, fd, F, hn⟩ := D
  exact ⟨f, fd, ok_l_small T c_l_random c_l_spots c_l_order F, M _ _ hn, F.kp, b_l_small F⟩
theorem ok_l_bent (T : Txt K mg) (c_l_random : Cal P w K mg base "_law_random" ps_l_random 2 (sp_l_random K)) {f : Addr} {fd : FuncData} (F : Fun K "_law_bent" "_law_bent" s_l_bent f fd) : FnOk P w K mg base CX0 3 f fd ps_l_bent (sp_l_bent K) :=
  F.ok sc_l_bent (fun vs H Q E h => by
      obtain ⟨_, _, _, _, _, _, rfl, _⟩ := h
      rfl) fun cdv A outer s H vs Q E hr h => ⟨t_l_bent K, d_l_bent T c_l_random hr, r_l_bent (E := E) h⟩
theorem b_l_bent {f : Addr} {fd : FuncData} (F : Fun K "_law_bent" "_law_bent" s_l_bent f fd) : Binds K fd ps_l_bent [] := F.binds fun _ _ _ _ _ _ us hl => match us, hl with | [_, _, _, _], _ => rfl
theorem c_l_bent (M : ∀ x v, PySem.W.nsIn K mainGlobals x = some (some v) → mg x = some v) (T : Txt K mg) (D : Dfn K "_law_bent" s_l_bent) (c_l_random : Cal P w K mg base "_law_random" ps_l_random 2 (sp_l_random K)) : Cal P w K mg base "_law_bent" ps_l_bent 3 (sp_l_bent K) := by
  obtain ⟨f, fd, F, hn⟩ := D
  exact ⟨f, fd, ok_l_bent T c_l_random F, M _ _ hn, F.kp, b_l_bent F⟩
theorem ok_l_sums (T : Txt K mg) {f : Addr} {fd : FuncData} (F : Fun K "_law_sums" "_law_sums" s_l_sums f fd) : FnOk P w K mg base CX0 1 f fd ps_l_sums (sp_l_sums K) :=
  F.ok sc_l_sums (fun vs H Q E h => by
      obtain ⟨_, _, _, _, _, rfl, _⟩ := h
      rfl) fun cdv A outer s H vs Q E hr h => ⟨t_l_sums K, d_l_sums T hr, r_l_sums (E := E) h⟩
theorem b_l_sums {f : Addr} {fd : FuncData} (F : Fun K "_law_sums" "_law_sums" s_l_sums f fd) : Binds K fd ps_l_sums [] := F.binds fun _ _ _ _ _ _ us hl => match us, hl with | [_, _, _], _ => rfl
theorem c_l_sums (M : ∀ x v, PySem.W.nsIn K mainGlobals x = some (some v) → mg x = some v) (T : Txt K mg) (D : Dfn K "_law_sums" s_l_sums) : Cal P w K mg base "_law_sums" ps_l_sums 1 (sp_l_sums K) := by
  obtain ⟨f, fd, F, hn⟩ := D
  exact ⟨f, fd, ok_l_sums T F, M _ _ hn, F.kp, b_l_sums F⟩
theorem ok_l_misfit (T : Txt K mg) (c_l_order : Cal P w K mg base "_law_order" ps_l_order 2 (sp_l_order K)) {f : Addr} {fd : FuncData} (F : Fun K "_law_misfit" "_law_misfit" s_l_misfit f fd) : FnOk P w K mg base CX0 3 f fd ps_l_misfit (sp_l_misfit K) :=
  F.ok sc_l_misfit (fun vs H Q E h => by
      obtain ⟨_, _, _, _, _, _, rfl, _⟩ := h
      rfl) fun cdv A outer s H vs Q E hr h => ⟨t_l_misfit K, d_l_misfit T c_l_order hr, r_l_misfit (E := E) h⟩
theorem b_l_misfit {f : Addr} {fd : FuncData} (F : Fun K "_law_misfit" "_law_misfit" s_l_misfit f fd) : Binds K fd ps_l_misfit [] := F.binds fun _ _ _ _ _ _ us hl => match us, hl with | [_, _, _], _ => rfl
theorem c_l_misfit (M : ∀ x v, PySem.W.nsIn K mainGlobals x = some (some v) → mg x = some v) (T : Txt K mg) (D : Dfn K "_law_misfit" s_l_misfit) (c_l_order : Cal P w K mg base "_law_order" ps_l_order 2 (sp_l_order K)) : Cal P w K mg base "_law_misfit" ps_l_misfit 3 (sp_l_misfit K) := by
  obtain ⟨f, fd, F, hn⟩ := D
  exact ⟨f, fd, ok_l_misfit T c_l_order F, M _ _ hn, F.kp, b_l_misfit F⟩
theorem ok_l_right (T : Txt K mg) (c_l_small : Cal P w K mg base "_law_small" ps_l_small 4 (sp_l_small K)) (c_triangle : Cal P w K mg base "triangle" ps_triangle 7 (sp_triangle K)) (c_l_codewords : Cal P w K mg base "_law_codewords" ps_l_codewords 4 (sp_l_codewords K)) (c_l_bent : Cal P w K mg base "_law_bent" ps_l_bent 3 (sp_l_bent K)) (c_l_random : Cal P w K mg base "_law_random" ps_l_random 2 (sp_l_random K)) (c_l_sums : Cal P w K mg base "_law_sums" ps_l_sums 1 (sp_l_sums K)) (c_alarms : Cal P w K mg base "alarms" ps_alarms 7 (sp_alarms K)) (c_alarm : Cal P w K mg base "alarm" ps_alarm 8 (sp_alarm K)) (c_l_misfit : Cal P w K mg base "_law_misfit" ps_l_misfit 3 (sp_l_misfit K)) (k_alarms : CalK P w K mg base "alarms" ["words", "count", "places", "width"] 7 (sp_alarms K)) {f : Addr} {fd : FuncData} (F : Fun K "_law_right" "_law_right" s_l_right f fd) : FnG P w K mg base 9 f fd ps_l_right (sp_l_right K) :=
  okG F sc_l_right (fun vs H Q E h => by
      obtain ⟨_, rfl, _⟩ := h
      rfl) fun cdv A outer s H vs Q E hA hr h => ⟨t_l_right K, d_l_right T c_l_small c_triangle c_l_codewords c_l_bent c_l_random c_l_sums c_alarms c_alarm c_l_misfit k_alarms hA hr, r_l_right (E := E) h⟩
theorem b_l_right {f : Addr} {fd : FuncData} (F : Fun K "_law_right" "_law_right" s_l_right f fd) : Binds K fd ps_l_right [] := F.binds fun _ _ _ _ _ _ us hl => match us, hl with | [_], _ => rfl
theorem c_l_right (M : ∀ x v, PySem.W.nsIn K mainGlobals x = some (some v) → mg x = some v) (T : Txt K mg) (D : Dfn K "_law_right" s_l_right) (c_l_small : Cal P w K mg base "_law_small" ps_l_small 4 (sp_l_small K)) (c_triangle : Cal P w K mg base "triangle" ps_triangle 7 (sp_triangle K)) (c_l_codewords : Cal P w K mg base "_law_codewords" ps_l_codewords 4 (sp_l_codewords K)) (c_l_bent : Cal P w K mg base "_law_bent" ps_l_bent 3 (sp_l_bent K)) (c_l_random : Cal P w K mg base "_law_random" ps_l_random 2 (sp_l_random K)) (c_l_sums : Cal P w K mg base "_law_sums" ps_l_sums 1 (sp_l_sums K)) (c_alarms : Cal P w K mg base "alarms" ps_alarms 7 (sp_alarms K)) (c_alarm : Cal P w K mg base "alarm" ps_alarm 8 (sp_alarm K)) (c_l_misfit : Cal P w K mg base "_law_misfit" ps_l_misfit 3 (sp_l_misfit K)) (k_alarms : CalK P w K mg base "alarms" ["words", "count", "places", "width"] 7 (sp_alarms K)) : CalG P w K mg base "_law_right" ps_l_right 9 (sp_l_right K) := by
  obtain ⟨f, fd, F, hn⟩ := D
  exact ⟨f, fd, ok_l_right T c_l_small c_triangle c_l_codewords c_l_bent c_l_random c_l_sums c_alarms c_alarm c_l_misfit k_alarms F, M _ _ hn, F.kp, b_l_right F⟩
theorem ok_l_far_right (T : Txt K mg) (c_l_random : Cal P w K mg base "_law_random" ps_l_random 2 (sp_l_random K)) (c_triangle : Cal P w K mg base "triangle" ps_triangle 7 (sp_triangle K)) (c_alarm : Cal P w K mg base "alarm" ps_alarm 8 (sp_alarm K)) (c_alarms : Cal P w K mg base "alarms" ps_alarms 7 (sp_alarms K)) (c_l_bent : Cal P w K mg base "_law_bent" ps_l_bent 3 (sp_l_bent K)) (c_l_sums : Cal P w K mg base "_law_sums" ps_l_sums 1 (sp_l_sums K)) {f : Addr} {fd : FuncData} (F : Fun K "_law_far_right" "_law_far_right" s_l_far_right f fd) : FnOk P w K mg base CX0 9 f fd ps_l_far_right (sp_l_far_right K) :=
  F.ok sc_l_far_right (fun vs H Q E h => by
      obtain ⟨_, rfl, _⟩ := h
      rfl) fun cdv A outer s H vs Q E hr h => ⟨t_l_far_right K, d_l_far_right T c_l_random c_triangle c_alarm c_alarms c_l_bent c_l_sums hr, r_l_far_right (E := E) h⟩
theorem b_l_far_right {f : Addr} {fd : FuncData} (F : Fun K "_law_far_right" "_law_far_right" s_l_far_right f fd) : Binds K fd ps_l_far_right [] := F.binds fun _ _ _ _ _ _ us hl => match us, hl with | [_], _ => rfl
theorem c_l_far_right (M : ∀ x v, PySem.W.nsIn K mainGlobals x = some (some v) → mg x = some v) (T : Txt K mg) (D : Dfn K "_law_far_right" s_l_far_right) (c_l_random : Cal P w K mg base "_law_random" ps_l_random 2 (sp_l_random K)) (c_triangle : Cal P w K mg base "triangle" ps_triangle 7 (sp_triangle K)) (c_alarm : Cal P w K mg base "alarm" ps_alarm 8 (sp_alarm K)) (c_alarms : Cal P w K mg base "alarms" ps_alarms 7 (sp_alarms K)) (c_l_bent : Cal P w K mg base "_law_bent" ps_l_bent 3 (sp_l_bent K)) (c_l_sums : Cal P w K mg base "_law_sums" ps_l_sums 1 (sp_l_sums K)) : Cal P w K mg base "_law_far_right" ps_l_far_right 9 (sp_l_far_right K) := by
  obtain ⟨f, fd, F, hn⟩ := D
  exact ⟨f, fd, ok_l_far_right T c_l_random c_triangle c_alarm c_alarms c_l_bent c_l_sums F, M _ _ hn, F.kp, b_l_far_right F⟩
theorem ok_law (T : Txt K mg) (c_l_right : CalG P w K mg base "_law_right" ps_l_right 9 (sp_l_right K)) (c_l_generator : Cal P w K mg base "_law_generator" ps_l_generator 2 (sp_l_generator K)) (c_l_far_right : Cal P w K mg base "_law_far_right" ps_l_far_right 9 (sp_l_far_right K)) (c_alarm : Cal P w K mg base "alarm" ps_alarm 8 (sp_alarm K)) (c_alarms : Cal P w K mg base "alarms" ps_alarms 7 (sp_alarms K)) (k_alarm : CalK P w K mg base "alarm" ["words", "count", "places", "width"] 8 (sp_alarm K)) {f : Addr} {fd : FuncData} (F : Fun K "law" "law" s_law f fd) : FnG P w K mg base 10 f fd ps_law (sp_law K) :=
  okG F sc_law (fun vs H Q E h => by
      obtain ⟨_, _, rfl, _⟩ := h
      rfl) fun cdv A outer s H vs Q E hA hr h => ⟨t_law K, d_law T c_l_right c_l_generator c_l_far_right c_alarm c_alarms k_alarm hA hr, r_law (E := E) h⟩
theorem b_law {f : Addr} {fd : FuncData} (F : Fun K "law" "law" s_law f fd) : Binds K fd ps_law [] := F.binds fun _ _ _ _ _ _ us hl => match us, hl with | [_], _ => rfl
end
theorem all_mk {l : PySem.W.OpenLaw} {w : World} {K : PySem.W.Frag} {h : Heap} {mg : Str → Option Value} {fa : Addr} {t : Tok} (X : K.In h) (G : h.Ns mainGlobals mg) (hfa : mg "law" = some (.ref fa))
    (D_is_whole : Dfn K "is_whole" s_is_whole)
    (D_is_between : Dfn K "is_between" s_is_between)
    (D_check_number : Dfn K "check_number" s_check_number)
    (D_power_of_two : Dfn K "power_of_two" s_power_of_two)
    (D_twos : Dfn K "twos" s_twos)
    (D_good_row : Dfn K "good_row" s_good_row)
    (D_product_at : Dfn K "product_at" s_product_at)
    (D_items_counted : Dfn K "items_counted" s_items_counted)
    (D_is_width : Dfn K "is_width" s_is_width)
    (D_check_width : Dfn K "check_width" s_check_width)
    (D_is_of_width : Dfn K "is_of_width" s_is_of_width)
    (D_rises : Dfn K "rises" s_rises)
    (D_are_places : Dfn K "are_places" s_are_places)
    (D_check_places : Dfn K "check_places" s_check_places)
    (D_are_words : Dfn K "are_words" s_are_words)
    (D_check_words : Dfn K "check_words" s_check_words)
    (D_check_code : Dfn K "check_code" s_check_code)
    (D_odd_undone : Dfn K "odd_undone" s_odd_undone)
    (D_steps_of : Dfn K "steps_of" s_steps_of)
    (D_told_triangle : Dfn K "told_triangle" s_told_triangle)
    (D_in_places : Dfn K "in_places" s_in_places)
    (D_triangle : Dfn K "triangle" s_triangle)
    (D_sums_of : Dfn K "sums_of" s_sums_of)
    (D_alarms : Dfn K "alarms" s_alarms)
    (D_alarm : Dfn K "alarm" s_alarm)
    (D_l_hash : Dfn K "_law_hash" s_l_hash)
    (D_l_random : Dfn K "_law_random" s_l_random)
    (D_l_cell : Dfn K "_law_cell" s_l_cell)
    (D_l_generator : Dfn K "_law_generator" s_l_generator)
    (D_l_twos : Dfn K "_law_twos" s_l_twos)
    (D_l_order : Dfn K "_law_order" s_l_order)
    (D_l_product : Dfn K "_law_product" s_l_product)
    (D_l_items : Dfn K "_law_items" s_l_items)
    (D_l_codewords : Dfn K "_law_codewords" s_l_codewords)
    (D_l_spots : Dfn K "_law_spots" s_l_spots)
    (D_l_small : Dfn K "_law_small" s_l_small)
    (D_l_bent : Dfn K "_law_bent" s_l_bent)
    (D_l_sums : Dfn K "_law_sums" s_l_sums)
    (D_l_misfit : Dfn K "_law_misfit" s_l_misfit)
    (D_l_right : Dfn K "_law_right" s_l_right)
    (D_l_far_right : Dfn K "_law_far_right" s_l_far_right)
    (D_law : Dfn K "law" s_law)
    (mw : PySem.W.nsIn K mainGlobals "MOST_WIDTH" = some (some (.int 64 t)))
    (z_isinstance : PySem.W.nsIn K mainGlobals "isinstance" = some none)
    (z_int : PySem.W.nsIn K mainGlobals "int" = some none)
    (z_bool : PySem.W.nsIn K mainGlobals "bool" = some none)
    (z_list : PySem.W.nsIn K mainGlobals "list" = some none)
    (z_len : PySem.W.nsIn K mainGlobals "len" = some none)
    (z_min : PySem.W.nsIn K mainGlobals "min" = some none)
    (z_max : PySem.W.nsIn K mainGlobals "max" = some none)
    (z_zip : PySem.W.nsIn K mainGlobals "zip" = some none)
    (z_range : PySem.W.nsIn K mainGlobals "range" = some none)
    (z_enumerate : PySem.W.nsIn K mainGlobals "enumerate" = some none)
    (z_sum : PySem.W.nsIn K mainGlobals "sum" = some none)
    (z_sorted : PySem.W.nsIn K mainGlobals "sorted" = some none)
    (z_dict : PySem.W.nsIn K mainGlobals "dict" = some none)
    (z_repr : PySem.W.nsIn K mainGlobals "repr" = some none)
    : ∃ fd : FuncData, (∀ (s : Shared) (v : Value), BindsTo s fd ⟨[v], []⟩ [("_law_script", v)]) ∧ ∀ base : Heap, K.In base → base.Ns mainGlobals mg → FnG l.prog w K mg base 10 fa fd ["_law_script"] (sp_law K) := by
  have M : ∀ x v, PySem.W.nsIn K mainGlobals x = some (some v) → mg x = some v := fun x v e => PySem.W.mg_of X G e
  have N : ∀ x, PySem.W.nsIn K mainGlobals x = some none → mg x = none := fun x e => PySem.W.mg_none_of X G e
  have T : Txt K mg := ⟨N _ z_isinstance, N _ z_int, N _ z_bool, N _ z_list, N _ z_len, N _ z_min, N _ z_max, N _ z_zip, N _ z_range, N _ z_enumerate, N _ z_sum, N _ z_sorted, N _ z_dict, N _ z_repr, _, M _ _ mw⟩
  obtain ⟨f, fd, F, hn⟩ := D_law
  have e := hfa.symm.trans (M _ _ hn)
  cases e
  refine ⟨fd, ?_, fun base _ _ => ?_⟩
  · obtain ⟨oc, od, kV, doc, pm, an, cdv, ct, osl, rfl, lk, hcd⟩ := F.ex
    exact fun s v => .of_eq rfl
  · have C_is_whole := c_is_whole (P := l.prog) (w := w) (base := base) M T D_is_whole
    have C_is_between := c_is_between (P := l.prog) (w := w) (base := base) M T D_is_between C_is_whole
    have C_check_number := c_check_number (P := l.prog) (w := w) (base := base) M T D_check_number C_is_between
    have C_power_of_two := c_power_of_two (P := l.prog) (w := w) (base := base) M T D_power_of_two
    have C_twos := c_twos (P := l.prog) (w := w) (base := base) M T D_twos
    have C_good_row := c_good_row (P := l.prog) (w := w) (base := base) M T D_good_row C_twos
    have C_product_at := c_product_at (P := l.prog) (w := w) (base := base) M T D_product_at
    have C_items_counted := c_items_counted (P := l.prog) (w := w) (base := base) M T D_items_counted
    have C_is_width := c_is_width (P := l.prog) (w := w) (base := base) M T D_is_width C_is_between
    have C_check_width := c_check_width (P := l.prog) (w := w) (base := base) M T D_check_width C_is_width
    have C_is_of_width := c_is_of_width (P := l.prog) (w := w) (base := base) M T D_is_of_width C_is_between C_power_of_two
    have C_rises := c_rises (P := l.prog) (w := w) (base := base) M T D_rises
    have C_are_places := c_are_places (P := l.prog) (w := w) (base := base) M T D_are_places C_is_of_width C_rises
    have C_check_places := c_check_places (P := l.prog) (w := w) (base := base) M T D_check_places C_check_width C_are_places
    have C_are_words := c_are_words (P := l.prog) (w := w) (base := base) M T D_are_words C_is_of_width
    have C_check_words := c_check_words (P := l.prog) (w := w) (base := base) M T D_check_words C_are_words
    have C_check_code := c_check_code (P := l.prog) (w := w) (base := base) M T D_check_code C_check_places C_check_number
    have C_odd_undone := c_odd_undone (P := l.prog) (w := w) (base := base) M T D_odd_undone
    have C_steps_of := c_steps_of (P := l.prog) (w := w) (base := base) M T D_steps_of C_power_of_two
    have C_told_triangle := c_told_triangle (P := l.prog) (w := w) (base := base) M T D_told_triangle C_good_row C_steps_of C_power_of_two C_items_counted C_product_at C_odd_undone
    have C_in_places := c_in_places (P := l.prog) (w := w) (base := base) M T D_in_places C_good_row
    have C_triangle := c_triangle (P := l.prog) (w := w) (base := base) M T D_triangle C_check_code C_told_triangle C_in_places
    have C_sums_of := c_sums_of (P := l.prog) (w := w) (base := base) M T D_sums_of C_told_triangle C_in_places C_power_of_two
    have C_alarms := c_alarms (P := l.prog) (w := w) (base := base) M T D_alarms C_check_code C_check_words C_sums_of
    have K_alarms := k_alarms (P := l.prog) (w := w) (base := base) M T D_alarms C_check_code C_check_words C_sums_of
    have C_alarm := c_alarm (P := l.prog) (w := w) (base := base) M T D_alarm C_alarms
    have K_alarm := k_alarm (P := l.prog) (w := w) (base := base) M T D_alarm C_alarms
    have C_l_hash := c_l_hash (P := l.prog) (w := w) (base := base) M T D_l_hash
    have C_l_random := c_l_random (P := l.prog) (w := w) (base := base) M T D_l_random C_l_hash
    have C_l_cell := c_l_cell (P := l.prog) (w := w) (base := base) M T D_l_cell
    have C_l_generator := c_l_generator (P := l.prog) (w := w) (base := base) M T D_l_generator C_l_cell
    have C_l_twos := c_l_twos (P := l.prog) (w := w) (base := base) M T D_l_twos
    have C_l_order := c_l_order (P := l.prog) (w := w) (base := base) M T D_l_order C_l_twos
    have C_l_product := c_l_product (P := l.prog) (w := w) (base := base) M T D_l_product
    have C_l_items := c_l_items (P := l.prog) (w := w) (base := base) M T D_l_items C_l_order
    have C_l_codewords := c_l_codewords (P := l.prog) (w := w) (base := base) M T D_l_codewords C_l_order C_l_items C_l_product
    have C_l_spots := c_l_spots (P := l.prog) (w := w) (base := base) M T D_l_spots C_l_random
    have C_l_small := c_l_small (P := l.prog) (w := w) (base := base) M T D_l_small C_l_random C_l_spots C_l_order
    have C_l_bent := c_l_bent (P := l.prog) (w := w) (base := base) M T D_l_bent C_l_random
    have C_l_sums := c_l_sums (P := l.prog) (w := w) (base := base) M T D_l_sums
    have C_l_misfit := c_l_misfit (P := l.prog) (w := w) (base := base) M T D_l_misfit C_l_order
    have C_l_right := c_l_right (P := l.prog) (w := w) (base := base) M T D_l_right C_l_small C_triangle C_l_codewords C_l_bent C_l_random C_l_sums C_alarms C_alarm C_l_misfit K_alarms
    have C_l_far_right := c_l_far_right (P := l.prog) (w := w) (base := base) M T D_l_far_right C_l_random C_triangle C_alarm C_alarms C_l_bent C_l_sums
    exact ok_law T C_l_right C_l_generator C_l_far_right C_alarm C_alarms K_alarm F
theorem walkLaw {l : PySem.W.OpenLaw} {q : Program} {loose : List Str} {XP : (Str → Option Value) → Heap → Prop} {YP : World → Heap → Prop} {d : DefRec} {K : Params → PySem.W.Frag} (hn : l.most = some 63) (hdf : d.params.defaults = [])
    (hY : ∀ (w : World) (h : Heap), YP w h → (K w.params).In h)
    (F : ∀ (w : World) (mg : Str → Option Value) (fa : Addr) (h : Heap), (K w.params).In h → h.Ns mainGlobals mg → mg d.name = some (.ref fa) →
      ∃ fd : FuncData, (∀ (s : Shared) (u : Value), BindsTo s fd ⟨[u], []⟩ [("_law_script", u)]) ∧ ∀ base : Heap, (K w.params).In base → base.Ns mainGlobals mg → FnG l.prog w (K w.params) mg base 10 fa fd ["_law_script"] (sp_law (K w.params))) :
    PySem.W.WalkO q loose XP YP l.row.toRowW d [] (fun f vs => PySem.call f vs) :=
  walkG (sp := sp_law) hn (by decide) hdf ⟨rfl, by decide, by decide⟩ hY F fun K H a ns hl hS => ⟨a, ns, rfl, hS, fun _ => rfl⟩
end K53

open PySem PySem.W PyProof.Rows in
set_option maxRecDepth 100000 in
set_option maxHeartbeats 0 in
theorem PySem.Challenge.cw_anyplaces_k53_whole_alarms_holds : PySem.Challenge.rw_anyplaces_k53_whole_alarms.Holds := by
  w_on; o_law; k_head; (case hw => w_witness2)
  k_fill
  refine K53.walkLaw (l := PySem.Challenge.rw_anyplaces_k53_whole_alarms) rfl rfl (fun w h Y => PySem.W.kIn_of Y) ?F
  case F =>
    intro w mg fa h KX G hmg
    refine' K53.all_mk KX G hmg (K53.dfn_mk ?a0 ?l0 ?c0 ?k0) (K53.dfn_mk ?a1 ?l1 ?c1 ?k1) (K53.dfn_mk ?a2 ?l2 ?c2 ?k2) (K53.dfn_mk ?a3 ?l3 ?c3 ?k3) (K53.dfn_mk ?a4 ?l4 ?c4 ?k4) (K53.dfn_mk ?a5 ?l5 ?c5 ?k5) (K53.dfn_mk ?a6 ?l6 ?c6 ?k6) (K53.dfn_mk ?a7 ?l7 ?c7 ?k7) (K53.dfn_mk ?a8 ?l8 ?c8 ?k8) (K53.dfn_mk ?a9 ?l9 ?c9 ?k9) (K53.dfn_mk ?a10 ?l10 ?c10 ?k10) (K53.dfn_mk ?a11 ?l11 ?c11 ?k11) (K53.dfn_mk ?a12 ?l12 ?c12 ?k12) (K53.dfn_mk ?a13 ?l13 ?c13 ?k13) (K53.dfn_mk ?a14 ?l14 ?c14 ?k14) (K53.dfn_mk ?a15 ?l15 ?c15 ?k15) (K53.dfn_mk ?a16 ?l16 ?c16 ?k16) (K53.dfn_mk ?a17 ?l17 ?c17 ?k17) (K53.dfn_mk ?a18 ?l18 ?c18 ?k18) (K53.dfn_mk ?a19 ?l19 ?c19 ?k19) (K53.dfn_mk ?a20 ?l20 ?c20 ?k20) (K53.dfn_mk ?a21 ?l21 ?c21 ?k21) (K53.dfn_mk ?a22 ?l22 ?c22 ?k22) (K53.dfn_mk ?a23 ?l23 ?c23 ?k23) (K53.dfn_mk ?a24 ?l24 ?c24 ?k24) (K53.dfn_mk ?a25 ?l25 ?c25 ?k25) (K53.dfn_mk ?a26 ?l26 ?c26 ?k26) (K53.dfn_mk ?a27 ?l27 ?c27 ?k27) (K53.dfn_mk ?a28 ?l28 ?c28 ?k28) (K53.dfn_mk ?a29 ?l29 ?c29 ?k29) (K53.dfn_mk ?a30 ?l30 ?c30 ?k30) (K53.dfn_mk ?a31 ?l31 ?c31 ?k31) (K53.dfn_mk ?a32 ?l32 ?c32 ?k32) (K53.dfn_mk ?a33 ?l33 ?c33 ?k33) (K53.dfn_mk ?a34 ?l34 ?c34 ?k34) (K53.dfn_mk ?a35 ?l35 ?c35 ?k35) (K53.dfn_mk ?a36 ?l36 ?c36 ?k36) (K53.dfn_mk ?a37 ?l37 ?c37 ?k37) (K53.dfn_mk ?a38 ?l38 ?c38 ?k38) (K53.dfn_mk ?a39 ?l39 ?c39 ?k39) (K53.dfn_mk ?a40 ?l40 ?c40 ?k40) (K53.dfn_mk ?a41 ?l41 ?c41 ?k41) ?mw ?z_isinstance ?z_int ?z_bool ?z_list ?z_len ?z_min ?z_max ?z_zip ?z_range ?z_enumerate ?z_sum ?z_sorted ?z_dict ?z_repr
    (case a0 => k_is)
    (case l0 => k_is)
    (case c0 => k_is)
    (case k0 => k_is)
    (case a1 => k_is)
    (case l1 => k_is)
    (case c1 => k_is)
    (case k1 => k_is)
    (case a2 => k_is)
    (case l2 => k_is)
    (case c2 => k_is)
    (case k2 => k_is)
    (case a3 => k_is)
    (case l3 => k_is)
    (case c3 => k_is)
    (case k3 => k_is)
    (case a4 => k_is)
    (case l4 => k_is)
    (case c4 => k_is)
    (case k4 => k_is)
    (case a5 => k_is)
    (case l5 => k_is)
    (case c5 => k_is)
    (case k5 => k_is)
    (case a6 => k_is)
    (case l6 => k_is)
    (case c6 => k_is)
    (case k6 => k_is)
    (case a7 => k_is)
    (case l7 => k_is)
    (case c7 => k_is)
    (case k7 => k_is)
    (case a8 => k_is)
    (case l8 => k_is)
    (case c8 => k_is)
    (case k8 => k_is)
    (case a9 => k_is)
    (case l9 => k_is)
    (case c9 => k_is)
    (case k9 => k_is)
    (case a10 => k_is)
    (case l10 => k_is)
    (case c10 => k_is)
    (case k10 => k_is)
    (case a11 => k_is)
    (case l11 => k_is)
    (case c11 => k_is)
    (case k11 => k_is)
    (case a12 => k_is)
    (case l12 => k_is)
    (case c12 => k_is)
    (case k12 => k_is)
    (case a13 => k_is)
    (case l13 => k_is)
    (case c13 => k_is)
    (case k13 => k_is)
    (case a14 => k_is)
    (case l14 => k_is)
    (case c14 => k_is)
    (case k14 => k_is)
    (case a15 => k_is)
    (case l15 => k_is)
    (case c15 => k_is)
    (case k15 => k_is)
    (case a16 => k_is)
    (case l16 => k_is)
    (case c16 => k_is)
    (case k16 => k_is)
    (case a17 => k_is)
    (case l17 => k_is)
    (case c17 => k_is)
    (case k17 => k_is)
    (case a18 => k_is)
    (case l18 => k_is)
    (case c18 => k_is)
    (case k18 => k_is)
    (case a19 => k_is)
    (case l19 => k_is)
    (case c19 => k_is)
    (case k19 => k_is)
    (case a20 => k_is)
    (case l20 => k_is)
    (case c20 => k_is)
    (case k20 => k_is)
    (case a21 => k_is)
    (case l21 => k_is)
    (case c21 => k_is)
    (case k21 => k_is)
    (case a22 => k_is)
    (case l22 => k_is)
    (case c22 => k_is)
    (case k22 => k_is)
    (case a23 => k_is)
    (case l23 => k_is)
    (case c23 => k_is)
    (case k23 => k_is)
    (case a24 => k_is)
    (case l24 => k_is)
    (case c24 => k_is)
    (case k24 => k_is)
    (case a25 => k_is)
    (case l25 => k_is)
    (case c25 => k_is)
    (case k25 => k_is)
    (case a26 => k_is)
    (case l26 => k_is)
    (case c26 => k_is)
    (case k26 => k_is)
    (case a27 => k_is)
    (case l27 => k_is)
    (case c27 => k_is)
    (case k27 => k_is)
    (case a28 => k_is)
    (case l28 => k_is)
    (case c28 => k_is)
    (case k28 => k_is)
    (case a29 => k_is)
    (case l29 => k_is)
    (case c29 => k_is)
    (case k29 => k_is)
    (case a30 => k_is)
    (case l30 => k_is)
    (case c30 => k_is)
    (case k30 => k_is)
    (case a31 => k_is)
    (case l31 => k_is)
    (case c31 => k_is)
    (case k31 => k_is)
    (case a32 => k_is)
    (case l32 => k_is)
    (case c32 => k_is)
    (case k32 => k_is)
    (case a33 => k_is)
    (case l33 => k_is)
    (case c33 => k_is)
    (case k33 => k_is)
    (case a34 => k_is)
    (case l34 => k_is)
    (case c34 => k_is)
    (case k34 => k_is)
    (case a35 => k_is)
    (case l35 => k_is)
    (case c35 => k_is)
    (case k35 => k_is)
    (case a36 => k_is)
    (case l36 => k_is)
    (case c36 => k_is)
    (case k36 => k_is)
    (case a37 => k_is)
    (case l37 => k_is)
    (case c37 => k_is)
    (case k37 => k_is)
    (case a38 => k_is)
    (case l38 => k_is)
    (case c38 => k_is)
    (case k38 => k_is)
    (case a39 => k_is)
    (case l39 => k_is)
    (case c39 => k_is)
    (case k39 => k_is)
    (case a40 => k_is)
    (case l40 => k_is)
    (case c40 => k_is)
    (case k40 => k_is)
    (case a41 => k_is)
    (case l41 => k_is)
    (case c41 => k_is)
    (case k41 => k_is)
    (case mw => k_is)
    (case z_isinstance => k_is)
    (case z_int => k_is)
    (case z_bool => k_is)
    (case z_list => k_is)
    (case z_len => k_is)
    (case z_min => k_is)
    (case z_max => k_is)
    (case z_zip => k_is)
    (case z_range => k_is)
    (case z_enumerate => k_is)
    (case z_sum => k_is)
    (case z_sorted => k_is)
    (case z_dict => k_is)
    (case z_repr => k_is)

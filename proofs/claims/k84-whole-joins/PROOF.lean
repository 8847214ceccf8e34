import PyProof.Rows.All
import Wide.All
import OpenK.AllK
import Wide.FinOn
import PyProof.EqAt
import PyProof.EqKinds
import PyProof.TupleCall
import HandS.ForMost
import HandS.ForExc
import HandS.Conv
import HandS.Strs
import HandS.SetFor
import HandS.IsInst
import HandS.TupAny
import HandS.TupLen
import HandS.DictTup
import HandS.TryMany
import HandS.ExcInit
import HandS.ExcBuiltin
import HandS.Small
import HandS.ExcField
import HandS.Lambda
import HandS.Nested
import HandS.EndTab
import HandS.EndOwn
import HandS.AnyAll
import HandS.Zip
import HandS.Flow
import HandS.RaiseMore
import PyProof.GenCompD
import KE.GoesMore
import KE.KDictDisplayH
import KE.KDflt
import PySem.Challenge.RW_restlesshelf_k84_whole_joins
section
set_option autoImplicit false
set_option linter.all false
/-! The plain law: habits, layouts, words, what beside, within, called, backed, doubled make of them. No program in sight. -/
namespace Jn

/-! ### lists -/
theorem nodup_erase {α : Type} [DecidableEq α] {l : List α} (h : l.Nodup) (a : α) : (l.erase a).Nodup ∧ a ∉ l.erase a := by
  refine ⟨h.sublist List.erase_sublist, ?_⟩
  intro hm
  exact (List.Nodup.mem_erase_iff h).mp hm |>.1 rfl

theorem length_le_of_subset {α : Type} [DecidableEq α] : ∀ {l m : List α}, l.Nodup → (∀ x ∈ l, x ∈ m) → l.length ≤ m.length
  | [], m, _, _ => Nat.zero_le _
  | a :: l, m, hn, hs => by
    have hn' := List.nodup_cons.mp hn
    have ha : a ∈ m := hs a List.mem_cons_self
    have ih := length_le_of_subset (l := l) (m := m.erase a) hn'.2 (fun x hx => by
      have hxm := hs x (List.mem_cons_of_mem _ hx)
      have hxa : x ≠ a := fun e => hn'.1 (e ▸ hx)
      exact (List.mem_erase_of_ne hxa).mpr hxm)
    have e := List.length_erase_of_mem ha
    have : 0 < m.length := List.length_pos_of_mem ha
    simp only [List.length_cons]
    omega

theorem mem_of_full {α : Type} [DecidableEq α] {l m : List α} (hn : l.Nodup) (hs : ∀ x ∈ l, x ∈ m) (hl : m.length ≤ l.length) : ∀ x ∈ m, x ∈ l := by
  intro x hx
  by_cases h : x ∈ l
  · exact h
  · have := length_le_of_subset (l := l) (m := m.erase x) hn (fun y hy => by
      have : y ≠ x := fun e => h (e ▸ hy)
      exact (List.mem_erase_of_ne this).mpr (hs y hy))
    have e := List.length_erase_of_mem hx
    have : 0 < m.length := List.length_pos_of_mem hx
    omega

theorem length_eq_of_same {α : Type} [DecidableEq α] {l m : List α} (h1 : l.Nodup) (h2 : m.Nodup) (h : ∀ x, x ∈ l ↔ x ∈ m) : l.length = m.length :=
  Nat.le_antisymm (length_le_of_subset h1 fun x hx => (h x).mp hx) (length_le_of_subset h2 fun x hx => (h x).mpr hx)

theorem nodup_map_on {α β : Type} {f : α → β} : ∀ {l : List α}, l.Nodup → (∀ x ∈ l, ∀ y ∈ l, f x = f y → x = y) → (l.map f).Nodup
  | [], _, _ => List.nodup_nil
  | a :: l, hn, hi => by
    have hn' := List.nodup_cons.mp hn
    rw [List.map_cons]
    refine List.nodup_cons.mpr ⟨fun hm => ?_, nodup_map_on hn'.2 fun x hx y hy e => hi x (List.mem_cons_of_mem _ hx) y (List.mem_cons_of_mem _ hy) e⟩
    obtain ⟨b, hb, e⟩ := List.mem_map.mp hm
    have : b = a := hi b (List.mem_cons_of_mem _ hb) a List.mem_cons_self e
    exact hn'.1 (this ▸ hb)

theorem nodup_append_of {α : Type} {l m : List α} (h1 : l.Nodup) (h2 : m.Nodup) (h : ∀ x ∈ l, x ∉ m) : (l ++ m).Nodup :=
  List.nodup_append.mpr ⟨h1, h2, fun a ha b hb e => h a ha (e ▸ hb)⟩

theorem getElem?_of_getD {l : List Nat} {i : Nat} (h : i < l.length) : l[i]? = some (l.getD i 0) := by
  rw [List.getD_eq_getElem?_getD, List.getElem?_eq_getElem h]
  rfl
theorem getD_mem {l : List Nat} {i : Nat} (h : i < l.length) : l.getD i 0 ∈ l := by
  rw [List.getD_eq_getElem?_getD, List.getElem?_eq_getElem h]
  exact List.getElem_mem h
theorem ext_getD {l m : List Nat} (hl : l.length = m.length) (h : ∀ i, i < l.length → l.getD i 0 = m.getD i 0) : l = m := by
  apply List.ext_getElem hl
  intro i h1 h2
  have := h i h1
  simpa [List.getD_eq_getElem?_getD, List.getElem?_eq_getElem h1, List.getElem?_eq_getElem h2] using this
theorem getD_map {f : Nat → Nat} {l : List Nat} {i : Nat} (h : i < l.length) : (l.map f).getD i 0 = f (l.getD i 0) := by
  simp [List.getD_eq_getElem?_getD, List.getElem?_eq_getElem h]
theorem getD_range {n i : Nat} (h : i < n) : (List.range n).getD i 0 = i := by
  simp [List.getD_eq_getElem?_getD, h]
theorem nodup_getD {l : List Nat} (hn : l.Nodup) {i j : Nat} (hi : i < l.length) (hj : j < l.length) (e : l.getD i 0 = l.getD j 0) : i = j := by
  have e' : l[i] = l[j] := by
    simpa [List.getD_eq_getElem?_getD, List.getElem?_eq_getElem hi, List.getElem?_eq_getElem hj] using e
  exact (List.getElem_inj hn).mp e'

/-! ### permutations, habits -/
/-- a permutation of n places -/
structure IsPerm (n : Nat) (l : List Nat) : Prop where
  len : l.length = n
  lt : ∀ x ∈ l, x < n
  nd : l.Nodup
theorem IsPerm.at_lt {n : Nat} {l : List Nat} (p : IsPerm n l) {i : Nat} (h : i < n) : l.getD i 0 < n := p.lt _ (getD_mem (by rw [p.len]; exact h))
theorem IsPerm.inj {n : Nat} {l : List Nat} (p : IsPerm n l) {i j : Nat} (hi : i < n) (hj : j < n) (e : l.getD i 0 = l.getD j 0) : i = j :=
  nodup_getD p.nd (by rw [p.len]; exact hi) (by rw [p.len]; exact hj) e
theorem IsPerm.mem {n : Nat} {l : List Nat} (p : IsPerm n l) {x : Nat} (h : x < n) : x ∈ l :=
  mem_of_full (m := List.range n) p.nd (fun y hy => List.mem_range.mpr (p.lt y hy)) (by rw [List.length_range, p.len]; exact Nat.le_refl _) x (List.mem_range.mpr h)
theorem IsPerm.surj {n : Nat} {l : List Nat} (p : IsPerm n l) {x : Nat} (h : x < n) : ∃ i, i < n ∧ l.getD i 0 = x := by
  obtain ⟨i, hi, e⟩ := List.getElem_of_mem (p.mem h)
  refine ⟨i, by rw [← p.len]; exact hi, ?_⟩
  rw [List.getD_eq_getElem?_getD, List.getElem?_eq_getElem hi]
  exact e
theorem perm_range (n : Nat) : IsPerm n (List.range n) := ⟨List.length_range, fun _ h => List.mem_range.mp h, List.nodup_range⟩
/-- a list of n unlike places -/
theorem perm_of_inj {n : Nat} {l : List Nat} (hl : l.length = n) (h1 : ∀ i, i < n → l.getD i 0 < n) (h2 : ∀ i j, i < n → j < n → l.getD i 0 = l.getD j 0 → i = j) : IsPerm n l := by
  refine ⟨hl, fun x hx => ?_, ?_⟩
  · obtain ⟨i, hi, e⟩ := List.getElem_of_mem hx
    have := h1 i (by rw [← hl]; exact hi)
    rw [List.getD_eq_getElem?_getD, List.getElem?_eq_getElem hi] at this
    rw [← e]
    exact this
  · rw [List.nodup_iff_pairwise_ne, List.pairwise_iff_getElem]
    intro i j hi hj hij e
    have := h2 i j (by rw [← hl]; exact hi) (by rw [← hl]; exact hj) (by
      simp only [List.getD_eq_getElem?_getD, List.getElem?_eq_getElem hi, List.getElem?_eq_getElem hj, Option.getD_some]
      exact e)
    omega
theorem IsPerm.comp {n : Nat} {l m : List Nat} (p : IsPerm n l) (q : IsPerm n m) : IsPerm n (l.map fun s => m.getD s 0) := by
  refine perm_of_inj (by rw [List.length_map, p.len]) (fun i hi => ?_) fun i j hi hj e => ?_
  · rw [getD_map (by rw [p.len]; exact hi)]
    exact q.at_lt (p.at_lt hi)
  · rw [getD_map (by rw [p.len]; exact hi), getD_map (by rw [p.len]; exact hj)] at e
    exact p.inj hi hj (q.inj (p.at_lt hi) (p.at_lt hj) e)

/-- a habit of n places -/
structure IsHabit (n : Nat) (h : List (List Nat)) : Prop where
  len : h.length = n
  two : 2 ≤ n
  five : n ≤ 5
  perm : ∀ m ∈ h, IsPerm n m
/-- the permutation of a place -/
def row (h : List (List Nat)) (k : Nat) : List Nat := h.getD k []
theorem row_mem {h : List (List Nat)} {k : Nat} (hk : k < h.length) : row h k ∈ h := by
  unfold row
  rw [List.getD_eq_getElem?_getD, List.getElem?_eq_getElem hk]
  exact List.getElem_mem hk
theorem row_get? {h : List (List Nat)} {k : Nat} (hk : k < h.length) : h[k]? = some (row h k) := by
  unfold row
  rw [List.getD_eq_getElem?_getD, List.getElem?_eq_getElem hk]
  rfl
theorem row_of {h : List (List Nat)} {k : Nat} {m : List Nat} (e : h[k]? = some m) : row h k = m := by
  unfold row
  rw [List.getD_eq_getElem?_getD, e]
  rfl
theorem IsHabit.row {n : Nat} {h : List (List Nat)} (H : IsHabit n h) {k : Nat} (hk : k < n) : IsPerm n (row h k) := H.perm _ (row_mem (by rw [H.len]; exact hk))
/-- two habits are one where their permutations are -/
theorem ext_row {g h : List (List Nat)} (hl : g.length = h.length) (e : ∀ k, k < g.length → row g k = row h k) : g = h := by
  apply List.ext_getElem hl
  intro k h1 h2
  have := e k h1
  unfold row at this
  simpa [List.getD_eq_getElem?_getD, List.getElem?_eq_getElem h1, List.getElem?_eq_getElem h2] using this
theorem habit_of {n : Nat} {h : List (List Nat)} (hl : h.length = n) (h2 : 2 ≤ n) (h5 : n ≤ 5) (hp : ∀ k, k < n → IsPerm n (Jn.row h k)) : IsHabit n h := by
  refine ⟨hl, h2, h5, fun m hm => ?_⟩
  obtain ⟨k, hk, e⟩ := List.getElem_of_mem hm
  have := hp k (by rw [← hl]; exact hk)
  rw [row_of (List.getElem?_eq_getElem hk), e] at this
  exact this

/-! ### touches, words -/
def touch (h : List (List Nat)) (l : List Nat) (k : Nat) : List Nat := l.map fun s => (row h k).getD s 0
def after (h : List (List Nat)) (l w : List Nat) : List Nat := w.foldl (touch h) l
theorem after_nil (h : List (List Nat)) (l : List Nat) : after h l [] = l := rfl
theorem after_cons (h : List (List Nat)) (l : List Nat) (k : Nat) (w : List Nat) : after h l (k :: w) = after h (touch h l k) w := rfl
theorem after_append (h : List (List Nat)) (l w v : List Nat) : after h l (w ++ v) = after h (after h l w) v := by
  unfold after
  rw [List.foldl_append]
theorem after_one (h : List (List Nat)) (l : List Nat) (k : Nat) : after h l [k] = touch h l k := rfl
theorem touch_len (h : List (List Nat)) (l : List Nat) (k : Nat) : (touch h l k).length = l.length := by
  unfold touch
  rw [List.length_map]
theorem touch_get {h : List (List Nat)} {l : List Nat} {k i : Nat} (hi : i < l.length) : (touch h l k).getD i 0 = (row h k).getD (l.getD i 0) 0 := getD_map hi
/-- a word's touches are places -/
def WordOk (n : Nat) (w : List Nat) : Prop := ∀ k ∈ w, k < n
theorem touch_perm {n : Nat} {h : List (List Nat)} (H : IsHabit n h) {l : List Nat} (p : IsPerm n l) {k : Nat} (hk : k < n) : IsPerm n (touch h l k) := p.comp (H.row hk)
theorem after_perm {n : Nat} {h : List (List Nat)} (H : IsHabit n h) : ∀ {w l : List Nat}, IsPerm n l → WordOk n w → IsPerm n (after h l w)
  | [], _, p, _ => p
  | k :: w, _, p, hw => after_perm H (w := w) (touch_perm H p (hw k List.mem_cons_self)) fun j hj => hw j (List.mem_cons_of_mem _ hj)

/-! ### side by side -/
def beside (a b : List (List Nat)) : List (List Nat) :=
  a.map (fun m => m ++ (List.range b.length).map (a.length + ·)) ++ b.map (fun m => List.range a.length ++ m.map (a.length + ·))
theorem beside_len (a b : List (List Nat)) : (beside a b).length = a.length + b.length := by
  unfold beside
  rw [List.length_append, List.length_map, List.length_map]
theorem beside_row_l {a b : List (List Nat)} {k : Nat} (hk : k < a.length) : row (beside a b) k = row a k ++ (List.range b.length).map (a.length + ·) := by
  refine row_of ?_
  unfold beside
  rw [List.getElem?_append_left (by rw [List.length_map]; exact hk), List.getElem?_map, row_get? hk]
  rfl
theorem beside_row_r {a b : List (List Nat)} {k : Nat} (hk : k < b.length) : row (beside a b) (a.length + k) = List.range a.length ++ (row b k).map (a.length + ·) := by
  refine row_of ?_
  unfold beside
  rw [List.getElem?_append_right (by rw [List.length_map]; omega), List.length_map, Nat.add_sub_cancel_left, List.getElem?_map, row_get? hk]
  rfl
theorem getD_app_l {l m : List Nat} {i : Nat} (h : i < l.length) : (l ++ m).getD i 0 = l.getD i 0 := by
  rw [List.getD_eq_getElem?_getD, List.getElem?_append_left h, List.getD_eq_getElem?_getD]
theorem getD_app_r {l m : List Nat} {i : Nat} : (l ++ m).getD (l.length + i) 0 = m.getD i 0 := by
  rw [List.getD_eq_getElem?_getD, List.getElem?_append_right (Nat.le_add_right _ _), Nat.add_sub_cancel_left, List.getD_eq_getElem?_getD]
theorem touch_beside_l {n m : Nat} {a b : List (List Nat)} (A : IsHabit n a) (B : IsHabit m b) {l r : List Nat} (p : IsPerm n l) (q : IsPerm m r) {k : Nat} (hk : k < n) :
    touch (beside a b) (l ++ r.map (n + ·)) k = touch a l k ++ r.map (n + ·) := by
  unfold touch
  rw [List.map_append, beside_row_l (by rw [A.len]; exact hk), A.len, B.len]
  have hr := (A.row hk).len
  congr 1
  · apply List.map_congr_left
    intro s hs
    exact getD_app_l (by rw [hr]; exact p.lt s hs)
  · rw [List.map_map]
    apply List.map_congr_left
    intro s hs
    show (row a k ++ (List.range m).map (n + ·)).getD (n + s) 0 = n + s
    have := getD_app_r (l := row a k) (m := (List.range m).map (n + ·)) (i := s)
    rw [hr] at this
    rw [this, getD_map (by rw [List.length_range]; exact q.lt s hs), getD_range (q.lt s hs)]
theorem touch_beside_r {n m : Nat} {a b : List (List Nat)} (A : IsHabit n a) (B : IsHabit m b) {l r : List Nat} (p : IsPerm n l) (q : IsPerm m r) {k : Nat} (hk : k < m) :
    touch (beside a b) (l ++ r.map (n + ·)) (n + k) = l ++ (touch b r k).map (n + ·) := by
  have e : row (beside a b) (n + k) = List.range n ++ (row b k).map (n + ·) := by
    have := beside_row_r (a := a) (b := b) (k := k) (by rw [B.len]; exact hk)
    rw [A.len] at this
    exact this
  unfold touch
  rw [List.map_append, e]
  congr 1
  · have : ∀ s ∈ l, (List.range n ++ (row b k).map (n + ·)).getD s 0 = s := fun s hs => by
      rw [getD_app_l (by rw [List.length_range]; exact p.lt s hs), getD_range (p.lt s hs)]
    rw [List.map_congr_left this]
    exact List.map_id' l
  · rw [List.map_map, List.map_map]
    apply List.map_congr_left
    intro s hs
    show (List.range n ++ (row b k).map (n + ·)).getD (n + s) 0 = n + (row b k).getD s 0
    have := getD_app_r (l := List.range n) (m := (row b k).map (n + ·)) (i := s)
    rw [List.length_range] at this
    rw [this, getD_map (by rw [(B.row hk).len]; exact q.lt s hs)]
/-- the touches of the first shelf, of the second one -/
def lefts (n : Nat) (w : List Nat) : List Nat := w.filter fun k => decide (k < n)
def rights (n : Nat) (w : List Nat) : List Nat := (w.filter fun k => decide (n ≤ k)).map (· - n)
theorem after_beside {n m : Nat} {a b : List (List Nat)} (A : IsHabit n a) (B : IsHabit m b) : ∀ {w l r : List Nat}, IsPerm n l → IsPerm m r → WordOk (n + m) w →
    after (beside a b) (l ++ r.map (n + ·)) w = after a l (lefts n w) ++ (after b r (rights n w)).map (n + ·)
  | [], l, r, _, _, _ => rfl
  | k :: w, l, r, p, q, hw => by
    have hk := hw k List.mem_cons_self
    have hw' : WordOk (n + m) w := fun j hj => hw j (List.mem_cons_of_mem _ hj)
    rw [after_cons]
    by_cases c : k < n
    · rw [touch_beside_l A B p q c, after_beside A B (touch_perm A p c) q hw']
      have e1 : lefts n (k :: w) = k :: lefts n w := List.filter_cons_of_pos (by simpa using c)
      have e2 : rights n (k :: w) = rights n w := by
        unfold rights
        rw [List.filter_cons_of_neg (by simp; exact c)]
      rw [e1, e2, after_cons]
    · have hkm : k - n < m := by omega
      have ek : k = n + (k - n) := by omega
      have e0 := touch_beside_r A B p q hkm
      rw [← ek] at e0
      rw [e0, after_beside A B p (touch_perm B q hkm) hw']
      have e1 : lefts n (k :: w) = lefts n w := List.filter_cons_of_neg (by simpa using c)
      have e2 : rights n (k :: w) = (k - n) :: rights n w := by
        unfold rights
        rw [List.filter_cons_of_pos (by simp; omega)]
        rfl
      rw [e1, e2, after_cons]
theorem lefts_ok (n : Nat) (w : List Nat) : WordOk n (lefts n w) := fun k hk => by
  have := (List.mem_filter.mp hk).2
  simpa using this
theorem rights_ok {n m : Nat} {w : List Nat} (h : WordOk (n + m) w) : WordOk m (rights n w) := fun k hk => by
  obtain ⟨j, hj, e⟩ := List.mem_map.mp hk
  have h1 := (List.mem_filter.mp hj)
  have h2 : n ≤ j := by simpa using h1.2
  have h3 := h j h1.1
  have e' : j - n = k := e
  omega
theorem app_perm {n m : Nat} {l r : List Nat} (p : IsPerm n l) (q : IsPerm m r) : IsPerm (n + m) (l ++ r.map (n + ·)) := by
  refine ⟨by rw [List.length_append, List.length_map, p.len, q.len], fun x hx => ?_, nodup_append_of p.nd (nodup_map_on q.nd fun x _ y _ e => by have e' : n + x = n + y := e; omega) fun x hx hm => ?_⟩
  · rcases List.mem_append.mp hx with h | h
    · have := p.lt x h
      omega
    · obtain ⟨y, hy, e⟩ := List.mem_map.mp h
      have := q.lt y hy
      have e' : n + y = x := e
      omega
  · obtain ⟨y, hy, e⟩ := List.mem_map.mp hm
    have := p.lt x hx
    have e' : n + y = x := e
    omega
theorem range_app (n m : Nat) : List.range (n + m) = List.range n ++ (List.range m).map (n + ·) := List.range_add
theorem beside_habit {n m : Nat} {a b : List (List Nat)} (A : IsHabit n a) (B : IsHabit m b) (h5 : n + m ≤ 5) : IsHabit (n + m) (beside a b) := by
  refine habit_of (by rw [beside_len, A.len, B.len]) (by have := A.two; omega) h5 fun k hk => ?_
  by_cases c : k < n
  · rw [beside_row_l (by rw [A.len]; exact c), A.len, B.len]
    exact app_perm (A.row c) (perm_range m)
  · have ek : k = a.length + (k - n) := by rw [A.len]; omega
    rw [ek, beside_row_r (by rw [B.len]; omega), A.len]
    exact app_perm (perm_range n) (B.row (by omega))

/-! ### how many permutations words make -/
def Made (n : Nat) (h : List (List Nat)) (x : List Nat) : Prop := ∃ w, WordOk n w ∧ after h (List.range n) w = x
/-- N is the number of the permutations that words make -/
def OrderIs (n : Nat) (h : List (List Nat)) (N : Nat) : Prop := ∃ L : List (List Nat), L.Nodup ∧ L.length = N ∧ ∀ x, x ∈ L ↔ Made n h x
theorem OrderIs.uniq {n : Nat} {h : List (List Nat)} {N M : Nat} (a : OrderIs n h N) (b : OrderIs n h M) : N = M := by
  obtain ⟨L, l1, l2, l3⟩ := a
  obtain ⟨L', k1, k2, k3⟩ := b
  rw [← l2, ← k2]
  exact length_eq_of_same l1 k1 fun x => (l3 x).trans (k3 x).symm
theorem OrderIs.bij {n m : Nat} {g h : List (List Nat)} {N : Nat} (a : OrderIs n g N) (f : List Nat → List Nat) (hinj : ∀ x y, Made n g x → Made n g y → f x = f y → x = y) (him : ∀ x, Made n g x → Made m h (f x)) (hsur : ∀ y, Made m h y → ∃ x, Made n g x ∧ f x = y) : OrderIs m h N := by
  obtain ⟨L, l1, l2, l3⟩ := a
  refine ⟨L.map f, nodup_map_on l1 fun x hx y hy => hinj x y ((l3 x).mp hx) ((l3 y).mp hy), by rw [List.length_map, l2], fun y => ⟨fun hy => ?_, fun hy => ?_⟩⟩
  · obtain ⟨x, hx, e⟩ := List.mem_map.mp hy
    rw [← e]
    exact him x ((l3 x).mp hx)
  · obtain ⟨x, hx, e⟩ := hsur y hy
    exact List.mem_map.mpr ⟨x, (l3 x).mpr hx, e⟩
def pairs (n : Nat) (L M : List (List Nat)) : List (List Nat) := (L.map fun x => M.map fun y => x ++ y.map (n + ·)).flatten
theorem pairs_len (n : Nat) : ∀ (L M : List (List Nat)), (pairs n L M).length = L.length * M.length
  | [], M => by simp [pairs]
  | x :: L, M => by
    have ih := pairs_len n L M
    unfold pairs at ih ⊢
    rw [List.map_cons, List.flatten_cons, List.length_append, ih, List.length_map, List.length_cons, Nat.succ_mul]
    omega
theorem mem_pairs {n : Nat} {L M : List (List Nat)} {z : List Nat} : z ∈ pairs n L M ↔ ∃ x ∈ L, ∃ y ∈ M, z = x ++ y.map (n + ·) := by
  unfold pairs
  rw [List.mem_flatten]
  constructor
  · rintro ⟨l, hl, hz⟩
    obtain ⟨x, hx, rfl⟩ := List.mem_map.mp hl
    obtain ⟨y, hy, rfl⟩ := List.mem_map.mp hz
    exact ⟨x, hx, y, hy, rfl⟩
  · rintro ⟨x, hx, y, hy, rfl⟩
    exact ⟨_, List.mem_map.mpr ⟨x, hx, rfl⟩, List.mem_map.mpr ⟨y, hy, rfl⟩⟩
theorem map_add_inj {n : Nat} {x y : List Nat} (e : x.map (n + ·) = y.map (n + ·)) : x = y := by
  refine List.map_inj_right (f := (n + ·)) (fun a b e => ?_) |>.mp e
  have e' : n + a = n + b := e
  omega
theorem pairs_nodup {n : Nat} : ∀ {L M : List (List Nat)}, L.Nodup → M.Nodup → (∀ x ∈ L, x.length = n) → (pairs n L M).Nodup
  | [], M, _, _, _ => by simp [pairs]
  | x :: L, M, hL, hM, hl => by
    have hL' := List.nodup_cons.mp hL
    have ih := pairs_nodup (n := n) hL'.2 hM fun y hy => hl y (List.mem_cons_of_mem _ hy)
    have e : pairs n (x :: L) M = (M.map fun y => x ++ y.map (n + ·)) ++ pairs n L M := by
      unfold pairs
      rw [List.map_cons, List.flatten_cons]
    rw [e]
    refine nodup_append_of (nodup_map_on hM fun y _ z _ e => map_add_inj (List.append_cancel_left e)) ih fun z hz hz2 => ?_
    obtain ⟨y, hy, e1⟩ := List.mem_map.mp hz
    obtain ⟨x2, hx2, y2, hy2, e2⟩ := mem_pairs.mp hz2
    have e3 : x ++ y.map (n + ·) = x2 ++ y2.map (n + ·) := e1.trans e2
    have e4 := (List.append_inj e3 ((hl x List.mem_cons_self).trans (hl x2 (List.mem_cons_of_mem _ hx2)).symm)).1
    exact hL'.1 (e4 ▸ hx2)
theorem lefts_app {n : Nat} {w v : List Nat} (h : WordOk n w) : lefts n (w ++ v.map (n + ·)) = w := by
  unfold lefts
  rw [List.filter_append]
  have e1 : w.filter (fun k => decide (k < n)) = w := List.filter_eq_self.mpr fun k hk => by simpa using h k hk
  have e2 : (v.map (n + ·)).filter (fun k => decide (k < n)) = [] := List.filter_eq_nil_iff.mpr fun k hk => by
    obtain ⟨j, _, e⟩ := List.mem_map.mp hk
    have e' : n + j = k := e
    simp
    omega
  rw [e1, e2, List.append_nil]
theorem rights_app {n : Nat} {w v : List Nat} (h : WordOk n w) : rights n (w ++ v.map (n + ·)) = v := by
  unfold rights
  rw [List.filter_append]
  have e1 : w.filter (fun k => decide (n ≤ k)) = [] := List.filter_eq_nil_iff.mpr fun k hk => by
    have := h k hk
    simp
    omega
  have e2 : (v.map (n + ·)).filter (fun k => decide (n ≤ k)) = v.map (n + ·) := List.filter_eq_self.mpr fun k hk => by
    obtain ⟨j, _, e⟩ := List.mem_map.mp hk
    have e' : n + j = k := e
    simp
    omega
  rw [e1, e2, List.nil_append, List.map_map]
  have : ((fun x => x - n) ∘ fun x => n + x) = id := by
    funext x
    show n + x - n = x
    omega
  rw [this, List.map_id]
theorem order_beside {n m : Nat} {a b : List (List Nat)} (A : IsHabit n a) (B : IsHabit m b) {N M : Nat} (ha : OrderIs n a N) (hb : OrderIs m b M) : OrderIs (n + m) (beside a b) (N * M) := by
  obtain ⟨L, l1, l2, l3⟩ := ha
  obtain ⟨L', k1, k2, k3⟩ := hb
  refine ⟨pairs n L L', pairs_nodup l1 k1 (fun x hx => ?_), by rw [pairs_len, l2, k2], fun z => ?_⟩
  · obtain ⟨w, hw, e⟩ := (l3 x).mp hx
    rw [← e]
    exact (after_perm A (perm_range n) hw).len
  · rw [mem_pairs]
    constructor
    · rintro ⟨x, hx, y, hy, rfl⟩
      obtain ⟨w, hw, e⟩ := (l3 x).mp hx
      obtain ⟨v, hv, e'⟩ := (k3 y).mp hy
      have ok : WordOk (n + m) (w ++ v.map (n + ·)) := fun k hk => by
        rcases List.mem_append.mp hk with h | h
        · have := hw k h
          omega
        · obtain ⟨j, hj, e⟩ := List.mem_map.mp h
          have := hv j hj
          have e' : n + j = k := e
          omega
      refine ⟨_, ok, ?_⟩
      rw [range_app, after_beside A B (perm_range n) (perm_range m) ok, lefts_app hw, rights_app hw, e, e']
    · rintro ⟨w, hw, rfl⟩
      refine ⟨_, (l3 _).mpr ⟨lefts n w, lefts_ok n w, rfl⟩, _, (k3 _).mpr ⟨rights n w, rights_ok hw, rfl⟩, ?_⟩
      rw [range_app, after_beside A B (perm_range n) (perm_range m) hw]
end Jn
end
section
set_option autoImplicit false
set_option linter.all false
namespace Jn
/-! ### one within another -/
def within (a b : List (List Nat)) : List (List Nat) :=
  ((List.range a.length).map fun p => (List.range b.length).map fun s =>
    ((List.range a.length).map fun t => (List.range b.length).map fun u => (row a p).getD t 0 * b.length + (if t = p then (row b s).getD u 0 else u)).flatten).flatten
theorem flat_len {α β : Type} {f : α → List β} {m : Nat} : ∀ {l : List α}, (∀ x ∈ l, (f x).length = m) → (l.map f).flatten.length = l.length * m
  | [], _ => by simp
  | x :: l, h => by
    have ih := flat_len (f := f) (m := m) (l := l) fun y hy => h y (List.mem_cons_of_mem _ hy)
    rw [List.map_cons, List.flatten_cons, List.length_append, ih, h x List.mem_cons_self, List.length_cons, Nat.succ_mul]
    omega
theorem flat_get {α β : Type} {f : α → List β} {m : Nat} : ∀ {l : List α} {i j : Nat} {x : α}, (∀ x ∈ l, (f x).length = m) → l[i]? = some x → j < m → (l.map f).flatten[i * m + j]? = (f x)[j]?
  | [], i, j, x, _, e, _ => by simp at e
  | y :: l, 0, j, x, h, e, hj => by
    have e' : y = x := by simpa using e
    subst e'
    rw [List.map_cons, List.flatten_cons, Nat.zero_mul, Nat.zero_add, List.getElem?_append_left (by rw [h y List.mem_cons_self]; exact hj)]
  | y :: l, i + 1, j, x, h, e, hj => by
    have ih := flat_get (f := f) (m := m) (l := l) (i := i) (j := j) (x := x) (fun z hz => h z (List.mem_cons_of_mem _ hz)) (by simpa using e) hj
    have hy := h y List.mem_cons_self
    rw [List.map_cons, List.flatten_cons, List.getElem?_append_right (by rw [hy, Nat.succ_mul]; omega), hy]
    have : (i + 1) * m + j - m = i * m + j := by rw [Nat.succ_mul]; omega
    rw [this, ih]
theorem range_get? {n i : Nat} (h : i < n) : (List.range n)[i]? = some i := by simp [h]
/-- the permutation of place s in house p -/
def wrow (a b : List (List Nat)) (p s : Nat) : List Nat :=
  ((List.range a.length).map fun t => (List.range b.length).map fun u => (row a p).getD t 0 * b.length + (if t = p then (row b s).getD u 0 else u)).flatten
theorem within_len (a b : List (List Nat)) : (within a b).length = a.length * b.length := by
  unfold within
  rw [flat_len (m := b.length) (fun x _ => by rw [List.length_map, List.length_range]), List.length_range]
theorem within_row {a b : List (List Nat)} {p s : Nat} (hp : p < a.length) (hs : s < b.length) : row (within a b) (p * b.length + s) = wrow a b p s := by
  refine row_of ?_
  unfold within
  rw [flat_get (m := b.length) (x := p) (fun x _ => by rw [List.length_map, List.length_range]) (range_get? hp) hs, List.getElem?_map, range_get? hs]
  rfl
theorem wrow_len (a b : List (List Nat)) (p s : Nat) : (wrow a b p s).length = a.length * b.length := by
  unfold wrow
  rw [flat_len (m := b.length) (fun x _ => by rw [List.length_map, List.length_range]), List.length_range]
theorem wrow_get {a b : List (List Nat)} {p s t u : Nat} (ht : t < a.length) (hu : u < b.length) :
    (wrow a b p s).getD (t * b.length + u) 0 = (row a p).getD t 0 * b.length + (if t = p then (row b s).getD u 0 else u) := by
  unfold wrow
  rw [List.getD_eq_getElem?_getD, flat_get (m := b.length) (x := t) (fun x _ => by rw [List.length_map, List.length_range]) (range_get? ht) hu, List.getElem?_map, range_get? hu]
  rfl
theorem house {n m i : Nat} (h : i < n * m) : i / m < n ∧ i % m < m ∧ i = i / m * m + i % m := by
  have hm : 0 < m := by
    rcases Nat.eq_zero_or_pos m with e | e
    · rw [e, Nat.mul_zero] at h
      omega
    · exact e
  refine ⟨Nat.div_lt_of_lt_mul (by rw [Nat.mul_comm]; exact h), Nat.mod_lt _ hm, ?_⟩
  have := Nat.div_add_mod i m
  rw [Nat.mul_comm] at this
  exact this.symm
theorem place_lt {n m t u : Nat} (ht : t < n) (hu : u < m) : t * m + u < n * m := by
  have : (t + 1) * m ≤ n * m := Nat.mul_le_mul_right m ht
  rw [Nat.succ_mul] at this
  omega
theorem place_inj {m t u t' u' : Nat} (hu : u < m) (hu' : u' < m) (e : t * m + u = t' * m + u') : t = t' ∧ u = u' := by
  have hm : 0 < m := by omega
  have e1 : (t * m + u) / m = t := by
    rw [Nat.mul_comm, Nat.mul_add_div hm, Nat.div_eq_of_lt hu, Nat.add_zero]
  have e2 : (t' * m + u') / m = t' := by
    rw [Nat.mul_comm, Nat.mul_add_div hm, Nat.div_eq_of_lt hu', Nat.add_zero]
  have : t = t' := by rw [← e1, ← e2, e]
  subst this
  exact ⟨rfl, by omega⟩
theorem within_habit {n m : Nat} {a b : List (List Nat)} (A : IsHabit n a) (B : IsHabit m b) (h5 : n * m ≤ 5) : IsHabit (n * m) (within a b) := by
  have h2 : 2 ≤ n * m := by
    have := Nat.mul_le_mul A.two B.two
    omega
  refine habit_of (by rw [within_len, A.len, B.len]) h2 h5 fun k hk => ?_
  obtain ⟨k1, k2, k3⟩ := house hk
  have e := within_row (a := a) (b := b) (p := k / m) (s := k % m) (by rw [A.len]; exact k1) (by rw [B.len]; exact k2)
  rw [B.len, ← k3] at e
  rw [e]
  have get : ∀ {t u : Nat}, t < n → u < m → (wrow a b (k / m) (k % m)).getD (t * m + u) 0 = (row a (k / m)).getD t 0 * m + (if t = k / m then (row b (k % m)).getD u 0 else u) := fun {t u} ht hu => by
    have := wrow_get (a := a) (b := b) (p := k / m) (s := k % m) (t := t) (u := u) (by rw [A.len]; exact ht) (by rw [B.len]; exact hu)
    rw [B.len] at this
    exact this
  have inn : ∀ {t u : Nat}, u < m → (if t = k / m then (row b (k % m)).getD u 0 else u) < m := fun {t u} hu => by
    split
    · exact (B.row k2).at_lt hu
    · exact hu
  refine perm_of_inj (by rw [wrow_len, A.len, B.len]) (fun i hi => ?_) fun i j hi hj e => ?_
  · obtain ⟨i1, i2, i3⟩ := house hi
    rw [i3, get i1 i2]
    exact place_lt ((A.row k1).at_lt i1) (inn i2)
  · obtain ⟨i1, i2, i3⟩ := house hi
    obtain ⟨j1, j2, j3⟩ := house hj
    rw [i3, j3, get i1 i2, get j1 j2] at e
    obtain ⟨e1, e2⟩ := place_inj (inn i2) (inn j2) e
    have ht := (A.row k1).inj i1 j1 e1
    rw [i3, j3, ht]
    rw [ht] at e2
    by_cases c : j / m = k / m
    · rw [if_pos c, if_pos c] at e2
      rw [(B.row k2).inj i2 j2 e2]
    · rw [if_neg c, if_neg c] at e2
      rw [e2]
/-- what a touch of place s in house p does with a book at x -/
theorem touch_within {n m : Nat} {a b : List (List Nat)} (A : IsHabit n a) (B : IsHabit m b) {l : List Nat} (hl : ∀ x ∈ l, x < n * m) {p s : Nat} (hp : p < n) (hs : s < m) :
    touch (within a b) l (p * m + s) = l.map fun x => (row a p).getD (x / m) 0 * m + (if x / m = p then (row b s).getD (x % m) 0 else x % m) := by
  unfold touch
  apply List.map_congr_left
  intro x hx
  obtain ⟨i1, i2, i3⟩ := house (hl x hx)
  have e := within_row (a := a) (b := b) (p := p) (s := s) (by rw [A.len]; exact hp) (by rw [B.len]; exact hs)
  rw [B.len] at e
  have g := wrow_get (a := a) (b := b) (p := p) (s := s) (t := x / m) (u := x % m) (by rw [A.len]; exact i1) (by rw [B.len]; exact i2)
  rw [B.len] at g
  rw [e]
  exact (congrArg (fun z => (wrow a b p s).getD z 0) i3).trans g

/-! ### undone, doubled -/
def inv (m : List Nat) : List Nat := (List.range m.length).map fun p => m.findIdx (· == p)
def backed (h : List (List Nat)) : List (List Nat) := h.map inv
def doubled (h : List (List Nat)) : List (List Nat) := h.map fun m => m.map fun c => m.getD c 0
theorem find_spec {m : List Nat} {p : Nat} (hp : p ∈ m) : m.findIdx (· == p) < m.length ∧ m.getD (m.findIdx (· == p)) 0 = p := by
  have hl : m.findIdx (· == p) < m.length := List.findIdx_lt_length_of_exists ⟨p, hp, by simp⟩
  refine ⟨hl, ?_⟩
  rw [List.getD_eq_getElem?_getD, List.getElem?_eq_getElem hl]
  have := List.findIdx_getElem (xs := m) (p := (· == p)) (w := hl)
  simpa using this
theorem inv_len (m : List Nat) : (inv m).length = m.length := by
  unfold inv
  rw [List.length_map, List.length_range]
theorem inv_get {n : Nat} {m : List Nat} (P : IsPerm n m) {p : Nat} (hp : p < n) : (inv m).getD p 0 < n ∧ m.getD ((inv m).getD p 0) 0 = p := by
  have e : (inv m).getD p 0 = m.findIdx (· == p) := by
    unfold inv
    rw [getD_map (by rw [List.length_range, P.len]; exact hp), getD_range (by rw [P.len]; exact hp)]
  obtain ⟨h1, h2⟩ := find_spec (P.mem hp)
  rw [e]
  exact ⟨by rw [← P.len]; exact h1, h2⟩
theorem inv_at {n : Nat} {m : List Nat} (P : IsPerm n m) {i : Nat} (hi : i < n) : (inv m).getD (m.getD i 0) 0 = i := by
  obtain ⟨h1, h2⟩ := inv_get P (P.at_lt hi)
  exact P.inj h1 hi h2
theorem inv_perm {n : Nat} {m : List Nat} (P : IsPerm n m) : IsPerm n (inv m) :=
  perm_of_inj ((inv_len m).trans P.len) (fun i hi => (inv_get P hi).1) fun i j hi hj e => by
    have h1 := (inv_get P hi).2
    have h2 := (inv_get P hj).2
    rw [e] at h1
    exact h1.symm.trans h2
theorem inv_inv {n : Nat} {m : List Nat} (P : IsPerm n m) : inv (inv m) = m := by
  have Q := inv_perm P
  refine ext_getD ((inv_len _).trans (inv_len _)) fun i hi => ?_
  have hi' : i < n := by rw [inv_len, inv_len, P.len] at hi; exact hi
  obtain ⟨h1, h2⟩ := inv_get Q hi'
  -- inv m at the place is i; so is it at m's i
  have h3 := inv_at P hi'
  exact Q.inj h1 (P.at_lt hi') (h2.trans h3.symm)
theorem backed_len (h : List (List Nat)) : (backed h).length = h.length := by
  unfold backed
  rw [List.length_map]
theorem backed_row {h : List (List Nat)} {k : Nat} (hk : k < h.length) : row (backed h) k = inv (row h k) := by
  refine row_of ?_
  unfold backed
  rw [List.getElem?_map, row_get? hk]
  rfl
theorem backed_habit {n : Nat} {h : List (List Nat)} (H : IsHabit n h) : IsHabit n (backed h) :=
  habit_of ((backed_len h).trans H.len) H.two H.five fun k hk => by
    rw [backed_row (by rw [H.len]; exact hk)]
    exact inv_perm (H.row hk)
theorem touch_backed {n : Nat} {h : List (List Nat)} (H : IsHabit n h) {l : List Nat} (P : IsPerm n l) {k : Nat} (hk : k < n) : touch (backed h) (touch h l k) k = l := by
  unfold touch
  rw [List.map_map, backed_row (by rw [H.len]; exact hk)]
  have : ∀ s ∈ l, ((fun s => (inv (row h k)).getD s 0) ∘ fun s => (row h k).getD s 0) s = s := fun s hs => inv_at (H.row hk) (P.lt s hs)
  rw [List.map_congr_left this]
  exact List.map_id' l
theorem backed_backed {n : Nat} {h : List (List Nat)} (H : IsHabit n h) : backed (backed h) = h := by
  refine ext_row (by rw [backed_len, backed_len]) fun k hk => ?_
  rw [backed_len, backed_len] at hk
  rw [backed_row (by rw [backed_len]; exact hk), backed_row hk]
  exact inv_inv (H.row (by rw [← H.len]; exact hk))
theorem doubled_len (h : List (List Nat)) : (doubled h).length = h.length := by
  unfold doubled
  rw [List.length_map]
theorem doubled_row {h : List (List Nat)} {k : Nat} (hk : k < h.length) : row (doubled h) k = (row h k).map fun c => (row h k).getD c 0 := by
  refine row_of ?_
  unfold doubled
  rw [List.getElem?_map, row_get? hk]
  rfl
theorem doubled_habit {n : Nat} {h : List (List Nat)} (H : IsHabit n h) : IsHabit n (doubled h) :=
  habit_of ((doubled_len h).trans H.len) H.two H.five fun k hk => by
    rw [doubled_row (by rw [H.len]; exact hk)]
    exact (H.row hk).comp (H.row hk)
theorem touch_doubled {n : Nat} {h : List (List Nat)} (H : IsHabit n h) {l : List Nat} (P : IsPerm n l) {k : Nat} (hk : k < n) : touch (doubled h) l k = touch h (touch h l k) k := by
  unfold touch
  rw [List.map_map, doubled_row (by rw [H.len]; exact hk)]
  apply List.map_congr_left
  intro s hs
  exact getD_map (by rw [(H.row hk).len]; exact P.lt s hs)

/-! ### called otherwise -/
/-- xs with the value v i laid at place o i, for each of the places, in order -/
def laid {α : Type} (o : List Nat) (v : Nat → α) (xs : List α) (i : Nat) : List α := (List.range i).foldl (fun r s => r.set (o.getD s 0) (v s)) xs
theorem laid_zero {α : Type} (o : List Nat) (v : Nat → α) (xs : List α) : laid o v xs 0 = xs := rfl
theorem laid_succ {α : Type} (o : List Nat) (v : Nat → α) (xs : List α) (i : Nat) : laid o v xs (i + 1) = (laid o v xs i).set (o.getD i 0) (v i) := by
  unfold laid
  rw [List.range_succ, List.foldl_append]
  rfl
theorem laid_len {α : Type} (o : List Nat) (v : Nat → α) (xs : List α) : ∀ i, (laid o v xs i).length = xs.length
  | 0 => rfl
  | i + 1 => by rw [laid_succ, List.length_set, laid_len o v xs i]
theorem laid_get {α : Type} {n : Nat} {o : List Nat} (P : IsPerm n o) (v : Nat → α) {xs : List α} (hx : xs.length = n) : ∀ {i : Nat}, i ≤ n → ∀ {s : Nat}, s < i → (laid o v xs i)[o.getD s 0]? = some (v s)
  | 0, _, s, hs => by omega
  | i + 1, hi, s, hs => by
    rw [laid_succ]
    by_cases c : s = i
    · subst c
      rw [List.getElem?_set_self (by rw [laid_len, hx]; exact P.at_lt (by omega))]
    · rw [List.getElem?_set_ne (fun e => c (P.inj (by omega) (by omega) e.symm))]
      exact laid_get P v hx (by omega) (by omega)
/-- one row: what stands at s and comes to m s, by the new names -/
def crow (o m : List Nat) : List Nat := laid o (fun s => o.getD (m.getD s 0) 0) (List.replicate o.length 0) o.length
theorem crow_len (o m : List Nat) : (crow o m).length = o.length := by
  unfold crow
  rw [laid_len, List.length_replicate]
theorem crow_get {n : Nat} {o m : List Nat} (P : IsPerm n o) {s : Nat} (hs : s < n) : (crow o m).getD (o.getD s 0) 0 = o.getD (m.getD s 0) 0 := by
  have := laid_get P (fun s => o.getD (m.getD s 0) 0) (xs := List.replicate o.length 0) (by rw [List.length_replicate, P.len]) (Nat.le_refl n) hs
  unfold crow
  rw [P.len] at this ⊢
  rw [List.getD_eq_getElem?_getD, this]
  rfl
def called (h : List (List Nat)) (o : List Nat) : List (List Nat) := laid o (fun k => crow o (row h k)) (List.replicate o.length []) o.length
theorem called_len (h : List (List Nat)) (o : List Nat) : (called h o).length = o.length := by
  unfold called
  rw [laid_len, List.length_replicate]
theorem called_row {n : Nat} {h : List (List Nat)} {o : List Nat} (P : IsPerm n o) {k : Nat} (hk : k < n) : row (called h o) (o.getD k 0) = crow o (row h k) := by
  refine row_of ?_
  have := laid_get P (fun k => crow o (row h k)) (xs := List.replicate o.length []) (by rw [List.length_replicate, P.len]) (Nat.le_refl n) hk
  unfold called
  rw [P.len] at this ⊢
  exact this
theorem crow_perm {n : Nat} {o m : List Nat} (P : IsPerm n o) (Q : IsPerm n m) : IsPerm n (crow o m) := by
  refine perm_of_inj ((crow_len o m).trans P.len) (fun i hi => ?_) fun i j hi hj e => ?_
  · obtain ⟨s, hs, e⟩ := P.surj hi
    rw [← e, crow_get P hs]
    exact P.at_lt (Q.at_lt hs)
  · obtain ⟨s, hs, e1⟩ := P.surj hi
    obtain ⟨t, ht, e2⟩ := P.surj hj
    rw [← e1, ← e2, crow_get P hs, crow_get P ht] at e
    have := Q.inj hs ht (P.inj (Q.at_lt hs) (Q.at_lt ht) e)
    rw [← e1, ← e2, this]
theorem called_habit {n : Nat} {h : List (List Nat)} {o : List Nat} (H : IsHabit n h) (P : IsPerm n o) : IsHabit n (called h o) :=
  habit_of ((called_len h o).trans P.len) H.two H.five fun k hk => by
    obtain ⟨s, hs, e⟩ := P.surj hk
    rw [← e, called_row P hs]
    exact crow_perm P (H.row hs)
/-- by the new names -/
def named (o l : List Nat) : List Nat := l.map fun s => o.getD s 0
theorem named_perm {n : Nat} {o l : List Nat} (P : IsPerm n o) (Q : IsPerm n l) : IsPerm n (named o l) := Q.comp P
theorem touch_called {n : Nat} {h : List (List Nat)} {o l : List Nat} (H : IsHabit n h) (P : IsPerm n o) (hl : ∀ x ∈ l, x < n) {k : Nat} (hk : k < n) : touch (called h o) (named o l) (o.getD k 0) = named o (touch h l k) := by
  unfold touch named
  rw [List.map_map, List.map_map, called_row P hk]
  apply List.map_congr_left
  intro s hs
  exact crow_get P (hl s hs)
theorem touch_lt {n : Nat} {h : List (List Nat)} (H : IsHabit n h) {l : List Nat} (hl : ∀ x ∈ l, x < n) {k : Nat} (hk : k < n) : ∀ x ∈ touch h l k, x < n := fun x hx => by
  obtain ⟨s, hs, e⟩ := List.mem_map.mp hx
  rw [← e]
  exact (H.row hk).at_lt (hl s hs)
theorem after_called {n : Nat} {h : List (List Nat)} {o : List Nat} (H : IsHabit n h) (P : IsPerm n o) : ∀ {w l : List Nat}, (∀ x ∈ l, x < n) → WordOk n w → after (called h o) (named o l) (named o w) = named o (after h l w)
  | [], l, _, _ => rfl
  | k :: w, l, hl, hw => by
    have hk := hw k List.mem_cons_self
    have e : named o (k :: w) = o.getD k 0 :: named o w := rfl
    rw [e, after_cons, touch_called H P hl hk, after_cons]
    exact after_called H P (touch_lt H hl hk) fun j hj => hw j (List.mem_cons_of_mem _ hj)
theorem named_ok {n : Nat} {o w : List Nat} (P : IsPerm n o) (hw : WordOk n w) : WordOk n (named o w) := fun k hk => by
  obtain ⟨j, hj, e⟩ := List.mem_map.mp hk
  rw [← e]
  exact P.at_lt (hw j hj)
/-- a layout's places, read as it were at each of them -/
theorem after_map (h : List (List Nat)) : ∀ (w l : List Nat) {n : Nat}, IsHabit n h → (∀ x ∈ l, x < n) → WordOk n w → after h l w = l.map fun s => (after h (List.range n) w).getD s 0
  | w, l, n, H, hl, hw => by
    have key : ∀ (w l r : List Nat), (∀ x ∈ l, x < n) → (∀ x ∈ r, x < n) → r.length = n → WordOk n w → after h (l.map fun s => r.getD s 0) w = l.map fun s => (after h r w).getD s 0 := by
      intro w
      induction w with
      | nil => intro l r _ _ _ _; rfl
      | cons k w ih =>
        intro l r hl hr hrl hw
        have hk := hw k List.mem_cons_self
        rw [after_cons, after_cons]
        have e : touch h (l.map fun s => r.getD s 0) k = l.map fun s => (touch h r k).getD s 0 := by
          show (l.map fun s => r.getD s 0).map (fun s => (row h k).getD s 0) = l.map fun s => (touch h r k).getD s 0
          rw [List.map_map]
          apply List.map_congr_left
          intro s hs
          exact (touch_get (h := h) (l := r) (k := k) (i := s) (by rw [hrl]; exact hl s hs)).symm
        rw [e]
        exact ih l (touch h r k) hl (touch_lt H hr hk) ((touch_len h r k).trans hrl) fun j hj => hw j (List.mem_cons_of_mem _ hj)
    have e := key w l (List.range n) hl (fun x hx => List.mem_range.mp hx) List.length_range hw
    have e2 : (l.map fun s => (List.range n).getD s 0) = l := by
      have : ∀ s ∈ l, (List.range n).getD s 0 = s := fun s hs => getD_range (hl s hs)
      rw [List.map_congr_left this]
      exact List.map_id' l
    rw [e2] at e
    exact e
theorem order_called {n : Nat} {h : List (List Nat)} {o : List Nat} (H : IsHabit n h) (P : IsPerm n o) {N : Nat} (a : OrderIs n h N) : OrderIs n (called h o) N := by
  have Q := inv_perm P
  have C := called_habit H P
  -- the old layout that the new names make the plain one
  have e0 : named o (inv o) = List.range n := by
    refine ext_getD (by unfold named; rw [List.length_map, inv_len, P.len, List.length_range]) fun i hi => ?_
    have hi' : i < n := by
      unfold named at hi
      rw [List.length_map, inv_len, P.len] at hi
      exact hi
    unfold named
    rw [getD_map (by rw [inv_len, P.len]; exact hi'), getD_range hi']
    exact (inv_get P hi').2
  have word : ∀ {w : List Nat}, WordOk n w → after (called h o) (List.range n) (named o w) = named o ((inv o).map fun s => (after h (List.range n) w).getD s 0) := fun {w} hw => by
    rw [← after_map h w (inv o) H Q.lt hw, ← after_called H P Q.lt hw, e0]
  refine a.bij (fun x => named o ((inv o).map fun s => x.getD s 0)) (fun x y hx hy e => ?_) (fun x hx => ?_) fun y hy => ?_
  · obtain ⟨w, hw, ex⟩ := hx
    obtain ⟨v, hv, ey⟩ := hy
    have px := after_perm H (perm_range n) hw
    have py := after_perm H (perm_range n) hv
    rw [ex] at px
    rw [ey] at py
    refine ext_getD (px.len.trans py.len.symm) fun i hi => ?_
    rw [px.len] at hi
    have hoi := P.at_lt hi
    have e1 := congrArg (fun z => z.getD (o.getD i 0) 0) e
    have lenI : (inv o).length = n := (inv_len o).trans P.len
    have get : ∀ z : List Nat, (named o ((inv o).map fun s => z.getD s 0)).getD (o.getD i 0) 0 = o.getD (z.getD i 0) 0 := fun z => by
      unfold named
      rw [getD_map (by rw [List.length_map, lenI]; exact hoi), getD_map (by rw [lenI]; exact hoi), inv_at P hi]
    have e2 : o.getD (x.getD i 0) 0 = o.getD (y.getD i 0) 0 := (get x).symm.trans (e1.trans (get y))
    exact P.inj (px.at_lt hi) (py.at_lt hi) e2
  · obtain ⟨w, hw, ex⟩ := hx
    exact ⟨named o w, named_ok P hw, by rw [word hw, ex]⟩
  · obtain ⟨w, hw, ey⟩ := hy
    have e3 : named o (named (inv o) w) = w := by
      unfold named
      rw [List.map_map]
      have : ∀ k ∈ w, ((fun s => o.getD s 0) ∘ fun s => (inv o).getD s 0) k = k := fun k hk => (inv_get P (hw k hk)).2
      rw [List.map_congr_left this]
      exact List.map_id' w
    have ok := named_ok Q hw
    exact ⟨after h (List.range n) (named (inv o) w), ⟨_, ok, rfl⟩, by rw [← word ok, e3, ey]⟩

/-! ### the search: what a walk over layers finds -/
/-- all lists of k places below n -/
def lists (n : Nat) : Nat → List (List Nat)
  | 0 => [[]]
  | k + 1 => ((List.range n).map fun x => (lists n k).map fun l => x :: l).flatten
theorem lists_len (n : Nat) : ∀ k, (lists n k).length = n ^ k
  | 0 => rfl
  | k + 1 => by
    unfold lists
    rw [flat_len (m := n ^ k) (fun x _ => by rw [List.length_map, lists_len n k]), List.length_range, Nat.pow_succ, Nat.mul_comm]
theorem mem_lists {n : Nat} : ∀ {k : Nat} {l : List Nat}, l.length = k → (∀ x ∈ l, x < n) → l ∈ lists n k
  | 0, l, hl, _ => by
    have : l = [] := List.length_eq_zero_iff.mp hl
    rw [this]
    exact List.mem_singleton.mpr rfl
  | k + 1, [], hl, _ => by simp at hl
  | k + 1, x :: l, hl, h => by
    unfold lists
    rw [List.mem_flatten]
    exact ⟨_, List.mem_map.mpr ⟨x, List.mem_range.mpr (h x List.mem_cons_self), rfl⟩, List.mem_map.mpr ⟨l, mem_lists (by simpa using hl) fun y hy => h y (List.mem_cons_of_mem _ hy), rfl⟩⟩
theorem found_few {n : Nat} {L : List (List Nat)} (h5 : n ≤ 5) (hn : L.Nodup) (h : ∀ x ∈ L, IsPerm n x) : L.length ≤ 3125 := by
  have h1 := length_le_of_subset (m := lists n n) hn fun x hx => mem_lists (h x hx).len (h x hx).lt
  rw [lists_len] at h1
  refine Nat.le_trans h1 ?_
  have : n ^ n ≤ 5 ^ 5 := Nat.le_trans (Nat.pow_le_pow_left h5 n) (Nat.pow_le_pow_right (by decide) h5)
  exact this
/-- closed under touches from the plain layout on: all that words make -/
theorem found_all {n : Nat} {h : List (List Nat)} {l0 : List Nat} {L : List (List Nat)} (h0 : l0 ∈ L) (hc : ∀ x ∈ L, ∀ k, k < n → touch h x k ∈ L) : ∀ {w : List Nat}, WordOk n w → after h l0 w ∈ L := by
  intro w
  have key : ∀ (w : List Nat) (l : List Nat), l ∈ L → WordOk n w → after h l w ∈ L := by
    intro w
    induction w with
    | nil => intro l hl _; exact hl
    | cons k w ih =>
      intro l hl hw
      rw [after_cons]
      exact ih _ (hc l hl k (hw k List.mem_cons_self)) fun j hj => hw j (List.mem_cons_of_mem _ hj)
  exact key w l0 h0
theorem Made.step {n : Nat} {h : List (List Nat)} {x : List Nat} (m : Made n h x) {k : Nat} (hk : k < n) : Made n h (touch h x k) := by
  obtain ⟨w, hw, e⟩ := m
  refine ⟨w ++ [k], fun j hj => ?_, by rw [after_append, e, after_one]⟩
  rcases List.mem_append.mp hj with q | q
  · exact hw j q
  · rw [List.mem_singleton.mp q]
    exact hk
theorem Made.perm {n : Nat} {h : List (List Nat)} (H : IsHabit n h) {x : List Nat} (m : Made n h x) : IsPerm n x := by
  obtain ⟨w, hw, e⟩ := m
  rw [← e]
  exact after_perm H (perm_range n) hw
end Jn
end
section
set_option Elab.async false
set_option linter.all false
set_option maxRecDepth 100000
set_option maxHeartbeats 4000000
namespace JX
open PySem PySem.Spec PyProof.Rows L2
/-! ### the text by places -/
def top (i : Nat) : Stmt := PySem.Challenge.pw_restlesshelf_k84_whole_joins.main.body.getD i (.Pass ⟨0, 0, 0, 0⟩)
abbrev sNum : Stmt := top 10
/-! ### is_number, called from anywhere -/
/-- what a call that knows nothing of its callers asks of the heap -/
structure Low (K : PySem.W.Frag) (mg : Str → Option Value) (h : Heap) : Prop where
  kin : K.In h
  lim : h.NoLimit
  glob : h.Ns mainGlobals mg
  blt : ∃ mb, h.Ns builtinsNs mb ∧ ∀ x : Str, x ≠ "__name__" → mb x = bootBuiltins x
theorem Low.keeps {K : PySem.W.Frag} {mg : Str → Option Value} {h h' : Heap} (L : Low K mg h) (k : ∀ b o, h.get? b = some o → h'.get? b = some o) : Low K mg h' :=
  ⟨L.kin.keeps k, L.lim.keeps k, L.glob.keeps k, let ⟨mb, h1, h2⟩ := L.blt; ⟨mb, h1.keeps k, h2⟩⟩
theorem keeps_heap {s s' : Shared} (k : Keeps s s') : ∀ b o, s.heap.get? b = some o → s'.heap.get? b = some o := by
  obtain ⟨h', tk, rfl, e⟩ := k
  exact e
theorem Keeps.trans' {s s1 s2 : Shared} (a : Keeps s s1) (b : Keeps s1 s2) : Keeps s s2 := by
  obtain ⟨h1, t1, rfl, e1⟩ := a
  obtain ⟨h2, t2, rfl, e2⟩ := b
  exact ⟨h2, t2, rfl, fun b o e => e2 b o (e1 b o e)⟩
section
variable {P : Program} {w : World} {K : PySem.W.Frag} {mg : Str → Option Value} {A : Around} {E : Value → Shared → Prop} {env : Env} {t : Shared}
/-- a name of the interpreter's, read in a function's frame -/
theorem low_blt {x : Str} {u : Value} {pos : Pos} {Q : Value → Shared → Prop} (L : Low K mg t.heap) (hk : env.scope.kind = .function) (hg : env.kindOf x = some .globalImplicit) (hG : env.globals = mainGlobals) (hB : env.builtins = builtinsNs)
    (hm : mg x = none) (hv : bootBuiltins x = some u) (h : Q u t) (hn : x ≠ "__name__" := by decide) (hd : (x == ("__debug__" : Str)) = false := by decide) : wpAny (model P w) A (eval (.Name x pos) env) Q E t := by
  obtain ⟨mb, h1, h2⟩ := L.blt
  exact Calls.Name_function_global hk hg (Calls.loadGlobal_builtin (by rw [hG]; exact L.glob) hm (by rw [hB]; exact h1) ((h2 x hn).trans hv) h) hd
theorem low_glob {x : Str} {u : Value} {pos : Pos} {Q : Value → Shared → Prop} (L : Low K mg t.heap) (hk : env.scope.kind = .function) (hg : env.kindOf x = some .globalImplicit) (hG : env.globals = mainGlobals)
    (hm : mg x = some u) (h : Q u t) (hd : (x == ("__debug__" : Str)) = false := by decide) : wpAny (model P w) A (eval (.Name x pos) env) Q E t :=
  Calls.Name_function_global hk hg (Calls.loadGlobal_global (by rw [hG]; exact L.glob) hm h) hd
/-- isinstance(x, T) of an int -/
theorem low_isi {x T' : Str} {T : String} {i : Int} {ti : Tok} {b : Bool} {p p1 p2 pos : Pos} {Q : Value → Shared → Prop} (L : Low K mg t.heap) (hk : env.scope.kind = .function) (hg : env.kindOf "isinstance" = some .globalImplicit) (hG : env.globals = mainGlobals) (hB : env.builtins = builtinsNs)
    (hm : mg "isinstance" = none) (he : ∀ (Q : Value → Shared → Prop) (s : Shared), Keeps t s → Q (.int i ti) s → wpAny (model P w) A (eval (.Name x p1) env) Q E s) (hgT : env.kindOf T' = some .globalImplicit) (hmT : mg T' = none) (hvT : bootBuiltins T' = some (.type T))
    (hb : PySem.W.kitOne K (.type "int") (.type T) = some b) (h : ∀ s, Keeps t s → Q (.bool b) s) (hn : T' ≠ "__name__" := by decide) (hd : (T' == ("__debug__" : Str)) = false := by decide) :
    wpAny (model P w) A (eval (.Call (.Name "isinstance" p) [.Name x p1, .Name T' p2] [] pos) env) Q E t := by
  refine wpAny_Call_Name_kw (low_blt (u := .builtin "isinstance") L hk hg hG hB hm (by decide +kernel) ?_)
  refine PyProof.Rows.callWith_builtin1 (PyProof.Rows.args_cons (he _ _ (GxR.keeps_refl t) (PyProof.Rows.args_cons (low_blt L hk hgT hG hB hmT hvT (PyProof.Rows.args_nil ?_) hn hd) rfl)) rfl) rfl rfl
  exact PySem.W.kia_one PySem.W.kitx_int L.kin True.intro hb (fun z => nomatch z) fun tk => h _ ⟨t.heap, tk, rfl, fun _ _ e => e⟩
theorem ldC {M : Model} {s : Shared} {name : Str} {scope : Scope} {L a : Addr} {cd : Value} {m : Str → Option Value} {x : Str} {pos : Pos} {v : Value} {Q : Value → Shared → Prop} {A : Around} {E : Value → Shared → Prop} (hn : s.heap.Ns L m) (hv : m x = some v) (h : Q v s)
    (hk : scope.kind = .function := by rfl) (hl : (envOfC name scope L a cd).kindOf x = some .local := by rfl) (hd : (x == ("__debug__" : Str)) = false := by decide) :
    wpAny M A (eval (.Name x pos) (envOfC name scope L a cd)) Q E s := wpAny_Name (wpAny_loadName_local hk hl hn hv h) hd
/-- is_number(i, lo, hi) of ints: one frame's room, nothing that stands is changed -/
theorem num_call {f : Addr} {fd : FuncData} (F : Fun K "is_number" "is_number" sNum f fd) (L : Low K mg t.heap) (mi : mg "isinstance" = none) (mI : mg "int" = none) (mB : mg "bool" = none) (hroom : A.depth < recursionLimit) (i lo hi : Int) (ti tl th : Tok) :
    codeAny (model P w) A (.call (.ref f) ⟨[.int i ti, .int lo tl, .int hi th], []⟩) (fun r s' => r = .ok (.ret (.bool (decide (lo ≤ i ∧ i ≤ hi)))) ∧ Keeps t s') t := by
  obtain ⟨oc, od, kV, doc, pm, an, cdv, ct, osl, rfl, lk, hcd⟩ := F.ex
  refine Att.call_fn (binds := [("value", .int i ti), ("low", .int lo tl), ("high", .int hi th)]) L.kin L.lim lk hcd hroom (BindsTo.of_eq (by first | rfl | with_unfolding_all rfl)) (by first | rfl | decide +kernel) (fun s₁ IC => ?_) rfl rfl rfl
  obtain ⟨h₁, tk₁, rfl⟩ := IC.toInCall.same
  have k : ∀ b o, t.heap.get? b = some o → h₁.get? b = some o := IC.toInCall.keep
  have hn := IC.toInCall.ns
  have K0 : Keeps t { t with heap := h₁, toks := tk₁ } := ⟨h₁, tk₁, rfl, k⟩
  have L₁ : Low K mg h₁ := L.keeps k
  have at_ : ∀ {s : Shared}, Keeps { t with heap := h₁, toks := tk₁ } s → Low K mg s.heap := fun k1 => L₁.keeps (keeps_heap k1)
  have ns_ : ∀ {s : Shared}, Keeps { t with heap := h₁, toks := tk₁ } s → s.heap.Ns t.heap.objs.size _ := fun k1 => hn.keeps (keeps_heap k1)
  refine wpAny_execs_cons (wpAny_Return_some (BoolOp_and ?_))
  refine low_isi (T := "int") (i := i) (ti := ti) (b := true) L₁ rfl rfl rfl rfl mi (fun Q s k1 q => ldC (v := .int i ti) (ns_ k1) (by first | rfl | with_unfolding_all rfl | kernel_rfl) q) rfl mI (by decide +kernel) (kit_ty (by decide +kernel)) fun s2 k2 => ?_
  refine wpAny_truthy_bool (ite_tt (BoolOp_and (UnaryOp_ ?_)))
  refine low_isi (T := "bool") (i := i) (ti := ti) (b := false) (at_ k2) rfl rfl rfl rfl mi (fun Q s k1 q => ldC (v := .int i ti) (ns_ (Keeps.trans' k2 k1)) (by first | rfl | with_unfolding_all rfl | kernel_rfl) q) rfl mB (by decide +kernel) (kit_ty (by decide +kernel)) fun s3 k3 => ?_
  have k3' := Keeps.trans' k2 k3
  refine not_of (wpAny_truthy_bool (wpAny_truthy_bool (ite_tt (BoolOp_one ?_))))
  refine Compare_chain (ldC (v := .int lo tl) (ns_ k3') (by first | rfl | with_unfolding_all rfl | kernel_rfl) (chain_link (ldC (v := .int i ti) (ns_ k3') (by first | rfl | with_unfolding_all rfl | kernel_rfl) (le_int (wpAny_truthy_bool ?_)))))
  have fin : Keeps t s3 := Keeps.trans' K0 k3'
  by_cases c : lo ≤ i
  · rw [decide_eq_true c]
    refine ite_tt (chain_last (ldC (v := .int hi th) (ns_ k3') (by first | rfl | with_unfolding_all rfl | kernel_rfl) (le_int ?_)))
    exact ⟨by rw [show decide (i ≤ hi) = decide (lo ≤ i ∧ i ≤ hi) from by simp [c]], fin⟩
  · rw [decide_eq_false c]
    exact ite_ff ⟨by rw [show decide (lo ≤ i ∧ i ≤ hi) = false from by simp [c]], fin⟩
end
end JX
end
section
set_option Elab.async false
set_option linter.all false
set_option maxRecDepth 100000
set_option maxHeartbeats 4000000
namespace JX
open PySem PySem.Spec PyProof.Rows L2 GxR
/-! ### all(test for x in a tuple of ints) -/
def trI (pb : Int → Bool) (l : List Int) (j : Nat) : Bool := match l[j]? with
  | some b => pb b
  | none => false
theorem trI_some {pb : Int → Bool} {l : List Int} {j : Nat} {b : Int} (h : l[j]? = some b) : trI pb l j = pb b := by
  unfold trI
  rw [h]
theorem all_trI (l : List Int) (pb : Int → Bool) : (List.range l.length).all (trI pb l) = l.all pb := by
  rw [Bool.eq_iff_iff, List.all_eq_true, List.all_eq_true]
  constructor
  · intro h b hb
    obtain ⟨j, hj, e⟩ := List.getElem_of_mem hb
    have q := h j (List.mem_range.mpr hj)
    rw [trI_some (List.getElem?_eq_getElem hj), e] at q
    exact q
  · intro h j hj
    have hj' := List.mem_range.mp hj
    rw [trI_some (List.getElem?_eq_getElem hj')]
    exact h _ (List.getElem_mem hj')
/-- the test of an int item, asked in the generator's own frame: what stood at s1 stands, but the table at P -/
def EltI (X : Cx) (scope : Scope) (cl : List (Str × Addr)) (x : Str) (elt : Expr) (P : Addr) (s1 : Shared) (pb : Int → Bool) : Prop :=
  ∀ (C : Addr) (code : Value) (A' : Around) (E' : Value → Shared → Prop) (i : Int) (ti : Tok) (s₂ : Shared) (m₂ : Str → Option Value), A'.handled = none → A'.depth ≤ X.A.depth + 1 → A'.units ≤ X.A.units + 8 → Low X.K X.mg s₂.heap →
    (∀ b o, b ≠ P → s1.heap.get? b = some o → s₂.heap.get? b = some o) → s₂.heap.Ns C m₂ → m₂ x = some (.int i ti) →
    wpAny (model X.prog X.w) A' (eval elt (genEnv scope cl C code builtinsNs X.env)) (fun y s₃ => y = .bool (pb i) ∧ Keeps s₂ s₃) E' s₂
section
variable {X : Cx} {pins : List (Addr × Obj)} {σ : L2.St} {H : Hp} {s : Shared}
def ReadyI (X : Cx) (pins : List (Addr × Obj)) (σ : L2.St) (H1 : Hp) (P : Addr) (ns : List Int) (pb : Int → Bool) (g : Addr) (s5 : Shared) : Prop :=
  ∃ (fp wr : List Addr) (G : Array GenState → Array GenState → Prop) (F : Nat → Value → Prop) (St : Nat → Shared → Prop),
    WalksS X.prog X.w X.A.in1 g fp wr G ns.length F St ∧ St 0 s5 ∧
    TruthOf X.prog X.w X.A.in1 F (trI pb ns) ∧
    ∀ s', Moved wr G s5 s' → ∃ H2, Tabbed P H1 H2 ∧ Inv X pins σ H2 s'
theorem low_of {h' : Heap} (I : Inv X pins σ H s) (k : ∀ b o, X.base.get? b = some o → h'.get? b = some o) : Low X.K X.mg h' :=
  ⟨I.ok.mod.kin.keeps k, I.ok.mod.nolimit.keeps k, I.ok.mod.glob.keeps k, let ⟨mb, h1, h2⟩ := I.ok.mod.blt; ⟨mb, h1.keeps k, h2⟩⟩
theorem gen_tup {c P : Addr} {elt iter : Expr} {x : Str} {px gpos : Pos} {scope : Scope} {te : TE} {k : Nat} {Q' : Value → Shared → Prop} {R : Addr → List Int → (Int → Bool) → Hp → Prop}
    (hr : Room k X.A) (TB : TabB X.base X.mg c P) (hcode : X.env.code = .ref c) (S : GenS X.env scope x) (hi : PE X iter te)
    (hs : ∀ v, genFold iter X.env v = pure v) (I : Inv X pins σ H s) (h : te σ H fun v H1 => ∃ (a : Addr) (ns : List Int) (pb : Int → Bool), v = .ref a ∧ SqT X.K H1 a (ns.map V.int) ∧ TabG H1 P ∧ R a ns pb H1)
    (hel : ∀ a ns pb H1 s1, R a ns pb H1 → Inv X pins σ H1 s1 → (∃ ps : Array Value, s1.heap.get? P = some { cls := .none, data := .fields ps }) → EltI X scope (cloFrom X.env.cells scope.names []) x elt P s1 pb)
    (hQ : ∀ a ns pb H1 g s5, R a ns pb H1 → ReadyI X pins σ H1 P ns pb g s5 → Q' (.ref g) s5) :
    wpAny (model X.prog X.w) X.A (eval (.GeneratorExp elt [⟨.Name x px, iter, [], 0⟩] scope gpos) X.env) Q' X.xe s := by
  refine wpAny_GeneratorExp_walksQD hr.hd S.co (closure_ok S.free) S.cell S.dot S.loc S.kind (by have := hr.dp; omega) ?_ hs
  refine thn (hi.run pins s σ H _ I h) fun xv s1 ⟨v, H1, I1, r1, q1⟩ => ?_
  obtain ⟨a, ns, pb, rfl, hq, ⟨ps, hP, ht⟩, q1⟩ := q1
  obtain rfl : xv = Value.ref a := r1
  obtain ⟨its, rv, hT, hz⟩ := I1.tuple hq
  have hia : IntsAre its ns := intsAre_of rv
  have hlen : its.toArray.size = ns.length := by rw [List.size_toArray, hia.length]
  refine wpAny_pyIter_tuple (show s1.heap.IsTuple a its.toArray from hT) ?_
  have hPs : s1.heap.get? P = some { cls := .none, data := .fields ps } := I1.hok P _ hP
  have el := hel a ns pb H1 s1 q1 I1 ⟨ps, hPs⟩
  generalize ho : ({ cls := .type "tuple_iterator", data := .fields #[.ref a, .int 0 0] } : Obj) = o
  have hPlt : P < s1.heap.objs.size := Heap.lt_size hPs
  have haP : a ≠ P := by
    obtain ⟨ob, e1, e2, _⟩ := hT
    intro z
    rw [z, hPs] at e1
    cases e1
    cases e2
  have halt : a < s1.heap.objs.size := let ⟨_, e1, _⟩ := hT; Heap.lt_size e1
  have hP2 : (s1.heap.push o).get? P = some { cls := .none, data := .fields ps } := Heap.get?_push_of_some _ hPs
  have cd : PySem.W.CodeHd (s1.heap.push o) c P := TB.code.keeps fun b u e => Heap.get?_push_of_some _ (I1.bk b u e)
  have lim2 : (s1.heap.push o).NoLimit := I1.nolimit.push o
  have cont : ∀ (code : Value) (h3 : Heap) (tk : Nat) (ps' : Array Value), Heap.ExtBut P (s1.heap.push o) h3 → (s1.heap.push o).objs.size ≤ h3.objs.size → h3.get? P = some { cls := .none, data := .fields ps' } → (∃ more, ps' = ps ++ more) → TriplesOk ps'.toList →
      wpAny (model X.prog X.w) X.A (builtinsFor X.env.globals X.env.builtins) (fun bi s₄ =>
        ∃ Ia fp wr n₀ Pf St₀ pz F, Value.ref s1.heap.objs.size = .ref Ia ∧ (∀ A' : Around, A'.handled = none → Walks X.prog X.w A' Ia fp wr n₀ Pf St₀) ∧ St₀ 0 s₄.heap ∧ (∀ b ∈ fp, b < s₄.heap.objs.size) ∧ s₄.heap.NoLimit ∧ cStatics ∉ wr ∧
          (∀ href : Heap, (∀ b o, s₄.heap.get? b = some o → href.get? b = some o) →
            QuietGenD X.prog X.w (genEnv scope (cloFrom X.env.cells scope.names []) s₄.heap.objs.size code bi X.env) x [] elt (List.range s₄.heap.objs.size) wr Pf pz F href (X.A.depth + 1) (X.A.units + 8)) ∧
          (∀ a h₅ tk gs, gs.bare = true → s₄.heap.objs.size < a → h₅.objs.size = a + 1 → (∀ b o, s₄.heap.get? b = some o → h₅.get? b = some o) →
            WalksS X.prog X.w X.A.in4 a (a :: s₄.heap.objs.size :: List.range s₄.heap.objs.size) (s₄.heap.objs.size :: wr) (GenOnlyQ s₄.gens.size) (passing pz n₀ 0).length
              (fun j y => ∃ i, (passing pz n₀ 0)[j]? = some i ∧ F i y) (GenAt X.prog X.w X.A.in4 a s₄.gens.size s₄.heap.objs.size (List.range s₄.heap.objs.size) wr pz n₀ F) →
            GenAt X.prog X.w X.A.in4 a s₄.gens.size s₄.heap.objs.size (List.range s₄.heap.objs.size) wr pz n₀ F 0 { s₄ with gens := s₄.gens.push gs, toks := tk, heap := h₅ } →
            Q' (.ref a) { s₄ with gens := s₄.gens.push gs, toks := tk, heap := h₅ })) X.xe { s1 with heap := h3, toks := tk } := by
    intro code h3 tk ps' hx hsz hP3 hmore ht3
    obtain ⟨bm, ob, e1, e2, e3, e4, e5, e6, e7, e8⟩ := TB.bm
    have hcP : cStatics ≠ P := fun e => by
      obtain ⟨_, hns, _⟩ := I1.nolimit
      obtain ⟨o', es, ep, ho, hd, _⟩ := hns
      rw [e, hPs] at ho
      cases ho
      cases hd
    have hcl : cStatics < s1.heap.objs.size := let ⟨_, hns, _⟩ := I1.nolimit; hns.lt
    have sz2 : (s1.heap.push o).objs.size = s1.heap.objs.size + 1 := Heap.size_push ..
    have keep3 : ∀ b u, b ≠ P → s1.heap.get? b = some u → h3.get? b = some u := fun b u hb e => hx b u hb (Heap.get?_push_of_some _ e)
    refine wpAny_builtinsFor (m := X.mg) (by rw [I1.ok.glob]; exact ((I1.mod.glob.keeps I1.bk).push o).extBut hx TB.gP) e1 e2 (keep3 _ _ e4 (I1.bk _ _ e5)) e6 e7 e8 ?_
    refine ⟨s1.heap.objs.size, [s1.heap.objs.size, a], [s1.heap.objs.size], its.toArray.size, (fun i v => its.toArray[i]? = some v), (fun i h => h.IsTupleIter s1.heap.objs.size a i ∧ h.IsTuple a its.toArray), (fun _ => true), (fun i y => ∃ cc, ns[i]? = some cc ∧ y = .bool (pb cc)), rfl,
      (fun A' hA' => Walks.tuple hA' s1.heap.objs.size a (Nat.ne_of_lt halt) its.toArray), ?_, ?_, lim2.extBut hx hcP, ?_, ?_, ?_⟩
    · obtain ⟨ob2, f1, f2, f3⟩ := hT
      refine ⟨⟨o, hx _ _ (Nat.ne_of_gt hPlt) (Heap.get?_push_size _ (by rw [← ho]; rfl)), by rw [← ho], by rw [← ho]; rfl⟩, ob2, keep3 a ob2 haP f1, f2, f3⟩
    · intro b hb
      show b < h3.objs.size
      rcases List.mem_cons.mp hb with z | z
      · rw [z]
        have h2 : s1.heap.objs.size + 1 ≤ h3.objs.size := by rw [← sz2]; exact hsz
        exact h2
      · rw [List.mem_singleton.mp z]
        have : (a : Nat) < s1.heap.objs.size := halt
        have h2 : s1.heap.objs.size + 1 ≤ h3.objs.size := by rw [← sz2]; exact hsz
        exact Nat.lt_of_lt_of_le (Nat.lt_succ_of_lt this) h2
    · intro z
      rcases List.mem_cons.mp z with z | z
      · exact Nat.ne_of_lt hcl z
      · cases z
    · intro href hhref
      refine ⟨fun A' E' i v s₂ m₂ hA hD hU hPv hn hm hk => ?_, fun A' E' i v s₂ m₂ hA hD hU hPv hp hn hm hk => ?_⟩
      · simp only [List.forIn_nil]
        exact wpAny_pure ⟨rfl, keeps_refl _⟩
      · have hi2 : its[i]? = some v := by simpa using hPv
        have hil : i < ns.length := by
          have := (List.getElem?_eq_some_iff.mp hi2).1
          rw [hia.length] at this
          exact this
        have hni : ns[i]? = some ns[i] := List.getElem?_eq_getElem hil
        have hvi : (ns.map V.int)[i]? = some (V.int ns[i]) := by rw [List.getElem?_map, hni]; rfl
        obtain ⟨u, hu, ru⟩ := rv.get hvi
        rw [hi2] at hu
        cases hu
        obtain ⟨ti, rfl⟩ := ru
        have kb : ∀ b u, b ≠ P → s1.heap.get? b = some u → s₂.heap.get? b = some u := fun b u hb e => by
          have hlt : b < s1.heap.objs.size := Heap.lt_size e
          refine hk b (List.mem_range.mpr ?_) (fun z => ?_) u (hhref b u (keep3 b u hb e))
          · show b < h3.objs.size
            have h2 : s1.heap.objs.size + 1 ≤ h3.objs.size := by rw [← sz2]; exact hsz
            exact Nat.lt_of_lt_of_le (Nat.lt_succ_of_lt hlt) h2
          · exact Nat.ne_of_lt hlt (List.mem_singleton.mp z)
        have hlow : Low X.K X.mg s₂.heap := low_of I1 fun b u e => by
          obtain ⟨f1, f2⟩ := I1.bs b u e
          exact kb b u (fun z => by rw [z, hP] at f2; cases f2) f1
        exact wpAny_mono (el _ code A' E' ns[i] ti s₂ m₂ hA hD hU hlow kb hn hm) (fun y s3 r => ⟨⟨_, hni, r.1⟩, r.2⟩) fun _ _ e => e
    · intro g h5 tk5 gs hgb hag hsz5 hk5 W5 hat
      simp only [GxR.passing_true, List.length_range] at W5
      rw [hlen] at W5
      refine hQ a ns pb H1 g _ q1 ⟨_, _, _, _, _, W5.in4_1, by rw [hlen] at hat; exact hat, ?_, fun s' hm => ?_⟩
      · intro j y sj Qj Ej hy hQj
        obtain ⟨i, hij, cc, hcc, rfl⟩ := hy
        obtain ⟨hj, ej⟩ := List.getElem?_eq_some_iff.mp hij
        rw [List.getElem_range] at ej
        subst ej
        have hQ2 : Qj (trI pb ns j) sj := hQj
        rw [trI_some hcc] at hQ2
        exact wpAny_truthy_bool hQ2
      · obtain ⟨more, em⟩ := hmore
        have nwr : ∀ b u, s1.heap.get? b = some u → b ∉ h3.objs.size :: [s1.heap.objs.size] := fun b u e hb => by
          have hl := Heap.lt_size e
          rcases List.mem_cons.mp hb with z | z
          · rw [z] at hl
            have h9 : (h3.objs.size : Nat) < s1.heap.objs.size := hl
            omega
          · rcases List.mem_cons.mp z with z | z
            · rw [z] at hl
              exact Nat.lt_irrefl _ hl
            · cases z
        have J := inv_tab (more := more) (h' := s'.heap) (g' := s'.gens) (d' := s'.drawn) (t' := s'.toks) I1 hP (fun b u hb e => hm.heap b u (nwr b u e) (hk5 b u (keep3 b u hb e)))
          (by rw [← em]; exact hm.heap P _ (nwr P _ hPs) (hk5 P _ hP3)) (AllBare.movedS (I1.bare.push hgb) hm)
        rw [sh_eta s1 s' hm.os] at J
        refine ⟨upd H1 P (.tbl (ps ++ more)), ⟨⟨ps ++ more, upd_same, by rw [← em]; exact ht3⟩, fun b hb => upd_ne hb⟩, J⟩
  refine ⟨lim2, ?_⟩
  cases hf : codeAmong gpos ps.toList with
  | none =>
    refine wpAny_genexprCodeX hcode (cd.code hP2 ht) (cd.tab hP2) hf fun c' h' tk hx hge hlt hco' _ htab' _ => ?_
    obtain ⟨o1, vs, f1, tf, fl, tg, inF, tx, tt, op, _, _, _, _, _, _, _, _, _, htr, _⟩ := hco'
    exact cont _ h' tk _ hx (Nat.le_trans hge (Nat.le_of_lt hlt)) htab'.2 ⟨_, rfl⟩ htr
  | some cv =>
    refine wpAny_genexprCode_hit hcode (cd.code hP2 ht) hf ?_
    exact cont cv (s1.heap.push o) s1.toks ps (Heap.ExtBut.refl _ _) (Nat.le_refl _) hP2 ⟨#[], by simp⟩ ht
/-- all(test for x in e), e a tuple of ints; RE tells the test -/
def tAllI (K : PySem.W.Frag) (P : Addr) (RE : L2.St → Hp → (Int → Bool) → Prop) (te : TE) : TE := fun σ H Q => te σ H fun v H1 => ∃ (a : Addr) (ns : List Int) (pb : Int → Bool), v = .ref a ∧ SqT K H1 a (ns.map V.int) ∧ TabG H1 P ∧ RE σ H1 pb ∧ ∀ H2, Tabbed P H1 H2 → Q (.bl (ns.all pb)) H2
theorem pe_allI {c P : Addr} {elt iter : Expr} {x : Str} {px p pos gpos : Pos} {scope : Scope} {RE : L2.St → Hp → (Int → Bool) → Prop} {te : TE} {k : Nat}
    (hr : Room k X.A) (hg : Gl X "all") (hm : X.mg "all" = none) (TB : TabB X.base X.mg c P) (hcode : X.env.code = .ref c) (S : GenS X.env scope x) (hi : PE X iter te)
    (hel : ∀ (pins : List (Addr × Obj)) (σ : L2.St) (pb : Int → Bool) (H1 : Hp) (s1 : Shared), RE σ H1 pb → Inv X pins σ H1 s1 → (∃ ps : Array Value, s1.heap.get? P = some { cls := .none, data := .fields ps }) → EltI X scope (cloFrom X.env.cells scope.names []) x elt P s1 pb)
    (hs : ∀ v, genFold iter X.env v = pure v)
    (he : starEach [.GeneratorExp elt [⟨.Name x px, iter, [], 0⟩] scope gpos] X.env = (false, eval (.GeneratorExp elt [⟨.Name x px, iter, [], 0⟩] scope gpos) X.env) :: starEach [] X.env := by rfl) :
    PE X (.Call (.Name "all" p) [.GeneratorExp elt [⟨.Name x px, iter, [], 0⟩] scope gpos] [] pos) (tAllI X.K P RE te) := by
  refine ⟨fun pins s σ H Q I h => ?_⟩
  refine wpAny_Call_Name_kw (ld_blt (u := .builtin "all") I hg hm (by decide +kernel) ?_)
  refine PyProof.Rows.callWith_builtin1 ?_ he (by rfl)
  rw [he]
  show wpAny _ _ (spliced ((false, eval (.GeneratorExp elt [⟨.Name x px, iter, [], 0⟩] scope gpos) X.env) :: backTo pos (starEach [] X.env))) _ _ s
  refine Calls.spliced_cons (gen_tup (R := fun a ns pb H1 => RE σ H1 pb ∧ ∀ H2, Tabbed P H1 H2 → Q (.bl (ns.all pb)) H2) hr TB hcode S hi hs I h (fun a ns pb H1 s1 hR I1 hp => hel pins σ pb H1 s1 hR.1 I1 hp) fun a ns pb H1 g s5 hR hG => ?_)
  obtain ⟨fp, wr, G, F, St, W, hst, htr, hI⟩ := hG
  refine Calls.spliced_nil ?_
  refine call_all_walkS (W.self 0 _ _ _ hst ⟨g, fp, wr, G, _, F, St, _, rfl, W, hst, htr, fun s' hmv => ?_⟩)
  obtain ⟨H2, hT, J⟩ := hI s' hmv
  refine ⟨.bl _, H2, J, rfl, ?_⟩
  rw [all_trI ns pb]
  exact hR.2 H2 hT
end
end JX
end
section
set_option Elab.async false
set_option linter.all false
set_option maxRecDepth 100000
set_option maxHeartbeats 4000000
namespace JX
open PySem PySem.Spec PyProof.Rows L2 GxR
/-! ### defs by their names -/
/-- the module's name x holds a def that keeps the promise sp -/
structure Callee (P : Program) (w : World) (K : PySem.W.Frag) (mg : Str → Option Value) (base : Heap) (CX : CXT) (k : Nat) (x : Str) (ps : List Str) (sp : Sp) : Prop where
  ex : ∃ (f : Addr) (fd : FuncData), FnOk P w K mg base CX k f fd ps sp ∧ mg x = some (.ref f) ∧ PySem.W.keepIn K (.ref f) = true ∧ Binds K fd ps []
section
variable {X : Cx} {CX : CXT} {k j : Nat} {x : Str} {ps : List Str} {sp : Sp} {E : XK} {t : TA} {e : Expr} {es : List Expr} {p pos : Pos}
theorem pe_fn (C : Callee X.prog X.w X.K X.mg X.base CX k x ps sp) (hr : Room j X.A) (hk : k ≤ j) (hg : Gl X x) (hx : Passes CX X E) (ha : PA X (e :: es) t) (hdb : (x == ("__debug__" : Str)) = false := by decide)
    (he : starEach (e :: es) X.env = (false, eval e X.env) :: starEach es X.env := by rfl) (hpl : (backTo pos (starEach es X.env)).any (·.1) = false := by rfl) :
    PE X (.Call (.Name x p) (e :: es) [] pos) (tCall sp [] E t) := by
  obtain ⟨f, fd, F, hm, hkp, hb⟩ := C.ex
  exact pe_call F (hr.mono hk) hg hm hkp hb .nil hx ha hdb he hpl
end
/-- a def of the text whose code object stands at c -/
structure FunT (K : PySem.W.Frag) (x qual : Str) (st : Stmt) (f : Addr) (fd : FuncData) (c : Addr) : Prop where
  ex : ∃ (oc : Value) (od : Option Addr) (kV doc pm : Value) (an : Option Addr) (ct : Value) (osl : Array (Option Value)),
    fd = PySem.W.fnOf x qual (defArgs st) (defBody st) (defScope st) .none kV doc pm an (.ref c) ct ∧ K.lookup f = some ⟨oc, od, .func fd, osl⟩ ∧ PySem.W.codeIn K (.ref c) qual = true
  kp : PySem.W.keepIn K (.ref f) = true
section
variable {P : Program} {w : World} {K : PySem.W.Frag} {mg : Str → Option Value} {base : Heap}
theorem FunT.ok {x qual : Str} {st : Stmt} {f c : Addr} {fd : FuncData} {N ps : List Str} {k : Nat} {sp : Sp} (F : FunT K x qual st f fd c) (S : FnScope N ps (defScope st)) (len : ∀ vs H Q E, sp vs H Q E → vs.length = ps.length)
    (hbody : ∀ (A : Around) (outer : List Env) (s : Shared) (H : Hp) (vs : List V) (Q : VK) (E : XK), Room k (A.deeper (envOfC qual (defScope st) s.heap.objs.size f (.ref c))) → sp vs H Q E →
      ∃ t, PSs (cxOf CX0 P w K mg base N qual (defScope st) f (.ref c) A outer s H E).nox (defBody st) t ∧ t { nx := fun _ H' => Q .non H', rt := Q } (start N vs) H) : FnOk P w K mg base CX0 (k + 1) f fd ps sp := by
  obtain ⟨oc, od, kV, doc, pm, an, ct, osl, rfl, lk, hcd⟩ := F.ex
  refine fn_of lk hcd S len fun A outer s H vs Q E hr hsp => ?_
  obtain ⟨t, h, q⟩ := hbody A outer s H vs Q E hr hsp
  exact ⟨t, h.nox, q⟩
theorem FunT.binds {x qual : Str} {st : Stmt} {f c : Addr} {fd : FuncData} {ps : List Str} (F : FunT K x qual st f fd c)
    (h : ∀ (kV doc pm : Value) (an : Option Addr) (cdv ct : Value) (us : List Value), us.length = ps.length → bindArgs (PySem.W.fnOf x qual (defArgs st) (defBody st) (defScope st) .none kV doc pm an cdv ct) ⟨us, []⟩ = pure (ps.zip us)) : Binds K fd ps [] := by
  obtain ⟨oc, od, kV, doc, pm, an, ct, osl, rfl, lk, hcd⟩ := F.ex
  exact .all (h kV doc pm an (.ref c) ct)
end

/-! ### the module's names that are the interpreter's own -/
structure Bl (mg : Str → Option Value) : Prop where
  isinstance : mg "isinstance" = none
  int : mg "int" = none
  bool : mg "bool" = none
  tuple : mg "tuple" = none
  len : mg "len" = none
  all : mg "all" = none
  set : mg "set" = none
  enumerate : mg "enumerate" = none
  range : mg "range" = none
  list : mg "list" = none
  str : mg "str" = none

/-! ### how the abstract heap grows: two tables, and what is new -/
/-- the two defs that hold a generator expression: their tables -/
structure Two where
  p : Addr
  a : Addr
def Tb (T : Two) (H : Hp) : Prop := TabG H T.p ∧ TabG H T.a
structure Ge (T : Two) (H H' : Hp) : Prop where
  t0 : Tb T H
  t1 : Tb T H'
  keep : ∀ b o, b ≠ T.p → b ≠ T.a → H b = some o → H' b = some o
section
variable {T : Two} {H H1 H2 : Hp} {K : PySem.W.Frag} {a b p : Addr} {xs : List V} {o : HO}
theorem TabG.ne {P : Addr} (t : TabG H P) (h : H b = some o) (n : ∀ ps, o ≠ .tbl ps) : b ≠ P := by
  obtain ⟨ps, hP, _⟩ := t
  intro z
  rw [z, hP] at h
  exact n ps (Option.some.inj h).symm
theorem Ge.refl (t : Tb T H) : Ge T H H := ⟨t, t, fun _ _ _ _ h => h⟩
theorem Ge.trans (a : Ge T H H1) (b : Ge T H1 H2) : Ge T H H2 := ⟨a.t0, b.t1, fun c o n1 n2 h => b.keep c o n1 n2 (a.keep c o n1 n2 h)⟩
theorem Ge.at (g : Ge T H H1) (h : H b = some o) (n : ∀ ps, o ≠ .tbl ps) : H1 b = some o := g.keep b o (TabG.ne g.t0.1 h n) (TabG.ne g.t0.2 h n) h
theorem Ge.lst (g : Ge T H H1) (h : H b = some (.lst xs)) : H1 b = some (.lst xs) := g.at h fun _ z => by cases z
theorem Ge.tup (g : Ge T H H1) (h : H b = some (.tup xs)) : H1 b = some (.tup xs) := g.at h fun _ z => by cases z
theorem Ge.sqT (g : Ge T H H1) (h : SqT K H a xs) : SqT K H1 a xs := by
  rcases h with (h | ⟨o, h⟩) | h
  · exact .inl (.inl (g.tup h))
  · exact .inl (.inr ⟨o, g.at h fun _ z => by cases z⟩)
  · exact .inr h
theorem Ge.sqL (g : Ge T H H1) (h : SqL K H a xs) : SqL K H1 a xs := by
  rcases h with (h | ⟨o, h⟩) | h
  · exact .inl (.inl (g.lst h))
  · exact .inl (.inr ⟨o, g.at h fun _ z => by cases z⟩)
  · exact .inr h
theorem TabG.upd {P : Addr} (t : TabG H P) (hp : H p = none) : TabG (upd H p o) P := by
  obtain ⟨ps, h1, h2⟩ := t
  exact ⟨ps, by rw [upd_ne (ne_of_none h1 hp)]; exact h1, h2⟩
/-- a new object -/
theorem Ge.new (t : Tb T H) (hp : H p = none) : Ge T H (upd H p o) := ⟨t, ⟨TabG.upd t.1 hp, TabG.upd t.2 hp⟩, fun b u _ _ h => by rw [upd_ne (ne_of_none h hp)]; exact h⟩
theorem Ge.newR (g : Ge T H H1) (hp : H1 p = none) : Ge T H (upd H1 p o) := g.trans (Ge.new g.t1 hp)
/-- free ahead, free before -/
theorem Ge.free (g : Ge T H H1) (h : H1 p = none) : H p = none := by
  cases q : H p with
  | none => rfl
  | some o =>
    by_cases e1 : p = T.p
    · obtain ⟨ps, h1, _⟩ := g.t1.1
      rw [e1, h1] at h
      cases h
    · by_cases e2 : p = T.a
      · obtain ⟨ps, h1, _⟩ := g.t1.2
        rw [e2, h1] at h
        cases h
      · rw [g.keep p o e1 e2 q] at h
        cases h
/-- a list that was free ahead is written -/
theorem Ge.wr (g : Ge T H H1) (h : H1 p = some (.lst xs)) (hp : H p = none) : Ge T H (upd H1 p o) := by
  have n : ∀ {P : Addr}, TabG H1 P → TabG (L2.upd H1 p o) P := fun t => by
    obtain ⟨ps, h1, h2⟩ := t
    exact ⟨ps, by rw [upd_ne (fun z => by rw [z, h] at h1; cases h1)]; exact h1, h2⟩
  exact ⟨g.t0, ⟨n g.t1.1, n g.t1.2⟩, fun b u n1 n2 q => by rw [upd_ne (ne_of_none q hp)]; exact g.keep b u n1 n2 q⟩
theorem Ge.tabP (t : Tb T H) (h : Tabbed T.p H H1) : Ge T H H1 := by
  refine ⟨t, ⟨h.1, ?_⟩, fun b o n1 _ q => by rw [h.2 b n1]; exact q⟩
  by_cases e : T.a = T.p
  · rw [e]
    exact h.1
  · obtain ⟨ps, h1, h2⟩ := t.2
    exact ⟨ps, by rw [h.2 _ e]; exact h1, h2⟩
theorem Ge.tabA (t : Tb T H) (h : Tabbed T.a H H1) : Ge T H H1 := by
  refine ⟨t, ⟨?_, h.1⟩, fun b o _ n1 q => by rw [h.2 b n1]; exact q⟩
  by_cases e : T.p = T.a
  · rw [e]
    exact h.1
  · obtain ⟨ps, h1, h2⟩ := t.1
    exact ⟨ps, by rw [h.2 _ e]; exact h1, h2⟩
end
theorem tabbed_refl {P : Addr} {H : Hp} (t : TabG H P) : Tabbed P H H := ⟨t, fun _ _ => rfl⟩

/-! ### rows of places, habits -/
/-- places as values -/
def pl (ns : List Nat) : List V := ns.map fun (n : Nat) => V.int (n : Int)
theorem pl_len (ns : List Nat) : (pl ns).length = ns.length := by unfold pl; rw [List.length_map]
theorem pl_get {ns : List Nat} {i : Nat} (h : i < ns.length) : (pl ns)[i]? = some (V.int ((ns.getD i 0 : Nat) : Int)) := by
  unfold pl
  rw [List.getElem?_map, Jn.getElem?_of_getD h]
  rfl
theorem pl_some {ns : List Nat} {i : Nat} {x : V} (h : (pl ns)[i]? = some x) : i < ns.length ∧ x = V.int ((ns.getD i 0 : Nat) : Int) := by
  have hl := (List.getElem?_eq_some_iff.mp h).1
  rw [pl_len] at hl
  rw [pl_get hl] at h
  exact ⟨hl, (Option.some.inj h).symm⟩
theorem pl_int (ns : List Nat) : pl ns = (ns.map fun (n : Nat) => (n : Int)).map V.int := by
  unfold pl
  rw [List.map_map]
  rfl
theorem pl_app (ns ms : List Nat) : pl (ns ++ ms) = pl ns ++ pl ms := by unfold pl; rw [List.map_append]
theorem pl_inj {ns ms : List Nat} (h : pl ns = pl ms) : ns = ms := by
  unfold pl at h
  refine List.map_inj_right (fun a b e => ?_) |>.mp h
  injection e with e
  exact Int.ofNat_inj.mp e
/-- a tuple of places -/
def TupN (K : PySem.W.Frag) (H : Hp) (a : Addr) (ns : List Nat) : Prop := SqT K H a (pl ns)
/-- a tuple of such tuples -/
def TupH (K : PySem.W.Frag) (H : Hp) (a : Addr) (hs : List (List Nat)) : Prop := ∃ as : List Addr, SqT K H a (as.map V.ref) ∧ as.length = hs.length ∧ ∀ (i : Nat) (p : Addr) (m : List Nat), as[i]? = some p → hs[i]? = some m → TupN K H p m
section
variable {T : Two} {H H1 : Hp} {K : PySem.W.Frag} {a : Addr}
theorem Ge.tupN {ns : List Nat} (g : Ge T H H1) (h : TupN K H a ns) : TupN K H1 a ns := g.sqT h
theorem Ge.tupH {hs : List (List Nat)} (g : Ge T H H1) (h : TupH K H a hs) : TupH K H1 a hs := by
  obtain ⟨as, h1, h2, h3⟩ := h
  exact ⟨as, g.sqT h1, h2, fun i p m e1 e2 => g.sqT (h3 i p m e1 e2)⟩
/-- a habit stands at a -/
def Hab (K : PySem.W.Frag) (H : Hp) (a : Addr) (n : Nat) (h : List (List Nat)) : Prop := TupH K H a h ∧ Jn.IsHabit n h
theorem Ge.hab {n : Nat} {h : List (List Nat)} (g : Ge T H H1) (x : Hab K H a n h) : Hab K H1 a n h := ⟨g.tupH x.1, x.2⟩
end
/-! ### len(set(t)), t a tuple of ints -/
def tLenSetT (K : PySem.W.Frag) (ta : TE) : TE := fun σ H Q => ta σ H fun x H1 => ∃ (l : Addr) (ns : List Int), x = .ref l ∧ SqT K H1 l (ns.map V.int) ∧ ns.length ≤ 1000 ∧ ∀ out : List Int, out.Nodup → (∀ k, k ∈ out ↔ k ∈ ns) → Q (.int (out.length : Nat)) H1
theorem pe_lenSetT {X : Cx} {a : Expr} {ta : TE} {p p2 q pos : Pos} (hg : Gl X "len") (hm : X.mg "len" = none) (hg2 : Gl X "set") (hm2 : X.mg "set" = none) (ha : PE X a ta) (hc : X.calm = true := by rfl)
    (na : starEach [a] X.env = (false, eval a X.env) :: starEach [] X.env := by rfl) : PE X (.Call (.Name "len" p) [.Call (.Name "set" p2) [a] [] q] [] pos) (tLenSetT X.K ta) := by
  refine ⟨fun pins s σ H Q I h => ?_⟩
  refine Call_ (ld_blt I hg hm boot_len ?_)
  refine PyProof.Rows.callWith_builtin1 (PyProof.Rows.args_cons ?_ rfl) rfl rfl
  refine Call_ (ld_blt I hg2 hm2 boot_set ?_)
  refine PyProof.Rows.callWith_type1 (PyProof.Rows.args_cons (thn (ha.run pins s σ H _ I h) fun v s1 ⟨x, H1, I1, r1, q1⟩ => PyProof.Rows.args_nil ?_) na) na rfl
  obtain ⟨l, ns, rfl, hq, hl, q1⟩ := q1
  cases r1
  obtain ⟨its, r, pt, hz⟩ := I1.tuple hq
  have hi : IntsAre its.toArray.toList ns := by simpa using intsAre_of r
  have hd := I1.ok.hd hc
  refine call_set_tupI ns hd (show s1.heap.IsTuple l its.toArray from pt) hi (by unfold scanBound; omega) fun h' tk c R1 hcn k => ?_
  obtain ⟨o, es, ep, t, ho, hex, hdt, g, nd, hm2, hb, hf, hn, hr, hl2⟩ := R1
  refine PyProof.Rows.args_nil ?_
  have I2 : Inv X pins σ H1 { s1 with heap := h', toks := tk } := I1.kept k
  have hlen : (es.toList.map keyOf).length = es.size := by rw [List.length_map, Array.length_toList]
  refine call_len_set ho hex hdt hf (by unfold scanBound at hb; omega) ⟨.int ((es.toList.map keyOf).length : Nat), H1, I2.tok _, ⟨_, by rw [hlen]⟩, q1 _ nd fun j => ?_⟩
  rw [← hm2 j, decide_eq_true_eq]
end JX
end
section
set_option Elab.async false
set_option linter.all false
set_option maxRecDepth 100000
set_option maxHeartbeats 4000000
namespace JX
open PySem PySem.Spec PyProof.Rows L2 GxR
/-! ### is_number(x, 0, ..) for x in .. -/
theorem elt_num {X : Cx} {scope : Scope} {cl : List (Str × Addr)} {x : Str} {HI : Expr} {p1 p2 p3 pos : Pos} {j : Nat} {P : Addr} {s1 : Shared} {f : Addr} {fd : FuncData} {hi : Int} (F : Fun X.K "is_number" "is_number" sNum f fd) (B : Bl X.mg) (hm : X.mg "is_number" = some (.ref f)) (hr : Room 1 X.A)
    (hk : scope.kind = .function) (hx : scope.names.lookup x = some .local) (hg : scope.names.lookup ("is_number" : Str) = some .globalImplicit) (hG : X.env.globals = mainGlobals)
    (hHI : ∀ (C : Addr) (code : Value) (A' : Around) (E' : Value → Shared → Prop) (s₂ : Shared) (m₂ : Str → Option Value) (Q : Value → Shared → Prop), Low X.K X.mg s₂.heap → (∀ b o, b ≠ P → s1.heap.get? b = some o → s₂.heap.get? b = some o) → s₂.heap.Ns C m₂ →
      (∀ s' th, Keeps s₂ s' → Q (.int hi th) s') → wpAny (model X.prog X.w) A' (eval HI (genEnv scope cl C code builtinsNs X.env)) Q E' s₂)
    (hd : (x == ("__debug__" : Str)) = false := by decide) (hst : ∀ env : Env, starEach [HI] env = (false, eval HI env) :: starEach [] env := by intro _; rfl) :
    EltI X scope cl x (.Call (.Name "is_number" p1) [.Name x p2, .Constant (.int 0) j p3, HI] [] pos) P s1 (fun i => decide (0 ≤ i ∧ i ≤ hi)) := by
  intro C code A' E' i ti s₂ m₂ hA hD hU hlow kb hn hmx
  refine wpAny_Call_Name_kw (low_glob hlow hk hg hG hm ?_)
  refine PySem.W.callWith_K (h₀ := s₂.heap) hlow.kin F.kp (PyProof.Rows.args_cons (wpAny_Name (wpAny_loadName_local hk hx hn hmx (PyProof.Rows.args_cons (wpAny_Constant_int (PyProof.Rows.args_cons ?_ (hst _))) rfl)) hd) rfl) rfl (by
    have e : starEach [.Constant (.int 0) j p3, HI] (genEnv scope cl C code builtinsNs X.env) = (false, eval (.Constant (.int 0) j p3) (genEnv scope cl C code builtinsNs X.env)) :: starEach [HI] (genEnv scope cl C code builtinsNs X.env) := rfl
    rw [e, hst]
    rfl)
  have k1 : Keeps s₂ { s₂ with toks := s₂.toks + 1 } := keeps_tok _ _
  refine hHI C code A' E' { s₂ with toks := s₂.toks + 1 } m₂ _ hlow kb hn fun s' th k2 => PyProof.Rows.args_nil ?_
  have k3 := Keeps.trans' k1 k2
  have L3 := hlow.keeps (keeps_heap k3)
  refine ⟨L3.kin, ?_⟩
  show wpAny _ _ (call (.ref f) [.int i ti, .int 0 _, .int hi th]) _ _ _
  refine wpAny_call (codeAny_mono (num_call F L3 B.isinstance B.int B.bool (by have := hr.dp; omega) i 0 hi ti _ th) fun r s4 h4 => ?_)
  obtain ⟨rfl, k4⟩ := h4
  exact ⟨rfl, Keeps.trans' k3 k4⟩
theorem gens_free {sc scope : Scope} {n : Nat} (h : (scope.names.all fun y => !decide (y.2 = .free) || decide (sc.names.lookup y.1 = some .cell)) = true) : ∀ y ∈ scope.names, y.2 = .free → ∃ c, (cellsFrom n sc.names []).lookup y.1 = some c := fun y hy e => by
  have := List.all_eq_true.mp h y hy
  simp only [e, decide_true, Bool.not_true, Bool.false_or, decide_eq_true_eq] at this
  exact cell_has this
/-- a captured name's value, in the generator's cells -/
theorem captured {X : Cx} {pins : List (Addr × Obj)} {σ : L2.St} {H : Hp} {s : Shared} {scope : Scope} {i : Nat} {y : Str} {v : V} {P : Addr} (I : Inv X pins σ H s) (hfree : ∀ y ∈ scope.names, y.2 = .free → ∃ c, X.env.cells.lookup y.1 = some c) (hy : (y, NameKind.free) ∈ scope.names) (hN : X.N[i]? = some y)
    (hk : X.env.scope.names.lookup y = some .cell) (hv : σ[i]? = some (some v)) (hp : ∃ ps : Array Value, s.heap.get? P = some { cls := .none, data := .fields ps }) :
    ∃ c u, (cloFrom X.env.cells scope.names []).lookup y = some c ∧ s.heap.IsCell c (some u) ∧ RelV v u ∧ c ≠ P := by
  obtain ⟨m, hn, hl⟩ := I.loc
  obtain ⟨u, r, l⟩ := hl i y v hN hv (.inr (.inl hk))
  rcases l with ⟨z, _⟩ | ⟨_, c, hc, z⟩
  · have z' : X.env.scope.names.lookup y = some .local := z
    rw [hk] at z'
    cases z'
  · refine ⟨c, u, NdefX.clo_has hfree hy hc, z, r, fun e => ?_⟩
    obtain ⟨o, ho, hd⟩ := z
    obtain ⟨ps, hp⟩ := hp
    rw [e, hp] at ho
    cases ho
    cases hd
theorem elt_cap {X : Cx} {pins : List (Addr × Obj)} {σ : L2.St} {H : Hp} {s : Shared} {scope : Scope} {i : Nat} {y x : Str} {v : V} {P : Addr} {elt : Expr} {pb : Int → Bool} (I : Inv X pins σ H s) (hfree : ∀ y ∈ scope.names, y.2 = .free → ∃ c, X.env.cells.lookup y.1 = some c) (hy : (y, NameKind.free) ∈ scope.names) (hN : X.N[i]? = some y)
    (hk : X.env.scope.names.lookup y = some .cell) (hv : σ[i]? = some (some v)) (hp : ∃ ps : Array Value, s.heap.get? P = some { cls := .none, data := .fields ps })
    (h : ∀ c u, (cloFrom X.env.cells scope.names []).lookup y = some c → s.heap.IsCell c (some u) → RelV v u → c ≠ P → EltI X scope (cloFrom X.env.cells scope.names []) x elt P s pb) : EltI X scope (cloFrom X.env.cells scope.names []) x elt P s pb := by
  obtain ⟨c, u, h1, h2, h3, h4⟩ := captured I hfree hy hN hk hv hp
  exact h c u h1 h2 h3 h4
/-! ### is_permutation -/
abbrev sPerm : Stmt := top 11
theorem scPerm : FnScope ["value", "many"] ["value", "many"] (defScope sPerm) := ⟨rfl, rfl, rfl, by decide +kernel, rfl, by decide +kernel, by decide +kernel⟩
/-- is a row of ints a permutation of m places? -/
def permB (ns : List Int) (m : Int) : Bool := decide ((ns.length : Int) = m) && ((ns.all fun i => decide (0 ≤ i ∧ i ≤ m - 1)) && decide ns.Nodup)
def spPerm (T : Two) (K : PySem.W.Frag) : Sp := fun vs H Q _ => ∃ (a : Addr) (ns : List Int) (m : Int), vs = [.ref a, .int m] ∧ SqT K H a (ns.map V.int) ∧ ns.length ≤ 1000 ∧ Tb T H ∧ ∀ H', Ge T H H' → Q (.bl (permB ns m)) H'
/-- a tuple's type -/
theorem ty_tup {K : PySem.W.Frag} {H : Hp} {a : Addr} {xs : List V} (h : SqT K H a xs) : TyX K H (.ref a) (.type "tuple") := by
  rcases h with (h | ⟨o, h⟩) | ⟨o, its, n, h1, h2, _⟩
  · exact .base (.tup h)
  · exact .fTuple h
  · exact .kTuple h1 h2
/-- as many different members as places: no place twice -/
theorem nodup_count {ns out : List Int} (h1 : out.Nodup) (h2 : ∀ k, k ∈ out ↔ k ∈ ns) : decide ((out.length : Int) = ns.length) = decide ns.Nodup := by
  rw [decide_eq_decide]
  constructor
  · intro e
    have e' : out.length = ns.length := by omega
    exact nodup_of_len h1 h2 e'
  · intro e
    have := Jn.length_eq_of_same h1 e h2
    omega
where
  nodup_of_len {ns out : List Int} (h1 : out.Nodup) (h2 : ∀ k, k ∈ out ↔ k ∈ ns) (e : out.length = ns.length) : ns.Nodup := by
    -- a list with a place twice has fewer members
    by_cases hn : ns.Nodup
    · exact hn
    · exfalso
      have key : ∀ l : List Int, ¬ l.Nodup → ∃ m : List Int, m.length < l.length ∧ ∀ k, k ∈ l → k ∈ m := by
        intro l
        induction l with
        | nil => intro h; exact (h List.nodup_nil).elim
        | cons a l ih =>
          intro h
          by_cases ha : a ∈ l
          · exact ⟨l, Nat.lt_succ_self _, fun k hk => by
              rcases List.mem_cons.mp hk with z | z
              · rw [z]; exact ha
              · exact z⟩
          · have hl : ¬ l.Nodup := fun z => h (List.nodup_cons.mpr ⟨ha, z⟩)
            obtain ⟨m, h1, h2⟩ := ih hl
            exact ⟨a :: m, Nat.succ_lt_succ h1, fun k hk => by
              rcases List.mem_cons.mp hk with z | z
              · rw [z]; exact List.mem_cons_self
              · exact List.mem_cons_of_mem _ (h2 k z)⟩
      obtain ⟨m, m1, m2⟩ := key ns hn
      have := Jn.length_le_of_subset (m := m) h1 fun k hk => m2 k ((h2 k).mp hk)
      omega
section
variable {P : Program} {w : World} {K : PySem.W.Frag} {mg : Str → Option Value} {base : Heap} {T : Two}
def reP : L2.St → Hp → (Int → Bool) → Prop := fun σ H pb => ∃ m : Int, σ[1]? = some (some (.int m)) ∧ pb = fun i => decide (0 ≤ i ∧ i ≤ m - 1)
theorem ok_perm {f c fN : Addr} {fd fdN : FuncData} (F : FunT K "is_permutation" "is_permutation" sPerm f fd c) (TB : TabB base mg c T.p) (B : Bl mg) (FN : Fun K "is_number" "is_number" sNum fN fdN) (mN : mg "is_number" = some (.ref fN)) :
    FnOk P w K mg base CX0 2 f fd ["value", "many"] (spPerm T K) := by
  refine F.ok scPerm (fun vs H Q E h => ?_) (fun A outer s H vs Q E hr h => ?_)
  · obtain ⟨a, ns, m, rfl, _⟩ := h
    rfl
  · obtain ⟨a, ns, m, rfl, hT, hl, hb, q⟩ := h
    refine ⟨_, pss_cons (ps_if (PW.pt (pw_or (pt_not (pt_val (pe_callB call_isi (by rfl) B.isinstance (by decide +kernel) (pa_cons (pv 0) (pa_cons (pe_bltn (v := .ty "tuple") (by rfl) B.tuple (by decide +kernel) rfl) pa_nil)))))
        (pw_or1 (pt_cmpR op_ne (pe_callB call_len_seq (by rfl) B.len PySem.boot_len (pa_cons (pv 0) pa_nil)) (pv 1) (nomark _))))) (pss_one (ps_ret pe_bl)) pss_nil)
      (pss_one (ps_ret (pe_and (pe_allI (RE := reP) hr (by rfl) B.all TB rfl ⟨rfl, rfl, by decide +kernel, by decide +kernel, by decide +kernel, ?_⟩ (pv 0) ?_ (fun _ => rfl))
        (pe_one (pe_cmpR op_eq (pe_lenSetT (by rfl) B.len (by rfl) B.set (pv 0)) (pv 1) (nomark _)))))), ?_⟩
    · exact gens_free (sc := defScope sPerm) (by decide +kernel)
    · rintro pins σ pb H1 s1 ⟨m, hm, rfl⟩ I1 hp
      refine elt_cap (i := 1) (y := "many") I1 (gens_free (sc := defScope sPerm) (by decide +kernel)) (by decide +kernel) rfl rfl hm hp fun c0 u hc0 hcell ru hne => ?_
      obtain ⟨tm, rfl⟩ := ru
      refine elt_num FN B mN (hr.mono (by decide)) rfl rfl rfl rfl fun C code A' E' s₂ m₂ Q hlow kb hn k => ?_
      have hc2 : s₂.heap.IsCell c0 (some (.int m tm)) := by
        obtain ⟨o, ho, hd⟩ := hcell
        exact ⟨o, kb c0 o hne ho, hd⟩
      exact wpAny_BinOp (wpAny_Name (wpAny_loadName_free rfl rfl hc0 hc2 (wpAny_Constant_int (sub_int (k _ _ ⟨s₂.heap, _, rfl, fun _ _ e => e⟩)))) (by decide))
    · refine ⟨_, rfl, _, _, _, _, true, rfl, .ty "tuple", ty_tup hT, kit_ty (by decide +kernel), true, rfl, ?_⟩
      refine iteF ⟨_, rfl, a, _, rfl, .inr hT, _, rfl, rfl, _, rfl, ?_⟩
      rw [List.length_map]
      by_cases e : (ns.length : Int) = m
      · have e1 : decide (V.int (ns.length : Int) = V.int m) = true := by rw [e]; exact decide_eq_true rfl
        rw [e1]
        refine iteF ⟨_, rfl, a, ns, _, rfl, hT, hb.1, ⟨m, rfl, rfl⟩, fun H2 hH2 => ?_⟩
        have g : Ge T H H2 := Ge.tabP hb hH2
        refine ⟨_, rfl, ?_⟩
        by_cases c2 : (ns.all fun i => decide (0 ≤ i ∧ i ≤ m - 1)) = true
        · rw [c2]
          refine iteT ⟨_, rfl, a, ns, rfl, g.sqT hT, hl, fun out h1 h2 => ⟨_, rfl, rfl, ?_⟩⟩
          have q2 := q H2 g
          have e3 : decide (V.int (out.length : Int) = V.int m) = decide ns.Nodup := by
            rw [← nodup_count h1 h2, e, decide_eq_decide]
            exact ⟨fun z => by injection z, fun z => by rw [z]⟩
          unfold permB at q2
          rw [decide_eq_true e, c2, Bool.true_and, Bool.true_and] at q2
          rw [e3]
          exact q2
        · have c3 : (ns.all fun i => decide (0 ≤ i ∧ i ≤ m - 1)) = false := by simpa using c2
          rw [c3]
          have q2 := q H2 g
          unfold permB at q2
          rw [c3, Bool.false_and, Bool.and_false] at q2
          exact iteF q2
      · have e1 : decide (V.int (ns.length : Int) = V.int m) = false := decide_eq_false fun z => e (by injection z)
        rw [e1]
        have q2 := q H (Ge.refl hb)
        unfold permB at q2
        rw [decide_eq_false e, Bool.false_and] at q2
        exact iteT q2
end
end JX
end
section
set_option Elab.async false
set_option linter.all false
set_option maxRecDepth 100000
set_option maxHeartbeats 4000000
namespace JX
open PySem PySem.Spec PyProof.Rows L2
/-! ### the package's errors -/
/-- __init__(self, f): self.f = f, of an exception at a -/
def spInit (C : Addr) (f : Str) : Sp := fun vs H Q _ => ∃ (a : Addr) (v : V), vs = [.ref a, v] ∧ H a = some (exo a C none) ∧ ∀ dx, H dx = none → dx ≠ a → Q .non (upd (upd H dx (exd dx [(f, v)])) a (exo a C (some dx)))
/-- the class of the name x, at C, its own __init__ keeping one field f -/
structure Oex (P : Program) (w : World) (K : PySem.W.Frag) (mg : Str → Option Value) (base : Heap) (x f : Str) (C : Addr) : Prop where
  T : OexC K C
  gC : mg x = some (.ref C)
  ini : ∃ (fI : Addr) (fd : FuncData), PySem.W.findIn K (.ref C) "__init__" = some (some (.ref fI)) ∧ PySem.W.typeIn K (.ref fI) = some (.type "function") ∧ FnOk P w K mg base CX0 1 fI fd ["self", f] (spInit C f) ∧ Binds K fd ["self", f] []
abbrev sIniH : Stmt := inClass (top 2) 0
abbrev sIniM : Stmt := inClass (top 5) 0
theorem scIniH : FnScope ["self", "place"] ["self", "place"] (defScope sIniH) := ⟨rfl, rfl, rfl, by decide +kernel, rfl, by decide +kernel, by decide +kernel⟩
theorem scIniM : FnScope ["self", "most"] ["self", "most"] (defScope sIniM) := ⟨rfl, rfl, rfl, by decide +kernel, rfl, by decide +kernel, by decide +kernel⟩
section
variable {P : Program} {w : World} {K : PySem.W.Frag} {mg : Str → Option Value} {base : Heap}
theorem ok_iniH {C f : Addr} {fd : FuncData} (F : Fun K "__init__" "BadHabit.__init__" sIniH f fd) (T : OexC K C) (no : PySem.W.findIn K (.ref C) "place" = some none) : FnOk P w K mg base CX0 1 f fd ["self", "place"] (spInit C "place") := by
  refine F.ok scIniH (fun vs H Q E h => ?_) (fun cdv A outer s H vs Q E hr h => ?_)
  · obtain ⟨a, v, rfl, _⟩ := h
    rfl
  · obtain ⟨a, v, rfl, ha, q⟩ := h
    exact ⟨_, pss_one (ps_ost (pv 0) (pv 1)), _, rfl, _, rfl, a, C, rfl, T, no, .inl ⟨ha, q⟩⟩
theorem ok_iniM {C f : Addr} {fd : FuncData} (F : Fun K "__init__" "TooMany.__init__" sIniM f fd) (T : OexC K C) (no : PySem.W.findIn K (.ref C) "most" = some none) : FnOk P w K mg base CX0 1 f fd ["self", "most"] (spInit C "most") := by
  refine F.ok scIniM (fun vs H Q E h => ?_) (fun cdv A outer s H vs Q E hr h => ?_)
  · obtain ⟨a, v, rfl, _⟩ := h
    rfl
  · obtain ⟨a, v, rfl, ha, q⟩ := h
    exact ⟨_, pss_one (ps_ost (pv 0) (pv 1)), _, rfl, _, rfl, a, C, rfl, T, no, .inl ⟨ha, q⟩⟩
end
/-- any wish that the reading's own wish brings -/
def tMn (t : TE) : TE := fun σ H Q => ∃ Q0 : VK, t σ H Q0 ∧ ∀ x H1, Q0 x H1 → Q x H1
theorem pe_mn {X : Cx} {e : Expr} {t : TE} (h : PE X e t) : PE X e (tMn t) := by
  refine ⟨fun pins s σ H Q I hw => ?_⟩
  obtain ⟨Q0, h0, k⟩ := hw
  exact thn (h.run pins s σ H Q0 I h0) fun v s1 ⟨x, H1, I1, r1, q1⟩ => ⟨x, H1, I1, r1, k x H1 q1⟩
/-- x(e): a new error that keeps f = e; its own dict is new, all else as it was -/
def tMkI (C : Addr) (f : Str) (te : TE) : L2.St → Hp → XK → Prop := fun σ H Q => te σ H fun v H1 => ∀ d, H1 d = none → Q (.ref C) (some d) (upd H1 d (.xd [(f, v)]))
theorem pmk_init {X : Cx} {x f : Str} {C : Addr} {e : Expr} {te : TE} {p pos : Pos} {k : Nat} (O : Oex X.prog X.w X.K X.mg X.base x f C) (hr : Room (k + 2) X.A) (hg : Gl X x) (he : PE X e te) (hdb : (x == ("__debug__" : Str)) = false := by decide)
    (hs : starEach [e] X.env = (false, eval e X.env) :: starEach [] X.env := by rfl) : PMk X (.Call (.Name x p) [e] [] pos) (tMkI C f te) := by
  obtain ⟨fI, fd, h1, h2, h3, h4⟩ := O.ini
  have R := pmk_oex (p := p) (pos := pos) O.T h1 h2 h3 (hr.mono (by omega)) h4 .nil pass0 hg O.gC (pa_cons (pe_mn he) pa_nil hs) hdb hs rfl
  intro pins s σ H Q I h
  refine R pins s σ H Q I ⟨_, h, fun v H1 q => ⟨by show 1 ≤ 1000; decide, fun a ha => ⟨a, v, rfl, upd_same, fun dx hdx hne => ⟨rfl, dx, [(f, v)], upd_same, ?_, ?_, ?_⟩⟩⟩⟩
  · rw [upd_ne hne, upd_same]
  · rw [upd_ne hne] at hdx
    exact hdx
  · rw [upd_ne hne] at hdx
    have e0 : upd (del (upd (upd (upd H1 a (exo a C none)) dx (exd dx [(f, v)])) a (exo a C (some dx))) a) dx (.xd [(f, v)]) = upd H1 dx (.xd [(f, v)]) := by
      funext b
      by_cases hb : b = dx
      · rw [hb, upd_same, upd_same]
      · rw [upd_ne hb, upd_ne hb]
        by_cases hb2 : b = a
        · rw [hb2, del_same, ha]
        · rw [del_ne hb2, upd_ne hb2, upd_ne hb, upd_ne hb2]
    rw [e0]
    exact q dx hdx
/-- x(), x an own class of error without an own __init__ -/
theorem pmk_own0 {X : Cx} {C : Addr} {bmB : List Value} {B newId initId : String} {x : Str} {p pos : Pos} (F : ExcBaseFacts B newId initId bmB) (q : PySem.W.excIn X.K C bmB newId = true) (gC : X.mg x = some (.ref C))
    (kC : PySem.W.keepIn X.K (.ref C) = true) (r : Raises X (.ref C)) (hg : Gl X x) (hdb : (x == ("__debug__" : Str)) = false := by decide) :
    PMk X (.Call (.Name x p) [] [] pos) (fun σ H Q => Q (.ref C) none H) := by
  intro pins s σ H Q I h
  refine wpAny_Call_Name_kw (ld_glob I hg gC ?_ hdb)
  refine PySem.W.callWith_K0 I.kIn kC ?_
  show wpAny _ _ (call (.ref C) []) _ _ _
  obtain ⟨bm, N, nm, qn, bs, hdct, sn, sub, ab, col, dd, k0, k1, k2, k3, k5, mN, hC, hN, hni, T⟩ := exc_obj I.kIn q
  refine wpAny_call_exc_subT F T hC hN hni (fun h' e hm => ?_) (by show 0 ≤ sizeLine; exact Nat.zero_le _)
  exact mk_of I hm r h (I.hok.gone hm.new)
end JX
end
section
set_option Elab.async false
set_option linter.all false
set_option maxRecDepth 100000
set_option maxHeartbeats 4000000
namespace PySem
open Sem (wp)
open AutoSeq1 (wpAny_loadPart')
theorem meets_enumerate_newTup (l : Addr) (items : Array Value) (n : Nat) (dct : Option Addr) (sl : Array (Option Value)) :
    Meets (Builtin.«enumerate.__new__» ⟨[.type "enumerate", .ref l], []⟩) (fun _ R s => s.heap.get? l = some { cls := .type "tuple", dict := dct, data := .seq items n, slots := sl } ∧
      R (.ok (.ret (.ref (s.heap.push { cls := .type "tuple_iterator", data := .fields #[.ref l, .int 0 0] }).objs.size)))
        { s with heap := (s.heap.push { cls := .type "tuple_iterator", data := .fields #[.ref l, .int 0 0] }).push { cls := .type "enumerate", data := .fields #[.none, .bool false, .ref s.heap.objs.size, rawInt 0, .none, .none] } }) :=
  .of_wp fun prog w A R s h => by
    obtain ⟨hp, g, d, tk, os⟩ := s; obtain ⟨hl, h⟩ := h
    have hsub := sub_enumerate
    have hL : Heap.IsTuple (Shared.heap ⟨hp, g, d, tk, os⟩) l items := ⟨_, hl, rfl, n, rfl⟩
    wp_walk using wpAny_loadPart' hl
    refine wpAny_stack_any fun st => wpAny_pure ?_
    split
    · rename_i c _ _ _ _ _
      cases (c == Value.type "enumerate")
      · wp_walk using wpAny_loadPart' hl, wpAny_pyIter_tuple hL
        exact ⟨_, rfl, h⟩
      · wp_walk using wpAny_loadPart' hl, wpAny_pyIter_tuple hL
        exact ⟨_, rfl, h⟩
    · wp_walk using wpAny_loadPart' hl, wpAny_pyIter_tuple hL
      exact ⟨_, rfl, h⟩
theorem call_enumerate_tup {prog : Program} {w : World} {A : Around} {E : Value → Shared → Prop} {s : Shared} {l : Addr} {items : Array Value} {Q : Value → Shared → Prop} (hL : s.heap.IsTuple l items)
    (h : ∀ h', IsEnum h' (s.heap.objs.size + 1) s.heap.objs.size 0 .none → h'.IsTupleIter s.heap.objs.size l 0 → h'.objs.size = s.heap.objs.size + 2 →
      (∀ b o, s.heap.get? b = some o → h'.get? b = some o) → Q (.ref (s.heap.objs.size + 1)) { s with heap := h' }) :
    wpAny (model prog w) A (call (.type "enumerate") [.ref l]) Q E s := by
  obtain ⟨⟨c, dct, dt, sl⟩, hl, hc, n, hd⟩ := hL
  replace hc : c = .type "tuple" := hc
  replace hd : dt = .seq items n := hd
  subst hc hd
  refine callType_new F.called_enumerate (by decide) (F.typeCall_enumerate_1 _) (F.newCall_enumerate_1 _) (fun obj => F.args_object_init_2 obj _) F.entry_enumerate_new
    (meets_enumerate_newTup l items n dct sl) ⟨hl, ?_⟩
  have hz : (s.heap.push { cls := .type "tuple_iterator", data := .fields #[.ref l, .int 0 0] }).objs.size = s.heap.objs.size + 1 := Heap.size_push ..
  show _ ∧ _
  rw [hz]
  have he : IsEnum ((s.heap.push { cls := .type "tuple_iterator", data := .fields #[.ref l, .int 0 0] }).push
      { cls := .type "enumerate", data := .fields #[.none, .bool false, .ref s.heap.objs.size, rawInt 0, .none, .none] }) (s.heap.objs.size + 1) s.heap.objs.size 0 .none := by
    have := Heap.get?_push_size (s.heap.push { cls := .type "tuple_iterator", data := .fields #[.ref l, .int 0 0] })
      (o := { cls := .type "enumerate", data := .fields #[.none, .bool false, .ref s.heap.objs.size, rawInt 0, .none, .none] }) rfl
    rw [hz] at this; exact this
  refine ⟨⟨_, he, rfl⟩, h _ he ⟨_, Heap.get?_push_of_some _ (Heap.get?_push_size _ rfl), rfl, rfl⟩ (by rw [Heap.size_push, hz]) fun b o x => Heap.get?_push_of_some _ (Heap.get?_push_of_some _ x)⟩
theorem enum_endT {prog : Program} {w : World} {A : Around} {E : Value → Shared → Prop} {s : Shared} {e it l : Addr} {i : Nat} {items : Array Value} {old : Value} {Q : Option Value → Shared → Prop} (hh : A.handled = none)
    (he : IsEnum s.heap e it i old) (hit : s.heap.IsTupleIter it l i) (hl : s.heap.IsTuple l items) (hx : items[i]? = none)
    (hQ : ∀ h', Heap.ExtBut it s.heap h' → Q none { s with heap := h' }) : wpAny (model prog w) A (pyNext (.ref e)) Q E s := by
  have hT : s.TypeIs (.ref e) "enumerate" := ⟨_, he, rfl⟩
  unfold pyNext
  refine wpAny_bind (wpAny_attempt (wpAny_callSpecial?_slot (name := Str.ofString "__next__") hT F.slot_enumerate_next
    (wpAny_call_entry F.slot_enumerate_next hT F.entry_enumerate_next ?_ (F.args_enumerate_next_1 _))))
  show wpAny _ _ (field (.ref e) 2 >>= _) _ _ _
  refine wpAny_bind (wpAny_field he rfl (x := .ref it) rfl ?_)
  refine wpAny_bind (wpAny_nextOf_tuple_end hh hit hl hx fun h' x he' hx' => ?_)
  obtain ⟨o, ho, hc⟩ := hx'
  refine wpAny_bind (wpAny_isInstance (T := "StopIteration") (b := true) ⟨o, ho, hc⟩ isSubtype_stop ?_)
  exact wpAny_pure (hQ _ he')
end PySem
namespace JX
open PySem PySem.Spec PyProof.Rows L2
/-! ### enumerate(tuple) -/
/-- the tuple at a, each item in a new pair -/
def ItE (K : PySem.W.Frag) (a : Addr) : It :=
  ⟨fun i H => ∃ (xs : List V) (x : V), SqT K H a xs ∧ xs[i]? = some x, fun i H v H' => ∃ T x, v = .ref T ∧ H T = none ∧ H' = upd H T (.tup [.int (i : Nat), x]) ∧ ∀ xs, SqT K H a xs → xs[i]? = some x, fun i H => ∃ xs : List V, SqT K H a xs ∧ xs.length ≤ i⟩
theorem turn_enumT {P : Program} {w : World} {K : PySem.W.Frag} {elts : List Expr} {kk : Nat} {tpos : Pos} (a e it : Addr) :
    Turn P w K (.Tuple elts kk tpos) (ItE K a) [e, it] e (fun i h => (∃ old, IsEnum h e it ((i : Nat) : Int) old) ∧ h.IsTupleIter it a i ∧ e ≠ it) where
  mem := by simp
  obj := fun i h st b hb => by
    obtain ⟨⟨old, he⟩, ⟨o, ho, hc, hd⟩, _⟩ := st
    have e' : b = e ∨ b = it := by simpa using hb
    rcases e' with z | z
    · rw [z]; exact ⟨_, he, fun v q => nomatch q⟩
    · rw [z]; exact ⟨o, ho, fun v q => by rw [hd] at q; cases q⟩
  keep := fun i h h' st k => let ⟨⟨old, he⟩, hi, hne⟩ := st; ⟨⟨old, k e (by simp) _ he⟩, hi.at fun o q => k it (by simp) o q, hne⟩
  item := by
    intro X hP hw hK hc i pins s σ H E I hf st hg
    subst hP hw hK
    obtain ⟨⟨old, he⟩, hit, hne⟩ := st
    obtain ⟨xs, x, hq, hx⟩ := hg
    obtain ⟨its, rv, p, hz⟩ := I.tuple hq
    obtain ⟨u, hu, ru⟩ := rv.get hx
    have hel : e < s.heap.objs.size := Heap.lt_size he
    have hil : it < s.heap.objs.size := by obtain ⟨_, q, _⟩ := hit; exact Heap.lt_size q
    have hai : a ≠ it := fun z => by
      obtain ⟨o1, q1, c1, _⟩ := hit
      obtain ⟨o2, q2, c2, _⟩ := p
      rw [z, q1] at q2
      cases q2
      have c3 := c1.symm.trans c2
      injection c3 with c3
      exact absurd c3 (by decide)
    have hea : e ≠ a := fun z => by
      obtain ⟨o2, q2, c2, _⟩ := p
      rw [← z, he] at q2
      cases q2
      injection c2 with c3
      exact absurd c3 (by decide)
    have hil2 : i < its.toArray.size := by
      rw [List.size_toArray]
      exact (List.getElem?_eq_some_iff.mp hu).1
    refine wpAny_pyNext_enum_itemD (Draws.tuple (A := X.A.in1) (I.ok.hd hc) it a hai its.toArray) he ⟨hit, p⟩ hil2 hne (by simp [hne, hea]) fun y h' tk hy ho hit' hT hsz hk => ?_
    have ey : y = u := by
      have hy2 : its[i]? = some y := by simpa using hy
      rw [hu] at hy2
      exact (Option.some.inj hy2).symm
    subst ey
    refine ⟨_, rfl, wpAny_letOwnedTupleGo_enum (s := { s with heap := h', toks := tk + 1 }) ho fun h'' he' sb => ?_⟩
    have hT2 : h''.get? s.heap.objs.size = some { cls := .type "tuple", data := .seq #[.int i tk, y] } := (sb.2 _ (Nat.ne_of_gt hel)).trans hT
    have new : ObjOk X.prog X.w (upd H s.heap.objs.size (.tup [.int (i : Nat), x])) h'' s.heap.objs.size (.tup [.int (i : Nat), x]) :=
      ⟨by show 2 ≤ sizeLine; decide, [.int i tk, y], .cons ⟨_, rfl⟩ (.cons ru .nil), ⟨_, hT2, rfl, _, rfl⟩⟩
    have I1 : Inv X pins σ (upd H s.heap.objs.size (.tup [.int (i : Nat), x])) { s with heap := h'', toks := tk + 1 } :=
      I.turnedNew (ch := [e, it]) (fun b ob hb q => (sb.2 b (fun z => hb (by simp [z]))).trans (hk b ob (fun z => hb (by simp [z])) (fun z => hb (by simp [z])) q)) hf (Nat.le_refl _) new
    refine ⟨.ref s.heap.objs.size, _, I1, rfl, ⟨_, x, rfl, I.hok.fresh (Nat.le_refl _), rfl, fun ys hy => by rw [I.tuple_inj hy hq]; exact hx⟩, ⟨⟨y, ?_⟩, hit'.1.at fun o q => (sb.2 it (Ne.symm hne)).trans q, hne⟩, fun b hb => ?_⟩
    · have e1 : ((i + 1 : Nat) : Int) = (i : Int) + 1 := by omega
      rw [e1]; exact he'
    · have hb' : b < s.heap.objs.size := by
        have e' : b = e ∨ b = it := by simpa using hb
        rcases e' with z | z
        · rw [z]; exact hel
        · rw [z]; exact hil
      rw [upd_ne (Nat.ne_of_lt hb')]
      exact (hf b hb).1
  done := by
    intro X hP hw hK hc i pins s σ H E I hf st hg
    subst hP hw hK
    obtain ⟨⟨old, he⟩, hit, hne⟩ := st
    obtain ⟨xs, hq, hx⟩ := hg
    obtain ⟨its, rv, p, hz⟩ := I.tuple hq
    obtain ⟨f0, f1, f2, f3, f4, f5⟩ := hf it (by simp)
    have hl := rv.length
    exact enum_endT (I.ok.hd hc) he hit p (by simp; omega) fun h' eb => ⟨rfl, I.turned (t' := s.toks) (fun b o hb q => eb b o hb q) f0 f1 f3 f4 f5⟩
  self := fun A i s Q E st h => let ⟨⟨_, he⟩, _⟩ := st; wpAny_pyIter_enum he h
def iEnumT (K : PySem.W.Frag) (ta : TA) : TI := fun σ H R => ta σ H fun vs H1 => ∃ a xs, vs = [.ref a] ∧ SqT K H1 a xs ∧ R (ItE K a) H1
theorem pi_enumT {X : Cx} {e : Expr} {ta : TA} {p pos tpos : Pos} {elts : List Expr} {kk : Nat} (hg : Gl X "enumerate") (hm : X.mg "enumerate" = none) (ha : PA X [e] ta) (hs : starEach [e] X.env = [(false, eval e X.env)] := by rfl) :
    PI X (.Tuple elts kk tpos) (.Call (.Name "enumerate" p) [e] [] pos) (iEnumT X.K ta) := by
  refine ⟨fun pins s σ H R I h => ?_⟩
  refine Call_ (ld_blt I hg hm boot_enumerate (PyProof.Rows.callWith_type1 (thn (ha.run pos pins s σ H _ I h) fun us s1 ⟨vs, H1, I1, r1, q1⟩ => ?_) hs rfl))
  obtain ⟨a, xs, ex, hq, q⟩ := q1
  subst ex
  cases r1 with
  | cons r rr =>
    cases rr
    cases r
    obtain ⟨its, rv, p', hz⟩ := I1.tuple hq
    refine call_enumerate_tup p' fun h' he hit hsz hk => wpAny_pyIter_enum he ?_
    have I2 : Inv X pins σ H1 { s1 with heap := h' } := I1.kept (t' := s1.toks) hk
    refine ⟨s1.heap.objs.size + 1, [s1.heap.objs.size + 1, s1.heap.objs.size], _, _, H1, rfl, I2, turn_enumT a (s1.heap.objs.size + 1) s1.heap.objs.size, ⟨⟨.none, he⟩, hit, Nat.succ_ne_self _⟩, fun b hb => ?_, q⟩
    have e' : b = s1.heap.objs.size + 1 ∨ b = s1.heap.objs.size := by simpa using hb
    have hle : s1.heap.objs.size ≤ b := by
      rcases e' with z | z
      · rw [z]; exact Nat.le_add_right _ _
      · rw [z]; exact Nat.le_refl _
    exact I1.fpOk hle (I1.hok.fresh hle)
/-- for i, x in enumerate(t): each turn a new pair -/
theorem for_enumT {K : PySem.W.Frag} {a : Addr} {xs : List V} {g : TG} {tb : TS} {D : Ends} {σ : L2.St} {H : Hp} (Pv : Nat → L2.St → Hp → Prop) (h0 : Pv 0 σ H) (hl : ∀ i σ H, i ≤ xs.length → Pv i σ H → SqT K H a xs)
    (hs : ∀ i x σ H p, xs[i]? = some x → Pv i σ H → H p = none → g (.ref p) σ (upd H p (.tup [.int (i : Nat), x])) fun σ2 H2 => tb { D with nx := Pv (i + 1), ct := Pv (i + 1), bk := D.nx } σ2 H2) (hd : ∀ σ H, Pv xs.length σ H → D.nx σ H) :
    ∃ W : Nat → Nat → L2.St → Hp → Prop, (∃ m, W 0 m σ H) ∧ ∀ i m σ H, W i m σ H →
      ((ItE K a).stop i H ∧ D.nx σ H) ∨ ((ItE K a).go i H ∧ ∃ N : L2.St → Hp → Prop, (∀ σ' H', N σ' H' → ∃ m', m' < m ∧ W (i + 1) m' σ' H') ∧ ∀ x H', (ItE K a).yld i H x H' → g x σ H' fun σ2 H2 => tb { D with nx := N, ct := N, bk := D.nx } σ2 H2) := by
  refine ⟨fun i m σ H => m = xs.length - i ∧ i ≤ xs.length ∧ Pv i σ H, ⟨xs.length, by simp, Nat.zero_le _, h0⟩, ?_⟩
  rintro i m σ H ⟨rfl, hi, p⟩
  have q := hl i σ H hi p
  by_cases hlt : i < xs.length
  · refine .inr ⟨⟨xs, xs[i], q, by simp [hlt]⟩, Pv (i + 1), fun σ' H' p' => ⟨xs.length - (i + 1), by omega, rfl, hlt, p'⟩, fun x H' y => ?_⟩
    obtain ⟨T, x0, e, hT, e2, y⟩ := y
    subst e
    subst e2
    exact hs i x0 σ H T (y xs q) p hT
  · have e : i = xs.length := by omega
    subst e
    exact .inl ⟨⟨xs, q, Nat.le_refl _⟩, hd σ H p⟩
end JX
end
section
set_option Elab.async false
set_option linter.all false
set_option maxRecDepth 100000
set_option maxHeartbeats 4000000
namespace JX
open PySem PySem.Spec PyProof.Rows L2
/-! ### need_habit, need_layout, need_shelf -/
/-- a tuple of tuples of ints -/
def RowsZ (K : PySem.W.Frag) (H : Hp) (a : Addr) (nss : List (List Int)) : Prop := ∃ as : List Addr, SqT K H a (as.map V.ref) ∧ as.length = nss.length ∧ ∀ (i : Nat) (p : Addr) (m : List Int), as[i]? = some p → nss[i]? = some m → SqT K H p (m.map V.int)
/-- a row of places as ints -/
def zs (ns : List Nat) : List Int := ns.map fun (n : Nat) => (n : Int)
theorem zs_len (ns : List Nat) : (zs ns).length = ns.length := by unfold zs; rw [List.length_map]
theorem pl_zs (ns : List Nat) : pl ns = (zs ns).map V.int := pl_int ns
theorem RowsZ.of {K : PySem.W.Frag} {H : Hp} {a : Addr} {hs : List (List Nat)} (h : TupH K H a hs) : RowsZ K H a (hs.map zs) := by
  obtain ⟨as, h1, h2, h3⟩ := h
  refine ⟨as, h1, by rw [List.length_map, h2], fun i p m e1 e2 => ?_⟩
  rw [List.getElem?_map] at e2
  cases e : hs[i]? with
  | none => rw [e] at e2; cases e2
  | some m0 =>
    rw [e] at e2
    have e3 : zs m0 = m := Option.some.inj e2
    rw [← e3, ← pl_zs]
    exact h3 i p m0 e1 e
theorem zs_nodup {ns : List Nat} : (zs ns).Nodup ↔ ns.Nodup := by
  unfold zs
  constructor
  · intro h
    rw [List.nodup_iff_pairwise_ne, List.pairwise_map] at h
    rw [List.nodup_iff_pairwise_ne]
    exact h.imp fun q e => q (by rw [e])
  · intro h
    exact Jn.nodup_map_on h fun x _ y _ e => Int.ofNat_inj.mp e
theorem permB_zs {ns : List Nat} {n : Nat} : permB (zs ns) (n : Int) = true ↔ Jn.IsPerm n ns := by
  unfold permB
  rw [Bool.and_eq_true, Bool.and_eq_true, decide_eq_true_eq, decide_eq_true_eq, List.all_eq_true, zs_len, zs_nodup]
  constructor
  · rintro ⟨h1, h2, h3⟩
    refine ⟨by omega, fun x hx => ?_, h3⟩
    have := h2 (x : Int) (by unfold zs; exact List.mem_map.mpr ⟨x, hx, rfl⟩)
    simp only [decide_eq_true_eq] at this
    omega
  · intro p
    refine ⟨by rw [p.len], fun z hz => ?_, p.nd⟩
    unfold zs at hz
    obtain ⟨x, hx, rfl⟩ := List.mem_map.mp hz
    have := p.lt x hx
    simp only [decide_eq_true_eq]
    omega
/-- the package's whole numbers -/
structure Cs (mg : Str → Option Value) : Prop where
  least : ∃ t, mg "LEAST_PLACES" = some (.int 2 t)
  most : ∃ t, mg "MOST_PLACES" = some (.int 5 t)
  word : ∃ t, mg "MOST_WORD" = some (.int 400 t)
abbrev sHabit : Stmt := top 12
theorem scHabit : FnScope ["value", "place", "moved"] ["value"] (defScope sHabit) := ⟨rfl, rfl, rfl, by decide +kernel, rfl, by decide +kernel, by decide +kernel⟩
/-- no tuple of 2 to 5 things -/
def NoTup (K : PySem.W.Frag) (H : Hp) (v : V) : Prop := v = .non ∨ (∃ l xs, v = .ref l ∧ H l = some (.lst xs)) ∨ ∃ a xs, v = .ref a ∧ SqT K H a xs ∧ xs.length < 2
def spHabit (T : Two) (K : PySem.W.Frag) (C : Addr) : Sp := fun vs H Q E => ∃ v, vs = [v] ∧ Tb T H ∧
  ((∃ (a : Addr) (nss : List (List Int)), v = .ref a ∧ RowsZ K H a nss ∧ 2 ≤ nss.length ∧ nss.length ≤ 5 ∧ (∀ m ∈ nss, m.length ≤ 1000) ∧
      ((nss.all fun m => permB m (nss.length : Int)) = true → ∀ H', Ge T H H' → Q .non H') ∧ ((nss.all fun m => permB m (nss.length : Int)) = false → ∀ d H', Ge T H H' → E (.ref C) (some d) H')) ∨
    (NoTup K H v ∧ ∀ d H', Ge T H H' → E (.ref C) (some d) H'))
theorem ty_non {K : PySem.W.Frag} {H : Hp} : TyX K H .non (.type "NoneType") := .base .non
theorem ty_lst {K : PySem.W.Frag} {H : Hp} {l : Addr} {xs : List V} (h : H l = some (.lst xs)) : TyX K H (.ref l) (.type "list") := .base (.lst h)
section
variable {P : Program} {w : World} {K : PySem.W.Frag} {mg : Str → Option Value} {base : Heap} {T : Two} {C : Addr}
theorem ok_habit {f : Addr} {fd : FuncData} (F : Fun K "need_habit" "need_habit" sHabit f fd) (B : Bl mg) (S : Cs mg) (O : Oex P w K mg base "BadHabit" "place" C) (Cp : Callee P w K mg base CX0 2 "is_permutation" ["value", "many"] (spPerm T K)) :
    FnOk P w K mg base (L2.CX P w) 4 f fd ["value"] (spHabit T K C) := by
  refine F.okX scHabit (fun vs H Q E h => ?_) (fun cdv A outer s H vs Q E hr h => ?_)
  · obtain ⟨v, rfl, _⟩ := h
    rfl
  · obtain ⟨v, rfl, tb, q⟩ := h
    obtain ⟨t1, m1⟩ := S.least
    obtain ⟨t2, m2⟩ := S.most
    refine ⟨_, pss_cons (ps_if (PW.pt (pw_or (pt_not (pt_val (pe_callB call_isi (by rfl) B.isinstance (by decide +kernel) (pa_cons (pv 0) (pa_cons (pe_bltn (v := .ty "tuple") (by rfl) B.tuple (by decide +kernel) rfl) pa_nil)))))
        (pw_or1 (pt_not (pt_chain op_le op_le (pe_glob (v := .int 2) (by rfl) m1 ⟨_, rfl⟩) (pe_callB call_len_seq (by rfl) B.len PySem.boot_len (pa_cons (pv 0) pa_nil)) (pe_glob (v := .int 5) (by rfl) m2 ⟨_, rfl⟩))))))
        (pss_one (ps_raise rfl (takes_of rfl rfl rfl rfl) (pmk_init O hr (by rfl) pe_non))) pss_nil)
      (pss_one (ps_for (passes_of rfl) rfl (pi_enumT (by rfl) B.enumerate (pa_cons (pv 0) pa_nil)) (pg_tup rfl (pgs_cons (pg_name (i := 1) scHabit.nd rfl (.inl rfl)) (pgs_cons (pg_name (i := 2) scHabit.nd rfl (.inl rfl)) pgs_nil)))
        (pss_one (ps_if (pt_not (pt_val (pe_fn Cp hr (by decide) (by rfl) pass0 (pa_cons (pv 2) (pa_cons (pe_callB call_len_seq (by rfl) B.len PySem.boot_len (pa_cons (pv 0) pa_nil)) pa_nil)))))
          (pss_one (ps_raise rfl (takes_of rfl rfl rfl rfl) (pmk_init O hr (by rfl) (pv 1)))) pss_nil)))), ?_⟩
    rcases q with ⟨a, nss, rfl, hR, h2, h5, hm, qy, qn⟩ | ⟨hN, qn⟩
    · obtain ⟨as, hA, hlen, hrow⟩ := hR
      refine ⟨_, rfl, _, _, _, _, true, rfl, .ty "tuple", ty_tup hA, kit_ty (by decide +kernel), true, rfl, ?_⟩
      refine iteF ⟨_, rfl, a, _, rfl, .inr hA, _, _, rfl, rfl, _, rfl, ?_⟩
      have el : ((as.map V.ref).length : Int) = (nss.length : Int) := by rw [List.length_map, hlen]
      rw [el, decide_eq_true (show (2 : Int) ≤ (nss.length : Int) by omega)]
      refine iteT ⟨_, _, rfl, rfl, true, congrArg V.bl (decide_eq_true (show (nss.length : Int) ≤ 5 by omega)), iteF ?_⟩
      -- the loop
      refine ⟨_, rfl, a, _, rfl, hA, for_enumT (K := K) (a := a) (xs := as.map V.ref) (fun i σ H' => ∃ v1 v2, σ = [some (.ref a), v1, v2] ∧ Ge T H H' ∧ ∀ j (m : List Int), j < i → nss[j]? = some m → permB m (nss.length : Int) = true)
        ⟨none, none, rfl, Ge.refl tb, fun j m hj => by omega⟩ (fun i σ H' _ ⟨_, _, _, g, _⟩ => g.sqT hA) ?_ ?_⟩
      · rintro i x σ H' p hi ⟨v1, v2, rfl, g, hok⟩ hp
        have hil : i < as.length := by
          have := (List.getElem?_eq_some_iff.mp hi).1
          rw [List.length_map] at this
          exact this
        rw [List.getElem?_map, List.getElem?_eq_getElem hil] at hi
        have ex : V.ref as[i] = x := Option.some.inj hi
        subst ex
        have hil2 : i < nss.length := by omega
        have hm0 : nss[i]? = some nss[i] := List.getElem?_eq_getElem hil2
        have g1 : Ge T H (upd H' p (.tup [.int (i : Nat), .ref as[i]])) := g.newR hp
        have hrow1 := g1.sqT (hrow i _ _ (List.getElem?_eq_getElem hil) hm0)
        refine ⟨p, _, rfl, SqT.of upd_same, rfl, _, _, rfl, _, _, rfl, rfl, ?_⟩
        refine ⟨_, rfl, _, rfl, a, _, rfl, .inr (g1.sqT hA), as[i], nss[i], (nss.length : Int), by rw [el]; rfl, hrow1, hm _ (List.getElem_mem hil2), g1.t1, fun H3 g3 => ⟨_, rfl, ?_⟩⟩
        have g4 := g1.trans g3
        cases c : permB nss[i] (nss.length : Int) with
        | true =>
          refine iteF ⟨_, _, rfl, g4, fun j m hj hjm => ?_⟩
          by_cases hji : j = i
          · subst hji
            rw [hm0] at hjm
            have : nss[j] = m := Option.some.inj hjm
            rw [← this]
            exact c
          · exact hok j m (by omega) hjm
        | false =>
          refine iteT ⟨_, rfl, fun d hd => qn ?_ d _ (g4.newR hd)⟩
          rw [← Bool.not_eq_true, List.all_eq_true]
          intro z
          have := z nss[i] (List.getElem_mem hil2)
          rw [c] at this
          cases this
      · rintro σ H' ⟨v1, v2, rfl, g, hok⟩
        refine qy ?_ H' g
        rw [List.all_eq_true]
        intro m hmm
        obtain ⟨j, hj, e⟩ := List.getElem_of_mem hmm
        exact hok j m (by rw [List.length_map, hlen]; exact hj) (by rw [List.getElem?_eq_getElem hj, e])
    · have raise : ∀ {H1 : Hp}, Ge T H H1 → tMkI C "place" (tC .non) [some v, none, none] H1 (fun cls d H' => E cls d H') := fun g d hd => qn d _ (g.newR hd)
      rcases hN with rfl | ⟨l, xs, rfl, hl⟩ | ⟨a, xs, rfl, hA, hs⟩
      · refine ⟨_, rfl, _, _, _, _, false, rfl, .ty "tuple", ty_non, kit_ty (by decide +kernel), false, rfl, ?_⟩
        exact iteT (iteT (raise (Ge.refl tb)))
      · refine ⟨_, rfl, _, _, _, _, false, rfl, .ty "tuple", ty_lst hl, kit_ty (by decide +kernel), false, rfl, ?_⟩
        exact iteT (iteT (raise (Ge.refl tb)))
      · refine ⟨_, rfl, _, _, _, _, true, rfl, .ty "tuple", ty_tup hA, kit_ty (by decide +kernel), true, rfl, ?_⟩
        refine iteF ⟨_, rfl, a, _, rfl, .inr hA, _, _, rfl, rfl, _, rfl, ?_⟩
        rw [decide_eq_false (show ¬ (2 : Int) ≤ (xs.length : Int) by omega)]
        exact iteF ⟨false, rfl, iteT (raise (Ge.refl tb))⟩
end
end JX
end
section
set_option Elab.async false
set_option linter.all false
set_option maxRecDepth 100000
set_option maxHeartbeats 4000000
namespace JX
open PySem PySem.Spec PyProof.Rows L2
/-! ### need_layout, need_shelf, behind_touch, behind_word -/
theorem TupH.len {K : PySem.W.Frag} {H : Hp} {a : Addr} {hs : List (List Nat)} (h : TupH K H a hs) : ∃ as : List Addr, SqT K H a (as.map V.ref) ∧ as.length = hs.length := let ⟨as, h1, h2, _⟩ := h; ⟨as, h1, h2⟩
theorem atI_pl {ns : List Nat} {i : Nat} (h : i < ns.length) : atI (pl ns) ((i : Nat) : Int) = some (V.int ((ns.getD i 0 : Nat) : Int)) := atI_nat (pl_get h)
/-- the permutation of a place is read -/
theorem TupH.row {K : PySem.W.Frag} {H : Hp} {a : Addr} {hs : List (List Nat)} (h : TupH K H a hs) {k : Nat} (hk : k < hs.length) : ∃ (as : List Addr) (p : Addr), SqT K H a (as.map V.ref) ∧ atI (as.map V.ref) ((k : Nat) : Int) = some (V.ref p) ∧ TupN K H p (Jn.row hs k) := by
  obtain ⟨as, h1, h2, h3⟩ := h
  have hka : k < as.length := by omega
  refine ⟨as, as[k], h1, atI_nat ?_, h3 k _ _ (List.getElem?_eq_getElem hka) (Jn.row_get? hk)⟩
  rw [List.getElem?_map, List.getElem?_eq_getElem hka]
  rfl
theorem take_more {α : Type} : ∀ {l : List α} {i : Nat} {x : α}, l[i]? = some x → l.take (i + 1) = l.take i ++ [x]
  | [], i, x, h => by simp at h
  | a :: l, 0, x, h => by
    have e : a = x := Option.some.inj h
    subst e
    rfl
  | a :: l, i + 1, x, h => by
    have ih := take_more (l := l) (i := i) (x := x) h
    show a :: l.take (i + 1) = a :: l.take i ++ [x]
    rw [ih]
    rfl
theorem pl_take_more {ns : List Nat} {i : Nat} (h : i < ns.length) : pl (ns.take i) ++ [V.int ((ns.getD i 0 : Nat) : Int)] = pl (ns.take (i + 1)) := by
  rw [take_more (Jn.getElem?_of_getD h), pl_app]
  rfl
theorem pl_small {ns : List Nat} (h : ns.length ≤ 1000) (i : Nat) : (pl (ns.take i)).length < sizeLine := by
  rw [pl_len]
  exact small1000 (Nat.le_trans (by rw [List.length_take]; exact Nat.min_le_right _ _) h)
abbrev sLayout : Stmt := top 13
abbrev sShelf : Stmt := top 14
abbrev sTouch : Stmt := top 15
abbrev sWord : Stmt := top 16
theorem scLayout : FnScope ["habit", "value"] ["habit", "value"] (defScope sLayout) := ⟨rfl, rfl, rfl, by decide +kernel, rfl, by decide +kernel, by decide +kernel⟩
theorem scShelf : FnScope ["habit", "layout"] ["habit", "layout"] (defScope sShelf) := ⟨rfl, rfl, rfl, by decide +kernel, rfl, by decide +kernel, by decide +kernel⟩
theorem scTouch : FnScope ["habit", "layout", "place", "stands"] ["habit", "layout", "place"] (defScope sTouch) := ⟨rfl, rfl, rfl, by decide +kernel, rfl, by decide +kernel, by decide +kernel⟩
theorem scWord : FnScope ["habit", "layout", "word", "place"] ["habit", "layout", "word"] (defScope sWord) := ⟨rfl, rfl, rfl, by decide +kernel, rfl, by decide +kernel, by decide +kernel⟩
def spLayout (T : Two) (K : PySem.W.Frag) : Sp := fun vs H Q _ => ∃ (a l : Addr) (n : Nat) (h : List (List Nat)) (ns : List Nat), vs = [.ref a, .ref l] ∧ Hab K H a n h ∧ TupN K H l ns ∧ Jn.IsPerm n ns ∧ Tb T H ∧ ∀ H', Ge T H H' → Q .non H'
def spTouch (T : Two) (K : PySem.W.Frag) : Sp := fun vs H Q _ => ∃ (a l : Addr) (n : Nat) (h : List (List Nat)) (ns : List Nat) (k : Nat), vs = [.ref a, .ref l, .int (k : Int)] ∧ Hab K H a n h ∧ TupN K H l ns ∧ Jn.IsPerm n ns ∧ k < n ∧ Tb T H ∧
  ∀ p H', Ge T H H' → H' p = some (.tup (pl (Jn.touch h ns k))) → Q (.ref p) H'
def spWord (T : Two) (K : PySem.W.Frag) : Sp := fun vs H Q _ => ∃ (a l wd : Addr) (n : Nat) (h : List (List Nat)) (ns ws : List Nat), vs = [.ref a, .ref l, .ref wd] ∧ Hab K H a n h ∧ TupN K H l ns ∧ Jn.IsPerm n ns ∧ TupN K H wd ws ∧ Jn.WordOk n ws ∧ Tb T H ∧
  ∀ p H', Ge T H H' → TupN K H' p (Jn.after h ns ws) → Q (.ref p) H'
section
variable {P : Program} {w : World} {K : PySem.W.Frag} {mg : Str → Option Value} {base : Heap} {T : Two} {C : Addr}
theorem ok_layout {f : Addr} {fd : FuncData} (F : Fun K "need_layout" "need_layout" sLayout f fd) (B : Bl mg) (Cp : Callee P w K mg base CX0 2 "is_permutation" ["value", "many"] (spPerm T K)) :
    FnOk P w K mg base CX0 3 f fd ["habit", "value"] (spLayout T K) := by
  refine F.ok scLayout (fun vs H Q E h => ?_) (fun cdv A outer s H vs Q E hr h => ?_)
  · obtain ⟨a, l, n, h, ns, rfl, _⟩ := h
    rfl
  · obtain ⟨a, l, n, h, ns, rfl, hH, hL, hP, tb, q⟩ := h
    obtain ⟨as, hA, hlen⟩ := hH.1.len
    refine ⟨_, pss_one (ps_if (pt_not (pt_val (pe_fn Cp hr (by decide) (by rfl) pass0 (pa_cons (pv 1) (pa_cons (pe_callB call_len_seq (by rfl) B.len PySem.boot_len (pa_cons (pv 0) pa_nil)) pa_nil))))) (pss_one ps_never) pss_nil), ?_⟩
    refine ⟨_, rfl, _, rfl, a, _, rfl, .inr hA, l, zs ns, (n : Int), ?_, by rw [← pl_zs]; exact hL, by rw [zs_len, hP.len]; have := hH.2.five; omega, tb, fun H' g => ⟨true, ?_, ?_⟩⟩
    · rw [List.length_map, hlen, hH.2.len]
      rfl
    · rw [permB_zs.mpr hP]
    · exact iteF (q H' g)
theorem ok_shelf {f : Addr} {fd : FuncData} (F : Fun K "need_shelf" "need_shelf" sShelf f fd) (Ch : Callee P w K mg base (L2.CX P w) 4 "need_habit" ["value"] (spHabit T K C)) (Cl : Callee P w K mg base CX0 3 "need_layout" ["habit", "value"] (spLayout T K)) :
    FnOk P w K mg base CX0 5 f fd ["habit", "layout"] (spLayout T K) := by
  refine F.ok scShelf (fun vs H Q E h => ?_) (fun cdv A outer s H vs Q E hr h => ?_)
  · obtain ⟨a, l, n, h, ns, rfl, _⟩ := h
    rfl
  · obtain ⟨a, l, n, h, ns, rfl, hH, hL, hP, tb, q⟩ := h
    refine ⟨_, pss_cons (ps_expr (pe_fn Ch hr (by decide) (by rfl) passL (pa_cons (pv 0) pa_nil))) (pss_one (ps_expr (pe_fn Cl hr (by decide) (by rfl) pass0 (pa_cons (pv 0) (pa_cons (pv 1) pa_nil))))), ?_⟩
    refine ⟨_, rfl, _, rfl, tb, .inl ⟨a, h.map zs, rfl, RowsZ.of hH.1, by rw [List.length_map, hH.2.len]; exact hH.2.two, by rw [List.length_map, hH.2.len]; exact hH.2.five, fun m hm => ?_, fun _ H1 g1 => ?_, fun e => ?_⟩⟩
    · obtain ⟨m0, h0, rfl⟩ := List.mem_map.mp hm
      rw [zs_len, (hH.2.perm m0 h0).len]
      have := hH.2.five
      omega
    · exact ⟨_, rfl, _, rfl, a, l, n, h, ns, rfl, g1.hab hH, g1.tupN hL, hP, g1.t1, fun H2 g2 => q H2 (g1.trans g2)⟩
    · exfalso
      rw [← Bool.not_eq_true] at e
      apply e
      rw [List.all_eq_true]
      intro m hm
      obtain ⟨m0, h0, rfl⟩ := List.mem_map.mp hm
      rw [List.length_map, hH.2.len]
      exact permB_zs.mpr (hH.2.perm m0 h0)
theorem ok_touch {f : Addr} {fd : FuncData} (F : Fun K "behind_touch" "behind_touch" sTouch f fd) (B : Bl mg) : FnOk P w K mg base CX0 1 f fd ["habit", "layout", "place"] (spTouch T K) := by
  refine F.ok scTouch (fun vs H Q E h => ?_) (fun cdv A outer s H vs Q E hr h => ?_)
  · obtain ⟨a, l, n, h, ns, k, rfl, _⟩ := h
    rfl
  · obtain ⟨a, l, n, h, ns, k, rfl, hH, hL, hP, hk, tb, q⟩ := h
    refine ⟨_, pss_one (ps_ret (pe_callTy call_tuple_of (by rfl) B.tuple (by decide +kernel) (pa_cons (pe_lc (own := [("stands", 3)]) (g := gName 3) (tt := tYes) (te := tOp (rIxT K) (tOp (rIxT K) (tVar 0) (tVar 2)) (tVar 3)) rfl scTouch.nd (pi_tup (pv 1)) (blkOk_by (N := ["habit", "layout", "place", "stands"]) (sc := defScope sTouch) (by decide +kernel))
      (fun _ _ _ _ _ => pg_name (i := 3) scTouch.nd rfl (Or.inl rfl)) (fun _ _ _ _ _ => pts_nil) (fun _ _ _ _ _ => pe_ix ix_tup (pe_ix ix_tup (pv 0) (pv 2) (fun _ _ => rfl)) (pv 3) (fun _ _ => rfl))) pa_nil))), ?_⟩
    refine ⟨_, rfl, l, rfl, ⟨_, hL⟩, fun D hD => lc_tup (K := K) (a := l) (xs := pl ns) (fun i H' => Ge T H H' ∧ H' D = some (.lst (pl ((Jn.touch h ns k).take i)))) ⟨Ge.new tb hD, upd_same⟩ (fun i H' _ p => p.1.tupN hL) ?_ ?_⟩
    · rintro i x H' hi ⟨g, hD'⟩
      obtain ⟨hil, rfl⟩ := pl_some hi
      obtain ⟨as, p, hA, hat, hrow⟩ := (g.hab hH).1.row (k := k) (by rw [hH.2.len]; exact hk)
      have hlt : ns.getD i 0 < (Jn.row h k).length := by
        rw [(hH.2.row hk).len]
        exact hP.lt _ (Jn.getD_mem hil)
      have hil2 : i < (Jn.touch h ns k).length := by rw [Jn.touch_len]; exact hil
      refine ⟨rfl, ?_⟩
      refine ⟨_, rfl, _, rfl, a, _, (k : Int), _, rfl, rfl, hA, hat, _, rfl, p, _, _, _, rfl, rfl, hrow, atI_pl hlt, pl ((Jn.touch h ns k).take i), hD', pl_small (by rw [Jn.touch_len, hP.len]; have := hH.2.five; omega) i, ?_⟩
      rw [← Jn.touch_get (h := h) (k := k) hil, pl_take_more hil2]
      exact ⟨g.wr hD' hD, upd_same⟩
    · rintro H' ⟨g, hD'⟩
      rw [pl_len, ← Jn.touch_len h ns k, List.take_length] at hD'
      exact ⟨D, _, rfl, .inl ⟨SqL.of hD', fun p hp => q p _ (g.newR hp) upd_same⟩⟩
theorem ok_word {f : Addr} {fd : FuncData} (F : Fun K "behind_word" "behind_word" sWord f fd) (Ct : Callee P w K mg base CX0 1 "behind_touch" ["habit", "layout", "place"] (spTouch T K)) : FnOk P w K mg base CX0 2 f fd ["habit", "layout", "word"] (spWord T K) := by
  refine F.ok scWord (fun vs H Q E h => ?_) (fun cdv A outer s H vs Q E hr h => ?_)
  · obtain ⟨a, l, wd, n, h, ns, ws, rfl, _⟩ := h
    rfl
  · obtain ⟨a, l, wd, n, h, ns, ws, rfl, hH, hL, hP, hW, hok, tb, q⟩ := h
    refine ⟨_, pss_cons (ps_for PassesOwn.never rfl (pi_tup (pv 2)) (pg_name (i := 3) scWord.nd rfl (.inl rfl))
        (pss_one (ps_set (i := 1) scWord.nd rfl (.inl rfl) (pe_fn Ct hr (by decide) (by rfl) pass0 (pa_cons (pv 0) (pa_cons (pv 1) (pa_cons (pv 3) pa_nil)))))))
      (pss_one (ps_ret (pv 1))), ?_⟩
    refine ⟨_, rfl, wd, rfl, ⟨_, hW⟩, for_tup (K := K) (a := wd) (xs := pl ws) (fun i σ H' => ∃ l' v, σ = [some (.ref a), some (.ref l'), some (.ref wd), v] ∧ Ge T H H' ∧ TupN K H' l' (Jn.after h ns (ws.take i)))
      ⟨l, none, rfl, Ge.refl tb, hL⟩ (fun i σ H' _ ⟨_, _, _, g, _⟩ => g.tupN hW) ?_ ?_⟩
    · rintro i x σ H' hi ⟨l', v, rfl, g, hl'⟩
      obtain ⟨hil, rfl⟩ := pl_some hi
      have hki := hok _ (Jn.getD_mem hil)
      have hwo : Jn.WordOk n (ws.take i) := fun j hj => hok j (List.mem_of_mem_take hj)
      refine ⟨_, rfl, _, rfl, _, rfl, a, l', n, h, _, ws.getD i 0, rfl, g.hab hH, hl', Jn.after_perm hH.2 hP hwo, hki, g.t1, fun p H2 g2 hp => ⟨p, _, rfl, g.trans g2, ?_⟩⟩
      rw [take_more (Jn.getElem?_of_getD hil), Jn.after_append, Jn.after_one]
      exact SqT.of hp
    · rintro σ H' ⟨l', v, rfl, g, hl'⟩
      rw [pl_len, List.take_length] at hl'
      exact ⟨_, rfl, q l' H' g hl'⟩
end
end JX
end
section
set_option Elab.async false
set_option linter.all false
set_option maxRecDepth 100000
set_option maxHeartbeats 4000000
namespace JX
open PySem PySem.Spec PyProof.Rows L2 GxR
/-! ### after -/
abbrev sAfter : Stmt := top 17
theorem scAfter : FnScope ["habit", "layout", "word"] ["habit", "layout", "word"] (defScope sAfter) := ⟨rfl, rfl, rfl, by decide +kernel, rfl, by decide +kernel, by decide +kernel⟩
def spAfter (T : Two) (K : PySem.W.Frag) : Sp := fun vs H Q _ => ∃ (a l wd : Addr) (n : Nat) (h : List (List Nat)) (ns ws : List Nat), vs = [.ref a, .ref l, .ref wd] ∧ Hab K H a n h ∧ TupN K H l ns ∧ Jn.IsPerm n ns ∧ TupN K H wd ws ∧ Jn.WordOk n ws ∧ ws.length ≤ 400 ∧ Tb T H ∧
  ∀ p H', Ge T H H' → TupN K H' p (Jn.after h ns ws) → Q (.ref p) H'
def reA (K : PySem.W.Frag) : L2.St → Hp → (Int → Bool) → Prop := fun σ H pb => ∃ (a : Addr) (xs : List V), σ[0]? = some (some (.ref a)) ∧ SqT K H a xs ∧ pb = fun i => decide (0 ≤ i ∧ i ≤ (xs.length : Int) - 1)
section
variable {P : Program} {w : World} {K : PySem.W.Frag} {mg : Str → Option Value} {base : Heap} {T : Two} {C : Addr}
theorem ok_after {f c fN : Addr} {fd fdN : FuncData} (F : FunT K "after" "after" sAfter f fd c) (TB : TabB base mg c T.a) (B : Bl mg) (S : Cs mg) (FN : Fun K "is_number" "is_number" sNum fN fdN) (mN : mg "is_number" = some (.ref fN))
    (Cs : Callee P w K mg base CX0 5 "need_shelf" ["habit", "layout"] (spLayout T K)) (Cw : Callee P w K mg base CX0 2 "behind_word" ["habit", "layout", "word"] (spWord T K)) :
    FnOk P w K mg base CX0 6 f fd ["habit", "layout", "word"] (spAfter T K) := by
  refine F.ok scAfter (fun vs H Q E h => ?_) (fun A outer s H vs Q E hr h => ?_)
  · obtain ⟨a, l, wd, n, h, ns, ws, rfl, _⟩ := h
    rfl
  · obtain ⟨a, l, wd, n, h, ns, ws, rfl, hH, hL, hP, hW, hok, h400, tb, q⟩ := h
    obtain ⟨t1, m1⟩ := S.word
    refine ⟨_, pss_cons (ps_expr (pe_fn Cs hr (by decide) (by rfl) pass0 (pa_cons (pv 0) (pa_cons (pv 1) pa_nil))))
      (pss_cons (ps_if (PW.pt (pw_or (pt_not (pt_val (pe_callB call_isi (by rfl) B.isinstance (by decide +kernel) (pa_cons (pv 2) (pa_cons (pe_bltn (v := .ty "tuple") (by rfl) B.tuple (by decide +kernel) rfl) pa_nil)))))
        (pw_or1 (pt_cmpR op_gt (pe_callB call_len_seq (by rfl) B.len PySem.boot_len (pa_cons (pv 2) pa_nil)) (pe_glob (v := .int 400) (by rfl) m1 ⟨_, rfl⟩) (nomark _))))) (pss_one ps_never) pss_nil)
      (pss_cons (ps_if (pt_not (pt_val (pe_allI (RE := reA K) hr (by rfl) B.all TB rfl ⟨rfl, rfl, by decide +kernel, by decide +kernel, by decide +kernel, ?_⟩ (pv 2) ?_ (fun _ => rfl)))) (pss_one ps_never) pss_nil)
      (pss_one (ps_ret (pe_fn Cw hr (by decide) (by rfl) pass0 (pa_cons (pv 0) (pa_cons (pv 1) (pa_cons (pv 2) pa_nil)))))))), ?_⟩
    · exact gens_free (sc := defScope sAfter) (by decide +kernel)
    · rintro pins σ pb H1 s1 ⟨a1, xs, hm, hx, rfl⟩ I1 hp
      refine elt_cap (i := 0) (y := "habit") I1 (gens_free (sc := defScope sAfter) (by decide +kernel)) (by decide +kernel) rfl rfl hm hp fun c0 u hc0 hcell ru hne => ?_
      obtain rfl : u = Value.ref a1 := ru
      obtain ⟨its, rv, hT, hz⟩ := I1.tuple hx
      have hneA : a1 ≠ T.a := by
        obtain ⟨ps, hp⟩ := hp
        obtain ⟨ob, e1, e2, _⟩ := hT
        intro z
        rw [z, hp] at e1
        cases e1
        cases e2
      refine elt_num FN B mN (hr.mono (by decide)) rfl rfl rfl rfl fun C code A' E' s₂ m₂ Q hlow kb hn k => ?_
      have hc2 : s₂.heap.IsCell c0 (some (.ref a1)) := by
        obtain ⟨o, ho, hd⟩ := hcell
        exact ⟨o, kb c0 o hne ho, hd⟩
      have hT2 : IsTup s₂.heap a1 its.toArray := by
        obtain ⟨o, ho, hd⟩ := hT
        exact ⟨o, kb a1 o hneA ho, hd⟩
      have hlen := rv.length
      have h63 := line63
      refine wpAny_BinOp (wpAny_Call_Name_kw (low_blt (u := .builtin "len") hlow rfl rfl rfl rfl B.len (by decide +kernel) ?_))
      refine PyProof.Rows.callWith_builtin1 (PyProof.Rows.args_cons (wpAny_Name (wpAny_loadName_free rfl rfl hc0 hc2 (PyProof.Rows.args_nil ?_)) (by decide)) rfl) rfl rfl
      refine len_tuple hT2 (by simp only [List.size_toArray] <;> omega) ?_
      refine wpAny_Constant_int (sub_int ?_)
      rw [List.size_toArray, ← hlen]
      exact k _ _ ⟨s₂.heap, _, rfl, fun _ _ e => e⟩
    · refine ⟨_, rfl, _, rfl, a, l, n, h, ns, rfl, hH, hL, hP, tb, fun H1 g1 => ?_⟩
      have hW1 := g1.tupN hW
      refine ⟨_, rfl, _, _, _, _, true, rfl, .ty "tuple", ty_tup hW1, kit_ty (by decide +kernel), true, rfl, ?_⟩
      refine iteF ⟨_, rfl, wd, _, rfl, .inr hW1, _, _, rfl, rfl, _, rfl, ?_⟩
      have e1 : decide ((400 : Int) < ((pl ws).length : Int)) = false := decide_eq_false (by rw [pl_len]; omega)
      rw [e1]
      refine iteF ?_
      obtain ⟨as, hA, hlen⟩ := (g1.hab hH).1.len
      refine ⟨_, rfl, wd, zs ws, _, rfl, by rw [← pl_zs]; exact hW1, g1.t1.2, ⟨a, _, rfl, hA, rfl⟩, fun H2 hH2 => ⟨true, ?_, iteF ?_⟩⟩
      · congr 1
        rw [List.all_eq_true]
        intro z hz
        unfold zs at hz
        obtain ⟨x, hx, rfl⟩ := List.mem_map.mp hz
        have := hok x hx
        rw [List.length_map, hlen, hH.2.len]
        simp only [decide_eq_true_eq]
        omega
      · have g2 := g1.trans (Ge.tabA g1.t1 hH2)
        exact ⟨_, rfl, _, rfl, _, rfl, a, l, wd, n, h, ns, ws, rfl, g2.hab hH, g2.tupN hL, hP, g2.tupN hW, hok, g2.t1, fun p H3 g3 hp => q p H3 (g2.trans g3) hp⟩
end
end JX
end
section
set_option Elab.async false
set_option linter.all false
set_option maxRecDepth 100000
set_option maxHeartbeats 4000000
namespace JX
open PySem PySem.Spec PyProof.Rows L2
/-! ### {t: v}, t a tuple -/
def tDispT (tk tv : TE) : TE := fun σ H Q => ∀ d, H d = none → tk σ (upd H d (.dT [])) fun x H1 => tv σ H1 fun y H2 => ∃ (b : Addr) (k : List Key), x = .ref b ∧ H2 d = some (.dT []) ∧ H2 b = some (.tup (k.map kV)) ∧ Q (.ref d) (upd H2 d (.dT [(k, y)]))
theorem pe_dispT {X : Cx} {k v : Expr} {tk tv : TE} {pos : Pos} (hu : X.A.units + 1 < cLine) (hk : PE X k tk) (hv : PE X v tv) : PE X (.Dict [some k] [v] pos) (tDispT tk tv) := by
  refine ⟨fun pins s σ H Q I q => ?_⟩
  have hn := I.hok.fresh (Nat.le_refl s.heap.objs.size)
  have I1 := I.laid (a := s.heap.objs.size) (o := .dT []) (h' := s.heap.push { cls := .type "dict", data := .dict #[] }) (t' := s.toks) (fun _ _ q => Heap.get?_push_of_some _ q) (Nat.le_refl _) (dt_empty s.heap I.big)
  have hshape : (evalEachOpt [some k] X.env).zip ((evalEach [v] X.env).map fun v => do let x ← v; standAt pos; pure x) = [(eval k X.env, (do let x ← eval v X.env; standAt pos; pure x))].map fun p => (some p.1, p.2) := rfl
  rw [arm_eval_Dict, hshape, dictDisplay_pairs [(eval k X.env, (do let x ← eval v X.env; standAt pos; pure x))] (by simp) (by simp)]
  refine wpAny_bind (wpAny_standAt (wpAny_bind (wpAny_subDictH (knd := tupleKind (mixKind X.prog X.w)) (Q := fun d s' => wpAny (model X.prog X.w) X.A (pure (Value.ref d)) (EP X pins σ Q) X.xe s') ?_ (by simp) ?_)))
  · show X.A.units < cLine
    omega
  · show wpAny _ _ (evalPairs (pairTrees [some k] [v] X.env pos)) _ _ _
    refine pairTrees_cons_walk (thn (hk.run pins _ σ _ _ I1 (q _ hn)) fun u s1 ⟨x, H1, J1, rx, q1⟩ => thn (hv.run pins s1 σ H1 _ J1 q1) fun w2 s2 ⟨y, H2, J2, ry, b, key, ex, ed, eb, q2⟩ => pairTrees_nil_walk ?_)
    subst ex
    obtain rfl : u = Value.ref b := rx
    obtain ⟨z, hd, xs, rel, dd⟩ := dt_of J2.hok ed
    cases rel
    refine ⟨[(key, b, w2)], ⟨rfl, rfl, key_of J2.hok eb, True.intro⟩, dd, fun h' tk dd' hs => wpAny_pure ?_⟩
    have e1 : storedAllH ([] : List (List Key × Addr × Value)) [(key, b, w2)] = [(key, b, w2)] := storedAllH_nil_of_nodup _ (by simp)
    rw [e1] at dd'
    obtain ⟨o, es, ep, hq, h2, h3, h4, _, h5⟩ := dd'
    have nb : b ≠ s.heap.objs.size := fun z => by
      rw [z, ed] at eb
      cases eb
    refine ⟨.ref s.heap.objs.size, _, d_write (t' := tk) J2 (by rw [ed]; exact True.intro) hs ⟨o, hq⟩ (ob := .dT [(key, y)]) ⟨by rw [sizeLine_eq]; exact (by decide : 1 ≤ 16777216), hd, [(key, b, w2)], .cons ⟨rfl, ?_, ry⟩ .nil, o, es, ep, hq, h2, h3, h4, h5⟩, rfl, q2⟩
    show upd H2 _ _ b = _
    rw [upd_ne nb]
    exact eb
end JX
end
section
set_option Elab.async false
set_option linter.all false
set_option maxRecDepth 100000
set_option maxHeartbeats 8000000
namespace JX
open PySem PySem.Spec PyProof.Rows L2
/-! ### words_from, order -/
/-- a row of places as a key -/
def keyN (ns : List Nat) : List Key := ns.map fun (n : Nat) => (Sum.inl (n : Int) : Key)
theorem keyN_kV (ns : List Nat) : (keyN ns).map kV = pl ns := by
  unfold keyN pl
  rw [List.map_map]
  rfl
theorem keyN_inj {ns ms : List Nat} (h : keyN ns = keyN ms) : ns = ms := by
  apply pl_inj
  rw [← keyN_kV, ← keyN_kV, h]
theorem valV_iff {κ : Type} [DecidableEq κ] {k : κ} : ∀ {kvs : List (κ × V)}, (valV kvs k).isSome = true ↔ k ∈ kvs.map (·.1)
  | [] => by simp [valV_nil]
  | p :: r => by
    by_cases e : p.1 = k
    · rw [valV_pos e, List.map_cons, e]
      simp
    · rw [valV_neg e, valV_iff, List.map_cons, List.mem_cons]
      constructor
      · exact fun h => .inr h
      · rintro (h | h)
        · exact (e h.symm).elim
        · exact h
theorem valV_mem {κ : Type} [DecidableEq κ] {k : κ} {v : V} : ∀ {kvs : List (κ × V)}, valV kvs k = some v → (k, v) ∈ kvs
  | [], h => by rw [valV_nil] at h; cases h
  | p :: r, h => by
    by_cases e : p.1 = k
    · rw [valV_pos e] at h
      have e2 : p.2 = v := Option.some.inj h
      have : p = (k, v) := by rw [← e, ← e2]
      rw [this]
      exact List.mem_cons_self
    · rw [valV_neg e] at h
      exact List.mem_cons_of_mem _ (valV_mem h)
/-- a tuple stands where something else is written -/
theorem upd_tup {H : Hp} {b p : Addr} {xs : List V} {o o0 : HO} (h : H b = some (.tup xs)) (hp : H p = some o0) (n : ∀ ys, o0 ≠ .tup ys) : upd H p o b = some (.tup xs) := by
  rw [upd_ne (fun e => by rw [e, hp] at h; exact n xs (Option.some.inj h))]
  exact h
theorem Ge.wrAny {T : Two} {H H1 : Hp} {p : Addr} {o o0 : HO} (g : Ge T H H1) (h : H1 p = some o0) (n0 : ∀ ps, o0 ≠ .tbl ps) (hp : H p = none) : Ge T H (upd H1 p o) := by
  have n : ∀ {P : Addr}, GxR.TabG H1 P → GxR.TabG (L2.upd H1 p o) P := fun t => by
    obtain ⟨ps, h1, h2⟩ := t
    exact ⟨ps, by rw [upd_ne (fun z => by rw [z, h] at h1; exact n0 ps (Option.some.inj h1))]; exact h1, h2⟩
  exact ⟨g.t0, ⟨n g.t1.1, n g.t1.2⟩, fun b u n1 n2 q => by rw [upd_ne (ne_of_none q hp)]; exact g.keep b u n1 n2 q⟩
/-- a list of tuples of places: it stands at l, its items at bs, their rows are ls -/
structure RowsB (H : Hp) (l : Addr) (bs : List Addr) (ls : List (List Nat)) : Prop where
  at_ : H l = some (.lst (bs.map V.ref))
  len : bs.length = ls.length
  row : ∀ (j : Nat) (b : Addr) (m : List Nat), bs[j]? = some b → ls[j]? = some m → H b = some (.tup (pl m))
theorem RowsB.ge {T : Two} {H H1 : Hp} {l : Addr} {bs : List Addr} {ls : List (List Nat)} (r : RowsB H l bs ls) (g : Ge T H H1) : RowsB H1 l bs ls :=
  ⟨g.lst r.at_, r.len, fun j b m e1 e2 => g.tup (r.row j b m e1 e2)⟩
theorem RowsB.wr {H : Hp} {l p : Addr} {o o0 : HO} {bs : List Addr} {ls : List (List Nat)} (r : RowsB H l bs ls) (hp : H p = some o0) (n : ∀ ys, o0 ≠ .tup ys) (hne : l ≠ p) : RowsB (upd H p o) l bs ls :=
  ⟨by rw [upd_ne hne]; exact r.at_, r.len, fun j b m e1 e2 => upd_tup (r.row j b m e1 e2) hp n⟩
/-- one more item -/
theorem RowsB.snoc {H : Hp} {l b : Addr} {bs : List Addr} {ls : List (List Nat)} {m : List Nat} (r : RowsB H l bs ls) (hb : H b = some (.tup (pl m))) : RowsB (upd H l (.lst (bs.map V.ref ++ [.ref b]))) l (bs ++ [b]) (ls ++ [m]) := by
  refine ⟨by rw [upd_same, List.map_append]; rfl, by rw [List.length_append, List.length_append, r.len]; rfl, fun j b' m' e1 e2 => ?_⟩
  by_cases c : j < bs.length
  · rw [List.getElem?_append_left c] at e1
    rw [List.getElem?_append_left (by rw [← r.len]; exact c)] at e2
    exact upd_tup (r.row j b' m' e1 e2) r.at_ (fun _ z => by cases z)
  · rw [List.getElem?_append_right (by omega)] at e1
    rw [List.getElem?_append_right (by rw [← r.len]; omega), ← r.len] at e2
    have hj : j - bs.length = 0 := by
      have := (List.getElem?_eq_some_iff.mp e1).1
      simp at this
      omega
    rw [hj] at e1 e2
    have e3 : b = b' := Option.some.inj e1
    have e4 : m = m' := Option.some.inj e2
    rw [← e3, ← e4]
    exact upd_tup hb r.at_ (fun _ z => by cases z)
theorem RowsB.nil {H : Hp} {l : Addr} (h : H l = some (.lst [])) : RowsB H l [] [] := ⟨h, rfl, fun j b m e => by simp at e⟩
/-- the state of the search: what is found so far -/
structure Srch (T : Two) (n : Nat) (h : List (List Nat)) (H H' : Hp) (d : Addr) (kvs : List (List Key × V)) (L : List (List Nat)) : Prop where
  ge : Ge T H H'
  fr : H d = none
  at_ : H' d = some (.dT kvs)
  keys : kvs.map (·.1) = L.map keyN
  nd : L.Nodup
  made : ∀ x ∈ L, Jn.Made n h x
  vals : ∀ p ∈ kvs, ∃ b xs, p.2 = .ref b ∧ H' b = some (.tup xs) ∧ xs.length < L.length
section
variable {T : Two} {n : Nat} {h : List (List Nat)} {H H1 H2 : Hp} {d p : Addr} {kvs : List (List Key × V)} {L : List (List Nat)} {o o0 : HO}
theorem Srch.step (s : Srch T n h H H1 d kvs L) (g : Ge T H1 H2) : Srch T n h H H2 d kvs L :=
  ⟨s.ge.trans g, s.fr, g.at s.at_ (fun _ z => by cases z), s.keys, s.nd, s.made, fun q hq => let ⟨b, xs, e1, e2, e3⟩ := s.vals q hq; ⟨b, xs, e1, g.tup e2, e3⟩⟩
theorem Srch.wr (s : Srch T n h H H1 d kvs L) (hp : H1 p = some o0) (n1 : ∀ ys, o0 ≠ .tup ys) (n2 : ∀ ps, o0 ≠ .tbl ps) (hf : H p = none) (hne : d ≠ p) : Srch T n h H (upd H1 p o) d kvs L :=
  ⟨s.ge.wrAny hp n2 hf, s.fr, by rw [upd_ne hne]; exact s.at_, s.keys, s.nd, s.made, fun q hq => let ⟨b, xs, e1, e2, e3⟩ := s.vals q hq; ⟨b, xs, e1, upd_tup e2 hp n1, e3⟩⟩
theorem Srch.len (s : Srch T n h H H1 d kvs L) : kvs.length = L.length := by
  have := congrArg List.length s.keys
  rw [List.length_map, List.length_map] at this
  exact this
theorem Srch.has (s : Srch T n h H H1 d kvs L) {x : List Nat} : (valV kvs (keyN x)).isSome = true ↔ x ∈ L := by
  rw [valV_iff, s.keys, List.mem_map]
  constructor
  · rintro ⟨y, hy, e⟩
    rw [← keyN_inj e]
    exact hy
  · intro hx
    exact ⟨x, hx, rfl⟩
theorem Srch.put (s : Srch T n h H H1 d kvs L) {x : List Nat} (hx : x ∉ L) (hm : Jn.Made n h x) {b : Addr} {xs : List V} (hb : H1 b = some (.tup xs)) (hl : xs.length < L.length + 1) : Srch T n h H (upd H1 d (.dT (putK kvs (keyN x) (.ref b)))) d (putK kvs (keyN x) (.ref b)) (L ++ [x]) := by
  have hv : valV kvs (keyN x) = none := by
    cases e : valV kvs (keyN x) with
    | none => rfl
    | some v => exact (hx (s.has.mp (by rw [e]; rfl))).elim
  rw [putK_new _ hv]
  refine ⟨s.ge.wrAny s.at_ (fun _ z => by cases z) s.fr, s.fr, upd_same, ?_, ?_, ?_, ?_⟩
  · rw [List.map_append, List.map_append, s.keys]
    rfl
  · exact Jn.nodup_append_of s.nd (by simp) fun y hy hy2 => hx (List.mem_singleton.mp hy2 ▸ hy)
  · intro y hy
    rcases List.mem_append.mp hy with q | q
    · exact s.made y q
    · rw [List.mem_singleton.mp q]
      exact hm
  · intro q hq
    rcases List.mem_append.mp hq with z | z
    · obtain ⟨b', xs', e1, e2, e3⟩ := s.vals q z
      exact ⟨b', xs', e1, upd_tup e2 s.at_ (fun _ z => by cases z), by rw [List.length_append]; exact Nat.lt_of_lt_of_le e3 (Nat.le_add_right _ _)⟩
    · rw [List.mem_singleton.mp z]
      exact ⟨b, xs, rfl, upd_tup hb s.at_ (fun _ z => by cases z), by rw [List.length_append]; exact hl⟩
theorem Srch.few (s : Srch T n h H H1 d kvs L) (hh : Jn.IsHabit n h) : L.length ≤ 3125 := Jn.found_few hh.five s.nd fun x hx => (s.made x hx).perm hh
end
theorem rgV_pl (n : Nat) : rgV 0 (n : Int) = pl (List.range n) := by
  unfold rgV pl
  rw [show ((n : Int) - 0).toNat = n by omega]
  apply List.map_congr_left
  intro i _
  rw [Int.zero_add]
abbrev sWords : Stmt := top 18
abbrev sOrder : Stmt := top 19
theorem scWords : FnScope ["habit", "layout", "found", "layer", "later", "one", "place", "other"] ["habit", "layout"] (defScope sWords) := ⟨rfl, rfl, rfl, by decide +kernel, rfl, by decide +kernel, by decide +kernel⟩
theorem scOrder : FnScope ["habit"] ["habit"] (defScope sOrder) := ⟨rfl, rfl, rfl, by decide +kernel, rfl, by decide +kernel, by decide +kernel⟩
def spWords (T : Two) (K : PySem.W.Frag) : Sp := fun vs H Q _ => ∃ (a l : Addr) (n : Nat) (h : List (List Nat)), vs = [.ref a, .ref l] ∧ Hab K H a n h ∧ H l = some (.tup (pl (List.range n))) ∧ Tb T H ∧
  ∀ d kvs H', Ge T H H' → H' d = some (.dT kvs) → Jn.OrderIs n h kvs.length → Q (.ref d) H'
def spOrder (T : Two) (K : PySem.W.Frag) : Sp := fun vs H Q _ => ∃ (a : Addr) (n : Nat) (h : List (List Nat)), vs = [.ref a] ∧ Hab K H a n h ∧ Tb T H ∧ ∀ N H', Ge T H H' → Jn.OrderIs n h N → N ≤ 3125 → Q (.int (N : Nat)) H'
section
variable {P : Program} {w : World} {K : PySem.W.Frag} {mg : Str → Option Value} {base : Heap} {T : Two} {C : Addr}
theorem ok_words {f : Addr} {fd : FuncData} (F : Fun K "words_from" "words_from" sWords f fd) (B : Bl mg) (Ct : Callee P w K mg base CX0 1 "behind_touch" ["habit", "layout", "place"] (spTouch T K)) : FnOk P w K mg base CX0 2 f fd ["habit", "layout"] (spWords T K) := by
  refine F.ok scWords (fun vs H Q E h => ?_) (fun cdv A outer s H vs Q E hr h => ?_)
  · obtain ⟨a, l, n, h, rfl, _⟩ := h
    rfl
  · obtain ⟨a, l, n, h, rfl, hH, hL, tb, q⟩ := h
    have hu := hu_of hr
    refine ⟨_, pss_cons (ps_par (i := 2) (j := 3) rfl scWords.nd rfl rfl (by decide) rfl rfl (pa_cons (pe_dispT hu (pv 1) (pe_tup pa_nil)) (pa_cons (pe_lst (pa_cons (pv 1) pa_nil)) pa_nil)) (by rfl))
      (pss_cons (ps_while PassesOwn.never (pt_truth (pv 3) (by intro _; rfl))
        (pss_cons (ps_set (i := 4) scWords.nd rfl (.inl rfl) (pe_lst pa_nil))
        (pss_cons (ps_for PassesOwn.never rfl (pi_list (pv 3)) (pg_name (i := 5) scWords.nd rfl (.inl rfl))
          (pss_one (ps_for PassesOwn.never rfl (pi_range1 (by rfl) B.range (pa_cons (pe_callB call_len_seq (by rfl) B.len PySem.boot_len (pa_cons (pv 0) pa_nil)) pa_nil)) (pg_name (i := 6) scWords.nd rfl (.inl rfl))
            (pss_cons (ps_set (i := 7) scWords.nd rfl (.inl rfl) (pe_fn Ct hr (by decide) (by rfl) pass0 (pa_cons (pv 0) (pa_cons (pv 5) (pa_cons (pv 6) pa_nil)))))
            (pss_one (ps_if (pt_cmp (pc_dnotin hu (pv 7) (pv 2)))
              (pss_cons (ps_dput hu (pv 2) (pv 7) (pe_op op_catA (pe_dget hu (pv 2) (pv 5) (fun _ _ => rfl)) (pe_tup (pa_cons (pv 6) pa_nil))) rfl)
              (pss_one (ps_expr (pe_bm PySem.F.plainAttrs_list PySem.F.slot_list_append PySem.F.type_list_append mt_append (pv 4) (pa_cons (pv 7) pa_nil)))))
              pss_nil))))))
        (pss_one (ps_set (i := 3) scWords.nd rfl (.inl rfl) (pv 4))))))
      (pss_one (ps_ret (pv 2)))), ?_⟩
    intro d hd
    have g0 : Ge T H (upd H d (.dT [])) := Ge.new tb hd
    refine ⟨_, rfl, Nat.zero_le _, fun e he => ⟨l, keyN (List.range n), rfl, ?_, ?_, ?_⟩⟩
    · rw [upd_ne (fun z => by rw [← z, upd_same] at he; cases he)]
      exact upd_same
    · rw [keyN_kV]
      exact (Ge.new g0.t1 he).tup (g0.tup hL)
    have g1 : Ge T H (upd (upd H d (.dT [])) e (.tup [])) := g0.newR he
    have hde : d ≠ e := fun z => by rw [← z, upd_same] at he; cases he
    have hd1 : upd (upd H d (.dT [])) e (.tup []) d = some (.dT []) := by rw [upd_ne hde]; exact upd_same
    refine ⟨_, rfl, by show 1 ≤ sizeLine; decide, fun ly hly => ⟨_, _, rfl, ?_⟩⟩
    -- the state ahead of the loop
    have g2 : Ge T H (upd (upd (upd H d (.dT [])) e (.tup [])) d (.dT [(keyN (List.range n), .ref e)])) := g1.wrAny hd1 (fun _ z => by cases z) hd
    have g3 := g2.newR (o := .lst [V.ref l]) hly
    have hfree : H ly = none := g2.free hly
    have hdly : d ≠ ly := fun z => by rw [← z, upd_same] at hly; cases hly
    have hely : e ≠ ly := fun z => by rw [← z, upd_ne (Ne.symm hde), upd_same] at hly; cases hly
    have S0 : Srch T n h H (upd (upd (upd (upd H d (.dT [])) e (.tup [])) d (.dT [(keyN (List.range n), .ref e)])) ly (.lst [V.ref l])) d [(keyN (List.range n), .ref e)] [List.range n] := by
      refine ⟨g3, hd, by rw [upd_ne hdly, upd_same], rfl, by simp, fun x hx => ?_, fun p hp => ?_⟩
      · rw [List.mem_singleton.mp hx]
        exact ⟨[], (fun k hk => by cases hk), rfl⟩
      · rw [List.mem_singleton.mp hp]
        exact ⟨e, [], rfl, by rw [upd_ne hely, upd_ne (Ne.symm hde), upd_same], by simp⟩
    have R0 : RowsB (upd (upd (upd (upd H d (.dT [])) e (.tup [])) d (.dT [(keyN (List.range n), .ref e)])) ly (.lst [V.ref l])) ly [l] [List.range n] := by
      refine ⟨upd_same, rfl, fun j b m e1 e2 => ?_⟩
      have hj : j = 0 := by
        have := (List.getElem?_eq_some_iff.mp e1).1
        simpa using this
      subst hj
      have e3 : l = b := Option.some.inj e1
      have e4 : List.range n = m := Option.some.inj e2
      rw [← e3, ← e4]
      exact g3.tup hL
    generalize upd (upd (upd (upd H d (.dT [])) e (.tup [])) d (.dT [(keyN (List.range n), .ref e)])) ly (.lst [V.ref l]) = H4 at S0 R0 ⊢
    clear g0 g1 g2 g3 hd1 hely hde hly hdly he
    let cl : List (List Nat) → List Nat → Prop := fun L x => ∀ k, k < n → Jn.touch h x k ∈ L
    refine ⟨fun m σ H' => ∃ ly kvs L bs ls v4 v5 v6 v7, σ = [some (.ref a), some (.ref l), some (.ref d), some (.ref ly), v4, v5, v6, v7] ∧ Srch T n h H H' d kvs L ∧ RowsB H' ly bs ls ∧ H ly = none ∧ (∀ x ∈ ls, x ∈ L) ∧ List.range n ∈ L ∧ (∀ x ∈ L, x ∈ ls ∨ cl L x) ∧ m = (3125 - L.length) * 2 + (if ls = [] then 0 else 1),
      ⟨_, ly, _, _, _, _, none, none, none, none, rfl, S0, R0, hfree, fun x hx => hx, List.mem_singleton.mpr rfl, fun x hx => .inl hx, rfl⟩, ?_⟩
    rintro m σ H' ⟨ly, kvs, L, bs, ls, v4, v5, v6, v7, rfl, S, R, hly, hls, hid, hcl, rfl⟩
    refine ⟨_, rfl, !(bs.map V.ref).isEmpty, .inl ⟨_, SqL.of R.at_, rfl⟩, ?_⟩
    by_cases hne : ls = []
    · have hb : bs = [] := List.length_eq_zero_iff.mp (by rw [R.len, hne]; rfl)
      rw [hb]
      refine iteF ⟨_, rfl, q d kvs H' S.ge S.at_ ⟨L, S.nd, S.len.symm, fun x => ⟨S.made x, fun hx => ?_⟩⟩⟩
      obtain ⟨w', hw, ex⟩ := hx
      rw [← ex]
      refine Jn.found_all hid (fun y hy k hk => ?_) hw
      rcases hcl y hy with z | z
      · rw [hne] at z
        cases z
      · exact z k hk
    · have hb : bs ≠ [] := fun z => hne (List.length_eq_zero_iff.mp (by rw [← R.len, z]; rfl))
      have eb : (!(bs.map V.ref).isEmpty) = true := by
        cases bs with
        | nil => exact (hb rfl).elim
        | cons _ _ => rfl
      rw [eb, if_neg hne]
      refine iteT ⟨_, fun σ' H' z => z, ?_⟩
      -- later = []
      refine ⟨Nat.zero_le _, fun lt hlt => ?_⟩
      have hltf : H lt = none := S.ge.free hlt
      have hdlt : d ≠ lt := ne_of_none S.at_ hlt
      have hlylt : ly ≠ lt := ne_of_none R.at_ hlt
      have gl : Ge T H' (upd H' lt (.lst [])) := Ge.new S.ge.t1 hlt
      obtain ⟨as, hA, hlen⟩ := hH.1.len
      have hn5 := hH.2.five
      have hal : ((as.map V.ref).length : Int) = (n : Int) := by rw [List.length_map, hlen, hH.2.len]
      -- for one in layer
      refine ⟨_, rfl, ly, rfl, ⟨_, SqL.of (gl.lst R.at_)⟩, for_list (K := K) (a := ly) (xs := bs.map V.ref) (fun i σ H'' => ∃ kvs' L' cs ms v5 v6 v7, σ = [some (.ref a), some (.ref l), some (.ref d), some (.ref ly), some (.ref lt), v5, v6, v7] ∧
        Srch T n h H H'' d kvs' L' ∧ RowsB H'' ly bs ls ∧ RowsB H'' lt cs ms ∧ (∀ x ∈ ls, x ∈ L') ∧ (∀ x ∈ ms, x ∈ L') ∧ List.range n ∈ L' ∧ L'.length = L.length + ms.length ∧ ∀ x ∈ L', x ∈ ls.drop i ∨ x ∈ ms ∨ cl L' x)
        ⟨kvs, L, [], [], v5, v6, v7, rfl, S.step gl, R.ge gl, RowsB.nil upd_same, hls, (fun x hx => by cases hx), hid, rfl, fun x hx => (hcl x hx).elim .inl fun z => .inr (.inr z)⟩
        (fun i σ H'' _ ⟨_, _, _, _, _, _, _, _, _, R', _⟩ => SqL.of R'.at_) ?_ ?_⟩
      · rintro i x σ H'' hi ⟨kvs', L', cs, ms, v5, v6, v7, rfl, S', R', Rt, hls', hms, hid', hcount, hcl'⟩
        have hib : i < bs.length := by
          have := (List.getElem?_eq_some_iff.mp hi).1
          rw [List.length_map] at this
          exact this
        have hbi : bs[i]? = some bs[i] := List.getElem?_eq_getElem hib
        rw [List.getElem?_map, hbi] at hi
        have ex : V.ref bs[i] = x := Option.some.inj hi
        subst ex
        have hil : i < ls.length := by rw [← R'.len]; exact hib
        have hli : ls[i]? = some ls[i] := List.getElem?_eq_getElem hil
        have hone : ls[i] ∈ L' := hls' _ (List.getElem_mem hil)
        generalize hone0 : ls[i] = one at hone hli
        generalize hb0 : bs[i] = b at hbi
        have pone : Jn.IsPerm n one := (S'.made one hone).perm hH.2
        -- for place in range(len(habit))
        refine ⟨_, rfl, a, _, rfl, .inr (S'.ge.sqT hA), (n : Int), by rw [hal], by omega, by omega, ?_⟩
        rw [Int.toNat_natCast]
        refine for_range (lo := 0) (n := n) (fun k σ H3 => ∃ kvs' L' cs ms v6 v7, σ = [some (.ref a), some (.ref l), some (.ref d), some (.ref ly), some (.ref lt), some (.ref b), v6, v7] ∧
          Srch T n h H H3 d kvs' L' ∧ RowsB H3 ly bs ls ∧ RowsB H3 lt cs ms ∧ (∀ x ∈ ls, x ∈ L') ∧ (∀ x ∈ ms, x ∈ L') ∧ List.range n ∈ L' ∧ L'.length = L.length + ms.length ∧ (∀ x ∈ L', x ∈ ls.drop (i + 1) ∨ x ∈ ms ∨ cl L' x ∨ x = one) ∧ ∀ j, j < k → Jn.touch h one j ∈ L')
          ⟨kvs', L', cs, ms, v6, v7, rfl, S', R', Rt, hls', hms, hid', hcount, fun x hx => ?_, fun j hj => by omega⟩ ?_ ?_
        · rcases hcl' x hx with z | z | z
          · rw [List.drop_eq_getElem_cons hil, hone0] at z
            rcases List.mem_cons.mp z with z | z
            · exact .inr (.inr (.inr z))
            · exact .inl z
          · exact .inr (.inl z)
          · exact .inr (.inr (.inl z))
        · rintro k σ H3 hk ⟨kvs', L', cs, ms, v6, v7, rfl, S', R', Rt, hls', hms, hid', hcount, hcl', hdone⟩
          have hone : one ∈ L' := hls' one (by rw [← hone0]; exact List.getElem_mem hil)
          have hbt : H3 b = some (.tup (pl one)) := R'.row i b one hbi hli
          have ek : [V.ref a, V.ref b, V.int (0 + (k : Nat))] = [V.ref a, V.ref b, V.int (k : Int)] := by rw [Int.zero_add]
          refine ⟨_, rfl, _, rfl, _, rfl, a, b, n, h, one, k, ek, S'.ge.hab hH, SqT.of hbt, pone, hk, S'.ge.t1, fun p H4 g4 hp => ?_⟩
          have S4 := S'.step g4
          have R4 := R'.ge g4
          have Rt4 := Rt.ge g4
          refine ⟨_, rfl, _, rfl, d, _, rfl, DGet.t (k := keyN (Jn.touch h one k)) S4.at_ (by rw [keyN_kV]; exact hp), _, rfl, ?_⟩
          by_cases c : Jn.touch h one k ∈ L'
          · have e1 : (valV kvs' (keyN (Jn.touch h one k))).isSome = true := S4.has.mpr c
            rw [e1]
            refine iteF ⟨kvs', L', cs, ms, _, _, rfl, S4, R4, Rt4, hls', hms, hid', hcount, hcl', fun j hj => ?_⟩
            by_cases cj : j = k
            · rw [cj]
              exact c
            · exact hdone j (by omega)
          · have e1 : (valV kvs' (keyN (Jn.touch h one k))).isSome = false := by
              cases e : (valV kvs' (keyN (Jn.touch h one k))).isSome with
              | false => rfl
              | true => exact (c (S4.has.mp e)).elim
            rw [e1]
            have e2 : (valV kvs' (keyN one)).isSome = true := S4.has.mpr hone
            cases ev : valV kvs' (keyN one) with
            | none => rw [ev] at e2; cases e2
            | some v =>
              obtain ⟨bb, xs, e3, hbb, hxs⟩ := S4.vals _ (valV_mem ev)
              have e3' : v = .ref bb := e3
              subst e3'
              have few := S4.few hH.2
              have bt4 := g4.tup hbt
              have sz := sizeLine_eq
              have fin : ∀ (r : Addr) (H5 : Hp) (ys : List V), Ge T H4 H5 → H5 r = some (.tup ys) → ys.length < L'.length + 1 →
                  ∃ kvs'' L'' cs' ms' v6' v7', [some (V.ref a), some (.ref l), some (.ref d), some (.ref ly), some (.ref lt), some (.ref b), some (.int (0 + (k : Nat))), some (.ref p)] = [some (V.ref a), some (.ref l), some (.ref d), some (.ref ly), some (.ref lt), some (.ref b), v6', v7'] ∧
                    Srch T n h H (upd (upd H5 d (.dT (putK kvs' (keyN (Jn.touch h one k)) (.ref r)))) lt (.lst (cs.map V.ref ++ [.ref p]))) d kvs'' L'' ∧ RowsB (upd (upd H5 d (.dT (putK kvs' (keyN (Jn.touch h one k)) (.ref r)))) lt (.lst (cs.map V.ref ++ [.ref p]))) ly bs ls ∧
                    RowsB (upd (upd H5 d (.dT (putK kvs' (keyN (Jn.touch h one k)) (.ref r)))) lt (.lst (cs.map V.ref ++ [.ref p]))) lt cs' ms' ∧ (∀ x ∈ ls, x ∈ L'') ∧ (∀ x ∈ ms', x ∈ L'') ∧ List.range n ∈ L'' ∧ L''.length = L.length + ms'.length ∧ (∀ x ∈ L'', x ∈ ls.drop (i + 1) ∨ x ∈ ms' ∨ cl L'' x ∨ x = one) ∧ ∀ j, j < k + 1 → Jn.touch h one j ∈ L'' := by
                intro r H5 ys g5 hr5 hys
                have S5 := S4.step g5
                have S6 := S5.put c ((S5.made one hone).step hk) hr5 hys
                have mono : ∀ x, x ∈ L' → x ∈ L' ++ [Jn.touch h one k] := fun x hx => List.mem_append_left _ hx
                have here : Jn.touch h one k ∈ L' ++ [Jn.touch h one k] := List.mem_append_right _ (List.mem_singleton.mpr rfl)
                have Rt6 : RowsB (upd H5 d (.dT (putK kvs' (keyN (Jn.touch h one k)) (.ref r)))) lt cs ms := (Rt4.ge g5).wr S5.at_ (fun _ z => by cases z) (Ne.symm hdlt)
                have R6 : RowsB (upd H5 d (.dT (putK kvs' (keyN (Jn.touch h one k)) (.ref r)))) ly bs ls := (R4.ge g5).wr S5.at_ (fun _ z => by cases z) (fun z => by have := R4.at_; rw [z, S4.at_] at this; cases this)
                refine ⟨_, L' ++ [Jn.touch h one k], cs ++ [p], ms ++ [Jn.touch h one k], _, _, rfl, S6.wr Rt6.at_ (fun _ z => by cases z) (fun _ z => by cases z) hltf hdlt, R6.wr Rt6.at_ (fun _ z => by cases z) hlylt, Rt6.snoc (upd_tup (g5.tup hp) S5.at_ (fun _ z => by cases z)),
                  fun x hx => mono x (hls' x hx), fun x hx => ?_, mono _ hid', by rw [List.length_append, List.length_append, hcount]; simp only [List.length_cons, List.length_nil]; omega, fun x hx => ?_, fun j hj => ?_⟩
                · rcases List.mem_append.mp hx with z | z
                  · exact mono x (hms x z)
                  · rw [List.mem_singleton.mp z]
                    exact here
                · rcases List.mem_append.mp hx with z | z
                  · rcases hcl' x z with z | z | z | z
                    · exact .inl z
                    · exact .inr (.inl (List.mem_append_left _ z))
                    · exact .inr (.inr (.inl fun k' hk' => mono _ (z k' hk')))
                    · exact .inr (.inr (.inr z))
                  · exact .inr (.inl (List.mem_append_right _ z))
                · by_cases cj : j = k
                  · rw [cj]
                    exact here
                  · exact mono _ (hdone j (by omega))
              have hkl : kvs'.length < sizeLine := by rw [S4.len]; omega
              have hml : (cs.map V.ref).length < sizeLine := by
                have := Rt4.len
                rw [List.length_map]
                omega
              refine iteT ⟨_, rfl, _, rfl, d, .ref bb, rfl, ev ▸ DGet.t (k := keyN one) S4.at_ (by rw [keyN_kV]; exact bt4), _, rfl, by show 1 ≤ sizeLine; omega, fun t ht => ?_⟩
              have g5 := Ge.new (T := T) (o := .tup [V.int (0 + (k : Nat))]) S4.ge.t1 ht
              refine ⟨bb, t, xs, _, rfl, rfl, SqT.of (g5.tup hbb), SqT.of upd_same, by show xs.length + 1 ≤ sizeLine; omega, fun e0 => ?_, (fun _ e => nomatch e), fun _ _ r hr5 => ?_⟩
              · have Sx := S4.step g5
                refine ⟨_, rfl, _, rfl, d, _, rfl, DPut.t (k := keyN (Jn.touch h one k)) Sx.at_ (by rw [keyN_kV]; exact g5.tup hp) hkl, ?_⟩
                have Rx : RowsB (upd (upd H4 t (.tup [V.int (0 + (k : Nat))])) d (.dT (putK kvs' (keyN (Jn.touch h one k)) (.ref t)))) lt cs ms := (Rt4.ge g5).wr Sx.at_ (fun _ z => by cases z) (Ne.symm hdlt)
                exact ⟨_, rfl, .inl ⟨rfl, _, SqL.of Rx.at_⟩, _, rfl, lt, _, _, rfl, rfl, Rx.at_, hml, fin t _ _ g5 upd_same (by simp; omega)⟩
              · have g6 := g5.newR (o := .tup (xs ++ [V.int (0 + (k : Nat))])) hr5
                have Sx := S4.step g6
                refine ⟨_, rfl, _, rfl, d, _, rfl, DPut.t (k := keyN (Jn.touch h one k)) Sx.at_ (by rw [keyN_kV]; exact g6.tup hp) hkl, ?_⟩
                have Rx : RowsB (upd (upd (upd H4 t (.tup [V.int (0 + (k : Nat))])) r (.tup (xs ++ [V.int (0 + (k : Nat))]))) d (.dT (putK kvs' (keyN (Jn.touch h one k)) (.ref r)))) lt cs ms := (Rt4.ge g6).wr Sx.at_ (fun _ z => by cases z) (Ne.symm hdlt)
                exact ⟨_, rfl, .inl ⟨rfl, _, SqL.of Rx.at_⟩, _, rfl, lt, _, _, rfl, rfl, Rx.at_, hml, fin r _ _ g6 upd_same (by rw [List.length_append]; simp only [List.length_cons, List.length_nil]; omega)⟩
        · rintro σ H3 ⟨kvs', L', cs, ms, v6, v7, rfl, S', R', Rt, hls', hms, hid', hcount, hcl', hdone⟩
          refine ⟨kvs', L', cs, ms, _, _, _, rfl, S', R', Rt, hls', hms, hid', hcount, fun x hx => ?_⟩
          rcases hcl' x hx with z | z | z | z
          · exact .inl z
          · exact .inr (.inl z)
          · exact .inr (.inr z)
          · rw [z]
            exact .inr (.inr hdone)
      · rintro σ H'' ⟨kvs', L', cs, ms, v5, v6, v7, rfl, S', R', Rt, hls', hms, hid', hcount, hcl'⟩
        have few := S'.few hH.2
        refine ⟨_, rfl, (3125 - L'.length) * 2 + (if ms = [] then 0 else 1), ?_, lt, kvs', L', cs, ms, _, _, _, _, rfl, S', Rt, hltf, hms, hid', fun x hx => ?_, rfl⟩
        · by_cases e : ms = []
          · rw [if_pos e]
            rw [e] at hcount
            simp only [List.length_nil] at hcount
            omega
          · rw [if_neg e]
            have : 0 < ms.length := List.length_pos_iff.mpr e
            omega
        · rcases hcl' x hx with z | z | z
          · rw [List.length_map, R'.len, List.drop_length] at z
            cases z
          · exact .inl z
          · exact .inr z
end
end JX
end
section
set_option Elab.async false
set_option linter.all false
set_option maxRecDepth 100000
set_option maxHeartbeats 8000000
namespace JX
open PySem PySem.Spec PyProof.Rows L2
section
variable {P : Program} {w : World} {K : PySem.W.Frag} {mg : Str → Option Value} {base : Heap} {T : Two} {C : Addr}
/-- a habit's rows, for need_habit -/
theorem hab_rows {H : Hp} {a : Addr} {n : Nat} {h : List (List Nat)} (hH : Hab K H a n h) : RowsZ K H a (h.map zs) ∧ 2 ≤ (h.map zs).length ∧ (h.map zs).length ≤ 5 ∧ (∀ m ∈ h.map zs, m.length ≤ 1000) ∧ ((h.map zs).all fun m => permB m ((h.map zs).length : Int)) = true := by
  have h5 := hH.2.five
  have h2 := hH.2.two
  refine ⟨RowsZ.of hH.1, by rw [List.length_map, hH.2.len]; exact h2, by rw [List.length_map, hH.2.len]; exact h5, fun m hm => ?_, ?_⟩
  · obtain ⟨m0, h0, rfl⟩ := List.mem_map.mp hm
    rw [zs_len, (hH.2.perm m0 h0).len]
    omega
  · rw [List.all_eq_true]
    intro m hm
    obtain ⟨m0, h0, rfl⟩ := List.mem_map.mp hm
    rw [List.length_map, hH.2.len]
    exact permB_zs.mpr (hH.2.perm m0 h0)
theorem ok_order {f : Addr} {fd : FuncData} (F : Fun K "order" "order" sOrder f fd) (B : Bl mg) (Ch : Callee P w K mg base (L2.CX P w) 4 "need_habit" ["value"] (spHabit T K C)) (Cw : Callee P w K mg base CX0 2 "words_from" ["habit", "layout"] (spWords T K)) :
    FnOk P w K mg base CX0 5 f fd ["habit"] (spOrder T K) := by
  refine F.ok scOrder (fun vs H Q E h => ?_) (fun cdv A outer s H vs Q E hr h => ?_)
  · obtain ⟨a, n, h, rfl, _⟩ := h
    rfl
  · obtain ⟨a, n, h, rfl, hH, tb, q⟩ := h
    obtain ⟨as, hA, hlen⟩ := hH.1.len
    have h5 := hH.2.five
    have hal : ((as.map V.ref).length : Int) = (n : Int) := by rw [List.length_map, hlen, hH.2.len]
    refine ⟨_, pss_cons (ps_expr (pe_fn Ch hr (by decide) (by rfl) passL (pa_cons (pv 0) pa_nil)))
      (pss_one (ps_ret (pe_callB call_len_dT (by rfl) B.len PySem.boot_len (pa_cons (pe_fn Cw hr (by decide) (by rfl) pass0 (pa_cons (pv 0) (pa_cons (pe_tupRg rfl (by rfl) B.tuple (prg_1 (by rfl) B.range (pe_callB call_len_seq (by rfl) B.len PySem.boot_len (pa_cons (pv 0) pa_nil)))) pa_nil))) pa_nil)))), ?_⟩
    obtain ⟨r1, r2, r3, r4, r5⟩ := hab_rows hH
    refine ⟨_, rfl, _, rfl, tb, .inl ⟨a, h.map zs, rfl, r1, r2, r3, r4, fun _ H1 g1 => ?_, fun e => (by rw [r5] at e; cases e)⟩⟩
    refine ⟨_, rfl, _, rfl, a, _, rfl, .inr (g1.sqT hA), (n : Int), by rw [hal], RgOk.of_le (Int.le_refl _) (by omega) (by omega) (by omega), fun p hp => ?_⟩
    rw [rgV_pl]
    have g2 := g1.newR (o := .tup (pl (List.range n))) hp
    exact ⟨a, p, n, h, rfl, g2.hab hH, upd_same, g2.t1, fun d kvs H3 g3 hd ho => ⟨d, kvs, rfl, hd, q _ H3 (g2.trans g3) ho (by
      obtain ⟨L, l1, l2, l3⟩ := ho
      rw [← l2]
      exact Jn.found_few h5 l1 fun x hx => ((l3 x).mp hx).perm hH.2)⟩⟩
end
end JX
end
section
set_option Elab.async false
set_option linter.all false
set_option maxRecDepth 100000
set_option maxHeartbeats 8000000
namespace JX
open PySem PySem.Spec PyProof.Rows L2
/-! ### beside -/
theorem rgV_pl2 (n m : Nat) : rgV (n : Int) ((n : Int) + (m : Int)) = pl ((List.range m).map (n + ·)) := by
  unfold rgV pl
  rw [show ((n : Int) + (m : Int) - (n : Int)).toNat = m by omega, List.map_map]
  apply List.map_congr_left
  intro i _
  show V.int ((n : Int) + (i : Nat)) = V.int (((n + i : Nat)) : Int)
  rw [Int.natCast_add]
theorem RowsB.more {H : Hp} {l b : Addr} {bs : List Addr} {L : List (List Nat)} {k : Nat} (r : RowsB H l bs (L.take k)) (hk : k < L.length) (hb : H b = some (.tup (pl (Jn.row L k)))) : RowsB (upd H l (.lst (bs.map V.ref ++ [.ref b]))) l (bs ++ [b]) (L.take (k + 1)) := by
  rw [take_more (Jn.row_get? hk)]
  exact r.snoc hb
theorem RowsB.tupH {K : PySem.W.Frag} {H : Hp} {l p : Addr} {bs : List Addr} {ls : List (List Nat)} (r : RowsB H l bs ls) (hp : H p = none) : TupH K (upd H p (.tup (bs.map V.ref))) p ls :=
  ⟨bs, SqT.of upd_same, r.len, fun i b m e1 e2 => SqT.of (by rw [upd_ne (ne_of_none (r.row i b m e1 e2) hp)]; exact r.row i b m e1 e2)⟩
theorem RowsB.few {H : Hp} {l : Addr} {bs : List Addr} {ls : List (List Nat)} (r : RowsB H l bs ls) (h : ls.length ≤ 1000) : (bs.map V.ref).length < sizeLine := by
  rw [List.length_map, r.len]
  exact small1000 h
theorem TupH.item {K : PySem.W.Frag} {H : Hp} {hs : List (List Nat)} {as : List Addr} {i : Nat} {x : V} (h3 : ∀ (i : Nat) (p : Addr) (m : List Nat), as[i]? = some p → hs[i]? = some m → TupN K H p m) (h2 : as.length = hs.length) (e : (as.map V.ref)[i]? = some x) :
    i < hs.length ∧ ∃ p, x = .ref p ∧ TupN K H p (Jn.row hs i) := by
  rw [List.getElem?_map] at e
  cases e1 : as[i]? with
  | none => rw [e1] at e; cases e
  | some p =>
    rw [e1] at e
    have hi := (List.getElem?_eq_some_iff.mp e1).1
    have hi2 : i < hs.length := by omega
    exact ⟨hi2, p, (Option.some.inj e).symm, h3 i p _ e1 (Jn.row_get? hi2)⟩
theorem pl_ne {ns : List Nat} (h : 0 < ns.length) : pl ns ≠ [] := by
  intro z
  have := congrArg List.length z
  rw [pl_len, List.length_nil] at this
  omega
abbrev sBeside : Stmt := top 21
theorem scBeside : FnScope ["one", "other", "many", "more", "moved", "found", "stands"] ["one", "other"] (defScope sBeside) := ⟨rfl, rfl, rfl, by decide +kernel, rfl, by decide +kernel, by decide +kernel⟩
def spBeside (T : Two) (K : PySem.W.Frag) (CM : Addr) : Sp := fun vs H Q E => ∃ (a b : Addr) (n m : Nat) (g h : List (List Nat)), vs = [.ref a, .ref b] ∧ Hab K H a n g ∧ Hab K H b m h ∧ Tb T H ∧
  (n + m ≤ 5 → ∀ p H', Ge T H H' → TupH K H' p (Jn.beside g h) → Q (.ref p) H') ∧ (5 < n + m → ∀ d H', Ge T H H' → H' d = some (.xd [("most", .int 5)]) → E (.ref CM) (some d) H')
section
variable {P : Program} {w : World} {K : PySem.W.Frag} {mg : Str → Option Value} {base : Heap} {T : Two} {C CM : Addr}
theorem ok_beside {f : Addr} {fd : FuncData} (F : Fun K "beside" "beside" sBeside f fd) (B : Bl mg) (S : Cs mg) (O : Oex P w K mg base "TooMany" "most" CM) (Ch : Callee P w K mg base (L2.CX P w) 4 "need_habit" ["value"] (spHabit T K C)) :
    FnOk P w K mg base (L2.CX P w) 5 f fd ["one", "other"] (spBeside T K CM) := by
  refine F.okX scBeside (fun vs H Q E h => ?_) (fun cdv A outer s H vs Q E hr h => ?_)
  · obtain ⟨a, b, n, m, g, h, rfl, _⟩ := h
    rfl
  · obtain ⟨a, b, n, m, g, h, rfl, hA, hB, tb, qy, qn⟩ := h
    obtain ⟨t2, m2⟩ := S.most
    obtain ⟨as, hAs, hAl, hAr⟩ := id hA.1
    obtain ⟨bs, hBs, hBl, hBr⟩ := id hB.1
    have n2 := hA.2.two
    have m2' := hB.2.two
    have n5 := hA.2.five
    have m5 := hB.2.five
    have gl := hA.2.len
    have hl := hB.2.len
    have ea : ((as.map V.ref).length : Int) = (n : Int) := by rw [List.length_map, hAl, gl]
    have eb : ((bs.map V.ref).length : Int) = (m : Int) := by rw [List.length_map, hBl, hl]
    refine ⟨_, pss_cons (ps_expr (pe_fn Ch hr (by decide) (by rfl) passL (pa_cons (pv 0) pa_nil)))
      (pss_cons (ps_expr (pe_fn Ch hr (by decide) (by rfl) passL (pa_cons (pv 1) pa_nil)))
      (pss_cons (ps_asg (pe_tup (pa_cons (pe_callB call_len_seq (by rfl) B.len PySem.boot_len (pa_cons (pv 0) pa_nil)) (pa_cons (pe_callB call_len_seq (by rfl) B.len PySem.boot_len (pa_cons (pv 1) pa_nil)) pa_nil)))
          (pg_tup rfl (pgs_cons (pg_name (i := 2) scBeside.nd rfl (.inr rfl)) (pgs_cons (pg_name (i := 3) scBeside.nd rfl (.inr rfl)) pgs_nil))))
      (pss_cons (ps_if (pt_cmpR op_gt (pe_op op_add (pv 2) (pv 3)) (pe_glob (v := .int 5) (by rfl) m2 ⟨_, rfl⟩) (nomark _)) (pss_one (ps_raise rfl (takes_of rfl rfl rfl rfl) (pmk_init O hr (by rfl) (pe_glob (v := .int 5) (by rfl) m2 ⟨_, rfl⟩)))) pss_nil)
      (pss_cons (ps_setLc (i := 5) (own := [("moved", 4)]) (g := gName 4) (tt := tYes) (te := tOp (rCatA K) (tVar 4) (tTupRg (tRg2 (tVar 2) (tOp (rI0 fun i j => .int (i + j)) (tVar 2) (tVar 3))))) rfl scBeside.nd rfl rfl (sw_true rfl rfl rfl (by decide +kernel)) (pi_tup (pv 0)) (blkOk_by (N := ["one", "other", "many", "more", "moved", "found", "stands"]) (sc := defScope sBeside) (by decide +kernel))
        (fun _ _ _ _ _ => pg_name (i := 4) scBeside.nd rfl (.inl rfl)) (fun _ _ _ _ _ => pts_nil) (fun _ _ _ _ _ => pe_op op_catA (pv 4) (pe_tupRg rfl (by rfl) B.tuple (prg_2 (by rfl) B.range (pv 2) (pe_op op_add (pv 2) (pv 3))))))
      (pss_cons (ps_for (passes_of rfl) rfl (pi_tup (pv 1)) (pg_name (i := 4) scBeside.nd rfl (.inl rfl))
        (pss_one (ps_expr (pe_bm PySem.F.plainAttrs_list PySem.F.slot_list_append PySem.F.type_list_append mt_append (pv 5) (pa_cons (pe_op op_catA (pe_tupRg rfl (by rfl) B.tuple (prg_1 (by rfl) B.range (pv 2)))
          (pe_callTy call_tuple_of (by rfl) B.tuple (by decide +kernel) (pa_cons (pe_lc (own := [("stands", 6)]) (g := gName 6) (tt := tYes) (te := tOp (rI0 fun i j => .int (i + j)) (tVar 2) (tVar 6)) rfl scBeside.nd (pi_tup (pv 4)) (blkOk_by (N := ["one", "other", "many", "more", "moved", "found", "stands"]) (sc := defScope sBeside) (by decide +kernel))
            (fun _ _ _ _ _ => pg_name (i := 6) scBeside.nd rfl (.inl rfl)) (fun _ _ _ _ _ => pts_nil) (fun _ _ _ _ _ => pe_op op_add (pv 2) (pv 6))) pa_nil))) pa_nil)))))
      (pss_one (ps_ret (pe_callTy call_tuple_of (by rfl) B.tuple (by decide +kernel) (pa_cons (pv 5) pa_nil)))))))))
      , ?_⟩
    obtain ⟨r1, r2, r3, r4, r5⟩ := hab_rows hA
    refine ⟨_, rfl, _, rfl, tb, .inl ⟨a, g.map zs, rfl, r1, r2, r3, r4, fun _ H1 g1 => ?_, fun e => (by rw [r5] at e; cases e)⟩⟩
    obtain ⟨r1, r2, r3, r4, r5⟩ := hab_rows (g1.hab hB)
    refine ⟨_, rfl, _, rfl, g1.t1, .inl ⟨b, h.map zs, rfl, r1, r2, r3, r4, fun _ H2 g2 => ?_, fun e => (by rw [r5] at e; cases e)⟩⟩
    have g3 := g1.trans g2
    refine ⟨_, rfl, a, _, rfl, .inr (g3.sqT hAs), _, rfl, b, _, rfl, .inr (g3.sqT hBs), by show 2 ≤ sizeLine; decide, fun t ht => ?_⟩
    rw [ea, eb]
    have g4 := g3.newR (o := .tup [.int (n : Int), .int (m : Int)]) ht
    refine ⟨t, _, rfl, SqT.of upd_same, rfl, _, _, rfl, _, _, rfl, rfl, ?_⟩
    generalize upd H2 t (.tup [.int (n : Int), .int (m : Int)]) = H4 at g4 ⊢
    refine ⟨_, rfl, _, rfl, _, _, rfl, rfl, _, _, rfl, rfl, _, rfl, ?_⟩
    by_cases big : n + m ≤ 5
    case neg =>
      have e1 : decide ((5 : Int) < (n : Int) + (m : Int)) = true := decide_eq_true (by omega)
      rw [e1]
      exact iteT fun d hd => qn (by omega) d _ (g4.newR hd) upd_same
    have e1 : decide ((5 : Int) < (n : Int) + (m : Int)) = false := decide_eq_false (by omega)
    rw [e1]
    have bl := Jn.beside_len g h
    refine iteF ⟨_, rfl, a, rfl, ⟨_, g4.sqT hAs⟩, fun D hD => lc_tup (K := K) (a := a) (xs := as.map V.ref) (fun i H' => ∃ cs, Ge T H H' ∧ RowsB H' D cs ((Jn.beside g h).take i)) ⟨[], g4.newR hD, RowsB.nil upd_same⟩
      (fun i H' _ ⟨_, gg, _⟩ => gg.sqT hAs) ?_ ?_⟩
    · rintro i x H' hi ⟨cs, gg, R⟩
      obtain ⟨hi2, p, rfl, hp⟩ := TupH.item hAr hAl hi
      have pi := hA.2.row (k := i) (by omega)
      refine ⟨rfl, ?_⟩
      refine ⟨_, rfl, _, rfl, _, rfl, _, rfl, _, _, rfl, rfl, _, _, rfl, rfl, RgOk.of_le (by omega) (by omega) (by omega) (by omega), fun q hq => ?_⟩
      rw [rgV_pl2]
      have g5 := gg.newR (o := .tup (pl ((List.range m).map (n + ·)))) hq
      refine ⟨p, q, pl (Jn.row g i), pl ((List.range m).map (n + ·)), rfl, rfl, g5.tupN (hp), SqT.of upd_same, ?_, fun z => (pl_ne (by rw [pi.len]; omega) z).elim, fun _ z => (pl_ne (by rw [List.length_map, List.length_range]; omega) z).elim, fun _ _ r hr2 => ?_⟩
      · rw [pl_len, pl_len, pi.len, List.length_map, List.length_range]
        exact Nat.le_of_lt (small1000 (by omega))
      · have R1 := (R.ge (Ge.new gg.t1 hq)).ge (Ge.new (o := .tup (pl (Jn.row g i) ++ pl ((List.range m).map (n + ·)))) g5.t1 hr2)
        refine ⟨_, R1.at_, R1.few (by rw [List.length_take]; omega), cs ++ [r], (g5.newR hr2).wr R1.at_ (g4.free hD), ?_⟩
        refine R1.more (by omega) ?_
        rw [upd_same, ← pl_app, Jn.beside_row_l hi2, gl, hl]
    · rintro H5 ⟨cs, gg, R⟩
      rw [List.length_map, hAl] at R
      refine ⟨_, rfl, b, rfl, ⟨_, gg.sqT hBs⟩, for_tup (K := K) (a := b) (xs := bs.map V.ref) (fun i σ H' => ∃ cs v4, σ = [some (.ref a), some (.ref b), some (.int (n : Int)), some (.int (m : Int)), v4, some (.ref D), none] ∧ Ge T H H' ∧ RowsB H' D cs ((Jn.beside g h).take (n + i)))
        ⟨cs, _, rfl, gg, by rw [Nat.add_zero, ← gl]; exact R⟩ (fun i σ H' _ ⟨_, _, _, gg, _⟩ => gg.sqT hBs) ?_ ?_⟩
      · rintro i x σ H' hi ⟨cs, v4, rfl, gg, R⟩
        obtain ⟨hi2, p, rfl, hp⟩ := TupH.item hBr hBl hi
        have pi := hB.2.row (k := i) (by omega)
        have hpi : (Jn.row h i).length = m := pi.len
        refine ⟨_, rfl, .inl ⟨rfl, _, SqL.of R.at_⟩, _, rfl, _, rfl, RgOk.of_le (by omega) (by omega) (by omega) (by omega), fun q hq => ?_⟩
        rw [rgV_pl]
        have g5 := gg.newR (o := .tup (pl (List.range n))) hq
        have hq5 : upd H' q (.tup (pl (List.range n))) q = some (.tup (pl (List.range n))) := upd_same
        have R5 := R.ge (Ge.new (o := .tup (pl (List.range n))) gg.t1 hq)
        generalize upd H' q (.tup (pl (List.range n))) = H6 at g5 hq5 R5 ⊢
        refine ⟨_, rfl, p, rfl, ⟨_, g5.tupN hp⟩, fun D2 hD2 => lc_tup (K := K) (a := p) (xs := pl (Jn.row h i)) (fun j H7 => Ge T H6 H7 ∧ H7 D2 = some (.lst (pl (((Jn.row h i).map (n + ·)).take j)))) ⟨Ge.new g5.t1 hD2, upd_same⟩
          (fun j H7 _ z => (g5.trans z.1).tupN hp) ?_ ?_⟩
        · rintro j x H7 hj ⟨g7, hD7⟩
          obtain ⟨hjl, rfl⟩ := pl_some hj
          refine ⟨rfl, _, rfl, _, rfl, _, _, rfl, rfl, _, hD7, pl_small (by rw [List.length_map]; omega) j, g7.wr hD7 hD2, ?_⟩
          have hjl2 : j < ((Jn.row h i).map (n + ·)).length := by rw [List.length_map]; exact hjl
          rw [upd_same, ← pl_take_more hjl2, Jn.getD_map hjl, Int.natCast_add]
        · rintro H7 ⟨g7, hD7⟩
          rw [pl_len, ← List.length_map (f := (n + ·)) (as := Jn.row h i), List.take_length] at hD7
          refine ⟨D2, _, rfl, .inl ⟨SqL.of hD7, fun l hl7 => ?_⟩⟩
          have g8 := g7.newR (o := .tup (pl ((Jn.row h i).map (n + ·)))) hl7
          refine ⟨q, l, pl (List.range n), pl ((Jn.row h i).map (n + ·)), rfl, rfl, SqT.of (g8.tup hq5), SqT.of upd_same, ?_, fun z => (pl_ne (by rw [List.length_range]; omega) z).elim, fun _ z => (pl_ne (by rw [List.length_map]; omega) z).elim, fun _ _ r hr2 => ?_⟩
          · rw [pl_len, pl_len, List.length_map, List.length_range]
            exact Nat.le_of_lt (small1000 (by omega))
          · have g9 := g8.newR (o := .tup (pl (List.range n) ++ pl ((Jn.row h i).map (n + ·)))) hr2
            have R9 := R5.ge g9
            refine ⟨D, _, _, rfl, rfl, R9.at_, R9.few (by rw [List.length_take]; omega), cs ++ [r], _, rfl, (g5.trans g9).wr R9.at_ (g4.free hD), ?_⟩
            refine R9.more (by omega) ?_
            rw [upd_same, ← pl_app, ← gl, Jn.beside_row_r hi2]
      · rintro σ H' ⟨cs, v4, rfl, gg, R⟩
        rw [List.length_map, hBl, List.take_of_length_le (by omega)] at R
        exact ⟨_, rfl, D, _, rfl, .inl ⟨SqL.of R.at_, fun p hp => qy big p _ (gg.newR hp) (R.tupH hp)⟩⟩
end
end JX
end
section
set_option Elab.async false
set_option linter.all false
set_option maxRecDepth 100000
set_option maxHeartbeats 8000000
namespace JX
open PySem PySem.Spec PyProof.Rows L2
/-! ### within -/
abbrev sWithin : Stmt := top 22
theorem scWithin : FnScope ["outer", "inner", "many", "more", "found", "place", "spot", "moved", "stands", "spots", "later"] ["outer", "inner"] (defScope sWithin) := ⟨rfl, rfl, rfl, by decide +kernel, rfl, by decide +kernel, by decide +kernel⟩
def spWithin (T : Two) (K : PySem.W.Frag) (CM : Addr) : Sp := fun vs H Q E => ∃ (a b : Addr) (n m : Nat) (g h : List (List Nat)), vs = [.ref a, .ref b] ∧ Hab K H a n g ∧ Hab K H b m h ∧ Tb T H ∧
  (n * m ≤ 5 → ∀ p H', Ge T H H' → TupH K H' p (Jn.within g h) → Q (.ref p) H') ∧ (5 < n * m → ∀ d H', Ge T H H' → H' d = some (.xd [("most", .int 5)]) → E (.ref CM) (some d) H')
section
variable {P : Program} {w : World} {K : PySem.W.Frag} {mg : Str → Option Value} {base : Heap} {T : Two} {C CM : Addr}
theorem ok_within {f : Addr} {fd : FuncData} (F : Fun K "within" "within" sWithin f fd) (B : Bl mg) (S : Cs mg) (O : Oex P w K mg base "TooMany" "most" CM) (Ch : Callee P w K mg base (L2.CX P w) 4 "need_habit" ["value"] (spHabit T K C)) :
    FnOk P w K mg base (L2.CX P w) 5 f fd ["outer", "inner"] (spWithin T K CM) := by
  refine F.okX scWithin (fun vs H Q E h => ?_) (fun cdv A outer s H vs Q E hr h => ?_)
  · obtain ⟨a, b, n, m, g, h, rfl, _⟩ := h
    rfl
  · obtain ⟨a, b, n, m, g, h, rfl, hA, hB, tb, qy, qn⟩ := h
    obtain ⟨t2, m2⟩ := S.most
    obtain ⟨as, hAs, hAl, hAr⟩ := id hA.1
    obtain ⟨bs, hBs, hBl, hBr⟩ := id hB.1
    have n2 := hA.2.two
    have m2' := hB.2.two
    have n5 := hA.2.five
    have m5 := hB.2.five
    have gl := hA.2.len
    have hl := hB.2.len
    have ea : ((as.map V.ref).length : Int) = (n : Int) := by rw [List.length_map, hAl, gl]
    have eb : ((bs.map V.ref).length : Int) = (m : Int) := by rw [List.length_map, hBl, hl]
    refine ⟨_, pss_cons (ps_expr (pe_fn Ch hr (by decide) (by rfl) passL (pa_cons (pv 0) pa_nil)))
      (pss_cons (ps_expr (pe_fn Ch hr (by decide) (by rfl) passL (pa_cons (pv 1) pa_nil)))
      (pss_cons (ps_par (i := 2) (j := 3) rfl scWithin.nd rfl rfl (by decide) rfl rfl (pa_cons (pe_callB call_len_seq (by rfl) B.len PySem.boot_len (pa_cons (pv 0) pa_nil)) (pa_cons (pe_callB call_len_seq (by rfl) B.len PySem.boot_len (pa_cons (pv 1) pa_nil)) pa_nil)) (by rfl))
      (pss_cons (ps_if (pt_cmpR op_gt (pe_op op_mul (pv 2) (pv 3)) (pe_glob (v := .int 5) (by rfl) m2 ⟨_, rfl⟩) (nomark _)) (pss_one (ps_raise rfl (takes_of rfl rfl rfl rfl) (pmk_init O hr (by rfl) (pe_glob (v := .int 5) (by rfl) m2 ⟨_, rfl⟩)))) pss_nil)
      (pss_cons (ps_set (i := 4) scWithin.nd rfl (.inl rfl) (pe_lst pa_nil))
      (pss_cons (ps_for (passes_of rfl) rfl (pi_range1 (by rfl) B.range (pa_cons (pv 2) pa_nil)) (pg_name (i := 5) scWithin.nd rfl (.inl rfl))
        (pss_one (ps_for (passes_of rfl) rfl (pi_range1 (by rfl) B.range (pa_cons (pv 3) pa_nil)) (pg_name (i := 6) scWithin.nd rfl (.inl rfl))
          (pss_cons (ps_set (i := 7) scWithin.nd rfl (.inl rfl) (pe_lst pa_nil))
          (pss_cons (ps_for (passes_of rfl) rfl (pi_range1 (by rfl) B.range (pa_cons (pv 2) pa_nil)) (pg_name (i := 8) scWithin.nd rfl (.inl rfl))
            (pss_one (ps_for (passes_of rfl) rfl (pi_range1 (by rfl) B.range (pa_cons (pv 3) pa_nil)) (pg_name (i := 9) scWithin.nd rfl (.inl rfl))
              (pss_cons (ps_set (i := 10) scWithin.nd rfl (.inl rfl) (pe_ifExp (pt_cmpR op_eq (pv 8) (pv 5) (nomark _)) (pe_ix ix_tup (pe_ix ix_tup (pv 1) (pv 6) (fun _ _ => rfl)) (pv 9) (fun _ _ => rfl)) (pv 9)))
              (pss_one (ps_expr (pe_bm PySem.F.plainAttrs_list PySem.F.slot_list_append PySem.F.type_list_append mt_append (pv 7) (pa_cons (pe_op op_add (pe_op op_mul (pe_ix ix_tup (pe_ix ix_tup (pv 0) (pv 5) (fun _ _ => rfl)) (pv 8) (fun _ _ => rfl)) (pv 3)) (pv 10)) pa_nil))))))))
          (pss_one (ps_expr (pe_bm PySem.F.plainAttrs_list PySem.F.slot_list_append PySem.F.type_list_append mt_append (pv 4) (pa_cons (pe_callTy call_tuple_of (by rfl) B.tuple (by decide +kernel) (pa_cons (pv 7) pa_nil)) pa_nil)))))))))
      (pss_one (ps_ret (pe_callTy call_tuple_of (by rfl) B.tuple (by decide +kernel) (pa_cons (pv 4) pa_nil)))))))))
      , ?_⟩
    obtain ⟨r1, r2, r3, r4, r5⟩ := hab_rows hA
    refine ⟨_, rfl, _, rfl, tb, .inl ⟨a, g.map zs, rfl, r1, r2, r3, r4, fun _ H1 g1 => ?_, fun e => (by rw [r5] at e; cases e)⟩⟩
    obtain ⟨r1, r2, r3, r4, r5⟩ := hab_rows (g1.hab hB)
    refine ⟨_, rfl, _, rfl, g1.t1, .inl ⟨b, h.map zs, rfl, r1, r2, r3, r4, fun _ H2 g2 => ?_, fun e => (by rw [r5] at e; cases e)⟩⟩
    have g3 := g1.trans g2
    refine ⟨_, rfl, a, _, rfl, .inr (g3.sqT hAs), _, rfl, b, _, rfl, .inr (g3.sqT hBs), _, _, rfl, ?_⟩
    rw [ea, eb]
    refine ⟨_, rfl, _, rfl, _, _, rfl, rfl, .inl ⟨by omega, by omega⟩, _, _, rfl, rfl, _, rfl, ?_⟩
    rw [← Int.natCast_mul]
    by_cases big : n * m ≤ 5
    case neg =>
      have e1 : decide ((5 : Int) < ((n * m : Nat) : Int)) = true := decide_eq_true (by omega)
      rw [e1]
      exact iteT fun d hd => qn (by omega) d _ (g3.newR hd) upd_same
    have e1 : decide ((5 : Int) < ((n * m : Nat) : Int)) = false := decide_eq_false (by omega)
    rw [e1]
    have wl := Jn.within_len g h
    rw [gl, hl] at wl
    refine iteF ⟨Nat.zero_le _, fun D hD => ?_⟩
    have hDf : H D = none := g3.free hD
    refine ⟨_, rfl, (n : Int), rfl, by omega, by omega, ?_⟩
    rw [Int.toNat_natCast]
    refine for_range (lo := 0) (n := n) (fun p σ H' => ∃ cs v5 v6 v7 v8 v9 v10, σ = [some (.ref a), some (.ref b), some (.int (n : Int)), some (.int (m : Int)), some (.ref D), v5, v6, v7, v8, v9, v10] ∧ Ge T H H' ∧ RowsB H' D cs ((Jn.within g h).take (p * m)))
      ⟨[], none, none, none, none, none, none, rfl, g3.newR hD, by rw [Nat.zero_mul]; exact RowsB.nil upd_same⟩ ?_ ?_
    · rintro p σ H' hp ⟨cs, v5, v6, v7, v8, v9, v10, rfl, gg, R⟩
      rw [Int.zero_add]
      refine ⟨_, rfl, (m : Int), rfl, by omega, by omega, ?_⟩
      rw [Int.toNat_natCast]
      refine for_range (lo := 0) (n := m) (fun s σ H' => ∃ cs v6 v7 v8 v9 v10, σ = [some (.ref a), some (.ref b), some (.int (n : Int)), some (.int (m : Int)), some (.ref D), some (.int (p : Nat)), v6, v7, v8, v9, v10] ∧ Ge T H H' ∧ RowsB H' D cs ((Jn.within g h).take (p * m + s)))
        ⟨cs, _, _, _, _, _, rfl, gg, R⟩ ?_ ?_
      · rintro s σ H' hs ⟨cs, v6, v7, v8, v9, v10, rfl, gg, R⟩
        rw [Int.zero_add]
        refine ⟨Nat.zero_le _, fun M hM => ?_⟩
        have hMf := gg.free hM
        have hDM : D ≠ M := ne_of_none R.at_ hM
        have wrl := Jn.wrow_len g h p s
        rw [gl, hl] at wrl
        refine ⟨_, rfl, (n : Int), rfl, by omega, by omega, ?_⟩
        rw [Int.toNat_natCast]
        refine for_range (lo := 0) (n := n) (fun t σ H' => ∃ v8 v9 v10, σ = [some (.ref a), some (.ref b), some (.int (n : Int)), some (.int (m : Int)), some (.ref D), some (.int (p : Nat)), some (.int (s : Nat)), some (.ref M), v8, v9, v10] ∧ Ge T H H' ∧ RowsB H' D cs ((Jn.within g h).take (p * m + s)) ∧
            H' M = some (.lst (pl ((Jn.wrow g h p s).take (t * m)))))
          ⟨_, _, _, rfl, gg.newR hM, R.ge (Ge.new gg.t1 hM), by rw [Nat.zero_mul]; exact upd_same⟩ ?_ ?_
        · rintro t σ H' ht ⟨v8, v9, v10, rfl, gg, R, hM'⟩
          rw [Int.zero_add]
          refine ⟨_, rfl, (m : Int), rfl, by omega, by omega, ?_⟩
          rw [Int.toNat_natCast]
          refine for_range (lo := 0) (n := m) (fun u σ H' => ∃ v9 v10, σ = [some (.ref a), some (.ref b), some (.int (n : Int)), some (.int (m : Int)), some (.ref D), some (.int (p : Nat)), some (.int (s : Nat)), some (.ref M), some (.int (t : Nat)), v9, v10] ∧ Ge T H H' ∧ RowsB H' D cs ((Jn.within g h).take (p * m + s)) ∧
              H' M = some (.lst (pl ((Jn.wrow g h p s).take (t * m + u)))))
            ⟨_, _, rfl, gg, R, hM'⟩ ?_ ?_
          · rintro u σ H' hu ⟨v9, v10, rfl, gg, R, hM'⟩
            rw [Int.zero_add]
            have hw := Jn.wrow_get (a := g) (b := h) (p := p) (s := s) (t := t) (u := u) (by omega) (by omega)
            rw [hl] at hw
            have lt := Jn.place_lt ht hu
            obtain ⟨xs, q, hX, hat, hrow⟩ := (gg.hab hA).1.row (k := p) (by omega)
            obtain ⟨ys, q2, hY, hat2, hrow2⟩ := (gg.hab hB).1.row (k := s) (by omega)
            have hlp := (hA.2.row hp).len
            have hls := (hB.2.row hs).len
            have hv := (hA.2.row hp).lt _ (Jn.getD_mem (l := Jn.row g p) (i := t) (by omega))
            refine ⟨_, rfl, _, rfl, rfl, _, rfl, ?_⟩
            by_cases c : t = p
            case pos =>
              rw [if_pos c] at hw
              rw [decide_eq_true (show V.int (t : Nat) = V.int (p : Nat) by rw [c])]
              refine iteT ⟨_, rfl, _, rfl, b, _, (s : Int), _, rfl, rfl, hY, hat2, _, rfl, q2, _, _, _, rfl, rfl, hrow2, atI_pl (by omega), ?_⟩
              refine ⟨_, rfl, .inl ⟨rfl, _, SqL.of hM'⟩, _, rfl, _, rfl, a, _, (p : Int), _, rfl, rfl, hX, hat, _, rfl, q, _, _, _, rfl, rfl, hrow, atI_pl (by omega), _, rfl, _, _, rfl, rfl, .inl ⟨by omega, by omega⟩, _, rfl, _, _, rfl, rfl, M, _, _, rfl, rfl, hM', pl_small (by omega) _, _, _, rfl, gg.wr hM' hMf, R.wr hM' (fun _ z => by cases z) hDM, ?_⟩
              rw [upd_same, ← Nat.add_assoc, ← pl_take_more (by omega), hw, Int.natCast_add, Int.natCast_mul]
            case neg =>
              rw [if_neg c] at hw
              rw [decide_eq_false (show ¬ V.int (t : Nat) = V.int (p : Nat) from fun z => c (by injection z with z; omega))]
              refine iteF ⟨_, rfl, ?_⟩
              refine ⟨_, rfl, .inl ⟨rfl, _, SqL.of hM'⟩, _, rfl, _, rfl, a, _, (p : Int), _, rfl, rfl, hX, hat, _, rfl, q, _, _, _, rfl, rfl, hrow, atI_pl (by omega), _, rfl, _, _, rfl, rfl, .inl ⟨by omega, by omega⟩, _, rfl, _, _, rfl, rfl, M, _, _, rfl, rfl, hM', pl_small (by omega) _, _, _, rfl, gg.wr hM' hMf, R.wr hM' (fun _ z => by cases z) hDM, ?_⟩
              rw [upd_same, ← Nat.add_assoc, ← pl_take_more (by omega), hw, Int.natCast_add, Int.natCast_mul]
          · rintro σ H' ⟨v9, v10, rfl, gg, R, hM'⟩
            exact ⟨_, _, _, rfl, gg, R, by rw [Nat.succ_mul]; exact hM'⟩
        · rintro σ H' ⟨v8, v9, v10, rfl, gg, R, hM'⟩
          rw [List.take_of_length_le (by omega)] at hM'
          have lt := Jn.place_lt hp hs
          refine ⟨_, rfl, .inl ⟨rfl, _, SqL.of R.at_⟩, _, rfl, M, _, rfl, .inl ⟨SqL.of hM', fun r hr2 => ?_⟩⟩
          have R1 := R.ge (Ge.new (o := .tup (pl (Jn.wrow g h p s))) gg.t1 hr2)
          refine ⟨D, _, _, rfl, rfl, R1.at_, R1.few (by rw [List.length_take]; omega), cs ++ [r], _, _, _, _, _, rfl, (gg.newR hr2).wr R1.at_ hDf, ?_⟩
          rw [← Nat.add_assoc]
          refine R1.more (by omega) ?_
          have := Jn.within_row (a := g) (b := h) (p := p) (s := s) (by omega) (by omega)
          rw [hl] at this
          rw [upd_same, this]
      · rintro σ H' ⟨cs, v6, v7, v8, v9, v10, rfl, gg, R⟩
        exact ⟨cs, _, _, _, _, _, _, rfl, gg, by rw [Nat.succ_mul]; exact R⟩
    · rintro σ H' ⟨cs, v5, v6, v7, v8, v9, v10, rfl, gg, R⟩
      rw [List.take_of_length_le (by omega)] at R
      exact ⟨_, rfl, D, _, rfl, .inl ⟨SqL.of R.at_, fun p hp => qy big p _ (gg.newR hp) (R.tupH hp)⟩⟩
end
end JX
end
section
set_option Elab.async false
set_option linter.all false
set_option maxRecDepth 100000
set_option maxHeartbeats 8000000
namespace JX
open PySem PySem.Spec PyProof.Rows L2
/-! ### called -/
/-- an own class of error without an __init__ of its own -/
structure Own0 (K : PySem.W.Frag) (mg : Str → Option Value) (x : Str) (C : Addr) : Prop where
  q : PySem.W.excIn K C [.type "ValueError", .type "Exception", .type "BaseException", .type "object"] "ValueError.__new__" = true
  gC : mg x = some (.ref C)
  kC : PySem.W.keepIn K (.ref C) = true
  b : PySem.W.subIn K (.ref C) (.type "BaseException") = some true
  t : PySem.W.typeIn K (.ref C) = some (.type "type")
theorem laid_congr {α : Type} {o : List Nat} {u v : Nat → α} {xs : List α} : ∀ {i : Nat}, (∀ s, s < i → u s = v s) → Jn.laid o u xs i = Jn.laid o v xs i
  | 0, _ => rfl
  | i + 1, h => by
    rw [Jn.laid_succ, Jn.laid_succ, laid_congr (i := i) (fun s hs => h s (by omega)), h i (by omega)]
theorem laid_full {α β : Type} {n : Nat} {o : List Nat} (P : Jn.IsPerm n o) (f : α → β) (v : Nat → α) {xs : List α} {ys : List β} (hx : xs.length = n) (hy : ys.length = n) : Jn.laid o (fun k => f (v k)) ys n = (Jn.laid o v xs n).map f := by
  refine List.ext_getElem? fun i => ?_
  by_cases hi : i < n
  · obtain ⟨s, hs, e⟩ := P.surj hi
    rw [← e, Jn.laid_get P _ hy (Nat.le_refl n) hs, List.getElem?_map, Jn.laid_get P _ hx (Nat.le_refl n) hs]
    rfl
  · rw [List.getElem?_eq_none (by rw [Jn.laid_len, hy]; omega), List.getElem?_eq_none (by rw [List.length_map, Jn.laid_len, hx]; omega)]
theorem ix_at {n j : Nat} (hj : j < n) : ixN n (j : Int) = some j := by
  unfold ixN
  rw [if_pos (Int.natCast_nonneg j), if_pos (Int.ofNat_lt.mpr hj), Int.toNat_natCast]
theorem flat_one {α : Type} (x : α) : ∀ k, (List.replicate k [x]).flatten = List.replicate k x
  | 0 => rfl
  | k + 1 => by
    rw [List.replicate_succ, List.flatten_cons, flat_one x k]
    rfl
theorem pl_set (ns : List Nat) (j k : Nat) : (pl ns).set j (V.int (k : Nat)) = pl (ns.set j k) := by
  unfold pl
  rw [List.map_set]
theorem pl_rep (n : Nat) : List.replicate n (V.int 0) = pl (List.replicate n 0) := by
  unfold pl
  rw [List.map_replicate]
  rfl
abbrev sCalled : Stmt := top 23
theorem scCalled : FnScope ["habit", "order", "found", "place", "moved", "row", "stands", "comes"] ["habit", "order"] (defScope sCalled) := ⟨rfl, rfl, rfl, by decide +kernel, rfl, by decide +kernel, by decide +kernel⟩
def spCalled (T : Two) (K : PySem.W.Frag) (CL : Addr) : Sp := fun vs H Q E => ∃ (a o : Addr) (n : Nat) (h : List (List Nat)), vs = [.ref a, .ref o] ∧ Hab K H a n h ∧ Tb T H ∧
  ((∃ os, TupN K H o os ∧ Jn.IsPerm n os ∧ ∀ p H', Ge T H H' → TupH K H' p (Jn.called h os) → Q (.ref p) H') ∨
    (∃ is : List Int, SqT K H o (is.map V.int) ∧ is.length ≤ 1000 ∧ permB is (n : Int) = false ∧ ∀ H', Ge T H H' → E (.ref CL) none H'))
section
variable {P : Program} {w : World} {K : PySem.W.Frag} {mg : Str → Option Value} {base : Heap} {T : Two} {C CL : Addr}
theorem ok_called {f : Addr} {fd : FuncData} (F : Fun K "called" "called" sCalled f fd) (B : Bl mg) (O : Own0 K mg "BadLayout" CL) (Cp : Callee P w K mg base CX0 2 "is_permutation" ["value", "many"] (spPerm T K)) (Ch : Callee P w K mg base (L2.CX P w) 4 "need_habit" ["value"] (spHabit T K C)) :
    FnOk P w K mg base (L2.CX P w) 5 f fd ["habit", "order"] (spCalled T K CL) := by
  refine F.okX scCalled (fun vs H Q E h => ?_) (fun cdv A outer s H vs Q E hr h => ?_)
  · obtain ⟨a, o, n, h, rfl, _⟩ := h
    rfl
  · obtain ⟨a, o, n, h, rfl, hA, tb, q⟩ := h
    obtain ⟨as, hAs, hAl, hAr⟩ := id hA.1
    have n2 := hA.2.two
    have n5 := hA.2.five
    have gl := hA.2.len
    have ea : ((as.map V.ref).length : Int) = (n : Int) := by rw [List.length_map, hAl, gl]
    refine ⟨_, pss_cons (ps_expr (pe_fn Ch hr (by decide) (by rfl) passL (pa_cons (pv 0) pa_nil)))
      (pss_cons (ps_if (pt_not (pt_val (pe_fn Cp hr (by decide) (by rfl) pass0 (pa_cons (pv 1) (pa_cons (pe_callB call_len_seq (by rfl) B.len PySem.boot_len (pa_cons (pv 0) pa_nil)) pa_nil)))))
        (pss_one (ps_raise rfl (takes_of rfl rfl rfl rfl) (pmk_own0 PySem.F.excBase_ValueError O.q O.gC O.kC (raises_own O.b O.t) (by rfl)))) pss_nil)
      (pss_cons (ps_set (i := 2) scCalled.nd rfl (.inl rfl) (pe_op op_rep (pe_lst (pa_cons pe_non pa_nil)) (pe_callB call_len_seq (by rfl) B.len PySem.boot_len (pa_cons (pv 0) pa_nil))))
      (pss_cons (ps_for (passes_of rfl) rfl (pi_enumT (by rfl) B.enumerate (pa_cons (pv 0) pa_nil)) (pg_tup rfl (pgs_cons (pg_name (i := 3) scCalled.nd rfl (.inl rfl)) (pgs_cons (pg_name (i := 4) scCalled.nd rfl (.inl rfl)) pgs_nil)))
        (pss_cons (ps_set (i := 5) scCalled.nd rfl (.inl rfl) (pe_op op_rep (pe_lst (pa_cons pe_int pa_nil)) (pe_callB call_len_seq (by rfl) B.len PySem.boot_len (pa_cons (pv 0) pa_nil))))
        (pss_cons (ps_for (passes_of rfl) rfl (pi_enumT (by rfl) B.enumerate (pa_cons (pv 4) pa_nil)) (pg_tup rfl (pgs_cons (pg_name (i := 6) scCalled.nd rfl (.inl rfl)) (pgs_cons (pg_name (i := 7) scCalled.nd rfl (.inl rfl)) pgs_nil)))
          (pss_one (ps_asg (pe_ix ix_tup (pv 1) (pv 7) (fun _ _ => rfl)) (pg_sub (pv 5) (pe_ix ix_tup (pv 1) (pv 6) (fun _ _ => rfl)) set_list))))
        (pss_one (ps_asg (pe_callTy call_tuple_of (by rfl) B.tuple (by decide +kernel) (pa_cons (pv 5) pa_nil)) (pg_sub (pv 2) (pe_ix ix_tup (pv 1) (pv 3) (fun _ _ => rfl)) set_list))))))
      (pss_one (ps_ret (pe_callTy call_tuple_of (by rfl) B.tuple (by decide +kernel) (pa_cons (pv 2) pa_nil))))))), ?_⟩
    obtain ⟨r1, r2, r3, r4, r5⟩ := hab_rows hA
    refine ⟨_, rfl, _, rfl, tb, .inl ⟨a, h.map zs, rfl, r1, r2, r3, r4, fun _ H1 g1 => ?_, fun e => (by rw [r5] at e; cases e)⟩⟩
    rcases q with ⟨os, hO, hP, q⟩ | ⟨is, hO, hl, hbad, q⟩
    · refine ⟨_, rfl, _, rfl, a, _, rfl, .inr (g1.sqT hAs), o, zs os, (n : Int), by rw [ea]; rfl, by rw [← pl_zs]; exact g1.sqT hO, by rw [zs_len, hP.len]; omega, g1.t1, fun H2 gg2 => ⟨true, by rw [permB_zs.mpr hP], iteF ?_⟩⟩
      have g2 := g1.trans gg2
      have hol := hP.len
      -- found
      refine ⟨by show 1 ≤ sizeLine; decide, fun l0 hl0 => ⟨_, rfl, a, _, rfl, .inr ((g2.newR hl0).sqT hAs), l0, (n : Int), _, rfl, by rw [ea], upd_same, by omega, by omega, ?_, fun D hD => ?_⟩⟩
      · show 1 * ((n : Int)).toNat ≤ sizeLine
        exact Nat.le_of_lt (small1000 (by omega))
      rw [Int.toNat_natCast, flat_one]
      have g3 := (g2.newR (o := .lst [V.non]) hl0).newR (o := .lst (List.replicate n V.non)) hD
      have hDf : H D = none := (g2.newR (o := .lst [V.non]) hl0).free hD
      have hat0 : upd (upd H2 l0 (.lst [V.non])) D (.lst (List.replicate n V.non)) D = some (.lst (List.replicate n V.non)) := upd_same
      generalize upd (upd H2 l0 (.lst [V.non])) D (.lst (List.replicate n V.non)) = H3 at g3 hat0 ⊢
      refine ⟨_, rfl, a, _, rfl, g3.sqT hAs, for_enumT (K := K) (a := a) (xs := as.map V.ref) (fun i σ H' => ∃ (r : Nat → Addr) (v3 v4 v5 v6 v7 : Option V), σ = [some (.ref a), some (.ref o), some (.ref D), v3, v4, v5, v6, v7] ∧ Ge T H H' ∧ H' D = some (.lst (Jn.laid os (fun k => V.ref (r k)) (List.replicate n V.non) i)) ∧
          ∀ k, k < i → H' (r k) = some (.tup (pl (Jn.crow os (Jn.row h k)))))
        ⟨fun _ => 0, none, none, none, none, none, rfl, g3, hat0, fun k hk => by omega⟩ (fun i σ H' _ ⟨_, _, _, _, _, _, _, g, _⟩ => g.sqT hAs) ?_ ?_⟩
      · rintro i x σ H' pp hi ⟨r, v3, v4, v5, v6, v7, rfl, g, hD', hrs⟩ hpp
        obtain ⟨hi2, qa, rfl, hq⟩ := TupH.item hAr hAl hi
        have g4 := g.newR (o := .tup [V.int (i : Nat), V.ref qa]) hpp
        have hD4 : upd H' pp (.tup [V.int (i : Nat), V.ref qa]) D = some (.lst (Jn.laid os (fun k => V.ref (r k)) (List.replicate n V.non) i)) := by rw [upd_ne (ne_of_none hD' hpp)]; exact hD'
        have hr4 : ∀ k, k < i → upd H' pp (.tup [V.int (i : Nat), V.ref qa]) (r k) = some (.tup (pl (Jn.crow os (Jn.row h k)))) := fun k hk => by rw [upd_ne (ne_of_none (hrs k hk) hpp)]; exact hrs k hk
        have hp4 : upd H' pp (.tup [V.int (i : Nat), V.ref qa]) pp = some (.tup [V.int (i : Nat), V.ref qa]) := upd_same
        generalize upd H' pp (.tup [V.int (i : Nat), V.ref qa]) = H4 at g4 hD4 hr4 hp4 ⊢
        refine ⟨pp, _, rfl, SqT.of hp4, rfl, _, _, rfl, _, _, rfl, rfl, ?_⟩
        have hin : i < n := by omega
        have hm := hA.2.row hin
        have hml := hm.len
        refine ⟨by show 1 ≤ sizeLine; decide, fun l1 hl1 => ⟨_, rfl, a, _, rfl, .inr ((g4.newR hl1).sqT hAs), l1, (n : Int), _, rfl, by rw [ea], upd_same, by omega, by omega, ?_, fun R hR => ?_⟩⟩
        · show 1 * ((n : Int)).toNat ≤ sizeLine
          exact Nat.le_of_lt (small1000 (by omega))
        rw [Int.toNat_natCast, flat_one, pl_rep]
        have g5' := Ge.new (o := .lst [V.int 0]) g4.t1 hl1
        have g5 := g5'.newR (o := .lst (pl (List.replicate n 0))) hR
        have hRf : H R = none := (g4.trans g5').free hR
        have hRf4 : H4 R = none := g5'.free hR
        have hR5 : upd (upd H4 l1 (.lst [V.int 0])) R (.lst (pl (List.replicate n 0))) R = some (.lst (pl (List.replicate n 0))) := upd_same
        have hDR : D ≠ R := ne_of_none hD4 hRf4
        generalize upd (upd H4 l1 (.lst [V.int 0])) R (.lst (pl (List.replicate n 0))) = H5 at g5 hR5 ⊢
        have hq4 := fun {H6 : Hp} (g6 : Ge T H4 H6) => (g4.trans g6).tupN hq
        refine ⟨_, rfl, qa, _, rfl, hq4 g5, for_enumT (K := K) (a := qa) (xs := pl (Jn.row h i)) (fun s σ H6 => ∃ (v6 v7 : Option V), σ = [some (.ref a), some (.ref o), some (.ref D), some (.int (i : Nat)), some (.ref qa), some (.ref R), v6, v7] ∧ Ge T H4 H6 ∧
            H6 R = some (.lst (pl (Jn.laid os (fun s => os.getD ((Jn.row h i).getD s 0) 0) (List.replicate n 0) s))))
          ⟨_, _, rfl, g5, hR5⟩ (fun s σ H6 _ ⟨_, _, _, g6, _⟩ => hq4 g6) ?_ ?_⟩
        · rintro s x σ H6 p6 hs ⟨v6, v7, rfl, g6, hR6⟩ hp6
          obtain ⟨hsl, rfl⟩ := pl_some hs
          have hsn : s < n := by omega
          have g7 := g6.newR (o := .tup [V.int (s : Nat), V.int ((Jn.row h i).getD s 0 : Nat)]) hp6
          have hR7 : upd H6 p6 (.tup [V.int (s : Nat), V.int ((Jn.row h i).getD s 0 : Nat)]) R = some (.lst (pl (Jn.laid os (fun s => os.getD ((Jn.row h i).getD s 0) 0) (List.replicate n 0) s))) := by rw [upd_ne (ne_of_none hR6 hp6)]; exact hR6
          have hO7 := (g4.trans g7).tupN hO
          refine ⟨p6, _, rfl, SqT.of upd_same, rfl, _, _, rfl, _, _, rfl, rfl, ?_⟩
          have hc := hm.lt _ (Jn.getD_mem hsl)
          have hos := hP.at_lt hsn
          refine ⟨_, rfl, _, rfl, o, _, _, _, rfl, rfl, hO7, atI_pl (by omega), _, rfl, _, rfl, _, rfl, o, _, (s : Int), _, rfl, rfl, hO7, atI_pl (by omega), R, _, _, os.getD s 0, rfl, rfl, hR7, ?_, _, _, rfl, ?_⟩
          · exact ix_at (by rw [pl_len, Jn.laid_len, List.length_replicate]; exact hos)
          · rw [pl_set, ← Jn.laid_succ os (fun s => os.getD ((Jn.row h i).getD s 0) 0)]
            exact ⟨g7.wr hR7 hRf4, upd_same⟩
        · rintro σ H6 ⟨v6, v7, rfl, g6, hR6⟩
          rw [pl_len, hml] at hR6
          have ecr : Jn.crow os (Jn.row h i) = Jn.laid os (fun s => os.getD ((Jn.row h i).getD s 0) 0) (List.replicate n 0) n := by unfold Jn.crow; rw [hol]
          rw [← ecr] at hR6
          refine ⟨_, rfl, R, _, rfl, .inl ⟨SqL.of hR6, fun p hp => ?_⟩⟩
          have g7 := g6.newR (o := .tup (pl (Jn.crow os (Jn.row h i)))) hp
          have hD7 := g7.lst hD4
          have hOD := (g4.trans g7).tupN hO
          refine ⟨_, rfl, _, rfl, _, rfl, o, _, (i : Int), _, rfl, rfl, hOD, atI_pl (by omega), D, _, _, os.getD i 0, rfl, rfl, hD7, ?_, fun k => if k = i then p else r k, _, _, _, _, _, rfl, (g4.trans g7).wr hD7 hDf, ?_, ?_⟩
          · exact ix_at (by rw [Jn.laid_len, List.length_replicate]; exact hP.at_lt hin)
          · have el : Jn.laid os (fun k => V.ref (if k = i then p else r k)) (List.replicate n V.non) (i + 1) = (Jn.laid os (fun k => V.ref (r k)) (List.replicate n V.non) i).set (os.getD i 0) (V.ref p) := by
              rw [Jn.laid_succ, if_pos rfl, laid_congr (v := fun k => V.ref (r k)) (fun s hs => by rw [if_neg (by omega)])]
            rw [upd_same, el]
          · intro k hk
            show upd (upd H6 p _) D _ (if k = i then p else r k) = _
            by_cases c : k = i
            · rw [if_pos c, c]
              exact upd_tup upd_same hD7 (fun _ z => by cases z)
            · rw [if_neg c]
              exact upd_tup (g7.tup (hr4 k (by omega))) hD7 (fun _ z => by cases z)
      · rintro σ H' ⟨r, v3, v4, v5, v6, v7, rfl, g, hD', hrs⟩
        rw [List.length_map, hAl, gl] at hD' hrs
        refine ⟨_, rfl, D, _, rfl, .inl ⟨SqL.of hD', fun p hp => q p _ (g.newR hp) ?_⟩⟩
        rw [laid_full hP V.ref r (xs := List.replicate n 0) (by simp) (by simp)]
        have ecl : Jn.called h os = Jn.laid os (fun k => Jn.crow os (Jn.row h k)) (List.replicate n []) n := by unfold Jn.called; rw [hol]
        refine ⟨_, SqT.of upd_same, by rw [Jn.laid_len, List.length_replicate, Jn.called_len, hol], fun i b m e1 e2 => ?_⟩
        have hi : i < n := by
          have := (List.getElem?_eq_some_iff.mp e1).1
          rw [Jn.laid_len, List.length_replicate] at this
          exact this
        obtain ⟨s, hs, e⟩ := hP.surj hi
        rw [← e, Jn.laid_get hP _ (by simp) (Nat.le_refl n) hs] at e1
        rw [← e, ecl, Jn.laid_get hP _ (by simp) (Nat.le_refl n) hs] at e2
        have e3 : r s = b := Option.some.inj e1
        have e4 : Jn.crow os (Jn.row h s) = m := Option.some.inj e2
        rw [← e3, ← e4]
        exact SqT.of (by rw [upd_ne (ne_of_none (hrs s hs) hp)]; exact hrs s hs)
    · refine ⟨_, rfl, _, rfl, a, _, rfl, .inr (g1.sqT hAs), o, is, (n : Int), by rw [ea]; rfl, g1.sqT hO, hl, g1.t1, fun H2 gg2 => ⟨false, by rw [hbad], iteT (q H2 (g1.trans gg2))⟩⟩
end
end JX
end
section
set_option Elab.async false
set_option linter.all false
set_option maxRecDepth 100000
set_option maxHeartbeats 8000000
namespace JX
open PySem PySem.Spec PyProof.Rows L2
/-! ### backed, doubled -/
theorem flat_ints (ys : List Int) : (ys.map V.int).all flatV = true := by
  rw [List.all_map]
  exact List.all_eq_true.mpr fun _ _ => rfl
/-- t.index(i), t a tuple of ints, i within -/
def rIdxI (K : PySem.W.Frag) : V → List V → Hp → VK → Prop := fun x xs H Q => ∃ (p : Addr) (ys : List Int) (z : Int) (j : Nat), x = .ref p ∧ xs = [.int z] ∧ SqT K H p (ys.map V.int) ∧ ys[j]? = some z ∧ (∀ m, m < j → ys[m]? ≠ some z) ∧ Q (.int (j : Nat)) H
theorem mt_idxI {X : Cx} : MtR X "tuple.index" (rIdxI X.K) := by
  intro pins s σ H x xs v us Q I rx rs h
  obtain ⟨p, ys, z, j, rfl, rfl, hq, hy, hno, q⟩ := h
  cases rx
  obtain ⟨u, rfl, t, rfl⟩ := Vals.one rs
  obtain ⟨its, r, pl, hz⟩ := I.tuple hq
  obtain ⟨⟨cls, dd, dt, sl⟩, ho, hc, n, hd⟩ := pl
  simp only at hc hd
  subst hc
  subst hd
  have hl : its.toArray.size = ys.length := by rw [List.size_toArray, ← r.length, List.length_map]
  have hj : j < its.toArray.size := by rw [hl]; exact (List.getElem?_eq_some_iff.mp hy).1
  have item : ∀ (m : Nat) (hm : m < its.toArray.size), ∃ y t', ys[m]? = some y ∧ its.toArray[m] = Value.int y t' := fun m hm => by
    have hm' : m < ys.length := by rw [← hl]; exact hm
    obtain ⟨w, hw, t', hw'⟩ := r.get (i := m) (x := .int ys[m]) (by simp [hm'])
    refine ⟨ys[m], t', List.getElem?_eq_getElem hm', ?_⟩
    have e := (List.getElem?_eq_some_iff.mp hw).2
    rw [← hw', ← e]
    simp
  refine call_meets PySem.F.slot_tuple_index ⟨_, ho, rfl⟩ PySem.F.entry_tuple_index (PySem.F.args_tuple_index_2 _ _) (TI.tuple_indexAt p its.toArray n dd sl (.int z t) (eqU (.int z)) j hj ?_ ?_)
    ⟨ho, fun w hw => mem_eqAt (x := .int z) ⟨t, rfl⟩ rfl r (flat_ints ys) w (by simpa using hw), ⟨.int (j : Nat), H, I.tok _, ⟨_, rfl⟩, q⟩⟩
  · obtain ⟨y, t', h1, h2⟩ := item j hj
    rw [hy] at h1
    cases h1
    rw [h2]
    show (z == z) = true
    exact beq_self_eq_true z
  · intro m hm hmj
    obtain ⟨y, t', h1, h2⟩ := item m hm
    rw [h2]
    show (y == z) = false
    exact beq_eq_false_iff_ne.mpr fun e => hno m hmj (e ▸ h1)
/-! tuples whose object is known, without a dict: their methods can be called -/
def rTupF (K : PySem.W.Frag) : List V → Hp → VK → Prop := fun xs H Q => ∃ p ys, xs = [.ref p] ∧ SqL K H p ys ∧ ∀ (l : Addr) (o : Obj), H l = none → o.dict = none → Q (.ref l) (upd H l (.frz o (.tup ys)))
theorem call_tupF {X : Cx} : CallR X (.type "tuple") (rTupF X.K) := by
  intro pins s σ H xs us Q I r h
  obtain ⟨p, ys, rfl, hq, q⟩ := h
  obtain ⟨u, rfl, rx⟩ := Vals.one r
  cases rx
  obtain ⟨its, r', pl, hz⟩ := I.list hq
  have hlen := r'.length
  refine call_tuple_list pl.isList (fun h' kp => ?_) (by simp only [List.size_toArray] <;> omega)
  have I1 : Inv X pins σ H { s with heap := h' } := I.kept (t' := s.toks) kp
  have e0 : (h'.push { cls := .type "tuple", data := .seq its.toArray }).get? h'.objs.size = some { cls := .type "tuple", data := .seq its.toArray } := Heap.get?_push_size _ rfl
  have I2 : Inv X pins σ (upd H h'.objs.size (.frz { cls := .type "tuple", data := .seq its.toArray } (.tup ys))) { s with heap := h'.push { cls := .type "tuple", data := .seq its.toArray } } :=
    I1.laid (t' := s.toks) (fun b o e => Heap.get?_push_of_some _ e) (Nat.le_refl _) (show ObjOk X.prog X.w _ _ _ (.frz _ (.tup ys)) from ⟨e0, hz, its, r', IsTup.new _ _⟩)
  exact ⟨.ref h'.objs.size, _, I2, rfl, q _ _ (I1.hok.fresh (Nat.le_refl _)) rfl⟩
def tTupRgF (te : L2.St → Hp → (Int → Int → Hp → Prop) → Prop) : TE := fun σ H Q => te σ H fun a b H1 => RgOk a b ∧ ∀ (q : Addr) (o : Obj), H1 q = none → o.dict = none → Q (.ref q) (upd H1 q (.frz o (.tup (rgV a b))))
theorem pe_tupRgF {X : Cx} {e : Expr} {te : L2.St → Hp → (Int → Int → Hp → Prop) → Prop} {p pos : Pos} (hc : X.calm = true) (hg : Gl X "tuple") (hm : X.mg "tuple" = none) (he : PRg X e te) (na : starEach [e] X.env = (false, eval e X.env) :: starEach [] X.env := by rfl) : PE X (.Call (.Name "tuple" p) [e] [] pos) (tTupRgF te) := by
  refine ⟨fun pins s σ H Q I h => ?_⟩
  refine Call_ (ld_blt I hg hm boot_tuple (PyProof.Rows.callWith_type1 (PyProof.Rows.args_cons (thn (he pins s σ H _ I h) fun x s1 ⟨r, a, b, t, u, v, H1, ex, hr, I1, ok, q⟩ => PyProof.Rows.args_nil ?_) na) na))
  subst ex
  obtain ⟨b1, b2, b3, b4, b5⟩ := ok
  refine call_tuple_range (n := (b - a).toNat) (I1.ok.hd hc) hr (small_one b1 b2 b3 b4) (rangeSize_nat a b) b5 fun h' tk acc hk hi => ?_
  have I2 : Inv X pins σ H1 { s1 with heap := h', toks := tk } := I1.kept hk
  have e0 : (h'.push { cls := .type "tuple", data := .seq acc }).get? h'.objs.size = some { cls := .type "tuple", data := .seq acc } := Heap.get?_push_size _ rfl
  refine ⟨.ref h'.objs.size, upd H1 h'.objs.size (.frz { cls := .type "tuple", data := .seq acc } (.tup (rgV a b))), I2.laid (t' := tk) (fun c o e => Heap.get?_push_of_some _ e) (Nat.le_refl _) (show ObjOk X.prog X.w _ _ _ (.frz _ (.tup (rgV a b))) from ⟨e0, ?_, acc.toList, vals_rg hi, ?_⟩), rfl, q _ _ (I2.hok.fresh (Nat.le_refl _)) rfl⟩
  · rw [rgV_length, sizeLine_eq]; omega
  · rw [Array.toArray_toList]; exact IsTup.new _ _
/-- the tuple of places at p, its object known -/
def FrzN (H : Hp) (p : Addr) (m : List Nat) : Prop := ∃ o : Obj, H p = some (.frz o (.tup (pl m))) ∧ o.dict = none
theorem FrzN.tupN {K : PySem.W.Frag} {H : Hp} {p : Addr} {m : List Nat} (h : FrzN H p m) : TupN K H p m := .inl (.inr ⟨h.choose, h.choose_spec.1⟩)
theorem Ge.frzN {T : Two} {H H1 : Hp} {p : Addr} {m : List Nat} (g : Ge T H H1) (h : FrzN H p m) : FrzN H1 p m := let ⟨o, h1, h2⟩ := h; ⟨o, g.at h1 (fun _ z => by cases z), h2⟩
/-- a tuple of such tuples -/
def TupF (K : PySem.W.Frag) (H : Hp) (a : Addr) (hs : List (List Nat)) : Prop := ∃ as : List Addr, SqT K H a (as.map V.ref) ∧ as.length = hs.length ∧ ∀ (i : Nat) (p : Addr) (m : List Nat), as[i]? = some p → hs[i]? = some m → FrzN H p m
theorem TupF.tupH {K : PySem.W.Frag} {H : Hp} {a : Addr} {hs : List (List Nat)} (h : TupF K H a hs) : TupH K H a hs := let ⟨as, h1, h2, h3⟩ := h; ⟨as, h1, h2, fun i p m e1 e2 => (h3 i p m e1 e2).tupN⟩
theorem Ge.tupF {T : Two} {K : PySem.W.Frag} {H H1 : Hp} {a : Addr} {hs : List (List Nat)} (g : Ge T H H1) (h : TupF K H a hs) : TupF K H1 a hs := let ⟨as, h1, h2, h3⟩ := h; ⟨as, g.sqT h1, h2, fun i p m e1 e2 => g.frzN (h3 i p m e1 e2)⟩
/-- a habit whose rows' objects are known -/
def HabF (K : PySem.W.Frag) (H : Hp) (a : Addr) (n : Nat) (h : List (List Nat)) : Prop := TupF K H a h ∧ Jn.IsHabit n h
theorem HabF.hab {K : PySem.W.Frag} {H : Hp} {a : Addr} {n : Nat} {h : List (List Nat)} (x : HabF K H a n h) : Hab K H a n h := ⟨x.1.tupH, x.2⟩
theorem Ge.habF {T : Two} {K : PySem.W.Frag} {H H1 : Hp} {a : Addr} {n : Nat} {h : List (List Nat)} (g : Ge T H H1) (x : HabF K H a n h) : HabF K H1 a n h := ⟨g.tupF x.1, x.2⟩
theorem frz_upd {H : Hp} {b p : Addr} {m : List Nat} {o o0 : HO} (h : FrzN H b m) (hp : H p = some o0) (n : ∀ u v, o0 ≠ .frz u v) : FrzN (upd H p o) b m := by
  obtain ⟨ob, h1, h2⟩ := h
  refine ⟨ob, ?_, h2⟩
  rw [upd_ne (fun e => by rw [e, hp] at h1; exact n _ _ (Option.some.inj h1))]
  exact h1
/-- a list of such tuples -/
structure RowsF (H : Hp) (l : Addr) (bs : List Addr) (ls : List (List Nat)) : Prop where
  at_ : H l = some (.lst (bs.map V.ref))
  len : bs.length = ls.length
  row : ∀ (j : Nat) (b : Addr) (m : List Nat), bs[j]? = some b → ls[j]? = some m → FrzN H b m
theorem RowsF.nil {H : Hp} {l : Addr} (h : H l = some (.lst [])) : RowsF H l [] [] := ⟨h, rfl, fun j b m e => by simp at e⟩
theorem RowsF.ge {T : Two} {H H1 : Hp} {l : Addr} {bs : List Addr} {ls : List (List Nat)} (r : RowsF H l bs ls) (g : Ge T H H1) : RowsF H1 l bs ls :=
  ⟨g.lst r.at_, r.len, fun j b m e1 e2 => g.frzN (r.row j b m e1 e2)⟩
theorem RowsF.snoc {H : Hp} {l b : Addr} {bs : List Addr} {ls : List (List Nat)} {m : List Nat} (r : RowsF H l bs ls) (hb : FrzN H b m) : RowsF (upd H l (.lst (bs.map V.ref ++ [.ref b]))) l (bs ++ [b]) (ls ++ [m]) := by
  refine ⟨by rw [upd_same, List.map_append]; rfl, by rw [List.length_append, List.length_append, r.len]; rfl, fun j b' m' e1 e2 => ?_⟩
  by_cases c : j < bs.length
  · rw [List.getElem?_append_left c] at e1
    rw [List.getElem?_append_left (by rw [← r.len]; exact c)] at e2
    exact frz_upd (r.row j b' m' e1 e2) r.at_ (fun _ _ z => by cases z)
  · have hlt := (List.getElem?_eq_some_iff.mp e1).1
    rw [List.length_append] at hlt
    have hj : j = bs.length := by
      have : [b].length = 1 := rfl
      omega
    subst hj
    rw [List.getElem?_append_right (Nat.le_refl _), Nat.sub_self] at e1
    rw [r.len, List.getElem?_append_right (Nat.le_refl _), Nat.sub_self] at e2
    have e3 : b = b' := Option.some.inj e1
    have e4 : m = m' := Option.some.inj e2
    rw [← e3, ← e4]
    exact frz_upd hb r.at_ (fun _ _ z => by cases z)
theorem RowsF.more {H : Hp} {l b : Addr} {bs : List Addr} {L : List (List Nat)} {k : Nat} (r : RowsF H l bs (L.take k)) (hk : k < L.length) (hb : FrzN H b (Jn.row L k)) : RowsF (upd H l (.lst (bs.map V.ref ++ [.ref b]))) l (bs ++ [b]) (L.take (k + 1)) := by
  rw [take_more (Jn.row_get? hk)]
  exact r.snoc hb
theorem RowsF.tupF {K : PySem.W.Frag} {H : Hp} {l p : Addr} {bs : List Addr} {ls : List (List Nat)} (r : RowsF H l bs ls) (hp : H p = none) : TupF K (upd H p (.tup (bs.map V.ref))) p ls :=
  ⟨bs, SqT.of upd_same, r.len, fun i b m e1 e2 => by
    obtain ⟨ob, h1, h2⟩ := r.row i b m e1 e2
    exact ⟨ob, by rw [upd_ne (ne_of_none h1 hp)]; exact h1, h2⟩⟩
theorem RowsF.few {H : Hp} {l : Addr} {bs : List Addr} {ls : List (List Nat)} (r : RowsF H l bs ls) (h : ls.length ≤ 1000) : (bs.map V.ref).length < sizeLine := by
  rw [List.length_map, r.len]
  exact small1000 h
/-- t.m(e), t such a tuple -/
def tBF (r : V → List V → Hp → VK → Prop) (to : TE) (t : TA) : TE := fun σ H Q => to σ H fun x H1 => (∃ p ob xs, x = .ref p ∧ H1 p = some (.frz ob (.tup xs)) ∧ ob.dict = none) ∧ t σ H1 fun xs H2 => r x xs H2 Q
theorem pe_bmF {X : Cx} {o e : Expr} {es : List Expr} {to : TE} {t : TA} {name : Str} {apos cpos : Pos} {id : String} {r : V → List V → Hp → VK → Prop} (slot : Slot "tuple" name id) (hty : typeOf (.builtin id) = pure (.type "method_descriptor")) (hm : MtR X id r) (ho : PE X o to) (ha : PA X (e :: es) t)
    (hbase : attributeBase o name X.env (eval o X.env) = eval o X.env := by rfl)
    (hfew : ((backTo cpos (starEach (e :: es) X.env)).all (fun x => !x.1) && (backToKw cpos (keywordEach [] X.env)).all (fun x => x.1.isSome)
      && decide ((e :: es).length + ([] : List Keyword).length + (if ([] : List Keyword).isEmpty then 0 else 1) < 30)) = true := by rfl)
    (hline : (apos.endLine == cpos.line) = true := by rfl) (hs : starEach (e :: es) X.env = (false, eval e X.env) :: starEach es X.env := by rfl) (hplain : (backTo cpos (starEach es X.env)).any (·.1) = false := by rfl) :
    PE X (.Call (.Attribute o name apos) (e :: es) [] cpos) (tBF r to t) := by
  refine ⟨fun pins s σ H Q I h => ?_⟩
  refine wpAny_Call_method_late hbase hfew hline rfl (thn (ho.run pins s σ H _ I h) fun v s1 ⟨x, H1, I1, r1, ty, q1⟩ => ?_)
  obtain ⟨p, ob, xs, rfl, hp, hd⟩ := ty
  obtain rfl : v = Value.ref p := r1
  obtain ⟨h0, hz, its, rv, ob2, h1, h2, _⟩ := (show ObjOk X.prog X.w H1 s1.heap p (.frz ob (.tup xs)) from I1.hok p _ hp)
  have e0 : ob2 = ob := by
    rw [h0] at h1
    exact (Option.some.inj h1).symm
  subst e0
  refine ⟨"tuple", id, PySem.F.plainAttrs_tuple, slot, hty, ⟨ob2, h0, h2⟩, fun a ea => ⟨ob2, by injection ea with ea; rw [← ea]; exact h0, hd⟩, ?_⟩
  have hA := ha.run cpos pins s1 σ H1 _ I1 q1
  rw [hs] at hA ⊢
  refine Calls.callWith_builtin (by show (false || (backTo cpos (starEach es X.env)).any (·.1)) = false; rw [hplain] <;> rfl) (Calls.evalArgs_plain ?_)
  exact thn hA fun us s2 ⟨vs, H2, I2, r2, q2⟩ => hm pins s2 σ H2 (V.ref p) vs (Value.ref p) us Q I2 rfl r2 q2
abbrev sBacked : Stmt := top 24
def rTupOf (K : PySem.W.Frag) : List V → Hp → VK → Prop := fun xs H Q => ∃ p ys, xs = [.ref p] ∧ ((SqL K H p ys ∧ ∀ l, H l = none → Q (.ref l) (upd H l (.tup ys))) ∨ (SqT K H p ys ∧ Q (.ref p) H))
abbrev sDoubled : Stmt := top 25
theorem scBacked : FnScope ["habit", "found", "moved", "place"] ["habit"] (defScope sBacked) := ⟨rfl, rfl, rfl, by decide +kernel, rfl, by decide +kernel, by decide +kernel⟩
theorem scDoubled : FnScope ["habit", "moved", "comes"] ["habit"] (defScope sDoubled) := ⟨rfl, rfl, rfl, by decide +kernel, rfl, by decide +kernel, by decide +kernel⟩
def spBacked (T : Two) (K : PySem.W.Frag) (C : Addr) : Sp := fun vs H Q E => ∃ v, vs = [v] ∧ Tb T H ∧ ((∃ (a : Addr) (n : Nat) (h : List (List Nat)), v = .ref a ∧ HabF K H a n h ∧ ∀ p H', Ge T H H' → TupF K H' p (Jn.backed h) → Q (.ref p) H') ∨
  (((∃ (a : Addr) (nss : List (List Int)), v = .ref a ∧ RowsZ K H a nss ∧ 2 ≤ nss.length ∧ nss.length ≤ 5 ∧ (∀ m ∈ nss, m.length ≤ 1000) ∧ (nss.all fun m => permB m (nss.length : Int)) = false) ∨ NoTup K H v) ∧ ∀ d H', Ge T H H' → E (.ref C) (some d) H'))
def spDoubled (T : Two) (K : PySem.W.Frag) : Sp := fun vs H Q E => ∃ (a : Addr) (n : Nat) (h : List (List Nat)), vs = [.ref a] ∧ Hab K H a n h ∧ Tb T H ∧ ∀ p H', Ge T H H' → TupH K H' p (Jn.doubled h) → Q (.ref p) H'
theorem TupF.item {H : Hp} {hs : List (List Nat)} {as : List Addr} {i : Nat} {x : V} (h3 : ∀ (i : Nat) (p : Addr) (m : List Nat), as[i]? = some p → hs[i]? = some m → FrzN H p m) (h2 : as.length = hs.length) (e : (as.map V.ref)[i]? = some x) :
    i < hs.length ∧ ∃ p, x = .ref p ∧ FrzN H p (Jn.row hs i) := by
  rw [List.getElem?_map] at e
  cases e1 : as[i]? with
  | none => rw [e1] at e; cases e
  | some p =>
    rw [e1] at e
    have hi := (List.getElem?_eq_some_iff.mp e1).1
    have hi2 : i < hs.length := by omega
    exact ⟨hi2, p, (Option.some.inj e).symm, h3 i p _ e1 (Jn.row_get? hi2)⟩
theorem idx_inv {n : Nat} {m : List Nat} (P : Jn.IsPerm n m) {p : Nat} (hp : p < n) : (zs m)[(Jn.inv m).getD p 0]? = some (p : Int) ∧ ∀ i, i < (Jn.inv m).getD p 0 → (zs m)[i]? ≠ some (p : Int) := by
  have e : (Jn.inv m).getD p 0 = m.findIdx (· == p) := by
    unfold Jn.inv
    rw [List.getD_eq_getElem?_getD, List.getElem?_map, Jn.range_get? (by rw [P.len]; exact hp)]
    rfl
  have hm := Jn.find_spec (m := m) (p := p) (P.mem hp)
  rw [e]
  have get : ∀ {i : Nat}, i < m.length → (zs m)[i]? = some ((m.getD i 0 : Nat) : Int) := fun {i} hi => by
    unfold zs
    rw [List.getElem?_map, Jn.getElem?_of_getD hi]
    rfl
  refine ⟨by rw [get hm.1, hm.2], fun i hi z => ?_⟩
  have hil : i < m.length := Nat.lt_trans hi hm.1
  rw [get hil] at z
  have z2 : m.getD i 0 = p := Int.ofNat_inj.mp (Option.some.inj z)
  have := List.not_of_lt_findIdx hi
  rw [List.getD_eq_getElem?_getD, List.getElem?_eq_getElem hil] at z2
  have z3 : m[i] = p := z2
  rw [z3] at this
  simp at this
section
variable {P : Program} {w : World} {K : PySem.W.Frag} {mg : Str → Option Value} {base : Heap} {T : Two} {C CL : Addr}
theorem ok_backed {f : Addr} {fd : FuncData} (F : Fun K "backed" "backed" sBacked f fd) (B : Bl mg) (Ch : Callee P w K mg base (L2.CX P w) 4 "need_habit" ["value"] (spHabit T K C)) :
    FnOk P w K mg base (L2.CX P w) 5 f fd ["habit"] (spBacked T K C) := by
  refine F.okX scBacked (fun vs H Q E h => ?_) (fun cdv A outer s H vs Q E hr h => ?_)
  · obtain ⟨v, rfl, _⟩ := h
    rfl
  · obtain ⟨v, rfl, tb, q⟩ := h
    refine ⟨_, pss_cons (ps_expr (pe_fn Ch hr (by decide) (by rfl) (passes_call (takes_of rfl rfl rfl rfl) (fun _ _ _ _ h => h)) (pa_cons (pv 0) pa_nil)))
      (pss_cons (ps_set (i := 1) scBacked.nd rfl (.inl rfl) (pe_lst pa_nil))
      (pss_cons (ps_for (passes_of rfl) rfl (pi_tup (pv 0)) (pg_name (i := 2) scBacked.nd rfl (.inr rfl))
        (pss_one (ps_expr (pe_bm PySem.F.plainAttrs_list PySem.F.slot_list_append PySem.F.type_list_append mt_append (pv 1) (pa_cons (pe_callTy call_tupF (by rfl) B.tuple (by decide +kernel)
          (pa_cons (pe_lc (own := [("place", 3)]) (g := gName 3) (tt := tYes) (te := tBF (rIdxI K) (tVar 2) (tCons (tVar 3) tNil)) rfl scBacked.nd (pi_range1 (by rfl) B.range (pa_cons (pe_callB call_len_seq (by rfl) B.len PySem.boot_len (pa_cons (pv 2) pa_nil)) pa_nil)) (blkOk_by (N := ["habit", "found", "moved", "place"]) (sc := defScope sBacked) (by decide +kernel))
            (fun _ _ _ _ _ => pg_name (i := 3) scBacked.nd rfl (.inl rfl)) (fun _ _ _ _ _ => pts_nil) (fun _ _ _ _ _ => pe_bmF PySem.F.slot_tuple_index PySem.F.type_tuple_index mt_idxI (pv 2) (pa_cons (pv 3) pa_nil))) pa_nil)) pa_nil)))))
      (pss_one (ps_ret (pe_callTy call_tuple_of (by rfl) B.tuple (by decide +kernel) (pa_cons (pv 1) pa_nil)))))), ?_⟩
    rcases q with ⟨a, n, h, rfl, hA, q⟩ | ⟨bad, q⟩
    · obtain ⟨as, hAs, hAl, hAr⟩ := id hA.1
      have n5 := hA.2.five
      have gl := hA.2.len
      have bl := Jn.backed_len h
      obtain ⟨r1, r2, r3, r4, r5⟩ := hab_rows hA.hab
      refine ⟨_, rfl, _, rfl, tb, .inl ⟨a, h.map zs, rfl, r1, r2, r3, r4, fun _ H1 g1 => ?_, fun e => (by rw [r5] at e; cases e)⟩⟩
      refine ⟨Nat.zero_le _, fun D hD => ?_⟩
      have hDf := g1.free hD
      refine ⟨_, rfl, a, rfl, ⟨_, (g1.newR hD).sqT hAs⟩, for_tup (K := K) (a := a) (xs := as.map V.ref) (fun i σ H' => ∃ cs v2, σ = [some (.ref a), some (.ref D), v2, none] ∧ Ge T H H' ∧ RowsF H' D cs ((Jn.backed h).take i))
        ⟨[], none, rfl, g1.newR hD, RowsF.nil upd_same⟩ (fun i σ H' _ ⟨_, _, _, g, _⟩ => g.sqT hAs) ?_ ?_⟩
      · rintro i x σ H' hi ⟨cs, v2, rfl, g, R⟩
        obtain ⟨hi2, p, rfl, hpF⟩ := TupF.item hAr hAl hi
        have hp : TupN K H p (Jn.row h i) := hpF.tupN
        have pi := hA.2.row (k := i) (by omega)
        have hpl := pi.len
        have il := Jn.inv_len (Jn.row h i)
        refine ⟨_, rfl, .inl ⟨rfl, _, SqL.of R.at_⟩, _, rfl, p, _, rfl, .inr (g.tupN hp), (n : Int), by rw [pl_len, hpl], by omega, by omega, fun D2 hD2 => ?_⟩
        rw [Int.toNat_natCast]
        refine lc_range (lo := 0) (n := n) (fun j H7 => Ge T H' H7 ∧ H7 D2 = some (.lst (pl ((Jn.inv (Jn.row h i)).take j)))) ⟨Ge.new g.t1 hD2, upd_same⟩ ?_ ?_
        · rintro j H7 hj ⟨g7, hD7⟩
          rw [Int.zero_add]
          have hp7 := (g.trans g7).tupN hp
          obtain ⟨e1, e2⟩ := idx_inv pi hj
          refine ⟨rfl, _, rfl, ?_, _, rfl, p, zs (Jn.row h i), (j : Int), (Jn.inv (Jn.row h i)).getD j 0, rfl, rfl, by rw [← pl_zs]; exact hp7, e1, e2, _, hD7, pl_small (by omega) j, g7.wr hD7 hD2, ?_⟩
          · obtain ⟨ob, h1, h2⟩ := (g.trans g7).frzN hpF
            exact ⟨p, ob, _, rfl, h1, h2⟩
          · rw [upd_same, pl_take_more (by omega)]
        · rintro H7 ⟨g7, hD7⟩
          rw [List.take_of_length_le (by omega)] at hD7
          refine ⟨D2, _, rfl, SqL.of hD7, fun r ob hr2 hob => ?_⟩
          have g8 := g7.newR (o := .frz ob (.tup (pl (Jn.inv (Jn.row h i))))) hr2
          have R8 := R.ge g8
          refine ⟨D, _, _, rfl, rfl, R8.at_, R8.few (by rw [List.length_take]; omega), cs ++ [r], _, rfl, (g.trans g8).wr R8.at_ hDf, ?_⟩
          refine R8.more (by omega) ?_
          rw [Jn.backed_row hi2]
          exact ⟨ob, upd_same, hob⟩
      · rintro σ H' ⟨cs, v2, rfl, g, R⟩
        rw [List.take_of_length_le (by rw [List.length_map]; omega)] at R
        exact ⟨_, rfl, D, _, rfl, .inl ⟨SqL.of R.at_, fun p hp => q p _ (g.newR hp) (R.tupF hp)⟩⟩
    · rcases bad with ⟨a, nss, rfl, hR, h2, h5, hm, hbad⟩ | hN
      · exact ⟨_, rfl, _, rfl, tb, .inl ⟨a, nss, rfl, hR, h2, h5, hm, fun e => (by rw [hbad] at e; cases e), fun _ d H' g => q d H' g⟩⟩
      · exact ⟨_, rfl, _, rfl, tb, .inr ⟨hN, fun d H' g => q d H' g⟩⟩
theorem ok_doubled {f : Addr} {fd : FuncData} (F : Fun K "doubled" "doubled" sDoubled f fd) (B : Bl mg) (Ch : Callee P w K mg base (L2.CX P w) 4 "need_habit" ["value"] (spHabit T K C)) :
    FnOk P w K mg base (L2.CX P w) 5 f fd ["habit"] (spDoubled T K) := by
  refine F.okX scDoubled (fun vs H Q E h => ?_) (fun cdv A outer s H vs Q E hr h => ?_)
  · obtain ⟨a, n, h, rfl, _⟩ := h
    rfl
  · obtain ⟨a, n, h, rfl, hA, tb, q⟩ := h
    obtain ⟨as, hAs, hAl, hAr⟩ := id hA.1
    have n5 := hA.2.five
    have gl := hA.2.len
    have bl := Jn.doubled_len h
    refine ⟨_, pss_cons (ps_expr (pe_fn Ch hr (by decide) (by rfl) passL (pa_cons (pv 0) pa_nil)))
      (pss_one (ps_ret (pe_callTy call_tuple_of (by rfl) B.tuple (by decide +kernel) (pa_cons (pe_lc (own := [("moved", 1)]) (g := gName 1) (tt := tYes)
        (te := tCB (rTupOf K) (tCons (tLc (iTup K (tVar 1)) (gName 2) tYes (tOp (rIxT K) (tVar 1) (tVar 2)) [2]) tNil)) rfl scDoubled.nd (pi_tup (pv 0)) (blkOk_by (N := ["habit", "moved", "comes"]) (sc := defScope sDoubled) (by decide +kernel))
        (fun _ _ _ _ _ => pg_name (i := 1) scDoubled.nd rfl (.inr rfl)) (fun _ _ _ _ _ => pts_nil) (fun _ _ _ _ _ => pe_callTy call_tuple_of (by rfl) B.tuple (by decide +kernel) (pa_cons (pe_lc (own := [("comes", 2)]) (g := gName 2) (tt := tYes) (te := tOp (rIxT K) (tVar 1) (tVar 2)) rfl scDoubled.nd (pi_tup (pv 1)) (blkOk_by (N := ["habit", "moved", "comes"]) (sc := { kind := .function, names := [(".0", .local), ("moved", .cell), ("tuple", .globalImplicit)], isGenerator := false, isCoroutine := false }) (by decide +kernel))
          (fun _ _ _ _ _ => pg_name (i := 2) scDoubled.nd rfl (.inl rfl)) (fun _ _ _ _ _ => pts_nil) (fun _ _ _ _ _ => pe_ix ix_tup (pv 1) (pv 2) (fun _ _ => rfl))) pa_nil))) pa_nil)))), ?_⟩
    obtain ⟨r1, r2, r3, r4, r5⟩ := hab_rows hA
    refine ⟨_, rfl, _, rfl, tb, .inl ⟨a, h.map zs, rfl, r1, r2, r3, r4, fun _ H1 g1 => ?_, fun e => (by rw [r5] at e; cases e)⟩⟩
    refine ⟨_, rfl, a, rfl, ⟨_, g1.sqT hAs⟩, fun D hD => lc_tup (K := K) (a := a) (xs := as.map V.ref) (fun i H' => ∃ cs, Ge T H H' ∧ RowsB H' D cs ((Jn.doubled h).take i)) ⟨[], g1.newR hD, RowsB.nil upd_same⟩
      (fun i H' _ ⟨_, g, _⟩ => g.sqT hAs) ?_ ?_⟩
    · rintro i x H' hi ⟨cs, g, R⟩
      obtain ⟨hi2, p, rfl, hp⟩ := TupH.item hAr hAl hi
      have pi := hA.2.row (k := i) (by omega)
      have hpl := pi.len
      refine ⟨rfl, _, rfl, p, rfl, ⟨_, g.tupN hp⟩, fun D2 hD2 => lc_tup (K := K) (a := p) (xs := pl (Jn.row h i)) (fun j H7 => Ge T H' H7 ∧ H7 D2 = some (.lst (pl (((Jn.row h i).map fun c => (Jn.row h i).getD c 0).take j)))) ⟨Ge.new g.t1 hD2, upd_same⟩
        (fun j H7 _ z => (g.trans z.1).tupN hp) ?_ ?_⟩
      · rintro j x H7 hj ⟨g7, hD7⟩
        obtain ⟨hjl, rfl⟩ := pl_some hj
        have hc := pi.lt _ (Jn.getD_mem hjl)
        have hjl2 : j < ((Jn.row h i).map fun c => (Jn.row h i).getD c 0).length := by rw [List.length_map]; exact hjl
        refine ⟨rfl, _, rfl, _, rfl, p, _, _, _, rfl, rfl, (g.trans g7).tupN hp, atI_pl (by omega), _, hD7, pl_small (by rw [List.length_map]; omega) j, g7.wr hD7 hD2, ?_⟩
        rw [upd_same, ← pl_take_more hjl2, Jn.getD_map hjl]
      · rintro H7 ⟨g7, hD7⟩
        rw [pl_len, ← List.length_map (f := fun c => (Jn.row h i).getD c 0) (as := Jn.row h i), List.take_length] at hD7
        refine ⟨D2, _, rfl, .inl ⟨SqL.of hD7, fun r hr2 => ?_⟩⟩
        have g8 := g7.newR (o := .tup (pl ((Jn.row h i).map fun c => (Jn.row h i).getD c 0))) hr2
        have R8 := R.ge g8
        refine ⟨_, R8.at_, R8.few (by rw [List.length_take]; omega), cs ++ [r], (g.trans g8).wr R8.at_ (g1.free hD), ?_⟩
        refine R8.more (by omega) ?_
        rw [upd_same, Jn.doubled_row hi2]
    · rintro H5 ⟨cs, g, R⟩
      rw [List.take_of_length_le (by rw [List.length_map]; omega)] at R
      exact ⟨D, _, rfl, .inl ⟨SqL.of R.at_, fun p hp => q p _ (g.newR hp) (R.tupH hp)⟩⟩
end
end JX
end
section
set_option Elab.async false
set_option linter.all false
set_option maxRecDepth 100000
set_option maxHeartbeats 8000000
namespace JX
open PySem PySem.Spec PyProof.Rows L2
/-! ### how the heap grows while the row is drawn from -/
structure Gr (T : Two) (r : Addr) (H H' : Hp) : Prop where
  t0 : Tb T H
  t1 : Tb T H'
  keep : ∀ b o, b ≠ T.p → b ≠ T.a → b ≠ r → H b = some o → H' b = some o
/-- the row: the script, how far it is read, and two numbers -/
structure RowOk (K : PySem.W.Frag) (sa : Addr) (S : List Int) (r : Addr) (H : Hp) : Prop where
  at_ : ∃ i s g : Int, H r = some (.lst [.ref sa, .int i, .int s, .int g]) ∧ 0 ≤ i ∧ 0 ≤ s ∧ s < 2147483647 ∧ 0 ≤ g
  scr : SqL K H sa (S.map V.int)
section
variable {T : Two} {r : Addr} {H H1 H2 : Hp} {K : PySem.W.Frag} {a b p sa : Addr} {S : List Int} {xs : List V} {o : HO} {ns : List Nat} {hs : List (List Nat)} {n : Nat}
theorem Ge.gr (g : Ge T H H1) : Gr T r H H1 := ⟨g.t0, g.t1, fun b o n1 n2 _ h => g.keep b o n1 n2 h⟩
theorem Gr.refl (t : Tb T H) : Gr T r H H := (Ge.refl t).gr
theorem Gr.trans (a : Gr T r H H1) (b : Gr T r H1 H2) : Gr T r H H2 := ⟨a.t0, b.t1, fun c o n1 n2 n3 h => b.keep c o n1 n2 n3 (a.keep c o n1 n2 n3 h)⟩
theorem Gr.at (g : Gr T r H H1) (h : H b = some o) (n : ∀ ps, o ≠ .tbl ps) (hr : b ≠ r) : H1 b = some o := g.keep b o (TabG.ne g.t0.1 h n) (TabG.ne g.t0.2 h n) hr h
theorem Gr.new (t : Tb T H) (hp : H p = none) : Gr T r H (upd H p o) := (Ge.new t hp).gr
theorem Gr.newR (g : Gr T r H H1) (hp : H1 p = none) : Gr T r H (upd H1 p o) := g.trans (Gr.new g.t1 hp)
/-- what isn't a list stands apart from the row -/
theorem RowOk.ne (R : RowOk K sa S r H) (h : H b = some o) (n : ∀ ys, o ≠ .lst ys) : b ≠ r := by
  obtain ⟨i, s, g, e, _⟩ := R.at_
  intro z
  rw [z, e] at h
  exact n _ (Option.some.inj h).symm
theorem Gr.tup (g : Gr T r H H1) (R : RowOk K sa S r H) (h : H b = some (.tup xs)) : H1 b = some (.tup xs) := g.at h (fun _ z => by cases z) (R.ne h fun _ z => by cases z)
theorem Gr.sqT (g : Gr T r H H1) (R : RowOk K sa S r H) (h : SqT K H a xs) : SqT K H1 a xs := by
  rcases h with (h | ⟨o, h⟩) | h
  · exact .inl (.inl (g.tup R h))
  · exact .inl (.inr ⟨o, g.at h (fun _ z => by cases z) (R.ne h fun _ z => by cases z)⟩)
  · exact .inr h
theorem Gr.tupN (g : Gr T r H H1) (R : RowOk K sa S r H) (h : TupN K H a ns) : TupN K H1 a ns := g.sqT R h
theorem Gr.tupH (g : Gr T r H H1) (R : RowOk K sa S r H) (h : TupH K H a hs) : TupH K H1 a hs := by
  obtain ⟨as, h1, h2, h3⟩ := h
  exact ⟨as, g.sqT R h1, h2, fun i p m e1 e2 => g.sqT R (h3 i p m e1 e2)⟩
theorem Gr.hab (g : Gr T r H H1) (R : RowOk K sa S r H) (x : Hab K H a n hs) : Hab K H1 a n hs := ⟨g.tupH R x.1, x.2⟩
theorem Gr.frzN (g : Gr T r H H1) (R : RowOk K sa S r H) (h : FrzN H a ns) : FrzN H1 a ns := let ⟨o, h1, h2⟩ := h; ⟨o, g.at h1 (fun _ z => by cases z) (R.ne h1 fun _ z => by cases z), h2⟩
theorem Gr.habF (g : Gr T r H H1) (R : RowOk K sa S r H) (x : HabF K H a n hs) : HabF K H1 a n hs := by
  obtain ⟨⟨as, h1, h2, h3⟩, h⟩ := x
  exact ⟨⟨as, g.sqT R h1, h2, fun i p m e1 e2 => g.frzN R (h3 i p m e1 e2)⟩, h⟩
theorem Gr.lst (g : Gr T r H H1) (h : H b = some (.lst xs)) (hr : b ≠ r) : H1 b = some (.lst xs) := g.at h (fun _ z => by cases z) hr
theorem Gr.rowsF {l : Addr} {bs : List Addr} {ls : List (List Nat)} (g : Gr T r H H1) (R : RowOk K sa S r H) (x : RowsF H l bs ls) (hr : l ≠ r) : RowsF H1 l bs ls :=
  ⟨g.lst x.at_ hr, x.len, fun j b m e1 e2 => g.frzN R (x.row j b m e1 e2)⟩
theorem Gr.free (g : Gr T r H H1) (R : RowOk K sa S r H1) (h : H1 p = none) : H p = none := by
  cases q : H p with
  | none => rfl
  | some o =>
    by_cases e1 : p = T.p
    · obtain ⟨ps, h1, _⟩ := g.t1.1
      rw [e1, h1] at h
      cases h
    · by_cases e2 : p = T.a
      · obtain ⟨ps, h1, _⟩ := g.t1.2
        rw [e2, h1] at h
        cases h
      · by_cases e3 : p = r
        · obtain ⟨i, s, g, e, _⟩ := R.at_
          rw [e3, e] at h
          cases h
        · rw [g.keep p o e1 e2 e3 q] at h
          cases h
theorem RowOk.ge (R : RowOk K sa S r H) (g : Ge T H H1) : RowOk K sa S r H1 := by
  obtain ⟨⟨i, s, g', e, h⟩, h2⟩ := R
  exact ⟨⟨i, s, g', g.lst e, h⟩, g.sqL h2⟩
/-- a list that was free ahead is written -/
theorem Gr.wr (g : Gr T r H H1) (h : H1 p = some (.lst xs)) (hp : H p = none) : Gr T r H (upd H1 p o) := by
  have n : ∀ {P : Addr}, GxR.TabG H1 P → GxR.TabG (L2.upd H1 p o) P := fun t => by
    obtain ⟨ps, h1, h2⟩ := t
    exact ⟨ps, by rw [upd_ne (fun z => by rw [z, h] at h1; cases h1)]; exact h1, h2⟩
  exact ⟨g.t0, ⟨n g.t1.1, n g.t1.2⟩, fun b u n1 n2 n3 q => by rw [upd_ne (ne_of_none q hp)]; exact g.keep b u n1 n2 n3 q⟩
/-- the row is written -/
theorem Gr.row (g : Gr T r H H1) (h : H1 r = some (.lst xs)) : Gr T r H (upd H1 r o) := by
  have n : ∀ {P : Addr}, GxR.TabG H1 P → GxR.TabG (L2.upd H1 r o) P := fun t => by
    obtain ⟨ps, h1, h2⟩ := t
    exact ⟨ps, by rw [upd_ne (fun z => by rw [z, h] at h1; cases h1)]; exact h1, h2⟩
  exact ⟨g.t0, ⟨n g.t1.1, n g.t1.2⟩, fun b u n1 n2 n3 q => by rw [upd_ne n3]; exact g.keep b u n1 n2 n3 q⟩
theorem scr_upd {i s g i' s' g' : Int} (h : SqL K H sa (S.map V.int)) (e : H r = some (.lst [.ref sa, .int i, .int s, .int g])) : SqL K (upd H r (.lst [.ref sa, .int i', .int s', .int g'])) sa (S.map V.int) := by
  rcases h with (h | ⟨o, h⟩) | h
  · refine .inl (.inl ?_)
    rw [upd_ne (fun z => ?_)]
    · exact h
    · rw [z, e] at h
      have h2 : ([.ref sa, .int i, .int s, .int g] : List V) = S.map V.int := by injection h with h; injection h
      cases S with
      | nil => cases h2
      | cons x S =>
        rw [List.map_cons] at h2
        injection h2 with h2
        cases h2
  · refine .inl (.inr ⟨o, ?_⟩)
    rw [upd_ne (fun z => by rw [z, e] at h; cases h)]
    exact h
  · exact .inr h
end
abbrev sTaken : Stmt := top 27
theorem scTaken : FnScope ["_law_row", "_law_many", "_law_found", "_law_cell"] ["_law_row", "_law_many"] (defScope sTaken) := ⟨rfl, rfl, rfl, by decide +kernel, rfl, by decide +kernel, by decide +kernel⟩
def spTaken (T : Two) (K : PySem.W.Frag) : Sp := fun vs H Q _ => ∃ (r sa : Addr) (S : List Int) (m : Nat), vs = [.ref r, .int (m : Int)] ∧ 0 < m ∧ m ≤ 1000 ∧ RowOk K sa S r H ∧ Tb T H ∧
  ∀ (v : Nat) (xs : List V), v < m → H r = some (.lst xs) → ∀ i s g : Int, 0 ≤ i → 0 ≤ s → s < 2147483647 → 0 ≤ g → Q (.int (v : Int)) (upd H r (.lst [.ref sa, .int i, .int s, .int g]))
section
variable {P : Program} {w : World} {K : PySem.W.Frag} {mg : Str → Option Value} {base : Heap} {T : Two}
theorem mod_nat (x : Int) {m : Nat} (h : 0 < m) : x % (m : Int) = ((x % (m : Int)).toNat : Int) ∧ (x % (m : Int)).toNat < m := by
  have h1 := Int.emod_nonneg x (show (m : Int) ≠ 0 by omega)
  have h2 := Int.emod_lt_of_pos x (show (0 : Int) < (m : Int) by omega)
  omega
theorem ok_taken {f : Addr} {fd : FuncData} (F : Fun K "_law_taken" "_law_taken" sTaken f fd) (B : Bl mg) : FnOk P w K mg base CX0 1 f fd ["_law_row", "_law_many"] (spTaken T K) := by
  refine F.ok scTaken (fun vs H Q E h => ?_) (fun cdv A outer s H vs Q E hr h => ?_)
  · obtain ⟨r, sa, S, m, rfl, _⟩ := h
    rfl
  · obtain ⟨r, sa, S, m, rfl, m0, m1, R, tb, q⟩ := h
    obtain ⟨i, s0, g, e, i0, s1, s2, g0⟩ := R.at_
    have q := fun v hv => q v _ hv e
    refine ⟨_, pss_cons (ps_if (pt_cmpR op_gt (pe_ix ix_list (pv 0) pe_int (fun _ _ => rfl)) pe_int (nomark _))
        (pss_cons (ps_set (i := 2) scTaken.nd rfl (.inl rfl) (pe_op op_mod (pe_callTy call_int1 (by rfl) B.int (by decide +kernel) (pa_cons (pe_ix ix_list (pv 0) pe_int (fun _ _ => rfl)) pa_nil)) (pv 1)))
        (pss_cons (ps_asg (pe_op op_fdiv (pe_ix ix_list (pv 0) pe_int (fun _ _ => rfl)) (pv 1)) (pg_sub (pv 0) pe_int set_list))
        (pss_one (ps_ret (pv 2))))) pss_nil)
      (pss_cons (ps_asg (pe_op op_add (pe_ix ix_list (pv 0) pe_int (fun _ _ => rfl)) pe_int) (pg_sub (pv 0) pe_int set_list))
      (pss_cons (ps_if (pt_cmpR op_gt (pe_ix ix_list (pv 0) pe_int (fun _ _ => rfl)) (pe_callB call_len_seq (by rfl) B.len PySem.boot_len (pa_cons (pe_ix ix_list (pv 0) pe_int (fun _ _ => rfl)) pa_nil)) (nomark _))
        (pss_cons (ps_asg (pe_op op_mod (pe_callTy call_int1 (by rfl) B.int (by decide +kernel) (pa_cons (pe_op op_add (pe_op op_mul (pe_ix ix_list (pv 0) pe_int (fun _ _ => rfl)) pe_int) pe_int) pa_nil)) pe_int) (pg_sub (pv 0) pe_int set_list))
        (pss_one (ps_ret (pe_op op_mod (pe_callTy call_int1 (by rfl) B.int (by decide +kernel) (pa_cons (pe_op op_fdiv (pe_ix ix_list (pv 0) pe_int (fun _ _ => rfl)) pe_int) pa_nil)) (pv 1))))) pss_nil)
      (pss_cons (ps_set (i := 3) scTaken.nd rfl (.inl rfl) (pe_ix ix_list (pe_ix ix_list (pv 0) pe_int (fun _ _ => rfl)) (pe_op op_sub (pe_ix ix_list (pv 0) pe_int (fun _ _ => rfl)) pe_int) (fun _ _ => rfl)))
      (pss_cons (ps_asg (pe_op op_mod (pe_callTy call_int1 (by rfl) B.int (by decide +kernel) (pa_cons (pe_op op_add (pe_op op_add (pe_op op_mul (pe_ix ix_list (pv 0) pe_int (fun _ _ => rfl)) pe_int) (pv 3)) pe_int) pa_nil)) pe_int) (pg_sub (pv 0) pe_int set_list))
      (pss_cons (ps_if (pt_cmpR op_ge (pv 3) (pe_op op_pow pe_int pe_int) (nomark _)) (pss_one (ps_asg (pe_op op_fdiv (pv 3) (pv 1)) (pg_sub (pv 0) pe_int set_list))) pss_nil)
      (pss_one (ps_ret (pe_op op_mod (pe_callTy call_int1 (by rfl) B.int (by decide +kernel) (pa_cons (pv 3) pa_nil)) (pv 1))))))))), ?_⟩
    have rd : ∀ {H' : Hp} {v0 v1 v2 v3 : V}, H' r = some (.lst [v0, v1, v2, v3]) → SqL K H' r [v0, v1, v2, v3] := fun h => SqL.of h
    refine ⟨_, rfl, r, _, _, _, rfl, rfl, rd e, rfl, _, _, rfl, rfl, _, rfl, ?_⟩
    by_cases c : 0 < g
    · rw [decide_eq_true c]
      obtain ⟨e1, l1⟩ := mod_nat g m0
      refine iteT ⟨_, rfl, r, _, _, _, rfl, rfl, rd e, rfl, .inl ⟨_, rfl, _, rfl, _, _, rfl, rfl, (show (0 : Int) < (m : Int) by omega), ?_⟩⟩
      refine ⟨_, rfl, r, _, _, _, rfl, rfl, rd e, rfl, _, rfl, _, _, rfl, rfl, ⟨by omega, by omega⟩, _, rfl, r, _, (3 : Int), 3, rfl, rfl, e, rfl, _, rfl, ?_⟩
      have q1 := q _ l1 i s0 (g / (m : Int)) i0 s1 s2 (Int.ediv_nonneg g0 (by omega))
      rw [← e1] at q1
      exact q1
    · rw [decide_eq_false c]
      refine iteF ⟨_, rfl, r, _, _, _, rfl, rfl, rd e, rfl, _, _, rfl, rfl, _, rfl, r, _, (1 : Int), 1, rfl, rfl, e, rfl, ?_⟩
      have scr1 := scr_upd (i' := i + 1) (s' := s0) (g' := g) R.scr e
      have a1 : upd H r (.lst [.ref sa, .int (i + 1), .int s0, .int g]) r = some (.lst [.ref sa, .int (i + 1), .int s0, .int g]) := upd_same
      refine ⟨_, rfl, r, _, _, _, rfl, rfl, rd a1, rfl, _, rfl, r, _, _, _, rfl, rfl, rd a1, rfl, sa, _, rfl, .inl scr1, _, _, rfl, rfl, _, rfl, ?_⟩
      rw [List.length_map]
      by_cases c2 : (S.length : Int) < i + 1
      · rw [decide_eq_true c2]
        refine iteT ⟨_, rfl, r, _, _, _, rfl, rfl, rd a1, rfl, _, _, rfl, rfl, .inl ⟨by omega, by omega⟩, _, _, rfl, rfl, .inl ⟨_, rfl, _, _, rfl, rfl, (show (0 : Int) < 2147483647 by decide), _, rfl, r, _, (2 : Int), 2, rfl, rfl, a1, rfl, ?_⟩⟩
        have h1 := Int.emod_nonneg (s0 * 48271 + 11) (show (2147483647 : Int) ≠ 0 by decide)
        have h2 := Int.emod_lt_of_pos (s0 * 48271 + 11) (show (0 : Int) < 2147483647 by decide)
        have u2 : upd (upd H r (.lst [.ref sa, .int (i + 1), .int s0, .int g])) r (.lst (([.ref sa, .int (i + 1), .int s0, .int g] : List V).set 2 (.int ((s0 * 48271 + 11) % 2147483647)))) = upd H r (.lst [.ref sa, .int (i + 1), .int ((s0 * 48271 + 11) % 2147483647), .int g]) := upd_upd
        have a2 : upd (upd H r (.lst [.ref sa, .int (i + 1), .int s0, .int g])) r (.lst (([.ref sa, .int (i + 1), .int s0, .int g] : List V).set 2 (.int ((s0 * 48271 + 11) % 2147483647)))) r = some (.lst [.ref sa, .int (i + 1), .int ((s0 * 48271 + 11) % 2147483647), .int g]) := upd_same
        obtain ⟨e1, l1⟩ := mod_nat ((s0 * 48271 + 11) % 2147483647 / 7) m0
        refine ⟨_, rfl, r, _, _, _, rfl, rfl, rd a2, rfl, _, _, rfl, rfl, ⟨by decide, by decide⟩, .inl ⟨_, rfl, _, rfl, _, _, rfl, rfl, (show (0 : Int) < (m : Int) by omega), ?_⟩⟩
        have q1 := q _ l1 (i + 1) ((s0 * 48271 + 11) % 2147483647) g (by omega) h1 h2 g0
        rw [← e1, ← u2] at q1
        exact q1
      · rw [decide_eq_false c2]
        have hi : i.toNat < S.length := by omega
        have hat : atI (S.map V.int) (i + 1 - 1) = some (V.int S[i.toNat]) := by
          rw [show i + 1 - 1 = ((i.toNat : Nat) : Int) by omega]
          exact atI_nat (by rw [List.getElem?_map, List.getElem?_eq_getElem hi]; rfl)
        generalize S[i.toNat] = x at hat
        refine iteF ⟨_, rfl, r, _, _, _, rfl, rfl, rd a1, rfl, _, rfl, r, _, _, _, rfl, rfl, rd a1, rfl, _, _, rfl, rfl, sa, _, _, _, rfl, rfl, scr1, hat, ?_⟩
        refine ⟨_, rfl, r, _, _, _, rfl, rfl, rd a1, rfl, _, _, rfl, rfl, .inl ⟨by omega, by omega⟩, _, rfl, _, _, rfl, rfl, _, _, rfl, rfl, .inl ⟨_, rfl, _, _, rfl, rfl, (show (0 : Int) < 2147483647 by decide), _, rfl, r, _, (2 : Int), 2, rfl, rfl, a1, rfl, ?_⟩⟩
        have h1 := Int.emod_nonneg (s0 * 48271 + x + 11) (show (2147483647 : Int) ≠ 0 by decide)
        have h2 := Int.emod_lt_of_pos (s0 * 48271 + x + 11) (show (0 : Int) < 2147483647 by decide)
        have u2 : upd (upd H r (.lst [.ref sa, .int (i + 1), .int s0, .int g])) r (.lst (([.ref sa, .int (i + 1), .int s0, .int g] : List V).set 2 (.int ((s0 * 48271 + x + 11) % 2147483647)))) = upd H r (.lst [.ref sa, .int (i + 1), .int ((s0 * 48271 + x + 11) % 2147483647), .int g]) := upd_upd
        have a2 : upd (upd H r (.lst [.ref sa, .int (i + 1), .int s0, .int g])) r (.lst (([.ref sa, .int (i + 1), .int s0, .int g] : List V).set 2 (.int ((s0 * 48271 + x + 11) % 2147483647)))) r = some (.lst [.ref sa, .int (i + 1), .int ((s0 * 48271 + x + 11) % 2147483647), .int g]) := upd_same
        obtain ⟨e1, l1⟩ := mod_nat x m0
        refine ⟨_, rfl, _, _, rfl, rfl, ⟨by decide, by decide, by decide⟩, _, _, rfl, rfl, _, rfl, ?_⟩
        by_cases c3 : (10 : Int) ^ (18 : Int).toNat ≤ x
        · rw [decide_eq_true c3]
          refine iteT ⟨_, rfl, _, rfl, _, _, rfl, rfl, ⟨by omega, by omega⟩, _, rfl, r, _, (3 : Int), 3, rfl, rfl, a2, rfl, ?_⟩
          have x0 : 0 ≤ x := by
            have : (0 : Int) ≤ (10 : Int) ^ (18 : Int).toNat := by decide
            omega
          have u3 : upd (upd (upd H r (.lst [.ref sa, .int (i + 1), .int s0, .int g])) r (.lst (([.ref sa, .int (i + 1), .int s0, .int g] : List V).set 2 (.int ((s0 * 48271 + x + 11) % 2147483647))))) r (.lst (([.ref sa, .int (i + 1), .int ((s0 * 48271 + x + 11) % 2147483647), .int g] : List V).set 3 (.int (x / (m : Int))))) = upd H r (.lst [.ref sa, .int (i + 1), .int ((s0 * 48271 + x + 11) % 2147483647), .int (x / (m : Int))]) := by rw [u2]; exact upd_upd
          refine ⟨_, rfl, .inl ⟨_, rfl, _, rfl, _, _, rfl, rfl, (show (0 : Int) < (m : Int) by omega), ?_⟩⟩
          have q1 := q _ l1 (i + 1) ((s0 * 48271 + x + 11) % 2147483647) (x / (m : Int)) (by omega) h1 h2 (Int.ediv_nonneg x0 (by omega))
          rw [← e1, ← u3] at q1
          exact q1
        · rw [decide_eq_false c3]
          refine iteF ⟨_, rfl, .inl ⟨_, rfl, _, rfl, _, _, rfl, rfl, (show (0 : Int) < (m : Int) by omega), ?_⟩⟩
          have q1 := q _ l1 (i + 1) ((s0 * 48271 + x + 11) % 2147483647) g (by omega) h1 h2 g0
          rw [← e1, ← u2] at q1
          exact q1
/-- what the draw brings its caller -/
theorem taken_use {T : Two} {r sa : Addr} {S : List Int} {m : Nat} {H : Hp} {Q : VK} {E : XK} (m0 : 0 < m) (m1 : m ≤ 1000) (R : RowOk K sa S r H) (tb : Tb T H) (q : ∀ (v : Nat) H', v < m → Gr T r H H' → RowOk K sa S r H' → Q (.int (v : Int)) H') : spTaken T K [.ref r, .int (m : Int)] H Q E := by
  refine ⟨r, sa, S, m, rfl, m0, m1, R, tb, fun v xs hv hx i s g i0 s0 s1 g0 => q v _ hv ((Gr.refl tb).row hx) ⟨⟨i, s, g, upd_same, i0, s0, s1, g0⟩, ?_⟩⟩
  obtain ⟨i', s', g', e, _⟩ := R.at_
  exact scr_upd R.scr e
end
end JX
end
section
set_option Elab.async false
set_option linter.all false
set_option maxRecDepth 100000
set_option maxHeartbeats 8000000
namespace JX
open PySem PySem.Spec PyProof.Rows L2
/-! ### the law's draws -/
theorem taken_gr {T : Two} {r sa : Addr} {S : List Int} {K : PySem.W.Frag} {H : Hp} {xs : List V} {i s g : Int} (R : RowOk K sa S r H) (tb : Tb T H) (hx : H r = some (.lst xs)) (i0 : 0 ≤ i) (s0 : 0 ≤ s) (s1 : s < 2147483647) (g0 : 0 ≤ g) :
    Gr T r H (upd H r (.lst [.ref sa, .int i, .int s, .int g])) ∧ RowOk K sa S r (upd H r (.lst [.ref sa, .int i, .int s, .int g])) := by
  refine ⟨(Gr.refl tb).row hx, ⟨i, s, g, upd_same, i0, s0, s1, g0⟩, ?_⟩
  obtain ⟨i', s', g', e, _⟩ := R.at_
  exact scr_upd R.scr e
theorem perm_of {n : Nat} {l m : List Nat} (p : Jn.IsPerm n l) (h : m.Perm l) : Jn.IsPerm n m :=
  ⟨by rw [h.length_eq]; exact p.len, fun x hx => p.lt x (h.mem_iff.mp hx), h.nodup_iff.mpr p.nd⟩
theorem range_perm (n : Nat) : Jn.IsPerm n (List.range n) := ⟨List.length_range, fun x hx => List.mem_range.mp hx, List.nodup_range⟩
theorem RowOk.wr {K : PySem.W.Frag} {sa r p : Addr} {S : List Int} {H : Hp} {o o0 : HO} (R : RowOk K sa S r H) (hp : H p = some o0) (hr : p ≠ r) (hs : p ≠ sa ∨ SqL K (fun _ => none) sa (S.map V.int)) : RowOk K sa S r (upd H p o) := by
  obtain ⟨⟨i, s, g, e, h⟩, h2⟩ := R
  refine ⟨⟨i, s, g, by rw [upd_ne (Ne.symm hr)]; exact e, h⟩, ?_⟩
  rcases hs with hs | hs
  case inr =>
    rcases hs with (hs | ⟨o, hs⟩) | hs
    · cases hs
    · cases hs
    · exact .inr hs
  rcases h2 with (h2 | ⟨o', h2⟩) | h2
  · exact .inl (.inl (by rw [upd_ne (Ne.symm hs)]; exact h2))
  · exact .inl (.inr ⟨o', by rw [upd_ne (Ne.symm hs)]; exact h2⟩)
  · exact .inr h2
theorem RowOk.apart {K : PySem.W.Frag} {sa r p : Addr} {S : List Int} {H : Hp} (R : RowOk K sa S r H) (hp : H p = none) : p ≠ sa ∨ SqL K (fun _ => none) sa (S.map V.int) := by
  rcases R.scr with (h | ⟨o, h⟩) | h
  · exact .inl (Ne.symm (ne_of_none h hp))
  · exact .inl (Ne.symm (ne_of_none h hp))
  · exact .inr (.inr h)
theorem map_drop1 {α β : Type} (f : α → β) : ∀ (l : List α) (k : Nat), (l.map f).eraseIdx k = (l.eraseIdx k).map f
  | [], _ => rfl
  | a :: l, 0 => rfl
  | a :: l, k + 1 => by
    show f a :: (l.map f).eraseIdx k = f a :: (l.eraseIdx k).map f
    rw [map_drop1 f l k]
theorem front_perm : ∀ (l : List Nat) (k : Nat), k < l.length → (l.getD k 0 :: l.eraseIdx k).Perm l
  | [], _, h => by simp at h
  | a :: l, 0, _ => List.Perm.refl _
  | a :: l, k + 1, h => by
    have ih := front_perm l k (by simpa using h)
    show (l.getD k 0 :: a :: l.eraseIdx k).Perm (a :: l)
    exact (List.Perm.swap a (l.getD k 0) (l.eraseIdx k)).trans (ih.cons a)
abbrev sPick : Stmt := top 28
abbrev sPermut : Stmt := top 29
abbrev sDraw : Stmt := top 30
theorem scPick : FnScope ["_law_row", "_law_things"] ["_law_row", "_law_things"] (defScope sPick) := ⟨rfl, rfl, rfl, by decide +kernel, rfl, by decide +kernel, by decide +kernel⟩
theorem scPermut : FnScope ["_law_row", "_law_many", "_law_left", "_law_found", "_law_turn"] ["_law_row", "_law_many"] (defScope sPermut) := ⟨rfl, rfl, rfl, by decide +kernel, rfl, by decide +kernel, by decide +kernel⟩
theorem scDraw : FnScope ["_law_row", "_law_many", "_law_found", "_law_place", "_law_way"] ["_law_row", "_law_many"] (defScope sDraw) := ⟨rfl, rfl, rfl, by decide +kernel, rfl, by decide +kernel, by decide +kernel⟩
def spPick (T : Two) (K : PySem.W.Frag) : Sp := fun vs H Q _ => ∃ (r sa l : Addr) (S : List Int) (xs : List V), vs = [.ref r, .ref l] ∧ RowOk K sa S r H ∧ Tb T H ∧ l ≠ r ∧ H l = some (.lst xs) ∧ 0 < xs.length ∧ xs.length ≤ 1000 ∧
  ∀ (j : Nat) (v : V) H', xs[j]? = some v → Gr T r H H' → RowOk K sa S r H' → Q v H'
def spPermut (T : Two) (K : PySem.W.Frag) : Sp := fun vs H Q _ => ∃ (r sa : Addr) (S : List Int) (n : Nat), vs = [.ref r, .int (n : Int)] ∧ n ≤ 5 ∧ RowOk K sa S r H ∧ Tb T H ∧
  ∀ (p : Addr) (ms : List Nat) H', Gr T r H H' → RowOk K sa S r H' → FrzN H' p ms → Jn.IsPerm n ms → Q (.ref p) H'
def spDraw (T : Two) (K : PySem.W.Frag) : Sp := fun vs H Q _ => ∃ (r sa : Addr) (S : List Int) (n : Nat), vs = [.ref r, .int (n : Int)] ∧ 2 ≤ n ∧ n ≤ 5 ∧ RowOk K sa S r H ∧ Tb T H ∧
  ∀ (p : Addr) (h : List (List Nat)) H', Gr T r H H' → RowOk K sa S r H' → HabF K H' p n h → Q (.ref p) H'
section
variable {P : Program} {w : World} {K : PySem.W.Frag} {mg : Str → Option Value} {base : Heap} {T : Two}
theorem ok_pick {f : Addr} {fd : FuncData} (F : Fun K "_law_pick" "_law_pick" sPick f fd) (B : Bl mg) (Ct : Callee P w K mg base CX0 1 "_law_taken" ["_law_row", "_law_many"] (spTaken T K)) : FnOk P w K mg base CX0 2 f fd ["_law_row", "_law_things"] (spPick T K) := by
  refine F.ok scPick (fun vs H Q E h => ?_) (fun cdv A outer s H vs Q E hr h => ?_)
  · obtain ⟨r, sa, l, S, xs, rfl, _⟩ := h
    rfl
  · obtain ⟨r, sa, l, S, xs, rfl, R, tb, hne, hl, h0, h1, q⟩ := h
    refine ⟨_, pss_one (ps_ret (pe_ix ix_list (pv 1) (pe_fn Ct hr (by decide) (by rfl) pass0 (pa_cons (pv 0) (pa_cons (pe_callB call_len_seq (by rfl) B.len PySem.boot_len (pa_cons (pv 1) pa_nil)) pa_nil))) (fun _ _ => rfl))), ?_⟩
    refine ⟨_, rfl, _, rfl, _, rfl, l, _, rfl, .inl (SqL.of hl), r, sa, S, xs.length, rfl, h0, h1, R, tb, fun v ys hv hy i s g i0 s0 s1 g0 => ?_⟩
    obtain ⟨g1, R1⟩ := taken_gr R tb hy i0 s0 s1 g0
    exact ⟨l, xs, (v : Int), xs[v], rfl, rfl, SqL.of (g1.lst hl hne), atI_nat (List.getElem?_eq_getElem hv), q v _ _ (List.getElem?_eq_getElem hv) g1 R1⟩
theorem ok_permut {f : Addr} {fd : FuncData} (F : Fun K "_law_permutation" "_law_permutation" sPermut f fd) (B : Bl mg) (Ct : Callee P w K mg base CX0 1 "_law_taken" ["_law_row", "_law_many"] (spTaken T K)) : FnOk P w K mg base CX0 2 f fd ["_law_row", "_law_many"] (spPermut T K) := by
  refine F.ok scPermut (fun vs H Q E h => ?_) (fun cdv A outer s H vs Q E hr h => ?_)
  · obtain ⟨r, sa, S, n, rfl, _⟩ := h
    rfl
  · obtain ⟨r, sa, S, n, rfl, n5, R, tb, q⟩ := h
    refine ⟨_, pss_cons (ps_par (i := 2) (j := 3) rfl scPermut.nd rfl rfl (by decide) rfl rfl (pa_cons (pe_listRg rfl (by rfl) B.list (prg_1 (by rfl) B.range (pv 1))) (pa_cons (pe_lst pa_nil) pa_nil)) (by rfl))
      (pss_cons (ps_for PassesOwn.never rfl (pi_range1 (by rfl) B.range (pa_cons (pv 1) pa_nil)) (pg_name (i := 4) scPermut.nd rfl (.inl rfl))
        (pss_one (ps_expr (pe_bm PySem.F.plainAttrs_list PySem.F.slot_list_append PySem.F.type_list_append mt_append (pv 3) (pa_cons (pe_bm PySem.F.plainAttrs_list PySem.F.slot_list_pop PySem.F.type_list_pop mt_popAt (pv 2)
          (pa_cons (pe_fn Ct hr (by decide) (by rfl) pass0 (pa_cons (pv 0) (pa_cons (pe_callB call_len_seq (by rfl) B.len PySem.boot_len (pa_cons (pv 2) pa_nil)) pa_nil))) pa_nil)) pa_nil)))))
      (pss_one (ps_ret (pe_callTy call_tupF (by rfl) B.tuple (by decide +kernel) (pa_cons (pv 3) pa_nil))))), ?_⟩
    refine ⟨_, rfl, (n : Int), rfl, RgOk.of_le (by omega) (by omega) (by omega) (by omega), fun L hL => ?_⟩
    rw [rgV_pl]
    refine ⟨Nat.zero_le _, fun D hD => ⟨_, _, rfl, ?_⟩⟩
    have g1 : Ge T H (upd H L (.lst (pl (List.range n)))) := Ge.new tb hL
    have g2 := g1.newR (o := .lst []) hD
    have hDf : H D = none := g1.free hD
    have hLD : L ≠ D := ne_of_none (upd_same (H := H) (a := L)) hD
    have hLr : L ≠ r := fun z => by
      obtain ⟨i, s, g, e, _⟩ := R.at_
      rw [z, e] at hL
      cases hL
    have hDr : D ≠ r := fun z => by
      obtain ⟨i, s, g, e, _⟩ := R.at_
      rw [z, e] at hDf
      cases hDf
    have hLs := R.apart hL
    have hDs := R.apart hDf
    have aL : upd (upd H L (.lst (pl (List.range n)))) D (.lst []) L = some (.lst (pl (List.range n))) := by rw [upd_ne hLD]; exact upd_same
    have aD : upd (upd H L (.lst (pl (List.range n)))) D (.lst []) D = some (.lst (pl [])) := upd_same
    have R2 := R.ge g2
    generalize upd (upd H L (.lst (pl (List.range n)))) D (.lst []) = H2 at g2 aL aD R2 ⊢
    refine ⟨_, rfl, (n : Int), rfl, by omega, by omega, ?_⟩
    rw [Int.toNat_natCast]
    refine for_range (lo := 0) (n := n) (fun i σ H' => ∃ (v4 : Option V) (left found : List Nat), σ = [some (.ref r), some (.int (n : Int)), some (.ref L), some (.ref D), v4] ∧ Gr T r H H' ∧ RowOk K sa S r H' ∧ H' L = some (.lst (pl left)) ∧ H' D = some (.lst (pl found)) ∧ found.length = i ∧ Jn.IsPerm n (found ++ left))
      ⟨none, List.range n, [], rfl, g2.gr, R2, aL, aD, rfl, range_perm n⟩ ?_ ?_
    · rintro i σ H' hi ⟨v4, left, found, rfl, g, R', hL', hD', hfl, hp⟩
      have hll := hp.len
      rw [List.length_append] at hll
      have el : [V.ref r, V.int ((pl left).length : Nat)] = [V.ref r, V.int (left.length : Nat)] := by rw [pl_len]
      refine ⟨_, rfl, .inl ⟨rfl, _, SqL.of hD'⟩, _, rfl, .inl ⟨rfl, _, SqL.of hL'⟩, _, rfl, _, rfl, L, _, rfl, .inl (SqL.of hL'), r, sa, S, left.length, el, by omega, by omega, R', g.t1, fun v ys hv hy i0 s0 g0 a1 a2 a3 a4 => ?_⟩
      obtain ⟨g3, R3⟩ := taken_gr R' g.t1 hy a1 a2 a3 a4
      have hL3 := g3.lst hL' hLr
      have hD3 := g3.lst hD' hDr
      refine ⟨L, pl left, (v : Int), v, _, rfl, rfl, hL3, by omega, by omega, ?_, pl_get hv, ?_⟩
      · rw [pl_len]
        exact (ixN_seq (ix_at hv)).1
      have g4 := (g.trans g3).wr (o := .lst ((pl left).eraseIdx v)) hL3 hL
      have R4 := R3.wr (o := .lst ((pl left).eraseIdx v)) hL3 hLr hLs
      have hD4 : upd (upd H' r (.lst [.ref sa, .int i0, .int s0, .int g0])) L (.lst ((pl left).eraseIdx v)) D = some (.lst (pl found)) := by rw [upd_ne (Ne.symm hLD)]; exact hD3
      refine ⟨D, pl found, _, rfl, rfl, hD4, ?_, _, left.eraseIdx v, found ++ [left.getD v 0], rfl, g4.wr hD4 hDf, R4.wr hD4 hDr hDs, ?_, ?_, ?_, ?_⟩
      · rw [pl_len]
        exact small1000 (by omega)
      · rw [upd_ne hLD, upd_same]
        unfold pl
        rw [map_drop1]
      · rw [upd_same, pl_app]
        rfl
      · rw [List.length_append, hfl]
        rfl
      · refine perm_of hp ?_
        rw [List.append_assoc]
        refine List.Perm.append_left found ?_
        exact front_perm left v hv
    · rintro σ H' ⟨v4, left, found, rfl, g, R', hL', hD', hfl, hp⟩
      have hll := hp.len
      rw [List.length_append] at hll
      have e : left = [] := List.length_eq_zero_iff.mp (by omega)
      rw [e, List.append_nil] at hp
      exact ⟨_, rfl, D, _, rfl, SqL.of hD', fun l o hl ho => q l found _ (g.newR hl) (R'.ge (Ge.new g.t1 hl)) ⟨o, upd_same, ho⟩ hp⟩
/-- place k's permutation that brings what stands at 0 behind it -/
def turned (n k : Nat) : List Nat := (List.range k).map (1 + ·) ++ [0] ++ (List.range (n - (k + 1))).map (k + 1 + ·)
theorem turned_perm {n k : Nat} (h5 : n ≤ 5) (hk : k < n) : Jn.IsPerm n (turned n k) := by
  have all : ∀ n : Fin 6, ∀ k : Fin 6, k.1 < n.1 → permB (zs (turned n.1 k.1)) (n.1 : Int) = true := by decide
  exact permB_zs.mp (all ⟨n, by omega⟩ ⟨k, by omega⟩ hk)
theorem rgV_one (k : Nat) : rgV 1 ((k : Int) + 1) = pl ((List.range k).map (1 + ·)) := by
  have := rgV_pl2 1 k
  rw [show ((1 : Nat) : Int) + (k : Int) = (k : Int) + 1 by omega] at this
  exact this
theorem rgV_rest {n k : Nat} (h : k < n) : rgV ((k : Int) + 1) (n : Int) = pl ((List.range (n - (k + 1))).map (k + 1 + ·)) := by
  have := rgV_pl2 (k + 1) (n - (k + 1))
  rw [show ((k + 1 : Nat) : Int) + ((n - (k + 1) : Nat) : Int) = (n : Int) by omega] at this
  exact this
theorem ok_draw {f : Addr} {fd : FuncData} (F : Fun K "_law_habit" "_law_habit" sDraw f fd) (B : Bl mg) (Ct : Callee P w K mg base CX0 1 "_law_taken" ["_law_row", "_law_many"] (spTaken T K)) (Cp : Callee P w K mg base CX0 2 "_law_permutation" ["_law_row", "_law_many"] (spPermut T K)) :
    FnOk P w K mg base CX0 3 f fd ["_law_row", "_law_many"] (spDraw T K) := by
  refine F.ok scDraw (fun vs H Q E h => ?_) (fun cdv A outer s H vs Q E hr h => ?_)
  · obtain ⟨r, sa, S, n, rfl, _⟩ := h
    rfl
  · obtain ⟨r, sa, S, n, rfl, n2, n5, R, tb, q⟩ := h
    refine ⟨_, pss_cons (ps_set (i := 2) scDraw.nd rfl (.inl rfl) (pe_lst pa_nil))
      (pss_cons (ps_for PassesOwn.never rfl (pi_range1 (by rfl) B.range (pa_cons (pv 1) pa_nil)) (pg_name (i := 3) scDraw.nd rfl (.inl rfl))
        (pss_cons (ps_set (i := 4) scDraw.nd rfl (.inl rfl) (pe_fn Ct hr (by decide) (by rfl) pass0 (pa_cons (pv 0) (pa_cons pe_int pa_nil))))
        (pss_one (ps_if (pt_cmpR op_eq (pv 4) pe_int (nomark _))
          (pss_one (ps_expr (pe_bm PySem.F.plainAttrs_list PySem.F.slot_list_append PySem.F.type_list_append mt_append (pv 2) (pa_cons (pe_tupRgF rfl (by rfl) B.tuple (prg_1 (by rfl) B.range (pv 1))) pa_nil))))
          (pss_one (ps_if (pt_cmpR op_eq (pv 4) pe_int (nomark _))
            (pss_one (ps_expr (pe_bm PySem.F.plainAttrs_list PySem.F.slot_list_append PySem.F.type_list_append mt_append (pv 2) (pa_cons (pe_callTy call_tupF (by rfl) B.tuple (by decide +kernel) (pa_cons
              (pe_op op_cat (pe_op op_cat (pe_listRg rfl (by rfl) B.list (prg_2 (by rfl) B.range pe_int (pe_op op_add (pv 3) pe_int))) (pe_lst (pa_cons pe_int pa_nil))) (pe_listRg rfl (by rfl) B.list (prg_2 (by rfl) B.range (pe_op op_add (pv 3) pe_int) (pv 1)))) pa_nil)) pa_nil))))
            (pss_one (ps_expr (pe_bm PySem.F.plainAttrs_list PySem.F.slot_list_append PySem.F.type_list_append mt_append (pv 2) (pa_cons (pe_fn Cp hr (by decide) (by rfl) pass0 (pa_cons (pv 0) (pa_cons (pv 1) pa_nil))) pa_nil))))))))))
      (pss_one (ps_ret (pe_callTy call_tuple_of (by rfl) B.tuple (by decide +kernel) (pa_cons (pv 2) pa_nil))))), ?_⟩
    refine ⟨Nat.zero_le _, fun D hD => ?_⟩
    have g1 : Ge T H (upd H D (.lst [])) := Ge.new tb hD
    have hDr : D ≠ r := fun z => by
      obtain ⟨i, s, g, e, _⟩ := R.at_
      rw [z, e] at hD
      cases hD
    have hDs := R.apart hD
    refine ⟨_, rfl, (n : Int), rfl, by omega, by omega, ?_⟩
    rw [Int.toNat_natCast]
    refine for_range (lo := 0) (n := n) (fun i σ H' => ∃ (v3 v4 : Option V) (bs : List Addr) (ls : List (List Nat)), σ = [some (.ref r), some (.int (n : Int)), some (.ref D), v3, v4] ∧ Gr T r H H' ∧ RowOk K sa S r H' ∧ RowsF H' D bs ls ∧ ls.length = i ∧ ∀ m ∈ ls, Jn.IsPerm n m)
      ⟨none, none, [], [], rfl, g1.gr, R.ge g1, RowsF.nil upd_same, rfl, fun m hm => by cases hm⟩ ?_ ?_
    · rintro i σ H' hi ⟨v3, v4, bs, ls, rfl, g, R', F', hll, hp⟩
      rw [Int.zero_add]
      refine ⟨_, rfl, r, sa, S, 4, rfl, by omega, by omega, R', g.t1, fun v ys hv hy i0 s0 g0 a1 a2 a3 a4 => ?_⟩
      obtain ⟨g3, R3⟩ := taken_gr R' g.t1 hy a1 a2 a3 a4
      have F3 := g3.rowsF R' F' hDr
      have G3 := g.trans g3
      generalize upd H' r (.lst [.ref sa, .int i0, .int s0, .int g0]) = H3 at g3 R3 F3 G3 ⊢
      -- one more row
      have fin : ∀ (x : Addr) (m : List Nat) (H5 : Hp), Gr T r H3 H5 → RowOk K sa S r H5 → FrzN H5 x m → Jn.IsPerm n m →
          H5 D = some (.lst (bs.map V.ref)) ∧ (bs.map V.ref).length < sizeLine ∧ ∃ (v3' v4' : Option V) (bs' : List Addr) (ls' : List (List Nat)), [some (V.ref r), some (.int (n : Int)), some (.ref D), some (.int (i : Int)), some (.int (v : Int))] = [some (.ref r), some (.int (n : Int)), some (.ref D), v3', v4'] ∧ Gr T r H (upd H5 D (.lst (bs.map V.ref ++ [.ref x]))) ∧ RowOk K sa S r (upd H5 D (.lst (bs.map V.ref ++ [.ref x]))) ∧
            RowsF (upd H5 D (.lst (bs.map V.ref ++ [.ref x]))) D bs' ls' ∧ ls'.length = i + 1 ∧ ∀ m ∈ ls', Jn.IsPerm n m := by
        intro x m H5 g5 R5 hx hm
        have F5 := g5.rowsF R3 F3 hDr
        refine ⟨F5.at_, F5.few (by omega), _, _, bs ++ [x], ls ++ [m], rfl, (G3.trans g5).wr F5.at_ hD, R5.wr F5.at_ hDr hDs, F5.snoc hx, by rw [List.length_append, hll]; rfl, fun m' hm' => ?_⟩
        rcases List.mem_append.mp hm' with z | z
        · exact hp m' z
        · rw [List.mem_singleton.mp z]
          exact hm
      refine ⟨_, rfl, rfl, _, rfl, ?_⟩
      by_cases c0 : v = 0
      · rw [decide_eq_true (show V.int (v : Int) = V.int 0 by rw [c0]; rfl)]
        refine iteT ⟨_, rfl, .inl ⟨rfl, _, SqL.of F3.at_⟩, _, rfl, (n : Int), rfl, RgOk.of_le (by omega) (by omega) (by omega) (by omega), fun l o hl ho => ?_⟩
        rw [rgV_pl]
        obtain ⟨f1, f2, f3⟩ := fin l (List.range n) _ (Gr.new g3.t1 hl) (R3.ge (Ge.new g3.t1 hl)) ⟨o, upd_same, ho⟩ (range_perm n)
        exact ⟨D, _, _, rfl, rfl, f1, f2, f3⟩
      · rw [decide_eq_false (show ¬ V.int (v : Int) = V.int 0 from fun z => c0 (by injection z with z; omega))]
        refine iteF ⟨_, rfl, rfl, _, rfl, ?_⟩
        by_cases c1 : v = 1
        · rw [decide_eq_true (show V.int (v : Int) = V.int 1 by rw [c1]; rfl)]
          refine iteT ⟨_, rfl, .inl ⟨rfl, _, SqL.of F3.at_⟩, _, rfl, _, _, rfl, rfl, _, _, rfl, rfl, RgOk.of_le (by omega) (by omega) (by omega) (by omega), fun l1 hl1 => ?_⟩
          rw [rgV_one]
          have k1 : Ge T H3 _ := Ge.new (o := .lst (pl ((List.range i).map (1 + ·)))) g3.t1 hl1
          refine ⟨by show 1 ≤ sizeLine; decide, fun l2 hl2 => ?_⟩
          have k2 := k1.newR (o := .lst [V.int 0]) hl2
          have n12 : l1 ≠ l2 := ne_of_none upd_same hl2
          refine ⟨l1, l2, _, _, rfl, rfl, by rw [upd_ne n12]; exact upd_same, upd_same, ?_, fun l3 hl3 => ?_⟩
          · rw [pl_len, List.length_map, List.length_range]
            exact Nat.le_of_lt (small1000 (by show i + 1 ≤ 1000; omega))
          have k3 := k2.newR (o := .lst (pl ((List.range i).map (1 + ·)) ++ [V.int 0])) hl3
          have a3 : upd (upd (upd H3 l1 (.lst (pl ((List.range i).map (1 + ·))))) l2 (.lst [V.int 0])) l3 (.lst (pl ((List.range i).map (1 + ·)) ++ [V.int 0])) l3 = some (.lst (pl ((List.range i).map (1 + ·)) ++ [V.int 0])) := upd_same
          generalize upd (upd (upd H3 l1 (.lst (pl ((List.range i).map (1 + ·))))) l2 (.lst [V.int 0])) l3 (.lst (pl ((List.range i).map (1 + ·)) ++ [V.int 0])) = H6 at k3 a3 ⊢
          refine ⟨_, rfl, _, _, rfl, rfl, _, rfl, _, _, rfl, rfl, RgOk.of_le (by omega) (by omega) (by omega) (by omega), fun l4 hl4 => ?_⟩
          rw [rgV_rest hi]
          have k4 := k3.newR (o := .lst (pl ((List.range (n - (i + 1))).map (i + 1 + ·)))) hl4
          have n34 : l3 ≠ l4 := ne_of_none a3 hl4
          refine ⟨l3, l4, _, _, rfl, rfl, by rw [upd_ne n34]; exact a3, upd_same, ?_, fun l5 hl5 => ?_⟩
          · rw [List.length_append, pl_len, pl_len, List.length_map, List.length_range, List.length_map, List.length_range]
            exact Nat.le_of_lt (small1000 (by show i + 1 + (n - (i + 1)) ≤ 1000; omega))
          have et : pl ((List.range i).map (1 + ·)) ++ [V.int 0] ++ pl ((List.range (n - (i + 1))).map (i + 1 + ·)) = pl (turned n i) := by
            unfold turned
            rw [pl_app, pl_app]
            rfl
          rw [et]
          have k5 := k4.newR (o := .lst (pl (turned n i))) hl5
          refine ⟨l5, _, rfl, SqL.of upd_same, fun l o hl ho => ?_⟩
          have k6 := k5.newR (o := .frz o (.tup (pl (turned n i)))) hl
          obtain ⟨f1, f2, f3⟩ := fin l (turned n i) _ k6.gr (R3.ge k6) ⟨o, upd_same, ho⟩ (turned_perm n5 hi)
          exact ⟨D, _, _, rfl, rfl, f1, f2, f3⟩
        · rw [decide_eq_false (show ¬ V.int (v : Int) = V.int 1 from fun z => c1 (by injection z with z; omega))]
          refine iteF ⟨_, rfl, .inl ⟨rfl, _, SqL.of F3.at_⟩, _, rfl, _, rfl, r, sa, S, n, rfl, n5, R3, g3.t1, fun x m H5 g5 R5 hx hm => ?_⟩
          obtain ⟨f1, f2, f3⟩ := fin x m H5 g5 R5 hx hm
          exact ⟨D, _, _, rfl, rfl, f1, f2, f3⟩
    · rintro σ H' ⟨v3, v4, bs, ls, rfl, g, R', F', hll, hp⟩
      refine ⟨_, rfl, D, _, rfl, .inl ⟨SqL.of F'.at_, fun p hpn => q p ls _ (g.newR hpn) (R'.ge (Ge.new g.t1 hpn)) ⟨F'.tupF hpn, ⟨hll, n2, n5, hp⟩⟩⟩⟩
end
end JX
end
section
set_option Elab.async false
set_option linter.all false
set_option maxRecDepth 100000
set_option maxHeartbeats 8000000
namespace JX
open PySem PySem.Spec PyProof.Rows L2 LamX
/-! ### a lambda of the law, with or without a default -/
/-- the lambda's names: its own parameters bear names that the def doesn't follow; the others are captured or global -/
structure LamD (N : List Str) (sc scope : Scope) : Prop where
  kind : scope.kind = .function
  co : scope.isCoroutine = false
  gen : scope.isGenerator = false
  nocell : ∀ y ∈ scope.names, y.2 ≠ .cell
  nolocal : ∀ y ∈ scope.names, y.2 = .local → y.1 ∉ N
  free : ∀ y ∈ scope.names, y.2 = .free → sc.names.lookup y.1 = some .cell
def lamDB (N : List Str) (sc scope : Scope) : Bool :=
  decide (scope.kind = .function) && !scope.isCoroutine && !scope.isGenerator && scope.names.all fun y => !decide (y.2 = .cell) && (!decide (y.2 = .local) || !decide (y.1 ∈ N)) && (!decide (y.2 = .free) || decide (sc.names.lookup y.1 = some .cell))
theorem lamD_by {N : List Str} {sc scope : Scope} (h : lamDB N sc scope = true) : LamD N sc scope := by
  unfold lamDB at h
  simp only [Bool.and_eq_true, Bool.or_eq_true, Bool.not_eq_true', decide_eq_true_eq, decide_eq_false_iff_not, List.all_eq_true] at h
  obtain ⟨⟨⟨h1, h2⟩, h3⟩, h4⟩ := h
  refine ⟨h1, h2, h3, fun y hy => (h4 y hy).1.1, fun y hy e => ?_, fun y hy e => ?_⟩
  · rcases (h4 y hy).1.2 with z | z
    · exact absurd e z
    · exact z
  · rcases (h4 y hy).2 with z | z
    · exact absurd e z
    · exact z
theorem LamD.has {X : Cx} {scope : Scope} (D : LamD X.N X.env.scope scope) (ok : X.Ok) : ∀ y ∈ scope.names, y.2 = .free → ∃ c, X.env.cells.lookup y.1 = some c := fun y hy e => ok.has _ (.inl (D.free y hy e))
abbrev lamQ (X : Cx) : Str := X.env.qual ++ "<lambda>"
abbrev lamO (X : Cx) (params : Arguments) (body : Expr) (scope : Scope) (dV doc pm : Value) (c' : Addr) (ctv : Value) : Obj := PySem.W.kdv_obj "<lambda>" (lamQ X) params (.expr body) scope (cloFrom X.env.cells scope.names []) dV doc pm c' ctv
section
variable {X : Cx} {pins : List (Addr × Obj)} {σ : L2.St} {H HZ : Hp} {s s1 : Shared}
/-- what the law has of a new lambda at f -/
structure NewLam (X : Cx) (P : Addr) (params : Arguments) (body : Expr) (scope : Scope) (dV : Value) (H H1 : Hp) (s s' : Shared) (f c' : Addr) : Prop where
  keep : ∀ b o, b ≠ P → H b = some o → H1 b = some o
  tab : TabS H1 P (lamQ X)
  old : ∀ b o, b ≠ P → s.heap.get? b = some o → s'.heap.get? b = some o
  fr : ∀ b, b < s.heap.objs.size → H b = none → H1 b = none
  at_ : ∃ doc pm ctv, s'.heap.get? f = some (lamO X params body scope dV doc pm c' ctv)
  fn : H1 f = none
  nf : f ∉ frs X.stack
  co : H1 c' = some (CodeO c' (lamQ X))
theorem lam_tail {c P : Addr} {params : Arguments} {body : Expr} {scope : Scope} {dV : Value} {pos : Pos} {ln : Nat} {E Q : Value → Shared → Prop} (I : Inv X pins σ H s) (TB : TabB X.base X.mg c P) (hcode : X.env.code = .ref c) (hT : TabS H P (lamQ X)) (D : LamD X.N X.env.scope scope)
    (go : ∀ (f c' : Addr) (H1 : Hp) (s' : Shared), Inv X pins σ H1 s' → NewLam X P params body scope dV H H1 s s' f c' → Q (.ref f) s') :
    wpAny (model X.prog X.w) X.A (makeTail "<lambda>" (lamQ X) params (.expr body) scope X.env dV .none none pos ln) Q E s := by
  obtain ⟨tb, atP, trip, all⟩ := hT
  have hP : s.heap.get? P = some { cls := .none, data := .fields tb } := I.hok P _ atP
  have nofr : ∀ f, s.heap.objs.size ≤ f → f ∉ frs X.stack := fun f hf z => by
    rcases List.mem_cons.mp (I.stkSub _ z) with e | e
    · exact Nat.lt_irrefl _ (Nat.lt_of_lt_of_le (e ▸ I.lt) hf)
    · exact I.nofs hf e
  cases hc : codeAmong pos tb.toList with
  | none =>
    refine PySem.W.kdv_makeTail (mg := X.mg) (c := c) (P := P) (ps := tb) (closure_ok (D.has I.ok)) I.ok.glob (I.mod.glob.keeps I.bk) hcode (TB.code.keeps I.bk) hP trip hc TB.gP (TB.bm.keeps I.bk) fun c' ctv doc h' tk hx hge hlt hrec htb => ?_
    obtain ⟨c2, oc, vs, t, e2, hoc, hd, hv⟩ := hrec
    cases e2
    have big : s.heap.objs.size ≤ h'.objs.size := Nat.le_trans hge (Nat.le_of_lt hlt)
    have newC : H c' = none := I.hok.fresh hge
    have PC : P ≠ c' := ne_of_none atP newC
    have I1 := inv_table (t' := tk) (more := #[rawInt pos.line, rawInt pos.col, .ref c']) (h' := h'.push (lamO X params body scope dV doc ((X.mg "__name__").getD .none) c' ctv)) I atP (fun b o hb e => Heap.get?_push_of_some _ (hx b o hb e)) (Heap.get?_push_of_some _ htb) hge ⟨oc, vs, t, Heap.get?_push_of_some _ hoc, hd, hv⟩
    have kp : ∀ b o, b ≠ P → H b = some o → upd (upd H P (.tbl (tb ++ #[rawInt pos.line, rawInt pos.col, .ref c']))) c' (CodeO c' (lamQ X)) b = some o := fun b o n e => by
      rw [upd_ne (ne_of_none e newC), upd_ne n]
      exact e
    have eL : (tb ++ #[rawInt pos.line, rawInt pos.col, .ref c']).toList = tb.toList ++ [rawInt pos.line, rawInt pos.col, .ref c'] := by simp
    have fresh2 : ∀ b, H b = none → b ≠ c' → upd (upd H P (.tbl (tb ++ #[rawInt pos.line, rawInt pos.col, .ref c']))) c' (CodeO c' (lamQ X)) b = none := fun b hb n => by
      rw [upd_ne n, upd_ne (fun z => by rw [z, atP] at hb; cases hb)]
      exact hb
    refine go h'.objs.size c' _ _ I1 ⟨kp, ⟨_, by rw [upd_ne PC, upd_same], by rw [eL]; exact PySem.TriplesOk_snoc _ _ _ _ trip, fun p' cv hcv => ?_⟩, fun b o hb e => Heap.get?_push_of_some _ (hx b o hb e), fun b hb hn => fresh2 b hn (Nat.ne_of_lt (Nat.lt_of_lt_of_le hb hge)), ?_, fresh2 _ (I.hok.fresh big) (Nat.ne_of_gt hlt), nofr _ big, upd_same⟩
    · rw [eL] at hcv
      rcases among_app _ trip hcv with z | z
      · obtain ⟨c0, e1, e2⟩ := all p' cv z
        exact ⟨c0, e1, kp _ _ (fun z => by rw [z, atP] at e2; exact codeO_ne tb (Option.some.inj e2).symm) e2⟩
      · exact ⟨c', z, upd_same⟩
    · exact ⟨doc, _, ctv, Heap.get?_push_size _ rfl⟩
  | some cv =>
    obtain ⟨c', e, hco⟩ := all pos cv hc
    subst e
    refine PySem.W.kdv_makeTailHit (mg := X.mg) (c := c) (P := P) (ps := tb) (closure_ok (D.has I.ok)) I.ok.glob (I.mod.glob.keeps I.bk) hcode (TB.code.keeps I.bk) hP trip hc (TB.bm.keeps I.bk) fun ctv doc h' tk hx big => ?_
    have I1 : Inv X pins σ H { s with heap := h'.push (lamO X params body scope dV doc ((X.mg "__name__").getD .none) c' ctv), toks := tk } := I.kept fun b o e => Heap.get?_push_of_some _ (hx b o e)
    exact go h'.objs.size c' H _ I1 ⟨fun b o _ e => e, ⟨tb, atP, trip, all⟩, fun b o _ e => Heap.get?_push_of_some _ (hx b o e), fun b _ hn => hn, ⟨doc, _, ctv, Heap.get?_push_size _ rfl⟩, I.hok.fresh big, nofr _ big, hco⟩
/-- the lambda's body begins -/
theorem lam_begin {A : Around} {outer : List Env} {E : XK} {scope : Scope} {f c' : Addr} {hp : Heap} {tk : Nat} {binds : List (Str × Value)} (I : Inv X pins σ H s) (D : LamD X.N X.env.scope scope) (e0 : Env0 X.prog X.w X.K X.mg X.base A outer s1 HZ) (hd : A.handled = none)
    (un : Un (frs X.stack) [] H HZ s.heap s1.heap) (hns : hp.Ns s1.heap.objs.size fun y => binds.reverse.lookup y) (kp : ∀ b o, s1.heap.get? b = some o → hp.get? b = some o) : Inv (lamCx X A outer s1 HZ E scope f c') [] σ HZ { s1 with heap := hp, toks := tk } := by
  have capt := D.has I.ok
  have cm : ∀ {y c}, (cloFrom X.env.cells scope.names []).lookup y = some c → X.env.cells.lookup y = some c := fun {y c} e => by
    rcases cloFrom_mem (PySem.mem_of_lookup e) with hm | ⟨h1, h2⟩
    · cases hm
    · obtain ⟨c1, hc1⟩ := capt _ h1 rfl
      have hc1 : X.env.cells.lookup y = some c1 := hc1
      have same : c = c1 := by
        rw [h2, hc1] <;> rfl
      rw [same]
      exact hc1
  have look : ∀ {y}, scope.names.lookup y = some .free → ∃ c, (cloFrom X.env.cells scope.names []).lookup y = some c := fun {y} hl => mem_lookup (cloFrom_has (cells := X.env.cells) (acc := []) (show (y, NameKind.free) ∈ scope.names from PySem.mem_of_lookup hl))
  have stays : ∀ {c : Addr} {v : Option Value}, H c = none → s.heap.IsCell c v → hp.IsCell c v := fun {c v} n ⟨o, ho, hd⟩ => by
    obtain ⟨sl, q⟩ := un.any ho n (by simp)
    exact ⟨_, kp _ _ q, hd⟩
  have none_ : ∀ b : Addr, b ∉ (lamCx X A outer s1 HZ E scope f c').ex := fun b z => absurd (show b ∈ ([] : List Addr) from z) (by simp)
  refine ⟨⟨e0.mod, D.kind, rfl, rfl, Nat.le_refl _, fun y z c e1 e2 => I.ok.inj y z c (cm e1) (cm e2), fun y hy => ?_, fun y c z _ => ?_, fun _ => hd, Around.frames_deeper e0.frames, .inr ⟨rfl, rfl⟩, fun b z => absurd z (none_ b), e0.bs, e0.bsz, fun b _ _ => none_ b,
      fun b z => absurd z (none_ b), e0.funs, e0.frf⟩, rfl, e0.bare, Un.kept kp, ⟨_, hns, fun i y v e1 e2 e3 => ?_⟩, fun y c e => ?_, e0.hok.fresh (Nat.le_refl _), fun y c e => ?_, fun q hq => absurd (show q ∈ ([] : List (Addr × Obj)) ++ [] from hq) (by simp), e0.hok.kept kp, I.len⟩
  · have hy : scope.names.lookup y = some .cell ∨ scope.names.lookup y = some .free := hy
    rcases hy with hy | hy
    · exact absurd rfl (D.nocell _ (PySem.mem_of_lookup hy))
    · exact look hy
  · have z : false = true := z
    cases z
  · have e3 : Vis scope y := e3
    have e1 : X.N[i]? = some y := e1
    rcases e3 with k | k | k
    · exact absurd (List.mem_of_getElem? e1) (D.nolocal _ (PySem.mem_of_lookup k) rfl)
    · exact absurd rfl (D.nocell _ (PySem.mem_of_lookup k))
    · obtain ⟨m, hn, hl⟩ := I.loc
      have isC := D.free _ (PySem.mem_of_lookup k) rfl
      obtain ⟨w', r, q⟩ := hl i y v e1 e2 (.inr (.inl isC))
      obtain ⟨c2, h2⟩ := look k
      refine ⟨w', r, .inr ⟨.inr k, c2, h2, ?_⟩⟩
      have c1 := cm h2
      rcases q with ⟨k', _⟩ | ⟨_, c3, e', z⟩
      · have k' : X.env.scope.names.lookup y = some .local := k'
        rw [show X.env.scope.names.lookup y = _ from isC] at k'
        cases k'
      · rw [c1] at e'
        cases e'
        exact stays (I.freeC y _ c1) z
  · obtain ⟨w', z⟩ := I.cell y c (cm e)
    exact ⟨w', stays (I.freeC y c (cm e)) z⟩
  · obtain ⟨v, o, ho, hd⟩ := I.cell y c (cm e)
    exact un.free c o ho (I.freeC y c (cm e)) (by simp)
/-- a() in the def that got the lambda -/
theorem pe_work {CXg : CXT} {Eg : XK} {Ng : List Str} {qg : Str} {sg : Scope} {g f c' : Addr} {cdg dV doc pm ctv : Value} {params : Arguments} {body : Expr} {scope : Scope} {k i : Nat} {a : Str} {pn : List (Addr × Obj)} {xe : Value → Shared → Prop} {W : WX} {E : XK} {tb : TE} {p1 p2 : Pos} {binds : List (Str × Value)} {ds : List Addr}
    (I : Inv X pins σ H s) (D : LamD X.N X.env.scope scope) (hf : s.heap.get? f = some (lamO X params body scope dV doc pm c' ctv)) (hfn : H f = none) (hfr : f ∉ frs X.stack) (hds : ∀ d ∈ ds, H d = none ∧ d ∉ frs X.stack)
    (hbind : ∀ s2 : Shared, (∀ d ∈ ds, ∀ o, s.heap.get? d = some o → s2.heap.get? d = some o) → BindsTo s2 (PySem.W.kdv_fn "<lambda>" (lamQ X) params (.expr body) scope (cloFrom X.env.cells scope.names []) dV doc pm (.ref c') ctv) ⟨[], []⟩ binds) (hloc : ∀ y ∈ binds, scope.names.lookup y.1 = some .local)
    (tk : Takes ((cxOf CXg X.prog X.w X.K X.mg X.base Ng qg sg g cdg X.A X.stack s H Eg).tr pn xe) W) (hW : ∀ cls d σ' H', E cls d H' → W cls d σ' H') (hr : Room (k + 1) (X.A.deeper (envOfC qg sg s.heap.objs.size g cdg)))
    (hbody : ∀ (A : Around) (outer : List Env) (s : Shared) (H : Hp), Room k (A.deeper (lamEnv X scope s.heap.objs.size f c')) → PE (lamCx X A outer s H E scope f c') body tb)
    (hN : Ng[i]? = some a) (hv : Vis sg a) (hd : (a == ("__debug__" : Str)) = false := by decide) (hcd : (a == ("__classdict__" : Str)) = false := by decide) :
    PE ((cxOf CXg X.prog X.w X.K X.mg X.base Ng qg sg g cdg X.A X.stack s H Eg).tr pn xe) (.Call (.Name a p1) [] [] p2) (fun σZ HZ Q => σZ[i]? = some (some (.ref f)) ∧ HZ c' = some (CodeO c' (lamQ X)) ∧ tb σ HZ Q) := by
  refine ⟨fun pinsZ sZ σZ HZ Q IZ h => ?_⟩
  obtain ⟨hs, hc, ht⟩ := h
  refine wpAny_Call_Name_kw (thn ((pe_var (pos := p1) (i := i) hN hv hd hcd).run pinsZ sZ σZ HZ (fun v H1 => v = .ref f ∧ H1 = HZ) IZ ⟨.ref f, hs, rfl, rfl⟩) fun u s1 ⟨v, H1, I1, r1, ev, eH⟩ => ?_)
  subst ev
  rw [eH] at I1
  obtain rfl : u = Value.ref f := r1
  have stay : ∀ b o, H b = none → b ∉ frs X.stack → s.heap.get? b = some o → s1.heap.get? b = some o := fun b o n1 n2 e => I1.base.keep b _ e n1 n2 (fun z => nomatch (show b ∈ ([] : List Addr) from z))
  have of1 := stay f _ hfn hfr hf
  refine PySem.W.callWith_F0 ⟨_, _, _, _, of1⟩ ?_
  have un : Un (frs X.stack) [] H HZ s.heap s1.heap := I1.base
  obtain ⟨⟨oc, vs, t, hoc, hdc, hvc⟩, _, _⟩ := I1.hok c' _ hc
  have rc : codeAny (model X.prog X.w) (X.A.deeper (envOfC qg sg s.heap.objs.size g cdg)) (.call (.ref f) ⟨[], []⟩) (CR (L2.CX X.prog X.w) (envOfC qg sg s.heap.objs.size g cdg :: X.stack) X.prog X.w HZ s1 Q E) s1 := by
    refine PySem.W.kla_callFunE hr.depth of1 rfl D.co D.gen rfl ⟨c', oc, vs, t, rfl, hoc, hdc, hvc⟩ ?_
    refine hbind s1 (fun d hd o e => stay d o (hds d hd).1 (hds d hd).2 e) _ _ _ _ ?_
    refine wpAny_newFunctionEnv D.nocell hloc (fun hp hns hsb => ⟨I1.nolimit.fresh _ hsb, ?_⟩) D.kind
    show codeAny _ _ (.expr body (lamEnv X scope s1.heap.objs.size f c')) _ _
    have kp : ∀ b o, s1.heap.get? b = some o → hp.get? b = some o := fun b o e => hsb.extBut b o (Nat.ne_of_lt (Heap.lt_size e)) (Heap.get?_push_of_some _ e)
    have J : Inv (lamCx X (X.A.deeper (envOfC qg sg s.heap.objs.size g cdg)) (envOfC qg sg s.heap.objs.size g cdg :: X.stack) s1 HZ E scope f c') [] σ HZ { s1 with heap := hp, toks := s1.toks + binds.length } := lam_begin I D I1.env0 hr.hd un hns kp
    refine PySem.W.kla_codeExpr (wpAny_mono ((hbody _ _ s1 HZ (hr.deeper _)).run [] _ _ HZ Q J ht) (fun v s' hq => ?_) fun e s' hq => hq)
    obtain ⟨w', H', J', rv, q⟩ := hq
    exact ⟨w', H', J'.os, J'.bare, J'.base, J'.hok, rv, q⟩
  have hx : Passes (L2.CX X.prog X.w) ((cxOf CXg X.prog X.w X.K X.mg X.base Ng qg sg g cdg X.A X.stack s H Eg).tr pn xe) E := passes_call tk hW
  refine wpAny_call (codeAny_mono rc fun r s' hq => ?_)
  cases r with
  | error e => exact hx pinsZ σZ HZ s1 e s' I1 hq
  | ok fl =>
    cases fl with
    | ret u => exact I1.after hq
    | next => exact False.elim hq
    | brk => exact False.elim hq
    | cont => exact False.elim hq
end
end JX
end
section
set_option Elab.async false
set_option linter.all false
set_option maxRecDepth 100000
set_option maxHeartbeats 8000000
namespace JX
open PySem PySem.Spec PyProof.Rows L2 LamX
/-! ### several except clauses, each with the error's name -/
def inner (i : Nat) (D : Ends) : Ends := { nx := fun σ' H' => D.nx (σ'.set i none) H', rt := D.rt, bk := fun σ' H' => D.bk (σ'.set i none) H', ct := fun σ' H' => D.ct (σ'.set i none) H' }
def wEach (K : PySem.W.Frag) (m i : Nat) (Wout : WX) (D : Ends) : List (Value × (Addr → Value → Option Addr → TS)) → WX
  | [] => Wout
  | (c, ts) :: r => fun cls d σ H => ∃ b, PySem.W.exmOne K cls c = some b ∧ (b = true → ∀ a, H a = none → σ.length = m → ts a cls d (inner i D) (σ.set i (some (.ref a))) H) ∧ (b = false → wEach K m i Wout D r cls d σ H)
inductive HdsE (X : Cx) (n : Str) : List ExceptHandler → List (Value × (Addr → Value → Option Addr → TS)) → Prop
  | nil : HdsE X n [] []
  | cons {x : Str} {c : Value} {ts : Addr → Value → Option Addr → TS} {b₀ : Stmt} {suite : List Stmt} {np pe : Pos} {hds : List ExceptHandler} {l : List (Value × (Addr → Value → Option Addr → TS))} (hc : Names X x c)
      (hsu : ∀ (a : Addr) (oe : Obj) (cls : Value) (d : Option Addr) (pn : List (Addr × Obj)), Zc cls d oe → (∃ vs, oe.data = .fields vs) → PSs (X.suite a ((a, oe) :: pn)) (b₀ :: suite) (ts a cls d)) (r : HdsE X n hds l) :
      HdsE X n (.ExceptHandler (some (.Name x np)) (some n) (b₀ :: suite) pe :: hds) ((c, ts) :: l)
section
variable {X : Cx} {n : Str} {i : Nat} {body : List Stmt} {h₀ : ExceptHandler} {hds : List ExceptHandler} {l : List (Value × (Addr → Value → Option Addr → TS))} {pos : Pos} {tb : WX → TS} {Wout : WX}
theorem ps_try_each (hs : X.stack = X.env :: X.outer) (hf : X.env.frame = some X.env.locals) (hN : X.N.Nodup) (hi : X.N[i]? = some n) (hln : X.env.kindOf n = some .local) (tk : Takes X Wout)
    (hb : ∀ (W : WX) (pn : List (Addr × Obj)) (xe : Value → Shared → Prop), Takes (X.tr pn xe) W → PassesOwn (model X.prog X.w) X.A X.env xe → PSs (X.tr pn xe) body (tb W))
    (hh : HdsE X n (h₀ :: hds) l) : PS X (.Try body (h₀ :: hds) [] [] pos) (fun D σ H => tb (wEach X.K X.N.length i Wout D l) D σ H) := by
  refine ⟨fun pins s σ H D I h => ?_⟩
  have ok := I.ok
  have hfr : X.A.frames = some (X.env :: X.outer) := by rw [ok.frames, hs]
  have hloc : Loc X.env.scope n := .inl hln
  refine wpAny_Try_except ?_
  refine wpAny_mono ((hb (wEach X.K X.N.length i Wout D l) (X.pn ++ pins) (fun e s₁ => wpAny (model X.prog X.w) X.A (noteFrame e X.env) (fun _ s₂ => wpAny (model X.prog X.w) X.A (setFlight e none) (fun _ s₃ =>
    wpAny (model X.prog X.w) X.A (handleBy e X.env (h₀ :: hds)) (SP X pins D) X.xe s₃) X.xe s₂) X.xe s₁) (fun u s' xx => ?_) PassesOwn.looking).run [] s σ H D (I.toTry _) h) (fun f s1 hsp => ?_) (fun e s1 he => he)
  · -- what the body raised is met
    obtain ⟨a, B, sI, pins', σ', H', cls, d, rfl, J', nb, up, sky, na, os, ag, w⟩ := xx
    have J : Inv X pins σ' H' sI := J'.ofTry ok
    have sky' : Sky B (X.env :: X.outer) a (Zc cls d) X.env.locals s'.heap := by rw [← hs]; exact sky
    show wpAny (model X.prog X.w) X.A (noteFrame (.ref a) X.env) _ _ _
    refine Sky.land Zc.steady hfr hf sky' fun h3 fl3 up3 => ?_
    have J3 : Inv X pins σ' H' { s' with heap := h3 } := J.landed nb fl3.1 (up.trans up3) os ag
    obtain ⟨oe3, vs3, he3, hz3, hd3⟩ := fl3.there
    have nfr : a ∉ frs (X.env :: X.outer) := fun hm => by
      obtain ⟨_, o', e', hnf⟩ := fl3.2.2.1.mem hm
      rw [he3] at e'
      cases e'
      exact hnf _ hd3
    have nL : a ≠ X.env.locals := fun z => nfr (List.mem_filterMap.mpr ⟨X.env, List.mem_cons_self, by rw [hf, z]⟩)
    have nF : a ∉ X.fs := fun hm => by
      obtain ⟨e, he, q⟩ := List.mem_filterMap.mp hm
      exact nfr (List.mem_filterMap.mpr ⟨e, List.mem_cons_of_mem _ he, q⟩)
    have S3 := J3.suite he3 hd3 na nL nF
    have go : ∀ {hds' : List ExceptHandler} {l' : List (Value × (Addr → Value → Option Addr → TS))}, HdsE X n hds' l' → wEach X.K X.N.length i Wout D l' cls d σ' H' →
        wpAny (model X.prog X.w) X.A (handleBy (.ref a) X.env hds') (SP X pins D) X.xe { s' with heap := h3 } := by
      intro hds' l' hk
      induction hk with
      | nil =>
        intro w
        refine wpAny_handleBy_nil ?_
        obtain ⟨k1, k2, k3, oe, vs, Tb, oT, ts', he, hz, hd, h1, hr⟩ := id fl3
        unfold PySem.passOn
        refine wpAny_bind (wpAny_field he hd h1 ?_)
        rw [if_neg (show ¬ ((Value.ref Tb == Value.none) = true) from by simp)]
        have fin : wpAny (model X.prog X.w) X.A (setFlight (.ref a) X.env.frame) (fun _ s4 => wpAny (model X.prog X.w) X.A (throw (.ref a) : Sem Flow) (SP X pins D) X.xe s4) X.xe { s' with heap := h3 } := by
          rw [hf]
          refine HandSPX.setFlight_upZ fl3 fun h4 hh4 up4 => wpAny_throw (tk _ _ ?_)
          exact ⟨a, B, sI, pins, σ', H', cls, d, rfl, J, nb, (up.trans up3).trans up4, .inr (.inr (by rw [hs]; exact hh4)), na, os, ag, w⟩
        first
          | exact wpAny_bind (wpAny_pure (wpAny_bind fin))
          | exact wpAny_bind fin
      | @cons x c ts b₀ suite np pe hds2 l2 hc hsu r ih =>
        intro w
        obtain ⟨b, hb1, hyes, hno⟩ := w
        refine wpAny_handleBy_cons (codeAny_handlers_test ?_) (by intro q; cases q)
        have LT : PySem.W.Looks (model X.prog X.w) h3 (typeOf (.ref a)) cls := fun A Q E s k q => wpAny_typeOf_ref (k _ _ he3) (by rw [hz3.1]; exact q)
        have LM := PySem.W.exm_one (M := model X.prog X.w) (J3.kIn) LT hb1
        have test : ∀ {Q : Value → Shared → Prop} {E : Value → Shared → Prop}, Q c { s' with heap := h3 } → wpAny (model X.prog X.w) (X.A.mark (some (.ref a))) (eval (.Name x np) X.env) Q E { s' with heap := h3 } := fun {Q E} q => by
          obtain ⟨hg, hdbg, hm | ⟨hm, hv, hnn⟩⟩ := hc
          · exact ld_glob (X := X.suite a ((a, oe3) :: (X.pn ++ pins))) S3 hg hm q hdbg
          · exact ld_blt (X := X.suite a ((a, oe3) :: (X.pn ++ pins))) S3 hg hm hv q hnn hdbg
        refine test (LM.here ?_)
        cases b with
        | true =>
          refine codeAny_handlers_suite_as ?_
          refine HandSPX.lands_againZ fl3 fun h4 fl4 up4 => ?_
          have J4 : Inv X pins σ' H' { s' with heap := h4 } := J.landed nb fl4.1 ((up.trans up3).trans up4) os ag
          obtain ⟨oe4, vs4, he4, hz4, hd4⟩ := fl4.there
          have S4 := J4.suite he4 hd4 na nL nF
          refine store_ok (X := X.suite a ((a, oe4) :: (X.pn ++ pins))) (v := .ref a) S4 hN hi hloc rfl (fun s5 S5 => ?_) (.inr hln)
          refine wpAny_mono ((hsu a oe4 cls d (X.pn ++ pins) hz4 ⟨_, hd4⟩).run [] s5 _ H' _ S5 (hyes rfl a na J.len)) (fun f s6 hsp => ?_) (fun _ _ z => False.elim z)
          have end_ : ∀ {σ6 : L2.St} {H6 : Hp} {Q : Shared → Prop}, Inv (X.suite a ((a, oe4) :: (X.pn ++ pins))) [] σ6 H6 s6 → (∀ s7, Inv X pins (σ6.set i none) H6 s7 → Q s7) →
              wpAny (model X.prog X.w) X.A (do bindName X.env n .none; unbindBehindTheSuite X.env n pe) (fun _ s7 => Q s7) X.xe s6 := fun {σ6 H6 Q} S6 hq => gone_ok (S6.unsuite ok) hN hi hln hq
          cases f with
          | next =>
            obtain ⟨σ6, H6, S6, q6⟩ := hsp
            exact end_ S6 fun s7 J7 => ⟨_, _, J7, q6⟩
          | brk =>
            obtain ⟨σ6, H6, S6, q6⟩ := hsp
            exact end_ S6 fun s7 J7 => ⟨_, _, J7, q6⟩
          | cont =>
            obtain ⟨σ6, H6, S6, q6⟩ := hsp
            exact end_ S6 fun s7 J7 => ⟨_, _, J7, q6⟩
          | ret u =>
            obtain ⟨v6, σ6, H6, S6, r6, q6⟩ := hsp
            exact end_ S6 fun s7 J7 => ⟨_, _, _, J7, r6, q6⟩
        | false =>
          show wpAny _ X.A (handleBy (.ref a) X.env hds2) _ _ _
          exact ih (hno rfl)
    exact go hh w
  · cases f with
    | next =>
      obtain ⟨σ', H', J', q⟩ := hsp
      exact wpAny_execs_nil ⟨σ', H', J'.ofTry ok, q⟩
    | brk =>
      obtain ⟨σ', H', J', q⟩ := hsp
      exact ⟨σ', H', J'.ofTry ok, q⟩
    | cont =>
      obtain ⟨σ', H', J', q⟩ := hsp
      exact ⟨σ', H', J'.ofTry ok, q⟩
    | ret u =>
      obtain ⟨v, σ', H', J', r, q⟩ := hsp
      exact ⟨v, σ', H', J'.ofTry ok, r, q⟩
end
/-! ### _law_said -/
abbrev sSaid : Stmt := top 31
theorem scSaid : FnScope ["_law_work", "e"] ["_law_work"] (defScope sSaid) := ⟨rfl, rfl, rfl, by decide +kernel, rfl, by decide +kernel, by decide +kernel⟩
/-- the three errors, as they are caught -/
structure Ex3 (K : PySem.W.Frag) (mg : Str → Option Value) (CH CL CM : Addr) : Prop where
  gH : mg "BadHabit" = some (.ref CH)
  gL : mg "BadLayout" = some (.ref CL)
  gM : mg "TooMany" = some (.ref CM)
  hh : PySem.W.exmOne K (.ref CH) (.ref CH) = some true
  lh : PySem.W.exmOne K (.ref CL) (.ref CH) = some false
  ll : PySem.W.exmOne K (.ref CL) (.ref CL) = some true
  mh : PySem.W.exmOne K (.ref CM) (.ref CH) = some false
  ml : PySem.W.exmOne K (.ref CM) (.ref CL) = some false
  mm : PySem.W.exmOne K (.ref CM) (.ref CM) = some true
  xf : XfC K CM
  no : PySem.W.findIn K (.ref CM) "most" = some none
/-- how the work may end by an error -/
def Esaid (CH CL CM : Addr) (Q : VK) : XK := fun cls d H => (cls = .ref CH ∧ Q (.str "habit") H) ∨ (cls = .ref CL ∧ Q (.str "layout") H) ∨ (cls = .ref CM ∧ ∃ dd, d = some dd ∧ H dd = some (.xd [("most", .int 5)]) ∧ Q (.str "many 5") H)
/-- what the law has of its lambda, ready to be called -/
structure LamAt (X : Cx) (P : Addr) (params : Arguments) (body : Expr) (scope : Scope) (H H1 : Hp) (s' : Shared) (f c' : Addr) : Prop where
  keep : ∀ b o, b ≠ P → H b = some o → H1 b = some o
  tab : TabS H1 P (lamQ X)
  fn : H1 f = none
  nf : f ∉ frs X.stack
  co : H1 c' = some (CodeO c' (lamQ X))
  fun_ : ∃ (dV doc pm ctv : Value) (binds : List (Str × Value)) (ds : List Addr), s'.heap.get? f = some (lamO X params body scope dV doc pm c' ctv) ∧ (∀ d ∈ ds, H1 d = none ∧ d ∉ frs X.stack) ∧
    (∀ s2 : Shared, (∀ d ∈ ds, ∀ o, s'.heap.get? d = some o → s2.heap.get? d = some o) → BindsTo s2 (PySem.W.kdv_fn "<lambda>" (lamQ X) params (.expr body) scope (cloFrom X.env.cells scope.names []) dV doc pm (.ref c') ctv) ⟨[], []⟩ binds) ∧ ∀ y ∈ binds, scope.names.lookup y.1 = some .local
/-- the making of a lambda -/
def Makes (X : Cx) (c P : Addr) (params : Arguments) (body : Expr) (scope : Scope) (lpos : Pos) : Prop := ∀ (pins : List (Addr × Obj)) (σ : L2.St) (H : Hp) (s : Shared) (E Q : Value → Shared → Prop), Inv X pins σ H s → TabS H P (lamQ X) →
  (∀ (f c' : Addr) (H1 : Hp) (s' : Shared), Inv X pins σ H1 s' → LamAt X P params body scope H H1 s' f c' → Q (.ref f) s') → wpAny (model X.prog X.w) X.A (eval (.Lambda params body scope lpos) X.env) Q E s
section
variable {X : Cx} {c P : Addr} {params : Arguments} {body : Expr} {scope : Scope} {lpos : Pos}
theorem makes0 (TB : TabB X.base X.mg c P) (hcode : X.env.code = .ref c) (D : LamD X.N X.env.scope scope) (hdef : defaultsOf params X.env = ([], []))
    (hb : ∀ (q : Str) (cl : List (Str × Addr)) (doc pm cv ctv : Value), bindArgs (PySem.W.kdv_fn "<lambda>" q params (.expr body) scope cl .none doc pm cv ctv) ⟨[], []⟩ = pure []) : Makes X c P params body scope lpos := by
  intro pins σ H s E Q I hT go
  refine PySem.W.kla_eval hdef ?_
  rw [makeFunction_eq]
  simp only [List.zip_nil_right, List.filterMap_nil, List.isEmpty_nil, if_true, pure_bind]
  refine lam_tail I TB hcode hT D fun f c' H1 s' I1 N => ?_
  obtain ⟨doc, pm, ctv, e⟩ := N.at_
  exact go f c' H1 s' I1 ⟨N.keep, N.tab, N.fn, N.nf, N.co, .none, doc, pm, ctv, [], [], e, (fun d hd => by cases hd), fun s2 _ => BindsTo.of_eq (hb _ _ _ _ _ _), fun y hy => by cases hy⟩
theorem makes1 {a : Str} {k : Int} {j : Nat} {cp : Pos} (TB : TabB X.base X.mg c P) (hcode : X.env.code = .ref c) (D : LamD X.N X.env.scope scope) (hdef : params.defaults = [.Constant (.int k) j cp]) (hk0 : params.kw_defaults = []) (hl : scope.names.lookup a = some .local)
    (hb : ∀ (q : Str) (cl : List (Str × Addr)) (d : Addr) (doc pm cv ctv : Value), ∃ kk, bindArgs (PySem.W.kdv_fn "<lambda>" q params (.expr body) scope cl (.ref d) doc pm cv ctv) ⟨[], []⟩ = seqItems? (.ref d) >>= kk ∧ ∀ v, kk (some #[v]) = pure [(a, v)]) : Makes X c P params body scope lpos := by
  intro pins σ H s E Q I hT go
  refine PySem.W.kdv_lam (by rw [hdef]; rfl) hk0 ?_
  rw [hdef]
  refine PySem.W.kdv_all1 (wpAny_Constant_int (PySem.W.kdv_all0 ?_))
  rw [makeFunction_eq]
  simp only [List.zip_nil_right, List.filterMap_nil, List.isEmpty_nil, List.isEmpty_cons, Bool.false_eq_true, if_false, if_true, pure_bind]
  refine wpAny_bind (wpAny_newTextTuple ?_)
  have I0 : Inv X pins σ H { s with heap := s.heap.push (PySem.W.kdv_tup [.int k s.toks]), toks := s.toks + 1 } := I.kept fun b o e => Heap.get?_push_of_some _ e
  have hd0 : H s.heap.objs.size = none := I.hok.fresh (Nat.le_refl _)
  have hlt : s.heap.objs.size < (s.heap.push (PySem.W.kdv_tup [.int k s.toks])).objs.size := by rw [Heap.size_push]; exact Nat.lt_succ_self _
  have hget : (s.heap.push (PySem.W.kdv_tup [.int k s.toks])).get? s.heap.objs.size = some (PySem.W.kdv_tup [.int k s.toks]) := Heap.get?_push_size _ rfl
  refine lam_tail (s := { s with heap := s.heap.push (PySem.W.kdv_tup [.int k s.toks]), toks := s.toks + 1 }) I0 TB hcode hT D fun f c' H1 s' I1 N => ?_
  obtain ⟨doc, pm, ctv, e⟩ := N.at_
  have dP : s.heap.objs.size ≠ P := fun z => by
    obtain ⟨tb, atP, _⟩ := hT
    rw [z, atP] at hd0
    cases hd0
  have nf : s.heap.objs.size ∉ frs X.stack := fun z => by
    rcases List.mem_cons.mp (I.stkSub _ z) with e | e
    · exact Nat.lt_irrefl _ (e ▸ I.lt)
    · exact I.nofs (Nat.le_refl _) e
  refine go f c' H1 s' I1 ⟨N.keep, N.tab, N.fn, N.nf, N.co, .ref s.heap.objs.size, doc, pm, ctv, [(a, .int k s.toks)], [s.heap.objs.size], e, (fun d hd => ?_), fun s2 hs2 => ?_, fun y hy => ?_⟩
  · rw [List.mem_singleton.mp hd]
    exact ⟨N.fr _ hlt hd0, nf⟩
  · obtain ⟨kk, e1, e2⟩ := hb (lamQ X) (cloFrom X.env.cells scope.names []) s.heap.objs.size doc pm (.ref c') ctv
    exact BindsTo.of_defaults rfl (hs2 _ List.mem_cons_self _ (N.old _ _ dP hget)) rfl e1 (e2 _)
  · rw [List.mem_singleton.mp hy]
    exact hl
/-- _law_said(lambda: body) -/
def tSaid (P : Addr) (q : Str) (CH CL CM : Addr) (t : XK → TE) : TE := fun σ H Q => TabS H P q ∧ ∀ H1, (∀ b o, b ≠ P → H b = some o → H1 b = some o) → TabS H1 P q → t (Esaid CH CL CM Q) σ H1 fun _ H' => Q (.str "") H'
theorem pe_said {CH CL CM g : Addr} {fdg : FuncData} {k : Nat} {t : XK → TE} {p pos : Pos} (F : Fun X.K "_law_said" "_law_said" sSaid g fdg) (hbS : Binds X.K fdg ["_law_work"] []) (hm : X.mg "_law_said" = some (.ref g)) (hg : Gl X "_law_said") (E3 : Ex3 X.K X.mg CH CL CM) (mS : X.mg "str" = none)
    (hr : Room (k + 2) X.A) (D : LamD X.N X.env.scope scope) (mk : Makes X c P params body scope lpos)
    (hbody : ∀ (A : Around) (outer : List Env) (s : Shared) (H : Hp) (E : XK) (f c' : Addr), Room k (A.deeper (lamEnv X scope s.heap.objs.size f c')) → PE (lamCx X A outer s H E scope f c') body (t E))
    (hstar : starEach [.Lambda params body scope lpos] X.env = (false, eval (.Lambda params body scope lpos) X.env) :: starEach [] X.env := by rfl) :
    PE X (.Call (.Name "_law_said" p) [.Lambda params body scope lpos] [] pos) (tSaid P (lamQ X) CH CL CM t) := by
  refine ⟨fun pins s σ H Q I h => ?_⟩
  obtain ⟨hT, h⟩ := h
  refine wpAny_Call_Name_kw (ld_glob I hg hm ?_ (by decide))
  refine PySem.W.callWith_K (h₀ := X.base) I.ok.mod.kin F.kp (PyProof.Rows.args_cons (mk pins σ H s _ _ I hT fun f c' H1 s' I1 L => PyProof.Rows.args_nil ?_) hstar) hstar (by rfl)
  obtain ⟨dV, doc, pm, ctv, binds, ds, hf, hds, hbind, hloc⟩ := L.fun_
  obtain ⟨oc, od, kV, dc, pmg, an, cdv, ct, osl, rfl, lk, hcd⟩ := F.ex
  refine ⟨I1.kIn, ?_⟩
  have rc : codeAny (model X.prog X.w) X.A (.call (.ref g) ⟨[.ref f], []⟩) (CR CX0 X.stack X.prog X.w H1 s' Q E0) s' := by
    refine run_ofS (N := ["_law_work", "e"]) (ps := ["_law_work"]) (us := [.ref f]) (vs := [.ref f]) lk hcd scSaid hr I1.env0 (hbS s' [.ref f] I1.kIn rfl) (.cons rfl .nil) rfl fun hr' => ?_
    obtain ⟨t', ht', hq'⟩ : ∃ t, PSs (cxOf CX0 X.prog X.w X.K X.mg X.base ["_law_work", "e"] "_law_said" (defScope sSaid) g cdv X.A X.stack s' H1 E0).nox (defBody sSaid) t ∧ t { nx := fun _ H' => Q .non H', rt := Q } (L2.start ["_law_work", "e"] [.ref f]) H1 := by
      refine ⟨_, pss_cons (ps_try_each (i := 1) (tb := fun W D σZ HZ => ∃ Ech : XK, (∀ cls d σ' H', Ech cls d H' → W cls d σ' H') ∧ σZ[0]? = some (some (.ref f)) ∧ HZ c' = some (CodeO c' (lamQ X)) ∧ t Ech σ HZ fun _ H' => D.nx σZ H') rfl rfl scSaid.nd rfl rfl L2.takes0 (fun W pn xe tk _ => ?_)
        (HdsE.cons (c := .ref CH) ⟨by rfl, by decide, .inl E3.gH⟩ (fun a oe cls d pn hz hf => pss_one (ps_ret pe_str)) (HdsE.cons (c := .ref CL) ⟨by rfl, by decide, .inl E3.gL⟩ (fun a oe cls d pn hz hf => pss_one (ps_ret pe_str))
          (HdsE.cons (c := .ref CM) ⟨by rfl, by decide, .inl E3.gM⟩ (fun a oe cls d pn hz hf => pss_one (ps_ret (pe_op op_add_str pe_str (pe_callTy call_str_int (by rfl) mS (by decide +kernel) (pa_cons (pe_xf (n := "most") E3.xf E3.no hz hf (pv 1)) pa_nil))))) HdsE.nil)))) (pss_one (ps_ret pe_str)), ?_⟩
      · refine ⟨fun pinsZ sZ σZ HZ DZ IZ hZ => ?_⟩
        obtain ⟨Ech, hW, h1, h2, h3⟩ := hZ
        have hp := fun (p1 p2 : Pos) => pe_work (CXg := CX0) (Eg := E0) (i := 0) (p1 := p1) (p2 := p2) I1 D hf L.fn L.nf hds hbind hloc tk hW hr' (fun A outer s H hr2 => hbody A outer s H Ech f c' hr2) rfl (.inl rfl)
        exact (pss_one (ps_expr (hp _ _))).run pinsZ sZ σZ HZ DZ IZ ⟨h1, h2, h3⟩
      · refine ⟨Esaid CH CL CM Q, fun cls d σ' H' hE => ?_, rfl, L.co, h H1 L.keep L.tab⟩
        rcases hE with ⟨rfl, q⟩ | ⟨rfl, q⟩ | ⟨rfl, dd, rfl, hdd, q⟩
        · exact ⟨true, E3.hh, fun _ a ha _ => q, (fun z => nomatch z)⟩
        · exact ⟨false, E3.lh, (fun z => nomatch z), fun _ => ⟨true, E3.ll, fun _ a ha _ => q, (fun z => nomatch z)⟩⟩
        · refine ⟨false, E3.mh, (fun z => nomatch z), fun _ => ⟨false, E3.ml, (fun z => nomatch z), fun _ => ⟨true, E3.mm, fun _ a ha hlen => ?_, (fun z => nomatch z)⟩⟩⟩
          have em : (("many " : Str) ++ ((toString (5 : Int) : String) : Str)) = ("many 5" : Str) := by decide
          have e1 : (σ'.set 1 (some (V.ref a)))[1]? = some (some (V.ref a)) := List.getElem?_set_self (by rw [hlen]; exact (by decide : 1 < 2))
          refine ⟨_, e1, rfl, rfl, dd, _, _, rfl, hdd, rfl, (5 : Int), rfl, by decide, _, _, rfl, rfl, by rw [sizeLine_eq]; decide, ?_⟩
          have q' := q
          rw [← em] at q'
          exact q'
    exact ⟨t', ht'.nox, hq'⟩
  refine wpAny_call (codeAny_mono rc fun r s2 hq => ?_)
  cases r with
  | error e => exact (show False from hq).elim
  | ok fl =>
    cases fl with
    | ret u => exact I1.after hq
    | next => exact False.elim hq
    | brk => exact False.elim hq
    | cont => exact False.elim hq
end
end JX
end
section
set_option Elab.async false
set_option linter.all false
set_option maxRecDepth 100000
set_option maxHeartbeats 8000000
namespace JX
open PySem PySem.Spec PyProof.Rows L2
/-! ### rows of places as data that are compared -/
def ndI : List Nat → List PyData
  | [] => []
  | n :: r => .int (n : Int) :: ndI r
def nd (ns : List Nat) : PyData := .tuple (ndI ns)
def nhI : List (List Nat) → List PyData
  | [] => []
  | m :: r => nd m :: nhI r
def nh (hs : List (List Nat)) : PyData := .tuple (nhI hs)
theorem ndI_lay : ∀ ns, PyData.canLayAll0 (ndI ns) = true
  | [] => rfl
  | n :: r => by simp [ndI, PyData.canLayAll0, PyData.canLay0, ndI_lay r]
theorem ndI_depth : ∀ ns, PyData.depthAll (ndI ns) = 0
  | [] => rfl
  | n :: r => by simp [ndI, PyData.depthAll, PyData.depth, ndI_depth r]
theorem ndI_eqv : ∀ ns, PyData.eqvAll (ndI ns) (ndI ns) = true
  | [] => by simp [ndI, PyData.eqvAll]
  | n :: r => by simp [ndI, PyData.eqvAll, PyData.eqv, ndI_eqv r]
theorem nd_depth (ns : List Nat) : (nd ns).depth = 1 := by simp [nd, PyData.depth, ndI_depth]
theorem nd_shaped (ns : List Nat) : SeqAt.shaped (nd ns) = true := by
  have h := nd_depth ns
  show ((nd ns).canLay0 && decide ((nd ns).depth ≤ 64)) = true
  rw [Bool.and_eq_true]
  exact ⟨by simp [nd, PyData.canLay0, ndI_lay], decide_eq_true (by omega)⟩
theorem nd_eqv (ns : List Nat) : PyData.eqv (nd ns) (nd ns) = true := by simp [nd, PyData.eqv, ndI_eqv]
theorem nhI_lay : ∀ hs, PyData.canLayAll0 (nhI hs) = true
  | [] => rfl
  | n :: r => by simp [nhI, nd, PyData.canLayAll0, PyData.canLay0, nhI_lay r, ndI_lay]
theorem nhI_depth : ∀ hs, PyData.depthAll (nhI hs) ≤ 1
  | [] => by simp [nhI, PyData.depthAll]
  | n :: r => by
    have h1 := nhI_depth r
    have h2 := nd_depth n
    simp only [nhI, PyData.depthAll]
    omega
theorem nhI_eqv : ∀ hs, PyData.eqvAll (nhI hs) (nhI hs) = true
  | [] => by simp [nhI, PyData.eqvAll]
  | n :: r => by simp [nhI, PyData.eqvAll, nd_eqv, nhI_eqv r]
theorem nh_shaped (hs : List (List Nat)) : SeqAt.shaped (nh hs) = true := by
  have h1 := nhI_depth hs
  have h2 : (nh hs).depth ≤ 64 := by
    simp only [nh, PyData.depth]
    omega
  show ((nh hs).canLay0 && decide ((nh hs).depth ≤ 64)) = true
  rw [Bool.and_eq_true]
  exact ⟨by simp [nh, PyData.canLay0, nhI_lay], decide_eq_true h2⟩
theorem nh_eqv (hs : List (List Nat)) : PyData.eqv (nh hs) (nh hs) = true := by simp [nh, PyData.eqv, nhI_eqv]
section
variable {K : PySem.W.Frag} {H : Hp} {a : Addr}
theorem dp_all : ∀ {ns : List Nat}, DpAll K H (pl ns) (ndI ns)
  | [] => .nil
  | n :: r => .cons (.int _) (dp_all (ns := r))
theorem TupN.dp {ns : List Nat} (h : TupN K H a ns) : Dp K H (.ref a) (nd ns) := .tup h dp_all
theorem dp_rows : ∀ {as : List Addr} {hs : List (List Nat)}, as.length = hs.length → (∀ (i : Nat) (p : Addr) (m : List Nat), as[i]? = some p → hs[i]? = some m → TupN K H p m) → DpAll K H (as.map V.ref) (nhI hs)
  | [], [], _, _ => .nil
  | p :: as, m :: hs, hl, h => .cons (h 0 p m rfl rfl).dp (dp_rows (Nat.succ.inj hl) fun i q n e1 e2 => h (i + 1) q n e1 e2)
  | [], _ :: _, hl, _ => by simp at hl
  | _ :: _, [], hl, _ => by simp at hl
theorem TupH.dp {hs : List (List Nat)} (h : TupH K H a hs) : Dp K H (.ref a) (nh hs) := by
  obtain ⟨as, h1, h2, h3⟩ := h
  exact .tup h1 (dp_rows h2 h3)
end
/-! ### words, one place after the other -/
theorem lefts_more (n : Nat) {w : List Nat} {i : Nat} (h : i < w.length) : Jn.lefts n (w.take (i + 1)) = Jn.lefts n (w.take i) ++ (if w.getD i 0 < n then [w.getD i 0] else []) := by
  rw [take_more (Jn.getElem?_of_getD h)]
  unfold Jn.lefts
  rw [List.filter_append]
  congr 1
  by_cases c : w.getD i 0 < n
  · rw [if_pos c, List.filter_cons_of_pos (by simpa using c)]
    rfl
  · rw [if_neg c, List.filter_cons_of_neg (by simpa using c)]
    rfl
theorem rights_more (n : Nat) {w : List Nat} {i : Nat} (h : i < w.length) : Jn.rights n (w.take (i + 1)) = Jn.rights n (w.take i) ++ (if n ≤ w.getD i 0 then [w.getD i 0 - n] else []) := by
  rw [take_more (Jn.getElem?_of_getD h)]
  unfold Jn.rights
  rw [List.filter_append, List.map_append]
  congr 1
  by_cases c : n ≤ w.getD i 0
  · rw [if_pos c, List.filter_cons_of_pos (by simpa using c)]
    rfl
  · rw [if_neg c, List.filter_cons_of_neg (by simpa using c)]
    rfl
/-! ### the row stands, the tables stand -/
section
variable {T : Two} {r : Addr} {H H1 : Hp} {K : PySem.W.Frag} {a b p sa P : Addr} {S : List Int} {q : Str}
theorem Ge.tabS (g : Ge T H H1) (h : LamX.TabS H P q) (n1 : P ≠ T.p) (n2 : P ≠ T.a) : LamX.TabS H1 P q := by
  obtain ⟨ps, h1, h2, h3⟩ := h
  refine ⟨ps, g.keep P _ n1 n2 h1, h2, fun pos cv hc => ?_⟩
  obtain ⟨c, e1, e2⟩ := h3 pos cv hc
  exact ⟨c, e1, g.at e2 LamX.codeO_ne⟩
theorem Gr.tabS (g : Gr T r H H1) (R : RowOk K sa S r H) (h : LamX.TabS H P q) (n1 : P ≠ T.p) (n2 : P ≠ T.a) : LamX.TabS H1 P q := by
  obtain ⟨ps, h1, h2, h3⟩ := h
  refine ⟨ps, g.keep P _ n1 n2 (R.ne h1 fun _ z => by cases z) h1, h2, fun pos cv hc => ?_⟩
  obtain ⟨c, e1, e2⟩ := h3 pos cv hc
  exact ⟨c, e1, g.at e2 LamX.codeO_ne (R.ne e2 fun ys z => by unfold LamX.CodeO at z; cases z)⟩
theorem RowOk.gr (R : RowOk K sa S r H1) : True := True.intro
theorem Tb.wrR (t : Tb T H) {o o0 : HO} (hp : H p = some o0) (n : ∀ ps, o0 ≠ .tbl ps) : Tb T (upd H p o) := by
  have n : ∀ {P : Addr}, GxR.TabG H P → GxR.TabG (L2.upd H p o) P := fun t => by
    obtain ⟨ps, h1, h2⟩ := t
    exact ⟨ps, by rw [upd_ne (fun z => by rw [z, hp] at h1; exact n _ (Option.some.inj h1))]; exact h1, h2⟩
  exact ⟨n t.1, n t.2⟩
end
end JX
end
section
set_option Elab.async false
set_option linter.all false
set_option maxRecDepth 100000
set_option maxHeartbeats 8000000
namespace JX
open PySem PySem.Spec PyProof.Rows L2
/-! ### the law: its names, what it has -/
abbrev sLaw : Stmt := top 32
abbrev NL : List Str := ["_law_script", "_law_both", "_law_many", "_law_more", "_law_left", "_law_right", "_law_place", "_law_whole", "_law_word", "_law_ends", "_law_inner", "_law_nest", "_law_stands", "_law_spot", "_law_due", "_law_at", "_law_house", "_law_room", "_law_names", "_law_layout", "_law_again", "_law_moved", "_law_back", "_law_two", "_law_words", "_law_great", "_law_one", "_law_other", "_law_row", "_law_turn"]
theorem scLaw : FnScope NL ["_law_script"] (defScope sLaw) := ⟨rfl, rfl, rfl, by decide +kernel, rfl, by decide +kernel, by decide +kernel⟩
abbrev lawX (P : Program) (w : World) (K : PySem.W.Frag) (mg : Str → Option Value) (base : Heap) (f c : Addr) (A : Around) (outer : List Env) (s : Shared) (H : Hp) (E : XK) : Cx := (cxOf CX0 P w K mg base NL "law" (defScope sLaw) f (.ref c) A outer s H E).nox
/-- all that the law calls -/
structure Lw (P : Program) (w : World) (K : PySem.W.Frag) (mg : Str → Option Value) (base : Heap) (T : Two) (CH CL CM : Addr) : Prop where
  B : Bl mg
  tk : Callee P w K mg base CX0 1 "_law_taken" ["_law_row", "_law_many"] (spTaken T K)
  pick : Callee P w K mg base CX0 2 "_law_pick" ["_law_row", "_law_things"] (spPick T K)
  pm : Callee P w K mg base CX0 2 "_law_permutation" ["_law_row", "_law_many"] (spPermut T K)
  dr : Callee P w K mg base CX0 3 "_law_habit" ["_law_row", "_law_many"] (spDraw T K)
  af : Callee P w K mg base CX0 6 "after" ["habit", "layout", "word"] (spAfter T K)
  od : Callee P w K mg base CX0 5 "order" ["habit"] (spOrder T K)
  be : Callee P w K mg base (L2.CX P w) 5 "beside" ["one", "other"] (spBeside T K CM)
  wi : Callee P w K mg base (L2.CX P w) 5 "within" ["outer", "inner"] (spWithin T K CM)
  ca : Callee P w K mg base (L2.CX P w) 5 "called" ["habit", "order"] (spCalled T K CL)
  ba : Callee P w K mg base (L2.CX P w) 5 "backed" ["habit"] (spBacked T K CH)
  dou : Callee P w K mg base (L2.CX P w) 5 "doubled" ["habit"] (spDoubled T K)
  E3 : Ex3 K mg CH CL CM
  sd : ∃ (g : Addr) (fdg : FuncData), Fun K "_law_said" "_law_said" sSaid g fdg ∧ Binds K fdg ["_law_work"] [] ∧ mg "_law_said" = some (.ref g)
theorem pss_imp {X : Cx} {sts : List Stmt} {t u : TS} (h : PSs X sts t) (k : ∀ D σ H, u D σ H → t D σ H) : PSs X sts u := ⟨fun pins s σ H D I q => h.run pins s σ H D I (k D σ H q)⟩
/-- the law's table -/
structure Pt (T : Two) (P : Addr) : Prop where
  np : P ≠ T.p
  na : P ≠ T.a
abbrev lq : Str := "law.<locals>.<lambda>"
/-- what stands all the while: the row, the two habits -/
structure Mid (T : Two) (K : PySem.W.Frag) (sa : Addr) (S : List Int) (P r a1 a2 : Addr) (m : Nat) (g h : List (List Nat)) (H : Hp) : Prop where
  R : RowOk K sa S r H
  tb : Tb T H
  h1 : HabF K H a1 2 g
  h2 : HabF K H a2 m h
  tab : LamX.TabS H P lq
section
variable {T : Two} {K : PySem.W.Frag} {sa P r a1 a2 : Addr} {S : List Int} {m : Nat} {g h : List (List Nat)} {H H1 : Hp}
theorem Mid.gr (M : Mid T K sa S P r a1 a2 m g h H) (p : Pt T P) (x : Gr T r H H1) (R1 : RowOk K sa S r H1) : Mid T K sa S P r a1 a2 m g h H1 := ⟨R1, x.t1, x.habF M.R M.h1, x.habF M.R M.h2, x.tabS M.R M.tab p.np p.na⟩
theorem Mid.ge (M : Mid T K sa S P r a1 a2 m g h H) (p : Pt T P) (x : Ge T H H1) : Mid T K sa S P r a1 a2 m g h H1 := M.gr p x.gr (M.R.ge x)
end
end JX
end
section
set_option Elab.async false
set_option linter.all false
set_option maxRecDepth 100000
set_option maxHeartbeats 16000000
namespace JX
open PySem PySem.Spec PyProof.Rows L2
/-! ### the law, cut: what stands ahead of each part -/
theorem ifY {b : Bool} {x y : Prop} (h : b = true) (q : x) : if b = true then x else y := by
  rw [if_pos h]
  exact q
theorem ifN {b : Bool} {x y : Prop} (h : b = false) (q : y) : if b = true then x else y := by
  rw [if_neg (by rw [h]; exact Bool.false_ne_true)]
  exact q
section
variable (T : Two) (K : PySem.W.Frag) (P : Addr)
def tA : TS := fun D σ H => ∃ (sa : Addr) (S : List Int), σ = L2.start NL [.ref sa] ∧ SqL K H sa (S.map V.int) ∧ Tb T H ∧ LamX.TabS H P lq ∧ ∀ H', D.rt (.bl true) H'
def tA0 : TS := fun D σ H => ∃ (sa : Addr) (S : List Int) (r : Addr) (v0 v1 v2 v3 v4 v5 v6 v7 v8 v9 v10 v11 v12 v13 v14 v15 v16 v17 v18 v19 v20 v21 v22 v23 v24 v25 v26 v27 v29 : Option V), σ = [v0, v1, v2, v3, v4, v5, v6, v7, v8, v9, v10, v11, v12, v13, v14, v15, v16, v17, v18, v19, v20, v21, v22, v23, v24, v25, v26, v27, some (.ref r), v29] ∧ RowOk K sa S r H ∧ Tb T H ∧ LamX.TabS H P lq ∧ ∀ H', D.rt (.bl true) H'
def tAh : TS := fun D σ H => ∃ (sa : Addr) (S : List Int) (r a1 a2 : Addr) (m : Nat) (g h : List (List Nat)) (v0 v1 v2 v3 v4 v5 v6 v7 v8 v9 v10 v11 v12 v13 v14 v15 v16 v17 v18 v19 v20 v21 v22 v23 v24 v25 v29 : Option V), σ = [v0, v1, v2, v3, v4, v5, v6, v7, v8, v9, v10, v11, v12, v13, v14, v15, v16, v17, v18, v19, v20, v21, v22, v23, v24, v25, some (.ref a1), some (.ref a2), some (.ref r), v29] ∧
  Mid T K sa S P r a1 a2 m g h H ∧ (m = 2 ∨ m = 3) ∧ ∀ H', D.rt (.bl true) H'
def tA1 : TS := fun D σ H => ∃ (sa : Addr) (S : List Int) (r a1 a2 pb : Addr) (m : Nat) (g h : List (List Nat)) (v0 v4 v5 v6 v7 v8 v9 v10 v11 v12 v13 v14 v15 v16 v17 v18 v19 v20 v21 v22 v23 v24 v25 v29 : Option V), σ = [v0, some (.ref pb), some (.int ((2 : Nat) : Int)), some (.int (m : Int)), v4, v5, v6, v7, v8, v9, v10, v11, v12, v13, v14, v15, v16, v17, v18, v19, v20, v21, v22, v23, v24, v25, some (.ref a1), some (.ref a2), some (.ref r), v29] ∧
  Mid T K sa S P r a1 a2 m g h H ∧ (m = 2 ∨ m = 3) ∧ Hab K H pb (2 + m) (Jn.beside g h) ∧ ∀ H', D.rt (.bl true) H'
def tA2 : TS := fun D σ H => ∃ (sa : Addr) (S : List Int) (r a1 a2 pb al ar : Addr) (m : Nat) (g h : List (List Nat)) (ls rs : List Nat) (v0 v6 v7 v8 v9 v10 v11 v12 v13 v14 v15 v16 v17 v18 v19 v20 v21 v22 v23 v24 v25 v29 : Option V), σ = [v0, some (.ref pb), some (.int ((2 : Nat) : Int)), some (.int (m : Int)), some (.ref al), some (.ref ar), v6, v7, v8, v9, v10, v11, v12, v13, v14, v15, v16, v17, v18, v19, v20, v21, v22, v23, v24, v25, some (.ref a1), some (.ref a2), some (.ref r), v29] ∧
  Mid T K sa S P r a1 a2 m g h H ∧ (m = 2 ∨ m = 3) ∧ Hab K H pb (2 + m) (Jn.beside g h) ∧ TupN K H al ls ∧ Jn.IsPerm 2 ls ∧ TupN K H ar rs ∧ Jn.IsPerm m rs ∧ ∀ H', D.rt (.bl true) H'
def tA3 : TS := fun D σ H => ∃ (sa : Addr) (S : List Int) (r a1 a2 pb al ar wh w : Addr) (m : Nat) (g h : List (List Nat)) (ls rs ws : List Nat) (v0 v6 v9 v10 v11 v12 v13 v14 v15 v16 v17 v18 v19 v20 v21 v22 v23 v24 v25 v29 : Option V), σ = [v0, some (.ref pb), some (.int ((2 : Nat) : Int)), some (.int (m : Int)), some (.ref al), some (.ref ar), v6, some (.ref wh), some (.ref w), v9, v10, v11, v12, v13, v14, v15, v16, v17, v18, v19, v20, v21, v22, v23, v24, v25, some (.ref a1), some (.ref a2), some (.ref r), v29] ∧
  Mid T K sa S P r a1 a2 m g h H ∧ (m = 2 ∨ m = 3) ∧ Hab K H pb (2 + m) (Jn.beside g h) ∧ TupN K H al ls ∧ Jn.IsPerm 2 ls ∧ TupN K H ar rs ∧ Jn.IsPerm m rs ∧ TupN K H wh (ls ++ rs.map (2 + ·)) ∧ H w = some (.lst (pl ws)) ∧ ws.length = 6 ∧ Jn.WordOk (2 + m) ws ∧ ∀ H', D.rt (.bl true) H'
def tA4 : TS := fun D σ H => ∃ (sa : Addr) (S : List Int) (r a1 a2 pb ar wh w t e1 : Addr) (m : Nat) (g h : List (List Nat)) (ls rs ws : List Nat) (v0 v4 v6 v10 v11 v12 v13 v14 v15 v16 v17 v18 v19 v20 v21 v22 v23 v24 v25 v29 : Option V), σ = [v0, some (.ref pb), some (.int ((2 : Nat) : Int)), some (.int (m : Int)), v4, some (.ref ar), v6, some (.ref wh), some (.ref w), some (.ref t), v10, v11, v12, v13, v14, v15, v16, v17, v18, v19, v20, v21, v22, v23, v24, v25, some (.ref a1), some (.ref a2), some (.ref r), v29] ∧
  Mid T K sa S P r a1 a2 m g h H ∧ (m = 2 ∨ m = 3) ∧ Hab K H pb (2 + m) (Jn.beside g h) ∧ Jn.IsPerm 2 ls ∧ TupN K H ar rs ∧ Jn.IsPerm m rs ∧ TupN K H wh (ls ++ rs.map (2 + ·)) ∧ H w = some (.lst (pl ws)) ∧ ws.length = 6 ∧ Jn.WordOk (2 + m) ws ∧
  H t = some (.tup [.ref e1, .ref ar]) ∧ TupN K H e1 (Jn.after g ls (Jn.lefts 2 ws)) ∧ ∀ H', D.rt (.bl true) H'
def tA5 : TS := fun D σ H => ∃ (sa : Addr) (S : List Int) (r a1 a2 pb wh w t e1 e2 : Addr) (m : Nat) (g h : List (List Nat)) (ls rs ws : List Nat) (v0 v4 v5 v6 v10 v11 v12 v13 v14 v15 v16 v17 v18 v19 v20 v21 v22 v23 v24 v25 v29 : Option V), σ = [v0, some (.ref pb), some (.int ((2 : Nat) : Int)), some (.int (m : Int)), v4, v5, v6, some (.ref wh), some (.ref w), some (.ref t), v10, v11, v12, v13, v14, v15, v16, v17, v18, v19, v20, v21, v22, v23, v24, v25, some (.ref a1), some (.ref a2), some (.ref r), v29] ∧
  Mid T K sa S P r a1 a2 m g h H ∧ (m = 2 ∨ m = 3) ∧ Hab K H pb (2 + m) (Jn.beside g h) ∧ Jn.IsPerm 2 ls ∧ Jn.IsPerm m rs ∧ TupN K H wh (ls ++ rs.map (2 + ·)) ∧ H w = some (.lst (pl ws)) ∧ ws.length = 6 ∧ Jn.WordOk (2 + m) ws ∧
  H t = some (.tup [.ref e1, .ref e2]) ∧ TupN K H e1 (Jn.after g ls (Jn.lefts 2 ws)) ∧ TupN K H e2 (Jn.after h rs (Jn.rights 2 ws)) ∧ ∀ H', D.rt (.bl true) H'
def tA6 : TS := fun D σ H => ∃ (sa : Addr) (S : List Int) (r a1 a2 pb : Addr) (m : Nat) (g h : List (List Nat)) (v0 v2 v4 v5 v6 v7 v8 v9 v10 v11 v12 v13 v14 v15 v16 v17 v18 v19 v20 v21 v22 v23 v24 v25 v29 : Option V), σ = [v0, some (.ref pb), v2, some (.int (m : Int)), v4, v5, v6, v7, v8, v9, v10, v11, v12, v13, v14, v15, v16, v17, v18, v19, v20, v21, v22, v23, v24, v25, some (.ref a1), some (.ref a2), some (.ref r), v29] ∧
  Mid T K sa S P r a1 a2 m g h H ∧ (m = 2 ∨ m = 3) ∧ Hab K H pb (2 + m) (Jn.beside g h) ∧ ∀ H', D.rt (.bl true) H'
def tB : TS := fun D σ H => ∃ (sa : Addr) (S : List Int) (r a1 a2 : Addr) (m : Nat) (g h : List (List Nat)) (v0 v1 v2 v4 v5 v6 v7 v8 v9 v10 v11 v12 v13 v14 v15 v16 v17 v18 v19 v20 v21 v22 v23 v24 v25 v29 : Option V), σ = [v0, v1, v2, some (.int (m : Int)), v4, v5, v6, v7, v8, v9, v10, v11, v12, v13, v14, v15, v16, v17, v18, v19, v20, v21, v22, v23, v24, v25, some (.ref a1), some (.ref a2), some (.ref r), v29] ∧
  Mid T K sa S P r a1 a2 m g h H ∧ (m = 2 ∨ m = 3) ∧ ∀ H', D.rt (.bl true) H'
def tB1 : TS := fun D σ H => ∃ (sa : Addr) (S : List Int) (r a1 a2 a3 : Addr) (m : Nat) (g h k : List (List Nat)) (v0 v1 v2 v4 v5 v6 v7 v8 v9 v11 v12 v13 v14 v15 v16 v17 v18 v19 v20 v21 v22 v23 v24 v25 v29 : Option V), σ = [v0, v1, v2, some (.int (m : Int)), v4, v5, v6, v7, v8, v9, some (.ref a3), v11, v12, v13, v14, v15, v16, v17, v18, v19, v20, v21, v22, v23, v24, v25, some (.ref a1), some (.ref a2), some (.ref r), v29] ∧
  Mid T K sa S P r a1 a2 m g h H ∧ (m = 2 ∨ m = 3) ∧ Hab K H a3 2 k ∧ ∀ H', D.rt (.bl true) H'
def tB2 : TS := fun D σ H => ∃ (sa : Addr) (S : List Int) (r a1 a2 a3 pn st : Addr) (m : Nat) (g h k : List (List Nat)) (v0 v1 v2 v4 v5 v6 v7 v8 v9 v13 v14 v15 v16 v17 v18 v19 v20 v21 v22 v23 v24 v25 v29 : Option V), σ = [v0, v1, v2, some (.int (m : Int)), v4, v5, v6, v7, v8, v9, some (.ref a3), some (.ref pn), some (.ref st), v13, v14, v15, v16, v17, v18, v19, v20, v21, v22, v23, v24, v25, some (.ref a1), some (.ref a2), some (.ref r), v29] ∧
  Mid T K sa S P r a1 a2 m g h H ∧ (m = 2 ∨ m = 3) ∧ Hab K H a3 2 k ∧ Hab K H pn 4 (Jn.within g k) ∧ TupN K H st (List.range 4) ∧ ∀ H', D.rt (.bl true) H'
def tC : TS := fun D σ H => ∃ (sa : Addr) (S : List Int) (r a1 a2 : Addr) (m : Nat) (g h : List (List Nat)) (v0 v1 v2 v4 v5 v6 v7 v8 v9 v10 v11 v12 v13 v14 v15 v16 v17 v18 v19 v20 v21 v22 v23 v24 v25 v29 : Option V), σ = [v0, v1, v2, some (.int (m : Int)), v4, v5, v6, v7, v8, v9, v10, v11, v12, v13, v14, v15, v16, v17, v18, v19, v20, v21, v22, v23, v24, v25, some (.ref a1), some (.ref a2), some (.ref r), v29] ∧
  Mid T K sa S P r a1 a2 m g h H ∧ (m = 2 ∨ m = 3) ∧ ∀ H', D.rt (.bl true) H'
def tC1 : TS := fun D σ H => ∃ (sa : Addr) (S : List Int) (r a1 a2 po pl_ : Addr) (m : Nat) (g h : List (List Nat)) (os ls : List Nat) (v0 v1 v2 v4 v5 v6 v7 v8 v9 v10 v11 v12 v13 v14 v15 v16 v17 v20 v21 v22 v23 v24 v25 v29 : Option V), σ = [v0, v1, v2, some (.int (m : Int)), v4, v5, v6, v7, v8, v9, v10, v11, v12, v13, v14, v15, v16, v17, some (.ref po), some (.ref pl_), v20, v21, v22, v23, v24, v25, some (.ref a1), some (.ref a2), some (.ref r), v29] ∧
  Mid T K sa S P r a1 a2 m g h H ∧ (m = 2 ∨ m = 3) ∧ TupN K H po os ∧ Jn.IsPerm m os ∧ TupN K H pl_ ls ∧ Jn.IsPerm m ls ∧ ∀ H', D.rt (.bl true) H'
def tC2 : TS := fun D σ H => ∃ (sa : Addr) (S : List Int) (r a1 a2 po pl_ pw : Addr) (m : Nat) (g h : List (List Nat)) (os ls ws : List Nat) (v0 v1 v2 v4 v5 v6 v7 v9 v10 v11 v12 v13 v14 v15 v16 v17 v20 v21 v22 v23 v24 v25 v29 : Option V), σ = [v0, v1, v2, some (.int (m : Int)), v4, v5, v6, v7, some (.ref pw), v9, v10, v11, v12, v13, v14, v15, v16, v17, some (.ref po), some (.ref pl_), v20, v21, v22, v23, v24, v25, some (.ref a1), some (.ref a2), some (.ref r), v29] ∧
  Mid T K sa S P r a1 a2 m g h H ∧ (m = 2 ∨ m = 3) ∧ TupN K H po os ∧ Jn.IsPerm m os ∧ TupN K H pl_ ls ∧ Jn.IsPerm m ls ∧ TupN K H pw ws ∧ Jn.WordOk m ws ∧ ws.length = 5 ∧ ∀ H', D.rt (.bl true) H'
def tC3 : TS := fun D σ H => ∃ (sa : Addr) (S : List Int) (r a1 a2 po pl_ pw pa : Addr) (m : Nat) (g h : List (List Nat)) (os ls ws : List Nat) (v0 v1 v2 v4 v5 v6 v7 v9 v10 v11 v12 v13 v14 v15 v16 v17 v21 v22 v23 v24 v25 v29 : Option V), σ = [v0, v1, v2, some (.int (m : Int)), v4, v5, v6, v7, some (.ref pw), v9, v10, v11, v12, v13, v14, v15, v16, v17, some (.ref po), some (.ref pl_), some (.ref pa), v21, v22, v23, v24, v25, some (.ref a1), some (.ref a2), some (.ref r), v29] ∧
  Mid T K sa S P r a1 a2 m g h H ∧ (m = 2 ∨ m = 3) ∧ TupN K H po os ∧ Jn.IsPerm m os ∧ TupN K H pl_ ls ∧ Jn.IsPerm m ls ∧ TupN K H pw ws ∧ Jn.WordOk m ws ∧ ws.length = 5 ∧ Hab K H pa m (Jn.called h os) ∧ ∀ H', D.rt (.bl true) H'
def tC4 : TS := fun D σ H => ∃ (sa : Addr) (S : List Int) (r a1 a2 po pl_ pw pa mv : Addr) (m : Nat) (g h : List (List Nat)) (os ls ws : List Nat) (v0 v1 v2 v4 v5 v6 v7 v9 v10 v11 v12 v13 v14 v15 v16 v17 v22 v23 v24 v25 v29 : Option V), σ = [v0, v1, v2, some (.int (m : Int)), v4, v5, v6, v7, some (.ref pw), v9, v10, v11, v12, v13, v14, v15, v16, v17, some (.ref po), some (.ref pl_), some (.ref pa), some (.ref mv), v22, v23, v24, v25, some (.ref a1), some (.ref a2), some (.ref r), v29] ∧
  Mid T K sa S P r a1 a2 m g h H ∧ (m = 2 ∨ m = 3) ∧ TupN K H po os ∧ Jn.IsPerm m os ∧ TupN K H pl_ ls ∧ Jn.IsPerm m ls ∧ TupN K H pw ws ∧ Jn.WordOk m ws ∧ ws.length = 5 ∧ Hab K H pa m (Jn.called h os) ∧
  TupN K H mv (Jn.named os (Jn.after h ls ws)) ∧ ∀ H', D.rt (.bl true) H'
def tD : TS := fun D σ H => ∃ (sa : Addr) (S : List Int) (r a1 a2 pl_ : Addr) (m : Nat) (g h : List (List Nat)) (ls : List Nat) (v0 v1 v2 v4 v5 v6 v7 v8 v9 v10 v11 v12 v13 v14 v15 v16 v17 v18 v20 v21 v22 v23 v24 v25 v29 : Option V), σ = [v0, v1, v2, some (.int (m : Int)), v4, v5, v6, v7, v8, v9, v10, v11, v12, v13, v14, v15, v16, v17, v18, some (.ref pl_), v20, v21, v22, v23, v24, v25, some (.ref a1), some (.ref a2), some (.ref r), v29] ∧
  Mid T K sa S P r a1 a2 m g h H ∧ (m = 2 ∨ m = 3) ∧ TupN K H pl_ ls ∧ Jn.IsPerm m ls ∧ ∀ H', D.rt (.bl true) H'
def tD1 : TS := fun D σ H => ∃ (sa : Addr) (S : List Int) (r a1 a2 pl_ pk pt : Addr) (m : Nat) (g h : List (List Nat)) (ls : List Nat) (v0 v1 v2 v4 v5 v6 v7 v8 v9 v10 v11 v12 v13 v14 v15 v16 v17 v18 v20 v21 v24 v25 v29 : Option V), σ = [v0, v1, v2, some (.int (m : Int)), v4, v5, v6, v7, v8, v9, v10, v11, v12, v13, v14, v15, v16, v17, v18, some (.ref pl_), v20, v21, some (.ref pk), some (.ref pt), v24, v25, some (.ref a1), some (.ref a2), some (.ref r), v29] ∧
  Mid T K sa S P r a1 a2 m g h H ∧ (m = 2 ∨ m = 3) ∧ TupN K H pl_ ls ∧ Jn.IsPerm m ls ∧ HabF K H pk m (Jn.backed h) ∧ Hab K H pt m (Jn.doubled h) ∧ ∀ H', D.rt (.bl true) H'
def tE : TS := fun D σ H => ∃ (sa : Addr) (S : List Int) (r a1 a2 : Addr) (m : Nat) (g h : List (List Nat)) (v0 v1 v2 v3 v4 v5 v6 v7 v8 v9 v10 v11 v12 v13 v14 v15 v16 v17 v18 v19 v20 v21 v22 v23 v24 v25 v29 : Option V), σ = [v0, v1, v2, v3, v4, v5, v6, v7, v8, v9, v10, v11, v12, v13, v14, v15, v16, v17, v18, v19, v20, v21, v22, v23, v24, v25, some (.ref a1), some (.ref a2), some (.ref r), v29] ∧
  Mid T K sa S P r a1 a2 m g h H ∧ (m = 2 ∨ m = 3) ∧ ∀ H', D.rt (.bl true) H'
/-- so many words are said -/
def tE1 (ys : List V) : TS := fun D σ H => ∃ (sa : Addr) (S : List Int) (r a1 a2 a4 x : Addr) (m : Nat) (g h gg : List (List Nat)) (v0 v1 v2 v3 v4 v5 v6 v7 v8 v9 v10 v11 v12 v13 v14 v15 v16 v17 v18 v19 v20 v21 v22 v23 v29 : Option V), σ = [v0, v1, v2, v3, v4, v5, v6, v7, v8, v9, v10, v11, v12, v13, v14, v15, v16, v17, v18, v19, v20, v21, v22, v23, some (.ref x), some (.ref a4), some (.ref a1), some (.ref a2), some (.ref r), v29] ∧
  Mid T K sa S P r a1 a2 m g h H ∧ (m = 2 ∨ m = 3) ∧ Hab K H a4 4 gg ∧ H x = some (.lst ys) ∧ x ≠ r ∧ (x ≠ sa ∨ SqL K (fun _ => none) sa (S.map V.int)) ∧ ∀ H', D.rt (.bl true) H'
def tE0 : TS := fun D σ H => ∃ (sa : Addr) (S : List Int) (r a1 a2 a4 : Addr) (m : Nat) (g h gg : List (List Nat)) (v0 v1 v2 v3 v4 v5 v6 v7 v8 v9 v10 v11 v12 v13 v14 v15 v16 v17 v18 v19 v20 v21 v22 v23 v24 v29 : Option V), σ = [v0, v1, v2, v3, v4, v5, v6, v7, v8, v9, v10, v11, v12, v13, v14, v15, v16, v17, v18, v19, v20, v21, v22, v23, v24, some (.ref a4), some (.ref a1), some (.ref a2), some (.ref r), v29] ∧
  Mid T K sa S P r a1 a2 m g h H ∧ (m = 2 ∨ m = 3) ∧ Hab K H a4 4 gg ∧ ∀ H', D.rt (.bl true) H'
end
end JX
end
section
set_option Elab.async false
set_option linter.all false
set_option maxRecDepth 100000
set_option maxHeartbeats 16000000
namespace JX
open PySem PySem.Spec PyProof.Rows L2
section
variable {Pr : Program} {w : World} {K : PySem.W.Frag} {mg : Str → Option Value} {base : Heap} {T : Two} {CH CL CM P : Addr} {f c : Addr} {A : Around} {outer : List Env} {s : Shared} {H0 : Hp} {E : XK}
theorem law_a0 (L : Lw Pr w K mg base T CH CL CM) (p : Pt T P) (hr : Room 7 (lawX Pr w K mg base f c A outer s H0 E).A) (hN : PSs (lawX Pr w K mg base f c A outer s H0 E) ((defBody sLaw).drop 1) (tA0 T K P)) : PSs (lawX Pr w K mg base f c A outer s H0 E) (defBody sLaw) (tA T K P) := by
  have B := L.B
  refine pss_imp (pss_cons (ps_set (i := 28) scLaw.nd rfl (.inr rfl) (pe_lst (pa_cons (pv 0) (pa_cons pe_int (pa_cons pe_int (pa_cons pe_int pa_nil)))))) hN) (fun D σ H h => ?_)
  obtain ⟨sa, S, rfl, hS, tb, tab, done⟩ := h
  refine ⟨_, rfl, by show 4 ≤ sizeLine; decide, fun r hr0 => ?_⟩
  have ge0 : Ge T H (upd H r (.lst [.ref sa, .int 0, .int 7484, .int 0])) := Ge.new tb hr0
  have R0 : RowOk K sa S r (upd H r (.lst [.ref sa, .int 0, .int 7484, .int 0])) := ⟨⟨0, 7484, 0, upd_same, by decide, by decide, by decide, by decide⟩, ge0.sqL hS⟩
  exact ⟨sa, S, r, _, _, _, _, _, _, _, _, _, _, _, _, _, _, _, _, _, _, _, _, _, _, _, _, _, _, _, _, _, rfl, R0, ge0.t1, ge0.tabS tab p.np p.na, done⟩
theorem law_a1 (L : Lw Pr w K mg base T CH CL CM) (p : Pt T P) (hr : Room 7 (lawX Pr w K mg base f c A outer s H0 E).A) (hN : PSs (lawX Pr w K mg base f c A outer s H0 E) ((defBody sLaw).drop 2) (tAh T K P)) : PSs (lawX Pr w K mg base f c A outer s H0 E) ((defBody sLaw).drop 1) (tA0 T K P) := by
  have B := L.B
  refine pss_imp (pss_cons (ps_asg (pe_tup (pa_cons (pe_fn L.dr hr (by decide) (by rfl) pass0 (pa_cons (pv 28) (pa_cons pe_int pa_nil))) (pa_cons (pe_fn L.dr hr (by decide) (by rfl) pass0 (pa_cons (pv 28) (pa_cons (pe_op op_add pe_int (pe_fn L.tk hr (by decide) (by rfl) pass0 (pa_cons (pv 28) (pa_cons pe_int pa_nil)))) pa_nil))) pa_nil)))
      (pg_tup rfl (pgs_cons (pg_name (i := 26) scLaw.nd rfl (.inr rfl)) (pgs_cons (pg_name (i := 27) scLaw.nd rfl (.inr rfl)) pgs_nil)))) hN) (fun D σ H h => ?_)
  obtain ⟨sa, S, r, v0, v1, v2, v3, v4, v5, v6, v7, v8, v9, v10, v11, v12, v13, v14, v15, v16, v17, v18, v19, v20, v21, v22, v23, v24, v25, v26, v27, v29, rfl, R0, tb0, tab0, done⟩ := h
  refine ⟨_, rfl, r, sa, S, 2, rfl, by decide, by decide, R0, tb0, fun a1 g Hb gb Rb h1b => ?_⟩
  have tabb := gb.tabS R0 tab0 p.np p.na
  refine ⟨_, rfl, _, rfl, r, sa, S, 2, rfl, by decide, by decide, Rb, gb.t1, fun v xs hv hx i0 s0 g0 c1 c2 c3 c4 => ?_⟩
  obtain ⟨gc, Rc⟩ := taken_gr Rb gb.t1 hx c1 c2 c3 c4
  generalize upd Hb r (.lst [.ref sa, .int i0, .int s0, .int g0]) = Hc at gc Rc ⊢
  have e2 : [V.ref r, V.int (2 + (v : Int))] = [V.ref r, V.int ((2 + v : Nat) : Int)] := by rw [Int.natCast_add]; rfl
  refine ⟨_, _, rfl, rfl, r, sa, S, 2 + v, e2, by omega, by omega, Rc, gc.t1, fun a2 h Hd gd Rd h2d => ?_⟩
  have hm : 2 + v = 2 ∨ 2 + v = 3 := by omega
  generalize 2 + v = m at hm h2d
  have gbd := gc.trans gd
  have Md : Mid T K sa S P r a1 a2 m g h Hd := ⟨Rd, gd.t1, gbd.habF Rb h1b, h2d, gbd.tabS Rb tabb p.np p.na⟩
  refine ⟨by show 2 ≤ sizeLine; decide, fun t ht => ?_⟩
  have M := Md.ge p (Ge.new (o := .tup [.ref a1, .ref a2]) Md.tb ht)
  refine ⟨t, _, rfl, SqT.of upd_same, rfl, _, _, rfl, _, _, rfl, rfl, ?_⟩
  exact ⟨sa, S, r, a1, a2, m, g, h, _, _, _, _, _, _, _, _, _, _, _, _, _, _, _, _, _, _, _, _, _, _, _, _, _, _, _, rfl, M, hm, done⟩
theorem law_a2 (L : Lw Pr w K mg base T CH CL CM) (p : Pt T P) (hr : Room 7 (lawX Pr w K mg base f c A outer s H0 E).A) (hN : PSs (lawX Pr w K mg base f c A outer s H0 E) ((defBody sLaw).drop 3) (tA1 T K P)) : PSs (lawX Pr w K mg base f c A outer s H0 E) ((defBody sLaw).drop 2) (tAh T K P) := by
  have B := L.B
  refine pss_imp (pss_cons (ps_asg (pe_tup (pa_cons (pe_fn L.be hr (by decide) (by rfl) passL (pa_cons (pv 26) (pa_cons (pv 27) pa_nil))) (pa_cons (pe_callB call_len_seq (by rfl) B.len PySem.boot_len (pa_cons (pv 26) pa_nil)) (pa_cons (pe_callB call_len_seq (by rfl) B.len PySem.boot_len (pa_cons (pv 27) pa_nil)) pa_nil))))
      (pg_tup rfl (pgs_cons (pg_name (i := 1) scLaw.nd rfl (.inl rfl)) (pgs_cons (pg_name (i := 2) scLaw.nd rfl (.inr rfl)) (pgs_cons (pg_name (i := 3) scLaw.nd rfl (.inr rfl)) pgs_nil))))) hN) (fun D σ H h => ?_)
  obtain ⟨sa, S, r, a1, a2, m, g, h, v0, v1, v2, v3, v4, v5, v6, v7, v8, v9, v10, v11, v12, v13, v14, v15, v16, v17, v18, v19, v20, v21, v22, v23, v24, v25, v29, rfl, M, hm, done⟩ := h
  refine ⟨_, rfl, _, rfl, a1, a2, 2, m, g, h, rfl, M.h1.hab, M.h2.hab, M.tb, fun _ pb Hf gf hb => ?_, fun z => ?_⟩
  case refine_2 => exfalso; omega
  have M := M.ge p gf
  have hb : Hab K Hf pb (2 + m) (Jn.beside g h) := ⟨hb, Jn.beside_habit M.h1.2 M.h2.2 (by omega)⟩
  obtain ⟨as, s1, l1, _⟩ := id M.h1.1
  obtain ⟨bs, s2, l2, _⟩ := id M.h2.1
  have el1 : ((as.map V.ref).length : Int) = ((2 : Nat) : Int) := by rw [List.length_map, l1, M.h1.2.len]
  have el2 : ((bs.map V.ref).length : Int) = (m : Int) := by rw [List.length_map, l2, M.h2.2.len]
  refine ⟨_, rfl, a1, _, rfl, .inr s1, _, rfl, a2, _, rfl, .inr s2, by show 3 ≤ sizeLine; decide, fun t ht => ?_⟩
  rw [el1, el2]
  have gt := Ge.new (o := .tup [.ref pb, .int ((2 : Nat) : Int), .int (m : Int)]) M.tb ht
  have M := M.ge p gt
  have hb := gt.hab hb
  refine ⟨t, _, rfl, SqT.of upd_same, rfl, _, _, rfl, _, _, rfl, _, _, rfl, rfl, ?_⟩
  exact ⟨sa, S, r, a1, a2, pb, m, g, h, _, _, _, _, _, _, _, _, _, _, _, _, _, _, _, _, _, _, _, _, _, _, _, _, rfl, M, hm, hb, done⟩
theorem law_a3 (L : Lw Pr w K mg base T CH CL CM) (p : Pt T P) (hr : Room 7 (lawX Pr w K mg base f c A outer s H0 E).A) (hN : PSs (lawX Pr w K mg base f c A outer s H0 E) ((defBody sLaw).drop 4) (tA2 T K P)) : PSs (lawX Pr w K mg base f c A outer s H0 E) ((defBody sLaw).drop 3) (tA1 T K P) := by
  have B := L.B
  refine pss_imp (pss_cons (ps_par (i := 4) (j := 5) rfl scLaw.nd rfl rfl (by decide) rfl rfl (pa_cons (pe_fn L.pm hr (by decide) (by rfl) pass0 (pa_cons (pv 28) (pa_cons (pv 2) pa_nil))) (pa_cons (pe_fn L.pm hr (by decide) (by rfl) pass0 (pa_cons (pv 28) (pa_cons (pv 3) pa_nil))) pa_nil)) (by rfl)) hN) (fun D σ H h => ?_)
  obtain ⟨sa, S, r, a1, a2, pb, m, g, h, v0, v4, v5, v6, v7, v8, v9, v10, v11, v12, v13, v14, v15, v16, v17, v18, v19, v20, v21, v22, v23, v24, v25, v29, rfl, M, hm, hb, done⟩ := h
  refine ⟨_, rfl, _, rfl, r, sa, S, 2, rfl, by decide, M.R, M.tb, fun al ls Hh gh Rh fl hls => ?_⟩
  have hb := gh.hab M.R hb
  have M := M.gr p gh Rh
  refine ⟨_, rfl, _, rfl, r, sa, S, m, rfl, by omega, M.R, M.tb, fun ar rs Hi gi Ri fr hrs => ?_⟩
  have hb := gi.hab M.R hb
  have hl : TupN K Hi al ls := gi.tupN M.R fl.tupN
  have hR : TupN K Hi ar rs := fr.tupN
  have M := M.gr p gi Ri
  exact ⟨_, _, rfl, ⟨sa, S, r, a1, a2, pb, al, ar, m, g, h, ls, rs, _, _, _, _, _, _, _, _, _, _, _, _, _, _, _, _, _, _, _, _, _, _, rfl, M, hm, hb, hl, hls, hR, hrs, done⟩⟩
end
end JX
end
section
set_option Elab.async false
set_option linter.all false
set_option maxRecDepth 100000
set_option maxHeartbeats 16000000
namespace JX
open PySem PySem.Spec PyProof.Rows L2
section
variable {Pr : Program} {w : World} {K : PySem.W.Frag} {mg : Str → Option Value} {base : Heap} {T : Two} {CH CL CM P : Addr} {f c : Addr} {A : Around} {outer : List Env} {s : Shared} {H0 : Hp} {E : XK}
theorem law_a4 (L : Lw Pr w K mg base T CH CL CM) (p : Pt T P) (hr : Room 7 (lawX Pr w K mg base f c A outer s H0 E).A) (hN : PSs (lawX Pr w K mg base f c A outer s H0 E) ((defBody sLaw).drop 5) (tA3 T K P)) : PSs (lawX Pr w K mg base f c A outer s H0 E) ((defBody sLaw).drop 4) (tA2 T K P) := by
  have B := L.B
  refine pss_imp (pss_cons (ps_par (i := 7) (j := 8) rfl scLaw.nd rfl rfl (by decide) rfl rfl (pa_cons (pe_op op_catA (pv 4) (pe_callTy call_tuple_of (by rfl) B.tuple (by decide +kernel) (pa_cons
        (pe_lc (own := [("_law_place", 6)]) (g := gName 6) (tt := tYes) (te := tOp (rI0 fun i j => .int (i + j)) (tVar 2) (tVar 6)) rfl scLaw.nd (pi_tup (pv 5)) (blkOk_by (N := NL) (sc := defScope sLaw) (by decide +kernel)) (fun _ _ _ _ _ => pg_name (i := 6) scLaw.nd rfl (.inl rfl)) (fun _ _ _ _ _ => pts_nil) (fun _ _ _ _ _ => pe_op op_add (pv 2) (pv 6))) pa_nil)))
        (pa_cons (pe_lc (own := [("_law_turn", 29)]) (g := gName 29) (tt := tYes) (te := tCall (spTaken T K) [] E0 (tCons (tVar 28) (tCons (tOp (rI0 fun i j => .int (i + j)) (tVar 2) (tVar 3)) tNil))) rfl scLaw.nd (pi_range1 (by rfl) B.range (pa_cons pe_int pa_nil)) (blkOk_by (N := NL) (sc := defScope sLaw) (by decide +kernel))
          (fun _ _ _ _ _ => pg_name (i := 29) scLaw.nd rfl (.inl rfl)) (fun _ _ _ _ _ => pts_nil) (fun _ _ _ _ _ => pe_fn L.tk hr (by decide) (by rfl) pass0 (pa_cons (pv 28) (pa_cons (pe_op op_add (pv 2) (pv 3)) pa_nil)))) pa_nil)) (by rfl)) hN) (fun D σ H h => ?_)
  obtain ⟨sa, S, r, a1, a2, pb, al, ar, m, g, h, ls, rs, v0, v6, v7, v8, v9, v10, v11, v12, v13, v14, v15, v16, v17, v18, v19, v20, v21, v22, v23, v24, v25, v29, rfl, M, hm, hb, hl, hls, hR, hrs, done⟩ := h
  have n0 : 0 < ls.length := by rw [hls.len]; decide
  have m0 : 0 < rs.length := by rw [hrs.len]; omega
  -- whole
  refine ⟨_, rfl, _, rfl, ar, rfl, ⟨_, hR⟩, fun D1 hD1 => lc_tup (K := K) (a := ar) (xs := pl rs) (fun i H' => Ge T H H' ∧ H' D1 = some (.lst (pl ((rs.map (2 + ·)).take i)))) ⟨Ge.new M.tb hD1, upd_same⟩ (fun i H' _ z => z.1.tupN hR) ?_ ?_⟩
  · rintro i x H' hi ⟨g', hD'⟩
    obtain ⟨hil, rfl⟩ := pl_some hi
    have hil2 : i < (rs.map (2 + ·)).length := by rw [List.length_map]; exact hil
    refine ⟨rfl, _, rfl, _, rfl, _, _, rfl, rfl, _, hD', pl_small (by rw [List.length_map, hrs.len]; omega) i, g'.wr hD' hD1, ?_⟩
    rw [upd_same, ← pl_take_more hil2, Jn.getD_map hil, Int.natCast_add]
  rintro Hj ⟨gj, hDj⟩
  rw [pl_len, ← List.length_map (f := (2 + ·)) (as := rs), List.take_length] at hDj
  refine ⟨D1, _, rfl, .inl ⟨SqL.of hDj, fun l hl0 => ?_⟩⟩
  have gk := gj.newR (o := .tup (pl (rs.map (2 + ·)))) hl0
  refine ⟨al, l, pl ls, pl (rs.map (2 + ·)), rfl, rfl, gk.tupN hl, SqT.of upd_same, ?_, fun z => (pl_ne n0 z).elim, fun _ z => (pl_ne (by rw [List.length_map]; exact m0) z).elim, fun _ _ wh hwh => ?_⟩
  · rw [pl_len, pl_len, List.length_map, hls.len, hrs.len]
    exact Nat.le_of_lt (small1000 (by omega))
  rw [← pl_app]
  have gl := gk.newR (o := .tup (pl (ls ++ rs.map (2 + ·)))) hwh
  have hw : TupN K (upd (upd Hj l (.tup (pl (rs.map (2 + ·))))) wh (.tup (pl (ls ++ rs.map (2 + ·))))) wh (ls ++ rs.map (2 + ·)) := SqT.of upd_same
  have M := M.ge p gl
  have hb := gl.hab hb
  have hl := gl.tupN hl
  have hR := gl.tupN hR
  generalize upd (upd Hj l (.tup (pl (rs.map (2 + ·))))) wh (.tup (pl (ls ++ rs.map (2 + ·)))) = Hl at M hb hl hR hw ⊢
  -- word
  refine ⟨(6 : Int), rfl, by decide, by decide, fun D2 hD2 => ?_⟩
  have D2r : D2 ≠ r := fun z => by
    obtain ⟨i, s, g, e, _⟩ := M.R.at_
    rw [z, e] at hD2
    cases hD2
  have D2s := M.R.apart hD2
  have g0' : Ge T Hl (upd Hl D2 (.lst [])) := Ge.new M.tb hD2
  refine lc_range (lo := 0) (n := 6) (fun i H' => ∃ ws : List Nat, Gr T r Hl H' ∧ RowOk K sa S r H' ∧ H' D2 = some (.lst (pl ws)) ∧ ws.length = i ∧ Jn.WordOk (2 + m) ws) ⟨[], g0'.gr, M.R.ge g0', upd_same, rfl, fun x hx => by cases hx⟩ ?_ ?_
  · rintro i H' hi ⟨ws, g', R', hD', hwl, hwo⟩
    have e3 : [V.ref r, V.int (((2 : Nat) : Int) + (m : Int))] = [V.ref r, V.int ((2 + m : Nat) : Int)] := by rw [Int.natCast_add]
    refine ⟨rfl, _, rfl, _, rfl, _, rfl, _, _, rfl, rfl, r, sa, S, 2 + m, e3, by omega, by omega, R', g'.t1, fun v xs hv hx i0 s0 g0 c1 c2 c3 c4 => ?_⟩
    obtain ⟨gc, Rc⟩ := taken_gr R' g'.t1 hx c1 c2 c3 c4
    have hDc := gc.lst hD' D2r
    refine ⟨_, hDc, by rw [pl_len]; exact small1000 (by omega), ws ++ [v], (g'.trans gc).wr hDc hD2, Rc.wr hDc D2r D2s, ?_, by rw [List.length_append, hwl]; rfl, fun x hx => ?_⟩
    · rw [upd_same, pl_app]
      rfl
    · rcases List.mem_append.mp hx with z | z
      · exact hwo x z
      · rw [List.mem_singleton.mp z]
        exact hv
  rintro Hm ⟨ws, gm, Rm, hD2m, hwl, hwo⟩
  have hb := gm.hab M.R hb
  have hl := gm.tupN M.R hl
  have hR := gm.tupN M.R hR
  have hw := gm.tupN M.R hw
  have M := M.gr p gm Rm
  exact ⟨_, _, rfl, ⟨sa, S, r, a1, a2, pb, al, ar, wh, D2, m, g, h, ls, rs, ws, _, _, _, _, _, _, _, _, _, _, _, _, _, _, _, _, _, _, _, _, rfl, M, hm, hb, hl, hls, hR, hrs, hw, hD2m, hwl, hwo, done⟩⟩
theorem law_a5 (L : Lw Pr w K mg base T CH CL CM) (p : Pt T P) (hr : Room 7 (lawX Pr w K mg base f c A outer s H0 E).A) (hN : PSs (lawX Pr w K mg base f c A outer s H0 E) ((defBody sLaw).drop 6) (tA4 T K P)) : PSs (lawX Pr w K mg base f c A outer s H0 E) ((defBody sLaw).drop 5) (tA3 T K P) := by
  have B := L.B
  refine pss_imp (pss_cons (ps_set (i := 9) scLaw.nd rfl (.inl rfl) (pe_tup (pa_cons (pe_fn L.af hr (by decide) (by rfl) pass0 (pa_cons (pv 26) (pa_cons (pv 4) (pa_cons (pe_callTy call_tuple_of (by rfl) B.tuple (by decide +kernel) (pa_cons
        (pe_lc (own := [("_law_place", 6)]) (g := gName 6) (te := tVar 6) rfl scLaw.nd (pi_list (pv 8)) (blkOk_by (N := NL) (sc := defScope sLaw) (by decide +kernel)) (fun _ _ _ _ _ => pg_name (i := 6) scLaw.nd rfl (.inl rfl)) (fun _ _ _ _ _ => pts_one (pt_cmpR op_lt (pv 6) (pv 2) (nomark _))) (fun _ _ _ _ _ => pv 6)) pa_nil)) pa_nil)))) (pa_cons (pv 5) pa_nil)))) hN) (fun D σ H h => ?_)
  obtain ⟨sa, S, r, a1, a2, pb, al, ar, wh, D2, m, g, h, ls, rs, ws, v0, v6, v9, v10, v11, v12, v13, v14, v15, v16, v17, v18, v19, v20, v21, v22, v23, v24, v25, v29, rfl, M, hm, hb, hl, hls, hR, hrs, hw, hD2m, hwl, hwo, done⟩ := h
  refine ⟨_, rfl, _, rfl, _, rfl, D2, rfl, ⟨_, SqL.of hD2m⟩, fun D3 hD3 => lc_list (K := K) (a := D2) (xs := pl ws) (fun i H' => Ge T H H' ∧ H' D3 = some (.lst (pl (Jn.lefts 2 (ws.take i))))) ⟨Ge.new M.tb hD3, upd_same⟩ (fun i H' _ z => SqL.of (z.1.lst hD2m)) ?_ ?_⟩
  · rintro i x H' hi ⟨g', hD'⟩
    obtain ⟨hil, rfl⟩ := pl_some hi
    have hfew : (pl (Jn.lefts 2 (ws.take i))).length < sizeLine := by
      rw [pl_len]
      refine small1000 (Nat.le_trans (List.length_filter_le _ _) ?_)
      rw [List.length_take]
      omega
    refine ⟨rfl, _, rfl, _, rfl, _, _, rfl, rfl, _, rfl, ?_⟩
    rw [lefts_more 2 hil]
    by_cases c : ws.getD i 0 < 2
    · rw [if_pos c]
      refine ifY (decide_eq_true (show ((ws.getD i 0 : Nat) : Int) < ((2 : Nat) : Int) by omega)) ⟨_, rfl, _, hD', hfew, g'.wr hD' hD3, ?_⟩
      rw [upd_same, pl_app]
      rfl
    · rw [if_neg c, List.append_nil]
      exact ifN (decide_eq_false (show ¬ ((ws.getD i 0 : Nat) : Int) < ((2 : Nat) : Int) by omega)) ⟨g', hD'⟩
  rintro Hn ⟨gn, hDn⟩
  rw [pl_len, List.take_length] at hDn
  refine ⟨D3, _, rfl, .inl ⟨SqL.of hDn, fun l hl0 => ?_⟩⟩
  have go := gn.newR (o := .tup (pl (Jn.lefts 2 ws))) hl0
  have hwl1 : TupN K (upd Hn l (.tup (pl (Jn.lefts 2 ws)))) l (Jn.lefts 2 ws) := SqT.of upd_same
  have M := M.ge p go
  have hb := go.hab hb
  have hl := go.tupN hl
  have hR := go.tupN hR
  have hw := go.tupN hw
  have hD2o := go.lst hD2m
  generalize upd Hn l (.tup (pl (Jn.lefts 2 ws))) = Ho at M hb hl hR hw hD2o hwl1 ⊢
  have few1 : (Jn.lefts 2 ws).length ≤ 400 := Nat.le_trans (List.length_filter_le _ _) (by omega)
  refine ⟨a1, al, l, 2, g, ls, Jn.lefts 2 ws, rfl, M.h1.hab, hl, hls, hwl1, Jn.lefts_ok 2 ws, few1, M.tb, fun e1 Hp gp he1 => ?_⟩
  have M := M.ge p gp
  have hb := gp.hab hb
  have hR := gp.tupN hR
  have hw := gp.tupN hw
  have hD2p := gp.lst hD2o
  refine ⟨_, rfl, by show 2 ≤ sizeLine; decide, fun t ht => ?_⟩
  have gq := Ge.new (o := .tup [.ref e1, .ref ar]) M.tb ht
  exact ⟨sa, S, r, a1, a2, pb, ar, wh, D2, t, e1, m, g, h, ls, rs, ws, _, _, _, _, _, _, _, _, _, _, _, _, _, _, _, _, _, _, _, _, rfl, M.ge p gq, hm, gq.hab hb, hls, gq.tupN hR, hrs, gq.tupN hw, gq.lst hD2p, hwl, hwo, upd_same, gq.tupN he1, done⟩
theorem law_a6 (L : Lw Pr w K mg base T CH CL CM) (p : Pt T P) (hr : Room 7 (lawX Pr w K mg base f c A outer s H0 E).A) (hN : PSs (lawX Pr w K mg base f c A outer s H0 E) ((defBody sLaw).drop 7) (tA5 T K P)) : PSs (lawX Pr w K mg base f c A outer s H0 E) ((defBody sLaw).drop 6) (tA4 T K P) := by
  have B := L.B
  refine pss_imp (pss_cons (ps_set (i := 9) scLaw.nd rfl (.inl rfl) (pe_tup (pa_cons (pe_ix ix_tup (pv 9) pe_int (fun _ _ => rfl)) (pa_cons (pe_fn L.af hr (by decide) (by rfl) pass0 (pa_cons (pv 27) (pa_cons (pv 5) (pa_cons (pe_callTy call_tuple_of (by rfl) B.tuple (by decide +kernel) (pa_cons
        (pe_lc (own := [("_law_place", 6)]) (g := gName 6) (te := tOp (rI0 fun i j => .int (i - j)) (tVar 6) (tVar 2)) rfl scLaw.nd (pi_list (pv 8)) (blkOk_by (N := NL) (sc := defScope sLaw) (by decide +kernel)) (fun _ _ _ _ _ => pg_name (i := 6) scLaw.nd rfl (.inl rfl)) (fun _ _ _ _ _ => pts_one (pt_cmpR op_ge (pv 6) (pv 2) (nomark _))) (fun _ _ _ _ _ => pe_op op_sub (pv 6) (pv 2))) pa_nil)) pa_nil)))) pa_nil)))) hN) (fun D σ H h => ?_)
  obtain ⟨sa, S, r, a1, a2, pb, ar, wh, D2, t, e1, m, g, h, ls, rs, ws, v0, v4, v6, v10, v11, v12, v13, v14, v15, v16, v17, v18, v19, v20, v21, v22, v23, v24, v25, v29, rfl, M, hm, hb, hls, hR, hrs, hw, hD2q, hwl, hwo, ht1, he1, done⟩ := h
  refine ⟨_, rfl, t, _, (0 : Int), _, rfl, rfl, SqT.of ht1, rfl, ?_⟩
  refine ⟨_, rfl, _, rfl, _, rfl, D2, rfl, ⟨_, SqL.of hD2q⟩, fun D3 hD3 => lc_list (K := K) (a := D2) (xs := pl ws) (fun i H' => Ge T H H' ∧ H' D3 = some (.lst (pl (Jn.rights 2 (ws.take i))))) ⟨Ge.new M.tb hD3, upd_same⟩ (fun i H' _ z => SqL.of (z.1.lst hD2q)) ?_ ?_⟩
  · rintro i x H' hi ⟨g', hD'⟩
    obtain ⟨hil, rfl⟩ := pl_some hi
    have hfew : (pl (Jn.rights 2 (ws.take i))).length < sizeLine := by
      rw [pl_len]
      unfold Jn.rights
      rw [List.length_map]
      refine small1000 (Nat.le_trans (List.length_filter_le _ _) ?_)
      rw [List.length_take]
      omega
    refine ⟨rfl, _, rfl, _, rfl, _, _, rfl, rfl, _, rfl, ?_⟩
    rw [rights_more 2 hil]
    by_cases c : 2 ≤ ws.getD i 0
    · rw [if_pos c]
      refine ifY (decide_eq_true (show ((2 : Nat) : Int) ≤ ((ws.getD i 0 : Nat) : Int) by omega)) ⟨_, rfl, _, rfl, _, _, rfl, rfl, _, hD', hfew, g'.wr hD' hD3, ?_⟩
      have ec : V.int (((ws.getD i 0 : Nat) : Int) - ((2 : Nat) : Int)) = V.int ((ws.getD i 0 - 2 : Nat) : Int) := by rw [Int.natCast_sub c]
      rw [upd_same, pl_app]
      show some (HO.lst (_ ++ [V.int (((ws.getD i 0 : Nat) : Int) - ((2 : Nat) : Int))])) = _
      rw [ec]
      rfl
    · rw [if_neg c, List.append_nil]
      exact ifN (decide_eq_false (show ¬ ((2 : Nat) : Int) ≤ ((ws.getD i 0 : Nat) : Int) by omega)) ⟨g', hD'⟩
  rintro Hn ⟨gn, hDn⟩
  rw [pl_len, List.take_length] at hDn
  refine ⟨D3, _, rfl, .inl ⟨SqL.of hDn, fun l hl0 => ?_⟩⟩
  have go := gn.newR (o := .tup (pl (Jn.rights 2 ws))) hl0
  have hwl1 : TupN K (upd Hn l (.tup (pl (Jn.rights 2 ws)))) l (Jn.rights 2 ws) := SqT.of upd_same
  have M := M.ge p go
  have hb := go.hab hb
  have hR := go.tupN hR
  have hw := go.tupN hw
  have he1 := go.tupN he1
  have hD2o := go.lst hD2q
  generalize upd Hn l (.tup (pl (Jn.rights 2 ws))) = Ho at M hb hR hw he1 hD2o hwl1 ⊢
  have few1 : (Jn.rights 2 ws).length ≤ 400 := by
    unfold Jn.rights
    rw [List.length_map]
    exact Nat.le_trans (List.length_filter_le _ _) (by omega)
  refine ⟨a2, ar, l, m, h, rs, Jn.rights 2 ws, rfl, M.h2.hab, hR, hrs, hwl1, Jn.rights_ok hwo, few1, M.tb, fun e2 Hp gp he2 => ?_⟩
  have M := M.ge p gp
  have hb := gp.hab hb
  have hw := gp.tupN hw
  have he1 := gp.tupN he1
  have hD2p := gp.lst hD2o
  refine ⟨by show 2 ≤ sizeLine; decide, fun t2 ht2 => ?_⟩
  have gq := Ge.new (o := .tup [.ref e1, .ref e2]) M.tb ht2
  exact ⟨sa, S, r, a1, a2, pb, wh, D2, t2, e1, e2, m, g, h, ls, rs, ws, _, _, _, _, _, _, _, _, _, _, _, _, _, _, _, _, _, _, _, _, _, rfl, M.ge p gq, hm, gq.hab hb, hls, hrs, gq.tupN hw, gq.lst hD2p, hwl, hwo, upd_same, gq.tupN he1, gq.tupN he2, done⟩
theorem law_a7 (L : Lw Pr w K mg base T CH CL CM) (p : Pt T P) (hr : Room 7 (lawX Pr w K mg base f c A outer s H0 E).A) (hN : PSs (lawX Pr w K mg base f c A outer s H0 E) ((defBody sLaw).drop 8) (tA6 T K P)) : PSs (lawX Pr w K mg base f c A outer s H0 E) ((defBody sLaw).drop 7) (tA5 T K P) := by
  have B := L.B
  refine pss_imp (pss_cons (ps_if (pt_cmpR (op_neD hr.units) (pe_fn L.af hr (by decide) (by rfl) pass0 (pa_cons (pv 1) (pa_cons (pv 7) (pa_cons (pe_callTy call_tuple_of (by rfl) B.tuple (by decide +kernel) (pa_cons (pv 8) pa_nil)) pa_nil))))
        (pe_op op_catA (pe_ix ix_tup (pv 9) pe_int (fun _ _ => rfl)) (pe_callTy call_tuple_of (by rfl) B.tuple (by decide +kernel) (pa_cons
          (pe_lc (own := [("_law_place", 6)]) (g := gName 6) (tt := tYes) (te := tOp (rI0 fun i j => .int (i + j)) (tVar 2) (tVar 6)) rfl scLaw.nd (pi_tup (pe_ix ix_tup (pv 9) pe_int (fun _ _ => rfl))) (blkOk_by (N := NL) (sc := defScope sLaw) (by decide +kernel)) (fun _ _ _ _ _ => pg_name (i := 6) scLaw.nd rfl (.inl rfl)) (fun _ _ _ _ _ => pts_nil) (fun _ _ _ _ _ => pe_op op_add (pv 2) (pv 6))) pa_nil))) (nomark _)) (pss_one (ps_ret pe_bl)) pss_nil) hN) (fun D σ H h => ?_)
  obtain ⟨sa, S, r, a1, a2, pb, wh, D2, t2, e1, e2, m, g, h, ls, rs, ws, v0, v4, v5, v6, v10, v11, v12, v13, v14, v15, v16, v17, v18, v19, v20, v21, v22, v23, v24, v25, v29, rfl, M, hm, hb, hls, hrs, hw, hD2q, hwl, hwo, ht1, he1, he2, done⟩ := h
  have pw := Jn.app_perm hls hrs
  refine ⟨_, rfl, _, rfl, _, rfl, D2, _, rfl, .inl ⟨SqL.of hD2q, fun l hl0 => ?_⟩⟩
  have go := Ge.new (o := .tup (pl ws)) M.tb hl0
  have hwt : TupN K (upd H l (.tup (pl ws))) l ws := SqT.of upd_same
  have M := M.ge p go
  have hb := go.hab hb
  have hw := go.tupN hw
  have he1 := go.tupN he1
  have he2 := go.tupN he2
  have ht1 := go.tup ht1
  generalize upd H l (.tup (pl ws)) = Hs at M hb hw he1 he2 ht1 hwt ⊢
  refine ⟨pb, wh, l, 2 + m, Jn.beside g h, ls ++ rs.map (2 + ·), ws, rfl, hb, hw, pw, hwt, hwo, by omega, M.tb, fun q Ht gt hq => ?_⟩
  have M := M.ge p gt
  have hb := gt.hab hb
  have he1 := gt.tupN he1
  have he2 := gt.tupN he2
  have ht1 := gt.tup ht1
  refine ⟨_, rfl, t2, _, (0 : Int), _, rfl, rfl, SqT.of ht1, rfl, ?_⟩
  have pe1 := Jn.after_perm M.h1.2 hls (Jn.lefts_ok 2 ws)
  have pe2 := Jn.after_perm M.h2.2 hrs (Jn.rights_ok hwo)
  have main := Jn.after_beside M.h1.2 M.h2.2 hls hrs hwo
  generalize Jn.after g ls (Jn.lefts 2 ws) = x1 at he1 pe1 main
  generalize Jn.after h rs (Jn.rights 2 ws) = x2 at he2 pe2 main
  refine ⟨_, rfl, t2, _, (1 : Int), _, rfl, rfl, SqT.of ht1, rfl, e2, rfl, ⟨_, he2⟩, fun D4 hD4 => lc_tup (K := K) (a := e2) (xs := pl x2) (fun i H' => Ge T Ht H' ∧ H' D4 = some (.lst (pl ((x2.map (2 + ·)).take i)))) ⟨Ge.new M.tb hD4, upd_same⟩ (fun i H' _ z => z.1.tupN he2) ?_ ?_⟩
  · rintro i x H' hi ⟨g', hD'⟩
    obtain ⟨hil, rfl⟩ := pl_some hi
    have hil2 : i < (x2.map (2 + ·)).length := by rw [List.length_map]; exact hil
    refine ⟨rfl, _, rfl, _, rfl, _, _, rfl, rfl, _, hD', pl_small (by rw [List.length_map, pe2.len]; omega) i, g'.wr hD' hD4, ?_⟩
    rw [upd_same, ← pl_take_more hil2, Jn.getD_map hil, Int.natCast_add]
  rintro Hu ⟨gu, hDu⟩
  rw [pl_len, ← List.length_map (f := (2 + ·)) (as := x2), List.take_length] at hDu
  refine ⟨D4, _, rfl, .inl ⟨SqL.of hDu, fun l2 hl2 => ?_⟩⟩
  have gv := gu.newR (o := .tup (pl (x2.map (2 + ·)))) hl2
  have n1 : 0 < x1.length := by rw [pe1.len]; decide
  have n2 : 0 < (x2.map (2 + ·)).length := by rw [List.length_map, pe2.len]; omega
  refine ⟨e1, l2, pl x1, pl (x2.map (2 + ·)), rfl, rfl, gv.tupN he1, SqT.of upd_same, ?_, fun z => (pl_ne n1 z).elim, fun _ z => (pl_ne n2 z).elim, fun _ _ y hy => ?_⟩
  · rw [pl_len, pl_len, List.length_map, pe1.len, pe2.len]
    exact Nat.le_of_lt (small1000 (by omega))
  rw [← pl_app]
  have gw := gv.newR (o := .tup (pl (x1 ++ x2.map (2 + ·)))) hy
  have hyt : TupN K (upd (upd Hu l2 (.tup (pl (x2.map (2 + ·))))) y (.tup (pl (x1 ++ x2.map (2 + ·))))) y (x1 ++ x2.map (2 + ·)) := SqT.of upd_same
  have hqt := gw.tupN hq
  rw [main] at hqt
  have M := M.ge p gw
  have hb := gw.hab hb
  generalize upd (upd Hu l2 (.tup (pl (x2.map (2 + ·))))) y (.tup (pl (x1 ++ x2.map (2 + ·)))) = Hv at M hb hyt hqt ⊢
  refine ⟨nd (x1 ++ x2.map (2 + ·)), nd (x1 ++ x2.map (2 + ·)), hqt.dp, hyt.dp, nd_shaped _, nd_shaped _, _, rfl, ifN (by rw [nd_eqv]; rfl) ?_⟩
  exact ⟨sa, S, r, a1, a2, pb, m, g, h, _, _, _, _, _, _, _, _, _, _, _, _, _, _, _, _, _, _, _, _, _, _, _, _, _, rfl, M, hm, hb, done⟩
theorem law_a8 (L : Lw Pr w K mg base T CH CL CM) (p : Pt T P) (hr : Room 7 (lawX Pr w K mg base f c A outer s H0 E).A) (hN : PSs (lawX Pr w K mg base f c A outer s H0 E) ((defBody sLaw).drop 9) (tB T K P)) : PSs (lawX Pr w K mg base f c A outer s H0 E) ((defBody sLaw).drop 8) (tA6 T K P) := by
  have B := L.B
  refine pss_imp (pss_cons (ps_if (pt_cmpR op_ne (pe_fn L.od hr (by decide) (by rfl) pass0 (pa_cons (pv 1) pa_nil)) (pe_op op_mul (pe_fn L.od hr (by decide) (by rfl) pass0 (pa_cons (pv 26) pa_nil)) (pe_fn L.od hr (by decide) (by rfl) pass0 (pa_cons (pv 27) pa_nil))) (nomark _)) (pss_one (ps_ret pe_bl)) pss_nil) hN) (fun D σ H h => ?_)
  obtain ⟨sa, S, r, a1, a2, pb, m, g, h, v0, v2, v4, v5, v6, v7, v8, v9, v10, v11, v12, v13, v14, v15, v16, v17, v18, v19, v20, v21, v22, v23, v24, v25, v29, rfl, M, hm, hb, done⟩ := h
  refine ⟨_, rfl, pb, 2 + m, Jn.beside g h, rfl, hb, M.tb, fun N Hw gw oN fN => ?_⟩
  have M := M.ge p gw
  refine ⟨_, rfl, a1, 2, g, rfl, M.h1.hab, M.tb, fun N1 Hx gx oN1 fN1 => ?_⟩
  have M := M.ge p gx
  refine ⟨_, rfl, a2, m, h, rfl, M.h2.hab, M.tb, fun N2 Hy gy oN2 fN2 => ?_⟩
  have M := M.ge p gy
  have eN : N = N1 * N2 := oN.uniq (Jn.order_beside M.h1.2 M.h2.2 oN1 oN2)
  refine ⟨_, _, rfl, rfl, .inl ⟨by omega, by omega⟩, rfl, _, rfl, ifN ?_ ⟨sa, S, r, a1, a2, m, g, h, _, _, _, _, _, _, _, _, _, _, _, _, _, _, _, _, _, _, _, _, _, _, _, _, _, _, rfl, M, hm, done⟩⟩
  have e : decide (V.int (N : Int) = V.int ((N1 : Int) * (N2 : Int))) = true := decide_eq_true (by rw [eN, Int.natCast_mul])
  show (!decide (V.int (N : Int) = V.int ((N1 : Int) * (N2 : Int)))) = false
  rw [e]
  rfl
end
end JX
end
section
set_option Elab.async false
set_option linter.all false
set_option maxRecDepth 100000
set_option maxHeartbeats 16000000
namespace JX
open PySem PySem.Spec PyProof.Rows L2
section
variable {Pr : Program} {w : World} {K : PySem.W.Frag} {mg : Str → Option Value} {base : Heap} {T : Two} {CH CL CM P : Addr} {f c : Addr} {A : Around} {outer : List Env} {s : Shared} {H0 : Hp} {E : XK}
theorem Gr.rowsB {T : Two} {r l sa : Addr} {S : List Int} {H H1 : Hp} {bs : List Addr} {ls : List (List Nat)} (g : Gr T r H H1) (R : RowOk K sa S r H) (x : RowsB H l bs ls) (hr : l ≠ r) : RowsB H1 l bs ls :=
  ⟨g.lst x.at_ hr, x.len, fun j b m e1 e2 => g.tup R (x.row j b m e1 e2)⟩
theorem law_b9 (L : Lw Pr w K mg base T CH CL CM) (p : Pt T P) (hr : Room 7 (lawX Pr w K mg base f c A outer s H0 E).A) (hN : PSs (lawX Pr w K mg base f c A outer s H0 E) ((defBody sLaw).drop 10) (tB1 T K P)) : PSs (lawX Pr w K mg base f c A outer s H0 E) ((defBody sLaw).drop 9) (tB T K P) := by
  have B := L.B
  refine pss_imp (pss_cons (ps_set (i := 10) scLaw.nd rfl (.inl rfl) (pe_ifExp (pt_cmpR op_eq (pv 3) pe_int (nomark _)) (pv 27) (pe_fn L.dr hr (by decide) (by rfl) pass0 (pa_cons (pv 28) (pa_cons pe_int pa_nil))))) hN) (fun D σ H h => ?_)
  obtain ⟨sa, S, r, a1, a2, m, g, h, v0, v1, v2, v4, v5, v6, v7, v8, v9, v10, v11, v12, v13, v14, v15, v16, v17, v18, v19, v20, v21, v22, v23, v24, v25, v29, rfl, M, hm, done⟩ := h
  refine ⟨_, rfl, rfl, _, rfl, ?_⟩
  by_cases c : m = 2
  · refine ifY (decide_eq_true (show V.int (m : Int) = V.int 2 by rw [c]; rfl)) ⟨_, rfl, ?_⟩
    subst c
    exact ⟨sa, S, r, a1, a2, a2, 2, g, h, h, _, _, _, _, _, _, _, _, _, _, _, _, _, _, _, _, _, _, _, _, _, _, _, _, _, rfl, M, hm, M.h2.hab, done⟩
  · refine ifN (decide_eq_false (show ¬ V.int (m : Int) = V.int 2 from fun z => c (by injection z with z; omega))) ⟨_, rfl, r, sa, S, 2, rfl, by decide, by decide, M.R, M.tb, fun a3 k H1 g1 R1 hk => ?_⟩
    exact ⟨sa, S, r, a1, a2, a3, m, g, h, k, _, _, _, _, _, _, _, _, _, _, _, _, _, _, _, _, _, _, _, _, _, _, _, _, _, rfl, M.gr p g1 R1, hm, hk.hab, done⟩
theorem law_b10 (L : Lw Pr w K mg base T CH CL CM) (p : Pt T P) (hr : Room 7 (lawX Pr w K mg base f c A outer s H0 E).A) (hN : PSs (lawX Pr w K mg base f c A outer s H0 E) ((defBody sLaw).drop 11) (tB2 T K P)) : PSs (lawX Pr w K mg base f c A outer s H0 E) ((defBody sLaw).drop 10) (tB1 T K P) := by
  have B := L.B
  refine pss_imp (pss_cons (ps_par (i := 11) (j := 12) rfl scLaw.nd rfl rfl (by decide) rfl rfl (pa_cons (pe_fn L.wi hr (by decide) (by rfl) passL (pa_cons (pv 26) (pa_cons (pv 10) pa_nil))) (pa_cons (pe_tupRg rfl (by rfl) B.tuple (prg_1 (by rfl) B.range pe_int)) pa_nil)) (by rfl)) hN) (fun D σ H h => ?_)
  obtain ⟨sa, S, r, a1, a2, a3, m, g, h, k, v0, v1, v2, v4, v5, v6, v7, v8, v9, v11, v12, v13, v14, v15, v16, v17, v18, v19, v20, v21, v22, v23, v24, v25, v29, rfl, M, hm, hk, done⟩ := h
  refine ⟨_, rfl, _, rfl, a1, a3, 2, 2, g, k, rfl, M.h1.hab, hk, M.tb, fun _ pn H1 g1 hn => ?_, fun z => ?_⟩
  case refine_2 => exfalso; omega
  have M := M.ge p g1
  have hn : Hab K H1 pn 4 (Jn.within g k) := ⟨hn, Jn.within_habit M.h1.2 hk.2 (by decide)⟩
  have hk := g1.hab hk
  refine ⟨(4 : Int), rfl, RgOk.of_le (by decide) (by decide) (by decide) (by decide), fun q hq => ?_⟩
  have e4 : rgV 0 4 = pl (List.range 4) := rgV_pl 4
  rw [e4]
  have g2 := Ge.new (o := .tup (pl (List.range 4))) M.tb hq
  exact ⟨_, _, rfl, ⟨sa, S, r, a1, a2, a3, pn, q, m, g, h, k, _, _, _, _, _, _, _, _, _, _, _, _, _, _, _, _, _, _, _, _, _, _, _, rfl, M.ge p g2, hm, g2.hab hk, g2.hab hn, SqT.of upd_same, done⟩⟩
theorem law_b11 (L : Lw Pr w K mg base T CH CL CM) (p : Pt T P) (hr : Room 7 (lawX Pr w K mg base f c A outer s H0 E).A) (hN : PSs (lawX Pr w K mg base f c A outer s H0 E) ((defBody sLaw).drop 12) (tC T K P)) : PSs (lawX Pr w K mg base f c A outer s H0 E) ((defBody sLaw).drop 11) (tB2 T K P) := by
  have B := L.B
  refine pss_imp (pss_cons (ps_for PassesOwn.never rfl (pi_list (pe_lc (own := [("_law_turn", 29)]) (g := gName 29) (tt := tYes) (te := tTup (tCons (tCall (spTaken T K) [] E0 (tCons (tVar 28) (tCons (L2.tC (.int 2)) tNil))) (tCons (tCall (spTaken T K) [] E0 (tCons (tVar 28) (tCons (L2.tC (.int 2)) tNil))) tNil))) rfl scLaw.nd (pi_range1 (by rfl) B.range (pa_cons pe_int pa_nil)) (blkOk_by (N := NL) (sc := defScope sLaw) (by decide +kernel))
      (fun _ _ _ _ _ => pg_name (i := 29) scLaw.nd rfl (.inl rfl)) (fun _ _ _ _ _ => pts_nil) (fun _ _ _ _ _ => pe_tup (pa_cons (pe_fn L.tk hr (by decide) (by rfl) pass0 (pa_cons (pv 28) (pa_cons pe_int pa_nil))) (pa_cons (pe_fn L.tk hr (by decide) (by rfl) pass0 (pa_cons (pv 28) (pa_cons pe_int pa_nil))) pa_nil)))))
      (pg_tup rfl (pgs_cons (pg_name (i := 6) scLaw.nd rfl (.inl rfl)) (pgs_cons (pg_name (i := 13) scLaw.nd rfl (.inl rfl)) pgs_nil)))
      (pss_cons (ps_set (i := 14) scLaw.nd rfl (.inl rfl) (pe_lst pa_nil))
      (pss_cons (ps_for PassesOwn.never rfl (pi_tup (pv 12)) (pg_name (i := 15) scLaw.nd rfl (.inl rfl))
        (pss_cons (ps_par (i := 16) (j := 17) rfl scLaw.nd rfl rfl (by decide) rfl rfl (pa_cons (pe_op op_fdiv (pv 15) pe_int) (pa_cons (pe_op op_mod (pv 15) pe_int) pa_nil)) (by rfl))
        (pss_one (ps_expr (pe_bm PySem.F.plainAttrs_list PySem.F.slot_list_append PySem.F.type_list_append mt_append (pv 14) (pa_cons (pe_op op_add (pe_op op_mul (pe_ix ix_tup (pe_ix ix_tup (pv 26) (pv 6) (fun _ _ => rfl)) (pv 16) (fun _ _ => rfl)) pe_int)
          (pe_ifExp (pt_cmpR op_eq (pv 16) (pv 6) (nomark _)) (pe_ix ix_tup (pe_ix ix_tup (pv 10) (pv 13) (fun _ _ => rfl)) (pv 17) (fun _ _ => rfl)) (pv 17))) pa_nil))))))
      (pss_cons (ps_set (i := 12) scLaw.nd rfl (.inl rfl) (pe_fn L.af hr (by decide) (by rfl) pass0 (pa_cons (pv 11) (pa_cons (pv 12) (pa_cons (pe_tup (pa_cons (pe_op op_add (pe_op op_mul (pv 6) pe_int) (pv 13)) pa_nil)) pa_nil)))))
      (pss_one (ps_if (pt_cmpR (op_neD hr.units) (pv 12) (pe_callTy call_tuple_of (by rfl) B.tuple (by decide +kernel) (pa_cons (pv 14) pa_nil)) (nomark _)) (pss_one (ps_ret pe_bl)) pss_nil)))))) hN) (fun D σ H h => ?_)
  obtain ⟨sa, S, r, a1, a2, a3, pn, st, m, g, h, k, v0, v1, v2, v4, v5, v6, v7, v8, v9, v13, v14, v15, v16, v17, v18, v19, v20, v21, v22, v23, v24, v25, v29, rfl, M, hm, hk, hn, hst, done⟩ := h
  refine ⟨(4 : Int), rfl, by decide, by decide, fun D1 hD1 => ?_⟩
  have D1r : D1 ≠ r := fun z => by
    obtain ⟨i, s, g, e, _⟩ := M.R.at_
    rw [z, e] at hD1
    cases hD1
  have D1s := M.R.apart hD1
  have g0 : Ge T H (upd H D1 (.lst [])) := Ge.new M.tb hD1
  refine lc_range (lo := 0) (n := 4) (fun i H' => ∃ bs ls, Gr T r H H' ∧ RowOk K sa S r H' ∧ RowsB H' D1 bs ls ∧ ls.length = i ∧ ∀ x ∈ ls, ∃ p s, x = [p, s] ∧ p < 2 ∧ s < 2) ⟨[], [], g0.gr, M.R.ge g0, RowsB.nil upd_same, rfl, fun x hx => by cases hx⟩ ?_ ?_
  · rintro i H' hi ⟨bs, ls, g', R', B', hll, hls⟩
    refine ⟨rfl, _, rfl, r, sa, S, 2, rfl, by decide, by decide, R', g'.t1, fun v xs hv hx i0 s0 g0 c1 c2 c3 c4 => ?_⟩
    obtain ⟨ga, Ra⟩ := taken_gr R' g'.t1 hx c1 c2 c3 c4
    have Ba := ga.rowsB R' B' D1r
    generalize upd H' r (.lst [.ref sa, .int i0, .int s0, .int g0]) = Ha at ga Ra Ba ⊢
    refine ⟨_, rfl, r, sa, S, 2, rfl, by decide, by decide, Ra, ga.t1, fun v2 xs hv2 hx i0 s0 g0 c1 c2 c3 c4 => ?_⟩
    obtain ⟨gb, Rb⟩ := taken_gr Ra ga.t1 hx c1 c2 c3 c4
    have Bb := gb.rowsB Ra Ba D1r
    generalize upd Ha r (.lst [.ref sa, .int i0, .int s0, .int g0]) = Hb at gb Rb Bb ⊢
    refine ⟨by show 2 ≤ sizeLine; decide, fun q hq => ?_⟩
    have gc := Ge.new (o := .tup [V.int (v : Int), V.int (v2 : Int)]) gb.t1 hq
    have Bc := Bb.ge gc
    refine ⟨_, Bc.at_, Bc.few (by omega), bs ++ [q], ls ++ [[v, v2]], (((g'.trans ga).trans gb).trans gc.gr).wr Bc.at_ hD1, (Rb.ge gc).wr Bc.at_ D1r D1s, Bc.snoc upd_same, by rw [List.length_append, hll]; rfl, fun x hx => ?_⟩
    rcases List.mem_append.mp hx with z | z
    · exact hls x z
    · rw [List.mem_singleton.mp z]
      exact ⟨v, v2, rfl, hv, hv2⟩
  rintro Hm ⟨bs, ls, gm, Rm, Bm, hll, hls⟩
  have hk := gm.hab M.R hk
  have hn := gm.hab M.R hn
  have hst := gm.tupN M.R hst
  have M := M.gr p gm Rm
  refine ⟨D1, rfl, ⟨_, SqL.of Bm.at_⟩, for_list (K := K) (a := D1) (xs := bs.map V.ref) (fun i σ H' => ∃ (st' : Addr) (l : List Nat) (v6 v13 v14 v15 v16 v17 : Option V), σ = [v0, v1, v2, some (.int (m : Int)), v4, v5, v6, v7, v8, v9, some (.ref a3), some (.ref pn), some (.ref st'), v13, v14, v15, v16, v17, v18, v19, v20, v21, v22, v23, v24, v25, some (.ref a1), some (.ref a2), some (.ref r), v29] ∧ Ge T Hm H' ∧ TupN K H' st' l ∧ Jn.IsPerm 4 l)
    ⟨st, List.range 4, _, _, _, _, _, _, rfl, Ge.refl M.tb, hst, range_perm 4⟩ (fun i σ H' _ ⟨_, _, _, _, _, _, _, _, _, g', _⟩ => SqL.of (g'.lst Bm.at_)) ?_ ?_⟩
  · rintro i x σ H' hi ⟨st', l, v6, v13, v14, v15, v16, v17, rfl, g', hst', hp⟩
    have hib : i < bs.length := by
      have := (List.getElem?_eq_some_iff.mp hi).1
      rw [List.length_map] at this
      exact this
    have hbi : bs[i]? = some bs[i] := List.getElem?_eq_getElem hib
    rw [List.getElem?_map, hbi] at hi
    have ex : V.ref bs[i] = x := Option.some.inj hi
    subst ex
    have hil : i < ls.length := by rw [← Bm.len]; exact hib
    have hli : ls[i]? = some ls[i] := List.getElem?_eq_getElem hil
    obtain ⟨pc, sp, e0, hpc, hsp⟩ := hls ls[i] (List.getElem_mem hil)
    have hbt := g'.tup (Bm.row i _ _ hbi hli)
    rw [e0] at hbt
    refine ⟨bs[i], _, rfl, SqT.of hbt, rfl, _, _, rfl, _, _, rfl, rfl, Nat.zero_le _, fun D2 hD2 => ?_⟩
    have hD2f := g'.free hD2
    have ga := g'.newR (o := .lst []) hD2
    obtain ⟨xs1, q1, hX, hat, hrow⟩ := (M.h1.hab).1.row (k := pc) (by rw [M.h1.2.len]; exact hpc)
    obtain ⟨ys1, q2, hY, hat2, hrow2⟩ := hk.1.row (k := sp) (by rw [hk.2.len]; exact hsp)
    have hl1 := (M.h1.2.row hpc)
    have hl2 := (hk.2.row hsp)
    have hl1l := hl1.len
    have hl2l := hl2.len
    have hpl := hp.len
    have tw := Jn.touch_within M.h1.2 hk.2 (l := l) (fun x hx => hp.lt x hx) hpc hsp
    have twl : (Jn.touch (Jn.within g k) l (pc * 2 + sp)).length = 4 := by rw [Jn.touch_len]; exact hpl
    refine ⟨_, rfl, st', rfl, ⟨_, (Ge.new (o := .lst []) g'.t1 hD2).tupN hst'⟩, for_tup (K := K) (a := st') (xs := pl l) (fun j σ H7 => ∃ (v15 v16 v17 : Option V), σ = [v0, v1, v2, some (.int (m : Int)), v4, v5, some (.int (pc : Int)), v7, v8, v9, some (.ref a3), some (.ref pn), some (.ref st'), some (.int (sp : Int)), some (.ref D2), v15, v16, v17, v18, v19, v20, v21, v22, v23, v24, v25, some (.ref a1), some (.ref a2), some (.ref r), v29] ∧ Ge T H' H7 ∧
        H7 D2 = some (.lst (pl ((Jn.touch (Jn.within g k) l (pc * 2 + sp)).take j))))
      ⟨_, _, _, rfl, Ge.new g'.t1 hD2, upd_same⟩ (fun j σ H7 _ ⟨_, _, _, _, g7, _⟩ => g7.tupN hst') ?_ ?_⟩
    · rintro j x σ H7 hj ⟨v15, v16, v17, rfl, g7, hD7⟩
      obtain ⟨hjl, rfl⟩ := pl_some hj
      have hy := hp.lt _ (Jn.getD_mem hjl)
      generalize hyy : l.getD j 0 = y at hy
      have ediv : ((y : Int)) / 2 = ((y / 2 : Nat) : Int) := by omega
      have emod : ((y : Int)) % 2 = ((y % 2 : Nat) : Int) := by omega
      refine ⟨_, rfl, _, _, rfl, rfl, ⟨by decide, by decide⟩, _, rfl, _, _, rfl, rfl, (show (0 : Int) < 2 by decide), _, _, rfl, ?_⟩
      have gg := (g'.trans g7)
      have h2 : y / 2 < 2 := by omega
      have h3 : y % 2 < 2 := by omega
      have hv := hl1.lt _ (Jn.getD_mem (l := Jn.row g pc) (i := y / 2) (by omega))
      have twj : (Jn.touch (Jn.within g k) l (pc * 2 + sp)).getD j 0 = (Jn.row g pc).getD (y / 2) 0 * 2 + (if y / 2 = pc then (Jn.row k sp).getD (y % 2) 0 else y % 2) := by
        rw [tw, Jn.getD_map hjl, hyy]
      have at16 : atI (pl (Jn.row g pc)) ((y : Int) / 2) = some (V.int (((Jn.row g pc).getD (y / 2) 0 : Nat) : Int)) := by
        rw [ediv]
        exact atI_pl (by omega)
      have at17 : atI (pl (Jn.row k sp)) ((y : Int) % 2) = some (V.int (((Jn.row k sp).getD (y % 2) 0 : Nat) : Int)) := by
        rw [emod]
        exact atI_pl (by omega)
      refine ⟨_, rfl, .inl ⟨rfl, _, SqL.of hD7⟩, _, rfl, _, rfl, a1, _, (pc : Int), _, rfl, rfl, gg.sqT hX, hat, _, rfl, q1, _, _, _, rfl, rfl, gg.tupN hrow, at16, _, _, rfl, rfl, .inl ⟨by omega, by omega⟩, _, rfl, _, rfl, rfl, _, rfl, ?_⟩
      by_cases cc : y / 2 = pc
      · rw [if_pos cc] at twj
        refine ifY (decide_eq_true (show V.int ((y : Int) / 2) = V.int (pc : Int) by rw [ediv, cc])) ⟨_, rfl, _, rfl, a3, _, (sp : Int), _, rfl, rfl, gg.sqT hY, hat2, _, rfl, q2, _, _, _, rfl, rfl, gg.tupN hrow2, at17, _, _, rfl, rfl, D2, _, _, rfl, rfl, hD7, pl_small (by omega) j, _, _, _, rfl, g7.wr hD7 hD2, ?_⟩
        rw [upd_same, ← pl_take_more (by rw [twl]; omega), twj, Int.natCast_add, Int.natCast_mul]
        rfl
      · rw [if_neg cc] at twj
        refine ifN (decide_eq_false (show ¬ V.int ((y : Int) / 2) = V.int (pc : Int) from fun z => cc (by injection z with z; omega))) ⟨_, rfl, _, _, rfl, rfl, D2, _, _, rfl, rfl, hD7, pl_small (by omega) j, _, _, _, rfl, g7.wr hD7 hD2, ?_⟩
        rw [upd_same, ← pl_take_more (by rw [twl]; omega), twj, Int.natCast_add, Int.natCast_mul, ← emod]
        rfl
    · rintro σ H7 ⟨v15, v16, v17, rfl, g7, hD7⟩
      rw [List.take_of_length_le (by rw [pl_len, twl]; omega)] at hD7
      refine ⟨_, rfl, _, rfl, _, rfl, _, _, rfl, rfl, .inl ⟨by omega, by omega⟩, _, rfl, _, _, rfl, rfl, by show 1 ≤ sizeLine; decide, fun q hq => ?_⟩
      have g8 := g7.newR (o := .tup [V.int ((pc : Int) * 2 + (sp : Int))]) hq
      have ew : ([V.int ((pc : Int) * 2 + (sp : Int))] : List V) = pl [pc * 2 + sp] := by
        show _ = [V.int ((pc * 2 + sp : Nat) : Int)]
        rw [Int.natCast_add, Int.natCast_mul]
        rfl
      have hqw : TupN K (upd H7 q (.tup [V.int ((pc : Int) * 2 + (sp : Int))])) q [pc * 2 + sp] := by
        rw [ew]
        exact SqT.of upd_same
      have hD8 := (Ge.new (o := .tup [V.int ((pc : Int) * 2 + (sp : Int))]) g7.t1 hq).lst hD7
      have gg := g'.trans g8
      refine ⟨pn, st', q, 4, Jn.within g k, l, [pc * 2 + sp], rfl, gg.hab hn, g8.tupN hst', hp, hqw, fun x hx => by rw [List.mem_singleton.mp hx]; omega, (by show 1 ≤ 400; decide), gg.t1, fun q3 H9 g9 hq3 => ?_⟩
      rw [Jn.after_one] at hq3
      have hD9 := g9.lst hD8
      refine ⟨_, rfl, _, rfl, D2, _, rfl, .inl ⟨SqL.of hD9, fun q4 hq4 => ?_⟩⟩
      have g10 := Ge.new (o := .tup (pl (Jn.touch (Jn.within g k) l (pc * 2 + sp)))) g9.t1 hq4
      refine ⟨nd (Jn.touch (Jn.within g k) l (pc * 2 + sp)), nd (Jn.touch (Jn.within g k) l (pc * 2 + sp)), (g10.tupN hq3).dp, TupN.dp (SqT.of upd_same), nd_shaped _, nd_shaped _, _, rfl, ifN (by rw [nd_eqv]; rfl) ?_⟩
      exact ⟨q3, _, _, _, _, _, _, _, rfl, (gg.trans g9).trans g10, g10.tupN hq3, Jn.touch_perm hn.2 hp (by omega)⟩
  · rintro σ H' ⟨st', l, v6, v13, v14, v15, v16, v17, rfl, g', hst', hp⟩
    exact ⟨sa, S, r, a1, a2, m, g, h, _, _, _, _, _, _, _, _, _, _, _, _, _, _, _, _, _, _, _, _, _, _, _, _, _, _, rfl, M.ge p g', hm, done⟩
end
end JX
end
section
set_option Elab.async false
set_option linter.all false
set_option maxRecDepth 100000
set_option maxHeartbeats 16000000
namespace JX
open PySem PySem.Spec PyProof.Rows L2
section
variable {Pr : Program} {w : World} {K : PySem.W.Frag} {mg : Str → Option Value} {base : Heap} {T : Two} {CH CL CM P : Addr} {f c : Addr} {A : Around} {outer : List Env} {s : Shared} {H0 : Hp} {E : XK}
theorem law_c12 (L : Lw Pr w K mg base T CH CL CM) (p : Pt T P) (hr : Room 7 (lawX Pr w K mg base f c A outer s H0 E).A) (hN : PSs (lawX Pr w K mg base f c A outer s H0 E) ((defBody sLaw).drop 13) (tC1 T K P)) : PSs (lawX Pr w K mg base f c A outer s H0 E) ((defBody sLaw).drop 12) (JX.tC T K P) := by
  have B := L.B
  refine pss_imp (pss_cons (ps_asg (pe_tup (pa_cons (pe_fn L.pm hr (by decide) (by rfl) pass0 (pa_cons (pv 28) (pa_cons (pv 3) pa_nil))) (pa_cons (pe_fn L.pm hr (by decide) (by rfl) pass0 (pa_cons (pv 28) (pa_cons (pv 3) pa_nil))) pa_nil)))
      (pg_tup rfl (pgs_cons (pg_name (i := 18) scLaw.nd rfl (.inr rfl)) (pgs_cons (pg_name (i := 19) scLaw.nd rfl (.inl rfl)) pgs_nil)))) hN) (fun D σ H h => ?_)
  obtain ⟨sa, S, r, a1, a2, m, g, h, v0, v1, v2, v4, v5, v6, v7, v8, v9, v10, v11, v12, v13, v14, v15, v16, v17, v18, v19, v20, v21, v22, v23, v24, v25, v29, rfl, M, hm, done⟩ := h
  refine ⟨_, rfl, _, rfl, r, sa, S, m, rfl, by omega, M.R, M.tb, fun po os H1 g1 R1 f1 hos => ?_⟩
  have M := M.gr p g1 R1
  refine ⟨_, rfl, _, rfl, r, sa, S, m, rfl, by omega, M.R, M.tb, fun pl_ ls H2 g2 R2 f2 hls => ?_⟩
  have hO : TupN K H2 po os := g2.tupN M.R f1.tupN
  have hl : TupN K H2 pl_ ls := f2.tupN
  have M := M.gr p g2 R2
  refine ⟨by show 2 ≤ sizeLine; decide, fun t ht => ?_⟩
  have g3 := Ge.new (o := .tup [.ref po, .ref pl_]) M.tb ht
  refine ⟨t, _, rfl, SqT.of upd_same, rfl, _, _, rfl, _, _, rfl, rfl, ?_⟩
  exact ⟨sa, S, r, a1, a2, po, pl_, m, g, h, os, ls, _, _, _, _, _, _, _, _, _, _, _, _, _, _, _, _, _, _, _, _, _, _, _, _, rfl, M.ge p g3, hm, g3.tupN hO, hos, g3.tupN hl, hls, done⟩
theorem law_c13 (L : Lw Pr w K mg base T CH CL CM) (p : Pt T P) (hr : Room 7 (lawX Pr w K mg base f c A outer s H0 E).A) (hN : PSs (lawX Pr w K mg base f c A outer s H0 E) ((defBody sLaw).drop 14) (tC2 T K P)) : PSs (lawX Pr w K mg base f c A outer s H0 E) ((defBody sLaw).drop 13) (tC1 T K P) := by
  have B := L.B
  refine pss_imp (pss_cons (ps_set (i := 8) scLaw.nd rfl (.inl rfl) (pe_callTy call_tuple_of (by rfl) B.tuple (by decide +kernel) (pa_cons (pe_lc (own := [("_law_turn", 29)]) (g := gName 29) (tt := tYes) (te := tCall (spTaken T K) [] E0 (tCons (tVar 28) (tCons (tVar 3) tNil))) rfl scLaw.nd (pi_range1 (by rfl) B.range (pa_cons pe_int pa_nil)) (blkOk_by (N := NL) (sc := defScope sLaw) (by decide +kernel))
      (fun _ _ _ _ _ => pg_name (i := 29) scLaw.nd rfl (.inl rfl)) (fun _ _ _ _ _ => pts_nil) (fun _ _ _ _ _ => pe_fn L.tk hr (by decide) (by rfl) pass0 (pa_cons (pv 28) (pa_cons (pv 3) pa_nil)))) pa_nil))) hN) (fun D σ H h => ?_)
  obtain ⟨sa, S, r, a1, a2, po, pl_, m, g, h, os, ls, v0, v1, v2, v4, v5, v6, v7, v8, v9, v10, v11, v12, v13, v14, v15, v16, v17, v20, v21, v22, v23, v24, v25, v29, rfl, M, hm, hO, hos, hl, hls, done⟩ := h
  refine ⟨(5 : Int), rfl, by decide, by decide, fun D2 hD2 => ?_⟩
  have D2r : D2 ≠ r := fun z => by
    obtain ⟨i, s, g, e, _⟩ := M.R.at_
    rw [z, e] at hD2
    cases hD2
  have D2s := M.R.apart hD2
  have g0' : Ge T H (upd H D2 (.lst [])) := Ge.new M.tb hD2
  refine lc_range (lo := 0) (n := 5) (fun i H' => ∃ ws : List Nat, Gr T r H H' ∧ RowOk K sa S r H' ∧ H' D2 = some (.lst (pl ws)) ∧ ws.length = i ∧ Jn.WordOk m ws) ⟨[], g0'.gr, M.R.ge g0', upd_same, rfl, fun x hx => by cases hx⟩ ?_ ?_
  · rintro i H' hi ⟨ws, g', R', hD', hwl, hwo⟩
    refine ⟨rfl, _, rfl, _, rfl, r, sa, S, m, rfl, by omega, by omega, R', g'.t1, fun v xs hv hx i0 s0 g0 c1 c2 c3 c4 => ?_⟩
    obtain ⟨gc, Rc⟩ := taken_gr R' g'.t1 hx c1 c2 c3 c4
    have hDc := gc.lst hD' D2r
    refine ⟨_, hDc, by rw [pl_len]; exact small1000 (by omega), ws ++ [v], (g'.trans gc).wr hDc hD2, Rc.wr hDc D2r D2s, ?_, by rw [List.length_append, hwl]; rfl, fun x hx => ?_⟩
    · rw [upd_same, pl_app]
      rfl
    · rcases List.mem_append.mp hx with z | z
      · exact hwo x z
      · rw [List.mem_singleton.mp z]
        exact hv
  rintro Hm ⟨ws, gm, Rm, hDm, hwl, hwo⟩
  have hO := gm.tupN M.R hO
  have hl := gm.tupN M.R hl
  have M := M.gr p gm Rm
  refine ⟨D2, _, rfl, .inl ⟨SqL.of hDm, fun q hq => ?_⟩⟩
  have g3 := Ge.new (o := .tup (pl ws)) M.tb hq
  exact ⟨sa, S, r, a1, a2, po, pl_, q, m, g, h, os, ls, ws, _, _, _, _, _, _, _, _, _, _, _, _, _, _, _, _, _, _, _, _, _, _, _, rfl, M.ge p g3, hm, g3.tupN hO, hos, g3.tupN hl, hls, SqT.of upd_same, hwo, hwl, done⟩
theorem law_c14 (L : Lw Pr w K mg base T CH CL CM) (p : Pt T P) (hr : Room 7 (lawX Pr w K mg base f c A outer s H0 E).A) (hN : PSs (lawX Pr w K mg base f c A outer s H0 E) ((defBody sLaw).drop 15) (tC3 T K P)) : PSs (lawX Pr w K mg base f c A outer s H0 E) ((defBody sLaw).drop 14) (tC2 T K P) := by
  have B := L.B
  refine pss_imp (pss_cons (ps_set (i := 20) scLaw.nd rfl (.inl rfl) (pe_fn L.ca hr (by decide) (by rfl) passL (pa_cons (pv 27) (pa_cons (pv 18) pa_nil)))) hN) (fun D σ H h => ?_)
  obtain ⟨sa, S, r, a1, a2, po, pl_, pw, m, g, h, os, ls, ws, v0, v1, v2, v4, v5, v6, v7, v9, v10, v11, v12, v13, v14, v15, v16, v17, v20, v21, v22, v23, v24, v25, v29, rfl, M, hm, hO, hos, hl, hls, hw, hwo, hwl, done⟩ := h
  refine ⟨_, rfl, _, rfl, a2, po, m, h, rfl, M.h2.hab, M.tb, .inl ⟨os, hO, hos, fun pa H1 g1 hpa => ?_⟩⟩
  exact ⟨sa, S, r, a1, a2, po, pl_, pw, pa, m, g, h, os, ls, ws, _, _, _, _, _, _, _, _, _, _, _, _, _, _, _, _, _, _, _, _, _, _, rfl, M.ge p g1, hm, g1.tupN hO, hos, g1.tupN hl, hls, g1.tupN hw, hwo, hwl, ⟨hpa, Jn.called_habit M.h2.2 hos⟩, done⟩
theorem named_len (os ls : List Nat) : (Jn.named os ls).length = ls.length := by
  unfold Jn.named
  rw [List.length_map]
theorem named_get {os ls : List Nat} {i : Nat} (h : i < ls.length) : (Jn.named os ls).getD i 0 = os.getD (ls.getD i 0) 0 := by
  unfold Jn.named
  rw [Jn.getD_map h]
theorem law_c15 (L : Lw Pr w K mg base T CH CL CM) (p : Pt T P) (hr : Room 7 (lawX Pr w K mg base f c A outer s H0 E).A) (hN : PSs (lawX Pr w K mg base f c A outer s H0 E) ((defBody sLaw).drop 16) (tC4 T K P)) : PSs (lawX Pr w K mg base f c A outer s H0 E) ((defBody sLaw).drop 15) (tC3 T K P) := by
  have B := L.B
  refine pss_imp (pss_cons (ps_set (i := 21) scLaw.nd rfl (.inl rfl) (pe_fn L.af hr (by decide) (by rfl) pass0 (pa_cons (pv 20) (pa_cons (pe_callTy call_tuple_of (by rfl) B.tuple (by decide +kernel) (pa_cons
        (pe_lc (own := [("_law_place", 6)]) (g := gName 6) (tt := tYes) (te := tOp (rIxT K) (tVar 18) (tVar 6)) rfl scLaw.nd (pi_tup (pv 19)) (blkOk_by (N := NL) (sc := defScope sLaw) (by decide +kernel)) (fun _ _ _ _ _ => pg_name (i := 6) scLaw.nd rfl (.inl rfl)) (fun _ _ _ _ _ => pts_nil) (fun _ _ _ _ _ => pe_ix ix_tup (pv 18) (pv 6) (fun _ _ => rfl))) pa_nil))
      (pa_cons (pe_callTy call_tuple_of (by rfl) B.tuple (by decide +kernel) (pa_cons
        (pe_lc (own := [("_law_place", 6)]) (g := gName 6) (tt := tYes) (te := tOp (rIxT K) (tVar 18) (tVar 6)) rfl scLaw.nd (pi_tup (pv 8)) (blkOk_by (N := NL) (sc := defScope sLaw) (by decide +kernel)) (fun _ _ _ _ _ => pg_name (i := 6) scLaw.nd rfl (.inl rfl)) (fun _ _ _ _ _ => pts_nil) (fun _ _ _ _ _ => pe_ix ix_tup (pv 18) (pv 6) (fun _ _ => rfl))) pa_nil)) pa_nil))))) hN) (fun D σ H h => ?_)
  obtain ⟨sa, S, r, a1, a2, po, pl_, pw, pa, m, g, h, os, ls, ws, v0, v1, v2, v4, v5, v6, v7, v9, v10, v11, v12, v13, v14, v15, v16, v17, v21, v22, v23, v24, v25, v29, rfl, M, hm, hO, hos, hl, hls, hw, hwo, hwl, hpa, done⟩ := h
  have hol := hos.len
  refine ⟨_, rfl, _, rfl, pl_, rfl, ⟨_, hl⟩, fun D1 hD1 => lc_tup (K := K) (a := pl_) (xs := pl ls) (fun i H' => Ge T H H' ∧ H' D1 = some (.lst (pl ((Jn.named os ls).take i)))) ⟨Ge.new M.tb hD1, upd_same⟩ (fun i H' _ z => z.1.tupN hl) ?_ ?_⟩
  · rintro i x H' hi ⟨g', hD'⟩
    obtain ⟨hil, rfl⟩ := pl_some hi
    have hc := hls.lt _ (Jn.getD_mem hil)
    refine ⟨rfl, _, rfl, _, rfl, po, _, _, _, rfl, rfl, g'.tupN hO, atI_pl (by omega), _, hD', pl_small (by rw [named_len, hls.len]; omega) i, g'.wr hD' hD1, ?_⟩
    rw [upd_same, ← pl_take_more (by rw [named_len]; exact hil), named_get hil]
  rintro H1 ⟨g1, hD1'⟩
  rw [pl_len, ← named_len os ls, List.take_length] at hD1'
  refine ⟨D1, _, rfl, .inl ⟨SqL.of hD1', fun q1 hq1 => ?_⟩⟩
  have g2 := g1.newR (o := .tup (pl (Jn.named os ls))) hq1
  have hq1t : TupN K (upd H1 q1 (.tup (pl (Jn.named os ls)))) q1 (Jn.named os ls) := SqT.of upd_same
  have M := M.ge p g2
  have hO := g2.tupN hO
  have hl := g2.tupN hl
  have hw := g2.tupN hw
  have hpa := g2.hab hpa
  generalize upd H1 q1 (.tup (pl (Jn.named os ls))) = H2 at M hO hl hw hpa hq1t ⊢
  refine ⟨_, rfl, pw, rfl, ⟨_, hw⟩, fun D3 hD3 => lc_tup (K := K) (a := pw) (xs := pl ws) (fun i H' => Ge T H2 H' ∧ H' D3 = some (.lst (pl ((Jn.named os ws).take i)))) ⟨Ge.new M.tb hD3, upd_same⟩ (fun i H' _ z => z.1.tupN hw) ?_ ?_⟩
  · rintro i x H' hi ⟨g', hD'⟩
    obtain ⟨hil, rfl⟩ := pl_some hi
    have hc := hwo _ (Jn.getD_mem hil)
    refine ⟨rfl, _, rfl, _, rfl, po, _, _, _, rfl, rfl, g'.tupN hO, atI_pl (by omega), _, hD', pl_small (by rw [named_len]; omega) i, g'.wr hD' hD3, ?_⟩
    rw [upd_same, ← pl_take_more (by rw [named_len]; exact hil), named_get hil]
  rintro H3 ⟨g3, hD3'⟩
  rw [pl_len, ← named_len os ws, List.take_length] at hD3'
  refine ⟨D3, _, rfl, .inl ⟨SqL.of hD3', fun q2 hq2 => ?_⟩⟩
  have g4 := g3.newR (o := .tup (pl (Jn.named os ws))) hq2
  have M := M.ge p g4
  refine ⟨pa, q1, q2, m, Jn.called h os, Jn.named os ls, Jn.named os ws, rfl, g4.hab hpa, g4.tupN hq1t, Jn.named_perm hos hls, SqT.of upd_same, Jn.named_ok hos hwo, by rw [named_len]; omega, M.tb, fun mv H5 g5 hmv => ?_⟩
  rw [Jn.after_called M.h2.2 hos (fun x hx => hls.lt x hx) hwo] at hmv
  have g6 := g4.trans g5
  exact ⟨sa, S, r, a1, a2, po, pl_, pw, pa, mv, m, g, h, os, ls, ws, _, _, _, _, _, _, _, _, _, _, _, _, _, _, _, _, _, _, _, _, _, rfl, M.ge p g5, hm, g6.tupN hO, hos, g6.tupN hl, hls, g6.tupN hw, hwo, hwl, g6.hab hpa, hmv, done⟩
theorem law_c16 (L : Lw Pr w K mg base T CH CL CM) (p : Pt T P) (hr : Room 7 (lawX Pr w K mg base f c A outer s H0 E).A) (hN : PSs (lawX Pr w K mg base f c A outer s H0 E) ((defBody sLaw).drop 17) (tD T K P)) : PSs (lawX Pr w K mg base f c A outer s H0 E) ((defBody sLaw).drop 16) (tC4 T K P) := by
  have B := L.B
  refine pss_imp (pss_cons (ps_if (PW.pt (pw_or (pt_cmpR (op_neD hr.units) (pv 21) (pe_callTy call_tuple_of (by rfl) B.tuple (by decide +kernel) (pa_cons
        (pe_lc (own := [("_law_place", 6)]) (g := gName 6) (tt := tYes) (te := tOp (rIxT K) (tVar 18) (tVar 6)) rfl scLaw.nd (pi_tup (pe_fn L.af hr (by decide) (by rfl) pass0 (pa_cons (pv 27) (pa_cons (pv 19) (pa_cons (pv 8) pa_nil))))) (blkOk_by (N := NL) (sc := defScope sLaw) (by decide +kernel)) (fun _ _ _ _ _ => pg_name (i := 6) scLaw.nd rfl (.inl rfl)) (fun _ _ _ _ _ => pts_nil) (fun _ _ _ _ _ => pe_ix ix_tup (pv 18) (pv 6) (fun _ _ => rfl))) pa_nil)) (nomark _))
      (pw_or1 (pt_cmpR op_ne (pe_fn L.od hr (by decide) (by rfl) pass0 (pa_cons (pv 20) pa_nil)) (pe_fn L.od hr (by decide) (by rfl) pass0 (pa_cons (pv 27) pa_nil)) (nomark _))))) (pss_one (ps_ret pe_bl)) pss_nil) hN) (fun D σ H h => ?_)
  obtain ⟨sa, S, r, a1, a2, po, pl_, pw, pa, mv, m, g, h, os, ls, ws, v0, v1, v2, v4, v5, v6, v7, v9, v10, v11, v12, v13, v14, v15, v16, v17, v22, v23, v24, v25, v29, rfl, M, hm, hO, hos, hl, hls, hw, hwo, hwl, hpa, hmv, done⟩ := h
  have hol := hos.len
  refine ⟨_, rfl, _, rfl, _, rfl, _, rfl, a2, pl_, pw, m, h, ls, ws, rfl, M.h2.hab, hl, hls, hw, hwo, by omega, M.tb, fun q H1 g1 hq => ?_⟩
  have M := M.ge p g1
  have hO := g1.tupN hO
  have hl := g1.tupN hl
  have hpa := g1.hab hpa
  have hmv := g1.tupN hmv
  have pq := Jn.after_perm M.h2.2 hls hwo
  generalize Jn.after h ls ws = x at hq pq hmv
  refine ⟨q, rfl, ⟨_, hq⟩, fun D1 hD1 => lc_tup (K := K) (a := q) (xs := pl x) (fun i H' => Ge T H1 H' ∧ H' D1 = some (.lst (pl ((Jn.named os x).take i)))) ⟨Ge.new M.tb hD1, upd_same⟩ (fun i H' _ z => z.1.tupN hq) ?_ ?_⟩
  · rintro i y H' hi ⟨g', hD'⟩
    obtain ⟨hil, rfl⟩ := pl_some hi
    have hc := pq.lt _ (Jn.getD_mem hil)
    refine ⟨rfl, _, rfl, _, rfl, po, _, _, _, rfl, rfl, g'.tupN hO, atI_pl (by omega), _, hD', pl_small (by rw [named_len, pq.len]; omega) i, g'.wr hD' hD1, ?_⟩
    rw [upd_same, ← pl_take_more (by rw [named_len]; exact hil), named_get hil]
  rintro H2 ⟨g2, hD1'⟩
  rw [pl_len, ← named_len os x, List.take_length] at hD1'
  refine ⟨D1, _, rfl, .inl ⟨SqL.of hD1', fun q1 hq1 => ?_⟩⟩
  have g3 := g2.newR (o := .tup (pl (Jn.named os x))) hq1
  have M := M.ge p g3
  have hl := g3.tupN hl
  have hpa := g3.hab hpa
  refine ⟨nd (Jn.named os x), nd (Jn.named os x), (g3.tupN hmv).dp, TupN.dp (SqT.of upd_same), nd_shaped _, nd_shaped _, _, rfl, ifN (by rw [nd_eqv]; rfl) ?_⟩
  refine ⟨_, rfl, pa, m, Jn.called h os, rfl, hpa, M.tb, fun N1 H4 g4 o1 f1 => ?_⟩
  have M := M.ge p g4
  refine ⟨_, rfl, a2, m, h, rfl, M.h2.hab, M.tb, fun N2 H5 g5 o2 f2 => ?_⟩
  have M := M.ge p g5
  have eN : N1 = N2 := o1.uniq (Jn.order_called M.h2.2 hos o2)
  refine ⟨rfl, _, rfl, ifN ?_ ⟨sa, S, r, a1, a2, pl_, m, g, h, ls, _, _, _, _, _, _, _, _, _, _, _, _, _, _, _, _, _, _, _, _, _, _, _, _, _, rfl, M, hm, (g4.trans g5).tupN hl, hls, done⟩⟩
  show (!decide (V.int (N1 : Int) = V.int (N2 : Int))) = false
  rw [decide_eq_true (show V.int (N1 : Int) = V.int (N2 : Int) by rw [eN])]
  rfl
end
end JX
end
section
set_option Elab.async false
set_option linter.all false
set_option maxRecDepth 100000
set_option maxHeartbeats 16000000
namespace JX
open PySem PySem.Spec PyProof.Rows L2
section
variable {Pr : Program} {w : World} {K : PySem.W.Frag} {mg : Str → Option Value} {base : Heap} {T : Two} {CH CL CM P : Addr} {f c : Addr} {A : Around} {outer : List Env} {s : Shared} {H0 : Hp} {E : XK}
theorem law_d17 (L : Lw Pr w K mg base T CH CL CM) (p : Pt T P) (hr : Room 7 (lawX Pr w K mg base f c A outer s H0 E).A) (hN : PSs (lawX Pr w K mg base f c A outer s H0 E) ((defBody sLaw).drop 18) (tD1 T K P)) : PSs (lawX Pr w K mg base f c A outer s H0 E) ((defBody sLaw).drop 17) (tD T K P) := by
  have B := L.B
  refine pss_imp (pss_cons (ps_par (i := 22) (j := 23) rfl scLaw.nd rfl rfl (by decide) rfl rfl (pa_cons (pe_fn L.ba hr (by decide) (by rfl) passL (pa_cons (pv 27) pa_nil)) (pa_cons (pe_fn L.dou hr (by decide) (by rfl) passL (pa_cons (pv 27) pa_nil)) pa_nil)) (by rfl)) hN) (fun D σ H h => ?_)
  obtain ⟨sa, S, r, a1, a2, pl_, m, g, h, ls, v0, v1, v2, v4, v5, v6, v7, v8, v9, v10, v11, v12, v13, v14, v15, v16, v17, v18, v20, v21, v22, v23, v24, v25, v29, rfl, M, hm, hl, hls, done⟩ := h
  refine ⟨_, rfl, _, rfl, M.tb, .inl ⟨a2, m, h, rfl, M.h2, fun pk H1 g1 hpk => ?_⟩⟩
  have M := M.ge p g1
  refine ⟨_, rfl, a2, m, h, rfl, M.h2.hab, M.tb, fun pt H2 g2 hpt => ?_⟩
  exact ⟨_, _, rfl, ⟨sa, S, r, a1, a2, pl_, pk, pt, m, g, h, ls, _, _, _, _, _, _, _, _, _, _, _, _, _, _, _, _, _, _, _, _, _, _, _, rfl, M.ge p g2, hm, (g1.trans g2).tupN hl, hls, g2.habF ⟨hpk, Jn.backed_habit M.h2.2⟩, ⟨hpt, Jn.doubled_habit M.h2.2⟩, done⟩⟩
theorem word1 (k : Nat) : ([V.int (k : Int)] : List V) = pl [k] := rfl
theorem word2 (k : Nat) : ([V.int (k : Int), V.int (k : Int)] : List V) = pl [k, k] := rfl
theorem law_d18 (L : Lw Pr w K mg base T CH CL CM) (p : Pt T P) (hr : Room 7 (lawX Pr w K mg base f c A outer s H0 E).A) (hN : PSs (lawX Pr w K mg base f c A outer s H0 E) ((defBody sLaw).drop 19) (tE T K P)) : PSs (lawX Pr w K mg base f c A outer s H0 E) ((defBody sLaw).drop 18) (tD1 T K P) := by
  have B := L.B
  refine pss_imp (pss_cons (ps_for PassesOwn.never rfl (pi_range1 (by rfl) B.range (pa_cons (pv 3) pa_nil)) (pg_name (i := 6) scLaw.nd rfl (.inl rfl))
      (pss_cons (ps_if (PW.pt (pw_or (pt_cmpR (op_neD hr.units) (pe_fn L.af hr (by decide) (by rfl) pass0 (pa_cons (pv 22) (pa_cons (pe_fn L.af hr (by decide) (by rfl) pass0 (pa_cons (pv 27) (pa_cons (pv 19) (pa_cons (pe_tup (pa_cons (pv 6) pa_nil)) pa_nil)))) (pa_cons (pe_tup (pa_cons (pv 6) pa_nil)) pa_nil)))) (pv 19) (nomark _))
        (pw_or1 (pt_cmpR (op_neD hr.units) (pe_fn L.ba hr (by decide) (by rfl) passL (pa_cons (pv 22) pa_nil)) (pv 27) (nomark _))))) (pss_one (ps_ret pe_bl)) pss_nil)
      (pss_one (ps_if (pt_cmpR (op_neD hr.units) (pe_fn L.af hr (by decide) (by rfl) pass0 (pa_cons (pv 23) (pa_cons (pv 19) (pa_cons (pe_tup (pa_cons (pv 6) pa_nil)) pa_nil)))) (pe_fn L.af hr (by decide) (by rfl) pass0 (pa_cons (pv 27) (pa_cons (pv 19) (pa_cons (pe_tup (pa_cons (pv 6) (pa_cons (pv 6) pa_nil))) pa_nil)))) (nomark _)) (pss_one (ps_ret pe_bl)) pss_nil)))) hN) (fun D σ H h => ?_)
  obtain ⟨sa, S, r, a1, a2, pl_, pk, pt, m, g, h, ls, v0, v1, v2, v4, v5, v6, v7, v8, v9, v10, v11, v12, v13, v14, v15, v16, v17, v18, v20, v21, v24, v25, v29, rfl, M, hm, hl, hls, hpk, hpt, done⟩ := h
  refine ⟨_, rfl, (m : Int), rfl, by omega, by omega, ?_⟩
  rw [Int.toNat_natCast]
  refine for_range (lo := 0) (n := m) (fun i σ H' => ∃ v6 : Option V, σ = [v0, v1, v2, some (.int (m : Int)), v4, v5, v6, v7, v8, v9, v10, v11, v12, v13, v14, v15, v16, v17, v18, some (.ref pl_), v20, v21, some (.ref pk), some (.ref pt), v24, v25, some (.ref a1), some (.ref a2), some (.ref r), v29] ∧ Ge T H H') ⟨_, rfl, Ge.refl M.tb⟩ ?_ ?_
  · rintro k σ H' hk ⟨v6, rfl, g0⟩
    rw [Int.zero_add]
    refine ⟨_, rfl, _, rfl, _, rfl, _, rfl, by show 1 ≤ sizeLine; decide, fun q1 hq1 => ?_⟩
    have w1 : TupN K (upd H' q1 (.tup [V.int (k : Int)])) q1 [k] := SqT.of upd_same
    have g1 := g0.newR (o := .tup [V.int (k : Int)]) hq1
    generalize upd H' q1 (.tup [V.int (k : Int)]) = H1 at w1 g1 ⊢
    have ok1 : Jn.WordOk m [k] := fun x hx => by rw [List.mem_singleton.mp hx]; exact hk
    have M1 := M.ge p g1
    refine ⟨a2, pl_, q1, m, h, ls, [k], rfl, M1.h2.hab, g1.tupN hl, hls, w1, ok1, (by show 1 ≤ 400; decide), g1.t1, fun q2 H2 g2 hq2 => ?_⟩
    rw [Jn.after_one] at hq2
    refine ⟨_, rfl, by show 1 ≤ sizeLine; decide, fun q3 hq3 => ?_⟩
    have w3 : TupN K (upd H2 q3 (.tup [V.int (k : Int)])) q3 [k] := SqT.of upd_same
    have g3 := (g1.trans g2).newR (o := .tup [V.int (k : Int)]) hq3
    have hq2 := (Ge.new (o := .tup [V.int (k : Int)]) g2.t1 hq3).tupN hq2
    generalize upd H2 q3 (.tup [V.int (k : Int)]) = H3 at w3 g3 hq2 ⊢
    refine ⟨pk, q2, q3, m, Jn.backed h, Jn.touch h ls k, [k], rfl, g3.hab hpk.hab, hq2, Jn.touch_perm M.h2.2 hls hk, w3, ok1, (by show 1 ≤ 400; decide), g3.t1, fun q4 H4 g4 hq4 => ?_⟩
    rw [Jn.after_one, Jn.touch_backed M.h2.2 hls hk] at hq4
    have g5 := g3.trans g4
    refine ⟨_, rfl, nd ls, nd ls, hq4.dp, (g5.tupN hl).dp, nd_shaped _, nd_shaped _, _, rfl, ifN (by rw [nd_eqv]; rfl) ?_⟩
    refine ⟨_, rfl, _, rfl, g5.t1, .inl ⟨pk, m, Jn.backed h, rfl, g5.habF hpk, fun q6 H6 g6 hq6 => ?_⟩⟩
    rw [Jn.backed_backed M.h2.2] at hq6
    have g7 := g5.trans g6
    have M7 := M.ge p g7
    refine ⟨_, rfl, nh h, nh h, hq6.tupH.dp, M7.h2.1.tupH.dp, nh_shaped _, nh_shaped _, _, rfl, ifN (by rw [nh_eqv]; rfl) ?_⟩
    -- twice
    refine ⟨_, rfl, _, rfl, _, rfl, by show 1 ≤ sizeLine; decide, fun q7 hq7 => ?_⟩
    have w7 : TupN K (upd H6 q7 (.tup [V.int (k : Int)])) q7 [k] := SqT.of upd_same
    have g8 := g7.newR (o := .tup [V.int (k : Int)]) hq7
    generalize upd H6 q7 (.tup [V.int (k : Int)]) = H7 at w7 g8 ⊢
    refine ⟨pt, pl_, q7, m, Jn.doubled h, ls, [k], rfl, g8.hab hpt, g8.tupN hl, hls, w7, ok1, (by show 1 ≤ 400; decide), g8.t1, fun q8 H8 g9 hq8 => ?_⟩
    rw [Jn.after_one, Jn.touch_doubled M.h2.2 hls hk] at hq8
    have g10 := g8.trans g9
    refine ⟨_, rfl, _, rfl, _, rfl, _, rfl, by show 2 ≤ sizeLine; decide, fun q9 hq9 => ?_⟩
    have w9 : TupN K (upd H8 q9 (.tup [V.int (k : Int), V.int (k : Int)])) q9 [k, k] := SqT.of upd_same
    have g11 := g10.newR (o := .tup [V.int (k : Int), V.int (k : Int)]) hq9
    have hq8 := (Ge.new (o := .tup [V.int (k : Int), V.int (k : Int)]) g10.t1 hq9).tupN hq8
    generalize upd H8 q9 (.tup [V.int (k : Int), V.int (k : Int)]) = H9 at w9 g11 hq8 ⊢
    have ok2 : Jn.WordOk m [k, k] := fun x hx => by
      rcases List.mem_cons.mp hx with z | z
      · rw [z]; exact hk
      · rw [List.mem_singleton.mp z]; exact hk
    have M11 := M.ge p g11
    refine ⟨a2, pl_, q9, m, h, ls, [k, k], rfl, M11.h2.hab, g11.tupN hl, hls, w9, ok2, (by show 2 ≤ 400; decide), g11.t1, fun q10 H10 g12 hq10 => ?_⟩
    have e2 : Jn.after h ls [k, k] = Jn.touch h (Jn.touch h ls k) k := rfl
    rw [e2] at hq10
    refine ⟨nd (Jn.touch h (Jn.touch h ls k) k), nd (Jn.touch h (Jn.touch h ls k) k), (g12.tupN hq8).dp, hq10.dp, nd_shaped _, nd_shaped _, _, rfl, ifN (by rw [nd_eqv]; rfl) ?_⟩
    exact ⟨_, rfl, g11.trans g12⟩
  · rintro σ H' ⟨v6, rfl, g0⟩
    exact ⟨sa, S, r, a1, a2, m, g, h, _, _, _, _, _, _, _, _, _, _, _, _, _, _, _, _, _, _, _, _, _, _, _, _, _, _, _, rfl, M.ge p g0, hm, done⟩
end
end JX
end
section
set_option Elab.async false
set_option linter.all false
set_option maxRecDepth 100000
set_option maxHeartbeats 16000000
namespace JX
open PySem PySem.Spec PyProof.Rows L2
section
variable {Pr : Program} {w : World} {K : PySem.W.Frag} {mg : Str → Option Value} {base : Heap} {T : Two} {CH CL CM P : Addr} {f c : Addr} {A : Around} {outer : List Env} {s : Shared} {H0 : Hp} {E : XK}
theorem lamQ_law : lamQ (lawX Pr w K mg base f c A outer s H0 E) = lq := by
  first
  | rfl
  | decide +kernel
section
variable {H H1 : Hp} {q : Str} {r sa a b : Addr} {S : List Int} {m : Nat} {g h : List (List Nat)} {o : HO} {xs : List V} {ns : List Nat}
theorem kp_at (t : LamX.TabS H P q) (kp : ∀ b o, b ≠ P → H b = some o → H1 b = some o) (e : H b = some o) (n : ∀ ps, o ≠ .tbl ps) : H1 b = some o := kp b o (fun z => by
  obtain ⟨ps, h1, _⟩ := t
  rw [z, h1] at e
  exact n ps (Option.some.inj e).symm) e
theorem kp_sqT (t : LamX.TabS H P q) (kp : ∀ b o, b ≠ P → H b = some o → H1 b = some o) (h : SqT K H a xs) : SqT K H1 a xs := by
  rcases h with (h | ⟨o, h⟩) | h
  · exact .inl (.inl (kp_at t kp h fun _ z => by cases z))
  · exact .inl (.inr ⟨o, kp_at t kp h fun _ z => by cases z⟩)
  · exact .inr h
theorem kp_sqL (t : LamX.TabS H P q) (kp : ∀ b o, b ≠ P → H b = some o → H1 b = some o) (h : SqL K H a xs) : SqL K H1 a xs := by
  rcases h with (h | ⟨o, h⟩) | h
  · exact .inl (.inl (kp_at t kp h fun _ z => by cases z))
  · exact .inl (.inr ⟨o, kp_at t kp h fun _ z => by cases z⟩)
  · exact .inr h
theorem kp_habF (t : LamX.TabS H P q) (kp : ∀ b o, b ≠ P → H b = some o → H1 b = some o) (h : HabF K H a m g) : HabF K H1 a m g := by
  obtain ⟨⟨as, h1, h2, h3⟩, hh⟩ := h
  exact ⟨⟨as, kp_sqT t kp h1, h2, fun i p m e1 e2 => let ⟨o, k1, k2⟩ := h3 i p m e1 e2; ⟨o, kp_at t kp k1 (fun _ z => by cases z), k2⟩⟩, hh⟩
theorem kp_hab (t : LamX.TabS H P q) (kp : ∀ b o, b ≠ P → H b = some o → H1 b = some o) (h : Hab K H a m g) : Hab K H1 a m g := by
  obtain ⟨⟨as, h1, h2, h3⟩, hh⟩ := h
  exact ⟨⟨as, kp_sqT t kp h1, h2, fun i p m e1 e2 => kp_sqT t kp (h3 i p m e1 e2)⟩, hh⟩
theorem kp_tb (p : Pt T P) (kp : ∀ b o, b ≠ P → H b = some o → H1 b = some o) (h : Tb T H) : Tb T H1 := by
  obtain ⟨⟨ps, h1, h2⟩, qs, h3, h4⟩ := h
  exact ⟨⟨ps, kp _ _ (Ne.symm p.np) h1, h2⟩, qs, kp _ _ (Ne.symm p.na) h3, h4⟩
theorem kp_row (t : LamX.TabS H P q) (kp : ∀ b o, b ≠ P → H b = some o → H1 b = some o) (R : RowOk K sa S r H) : RowOk K sa S r H1 := by
  obtain ⟨⟨i, s, g, e, h⟩, h2⟩ := R
  exact ⟨⟨i, s, g, kp_at t kp e (fun _ z => by cases z), h⟩, kp_sqL t kp h2⟩
theorem Mid.kp {a1 a2 : Addr} (M : Mid T K sa S P r a1 a2 m g h H) (p : Pt T P) (kp : ∀ b o, b ≠ P → H b = some o → H1 b = some o) (t1 : LamX.TabS H1 P lq) : Mid T K sa S P r a1 a2 m g h H1 :=
  ⟨kp_row M.tab kp M.R, kp_tb p kp M.tb, kp_habF M.tab kp M.h1, kp_habF M.tab kp M.h2, t1⟩
end
theorem law_e19 (L : Lw Pr w K mg base T CH CL CM) (p : Pt T P) (hr : Room 7 (lawX Pr w K mg base f c A outer s H0 E).A) (hN : PSs (lawX Pr w K mg base f c A outer s H0 E) ((defBody sLaw).drop 20) (tE0 T K P)) : PSs (lawX Pr w K mg base f c A outer s H0 E) ((defBody sLaw).drop 19) (tE T K P) := by
  refine pss_imp (pss_cons (ps_set (i := 25) scLaw.nd rfl (.inr rfl) (pe_fn L.dr hr (by decide) (by rfl) pass0 (pa_cons (pv 28) (pa_cons pe_int pa_nil)))) hN) (fun D σ H h => ?_)
  obtain ⟨sa, S, r, a1, a2, m, g, h, v0, v1, v2, v3, v4, v5, v6, v7, v8, v9, v10, v11, v12, v13, v14, v15, v16, v17, v18, v19, v20, v21, v22, v23, v24, v25, v29, rfl, M, hm, done⟩ := h
  refine ⟨_, rfl, r, sa, S, 4, rfl, by decide, by decide, M.R, M.tb, fun a4 gg H1 g1 R1 h4 => ?_⟩
  exact ⟨sa, S, r, a1, a2, a4, m, g, h, gg, _, _, _, _, _, _, _, _, _, _, _, _, _, _, _, _, _, _, _, _, _, _, _, _, _, _, rfl, M.gr p g1 R1, hm, h4.hab, done⟩
theorem law_e20 (L : Lw Pr w K mg base T CH CL CM) (p : Pt T P) (TB : LamX.TabB base mg c P) (hr : Room 7 (lawX Pr w K mg base f c A outer s H0 E).A) (hN : PSs (lawX Pr w K mg base f c A outer s H0 E) ((defBody sLaw).drop 21) (tE1 T K P [.str "many 5"])) : PSs (lawX Pr w K mg base f c A outer s H0 E) ((defBody sLaw).drop 20) (tE0 T K P) := by
  have B := L.B
  obtain ⟨gs, fds, Fs, bs, ms⟩ := L.sd
  refine pss_imp (pss_cons (ps_set (i := 24) scLaw.nd rfl (.inl rfl) (pe_lst (pa_cons (pe_said (c := c) (P := P) (k := 5) (t := fun E => tCall (spBeside T K CM) [] E (tCons (tVar 25) (tCons (tVar 26) tNil))) Fs bs ms (by rfl) L.E3 B.str hr (lamD_by (N := NL) (sc := defScope sLaw) (by decide +kernel)) (makes0 TB rfl (lamD_by (N := NL) (sc := defScope sLaw) (by decide +kernel)) rfl (fun _ _ _ _ _ _ => rfl))
    (fun _ _ _ _ _ _ _ hr2 => pe_fn L.be hr2 (by decide) (by rfl) (passes_call (takes_of rfl rfl rfl rfl) (fun _ _ _ _ h => h)) (pa_cons (pv 25) (pa_cons (pv 26) pa_nil)))) pa_nil))) hN) (fun D σ H h => ?_)
  obtain ⟨sa, S, r, a1, a2, a4, m, g, h, gg, v0, v1, v2, v3, v4, v5, v6, v7, v8, v9, v10, v11, v12, v13, v14, v15, v16, v17, v18, v19, v20, v21, v22, v23, v24, v29, rfl, M, hm, h4, done⟩ := h
  refine ⟨by rw [lamQ_law]; exact M.tab, fun H1 kp t1 => ?_⟩
  rw [lamQ_law] at t1
  have h4 := kp_hab M.tab kp h4
  have M := M.kp p kp t1
  refine ⟨_, rfl, _, rfl, a4, a1, 4, 2, gg, g, rfl, h4, M.h1.hab, M.tb, fun z => by exfalso; omega, fun _ d H2 g2 hd => .inr (.inr ⟨rfl, d, rfl, hd, by show 1 ≤ sizeLine; decide, fun x hx => ?_⟩)⟩
  have M := M.ge p g2
  have xr : x ≠ r := fun z => by
    obtain ⟨i, s, g, e, _⟩ := M.R.at_
    rw [z, e] at hx
    cases hx
  exact ⟨sa, S, r, a1, a2, a4, x, m, g, h, gg, _, _, _, _, _, _, _, _, _, _, _, _, _, _, _, _, _, _, _, _, _, _, _, _, _, rfl, M.ge p (Ge.new M.tb hx), hm, (Ge.new (o := .lst [.str "many 5"]) M.tb hx).hab (g2.hab h4), upd_same, xr, M.R.apart hx, done⟩
end
end JX
end
section
set_option Elab.async false
set_option linter.all false
set_option maxRecDepth 100000
set_option maxHeartbeats 16000000
namespace JX
open PySem PySem.Spec PyProof.Rows L2
section
variable {Pr : Program} {w : World} {K : PySem.W.Frag} {mg : Str → Option Value} {base : Heap} {T : Two} {CH CL CM P : Addr} {f c : Addr} {A : Around} {outer : List Env} {s : Shared} {H0 : Hp} {E : XK}
section
variable {H H1 : Hp} {q : Str} {r sa a x : Addr} {S : List Int} {m : Nat} {g h : List (List Nat)} {xs ys : List V}
/-- all but lists stay -/
def Kt (H H1 : Hp) : Prop := ∀ b o, (∀ ys, o ≠ .lst ys) → H b = some o → H1 b = some o
theorem kt_wr {o : HO} (hx : H x = some (.lst xs)) : Kt H (upd H x o) := fun b u n e => by
  rw [upd_ne (fun z => by rw [z, hx] at e; exact n _ (Option.some.inj e).symm)]
  exact e
theorem kt_sqT (k : Kt H H1) (h : SqT K H a xs) : SqT K H1 a xs := by
  rcases h with (h | ⟨o, h⟩) | h
  · exact .inl (.inl (k _ _ (fun _ z => by cases z) h))
  · exact .inl (.inr ⟨o, k _ _ (fun _ z => by cases z) h⟩)
  · exact .inr h
theorem kt_hab (k : Kt H H1) (h : Hab K H a m g) : Hab K H1 a m g := by
  obtain ⟨⟨as, h1, h2, h3⟩, hh⟩ := h
  exact ⟨⟨as, kt_sqT k h1, h2, fun i p m e1 e2 => kt_sqT k (h3 i p m e1 e2)⟩, hh⟩
theorem kt_habF (k : Kt H H1) (h : HabF K H a m g) : HabF K H1 a m g := by
  obtain ⟨⟨as, h1, h2, h3⟩, hh⟩ := h
  exact ⟨⟨as, kt_sqT k h1, h2, fun i p m e1 e2 => let ⟨o, k1, k2⟩ := h3 i p m e1 e2; ⟨o, k _ _ (fun _ z => by cases z) k1, k2⟩⟩, hh⟩
theorem kt_tab (k : Kt H H1) (h : LamX.TabS H P q) : LamX.TabS H1 P q := by
  obtain ⟨ps, h1, h2, h3⟩ := h
  refine ⟨ps, k _ _ (fun _ z => by cases z) h1, h2, fun pos cv hc => ?_⟩
  obtain ⟨c, e1, e2⟩ := h3 pos cv hc
  exact ⟨c, e1, k _ _ (fun ys z => by unfold LamX.CodeO at z; cases z) e2⟩
/-- one word more -/
theorem Mid.say {a1 a2 : Addr} {o : HO} (M : Mid T K sa S P r a1 a2 m g h H) (hx : H x = some (.lst xs)) (xr : x ≠ r) (xs' : x ≠ sa ∨ SqL K (fun _ => none) sa (S.map V.int)) : Mid T K sa S P r a1 a2 m g h (upd H x o) :=
  ⟨M.R.wr hx xr xs', M.tb.wrR hx (fun _ z => by cases z), kt_habF (kt_wr hx) M.h1, kt_habF (kt_wr hx) M.h2, kt_tab (kt_wr hx) M.tab⟩
end
theorem law_e21 (L : Lw Pr w K mg base T CH CL CM) (p : Pt T P) (TB : LamX.TabB base mg c P) (hr : Room 7 (lawX Pr w K mg base f c A outer s H0 E).A) (hN : PSs (lawX Pr w K mg base f c A outer s H0 E) ((defBody sLaw).drop 22) (tE1 T K P [.str "many 5", .str "many 5"])) : PSs (lawX Pr w K mg base f c A outer s H0 E) ((defBody sLaw).drop 21) (tE1 T K P [.str "many 5"]) := by
  have B := L.B
  obtain ⟨gs, fds, Fs, bs, ms⟩ := L.sd
  refine pss_imp (pss_cons (ps_expr (pe_bm PySem.F.plainAttrs_list PySem.F.slot_list_append PySem.F.type_list_append mt_append (pv 24) (pa_cons (pe_said (c := c) (P := P) (k := 5) (t := fun E => tCall (spWithin T K CM) [] E (tCons (tVar 27) (tCons (tVar 25) tNil))) Fs bs ms (by rfl) L.E3 B.str hr (lamD_by (N := NL) (sc := defScope sLaw) (by decide +kernel))
    (makes1 (a := "_law_a") TB rfl (lamD_by (N := NL) (sc := defScope sLaw) (by decide +kernel)) rfl rfl rfl (fun _ _ _ _ _ _ _ => ⟨_, rfl, fun _ => rfl⟩))
    (fun _ _ _ _ _ _ _ hr2 => pe_fn L.wi hr2 (by decide) (by rfl) (passes_call (takes_of rfl rfl rfl rfl) (fun _ _ _ _ h => h)) (pa_cons (pv 27) (pa_cons (pv 25) pa_nil)))) pa_nil))) hN) (fun D σ H h => ?_)
  obtain ⟨sa, S, r, a1, a2, a4, x, m, g, h, gg, v0, v1, v2, v3, v4, v5, v6, v7, v8, v9, v10, v11, v12, v13, v14, v15, v16, v17, v18, v19, v20, v21, v22, v23, v29, rfl, M, hm, h4, hx, xr, xs, done⟩ := h
  refine ⟨_, rfl, .inl ⟨rfl, _, SqL.of hx⟩, by rw [lamQ_law]; exact M.tab, fun H1 kp t1 => ?_⟩
  rw [lamQ_law] at t1
  have h4 := kp_hab M.tab kp h4
  have hx := kp_at M.tab kp hx (fun _ z => by cases z)
  have M := M.kp p kp t1
  refine ⟨_, rfl, _, rfl, a2, a4, m, 4, h, gg, rfl, M.h2.hab, h4, M.tb, fun z => by exfalso; omega, fun _ d H2 g2 hd => .inr (.inr ⟨rfl, d, rfl, hd, ?_⟩)⟩
  have M := M.ge p g2
  have hx := g2.lst hx
  exact ⟨x, _, _, rfl, rfl, hx, by show 1 < sizeLine; decide, ⟨sa, S, r, a1, a2, a4, x, m, g, h, gg, _, _, _, _, _, _, _, _, _, _, _, _, _, _, _, _, _, _, _, _, _, _, _, _, _, rfl, M.say hx xr xs, hm, kt_hab (kt_wr hx) (g2.hab h4), upd_same, xr, xs, done⟩⟩
theorem law_e22 (L : Lw Pr w K mg base T CH CL CM) (p : Pt T P) (TB : LamX.TabB base mg c P) (hr : Room 7 (lawX Pr w K mg base f c A outer s H0 E).A) (hN : PSs (lawX Pr w K mg base f c A outer s H0 E) ((defBody sLaw).drop 23) (tE1 T K P [.str "many 5", .str "many 5", .str "layout"])) : PSs (lawX Pr w K mg base f c A outer s H0 E) ((defBody sLaw).drop 22) (tE1 T K P [.str "many 5", .str "many 5"]) := by
  have B := L.B
  obtain ⟨gs, fds, Fs, bs, ms⟩ := L.sd
  refine pss_imp (pss_cons (ps_expr (pe_bm PySem.F.plainAttrs_list PySem.F.slot_list_append PySem.F.type_list_append mt_append (pv 24) (pa_cons (pe_said (c := c) (P := P) (k := 5) (t := fun E => tCall (spCalled T K CL) [] E (tCons (tVar 26) (tCons (tTup (tCons (L2.tC (.int 0)) tNil)) tNil))) Fs bs ms (by rfl) L.E3 B.str hr (lamD_by (N := NL) (sc := defScope sLaw) (by decide +kernel))
    (makes1 (a := "_law_b") TB rfl (lamD_by (N := NL) (sc := defScope sLaw) (by decide +kernel)) rfl rfl rfl (fun _ _ _ _ _ _ _ => ⟨_, rfl, fun _ => rfl⟩))
    (fun _ _ _ _ _ _ _ hr2 => pe_fn L.ca hr2 (by decide) (by rfl) (passes_call (takes_of rfl rfl rfl rfl) (fun _ _ _ _ h => h)) (pa_cons (pv 26) (pa_cons (pe_tup (pa_cons pe_int pa_nil)) pa_nil)))) pa_nil))) hN) (fun D σ H h => ?_)
  obtain ⟨sa, S, r, a1, a2, a4, x, m, g, h, gg, v0, v1, v2, v3, v4, v5, v6, v7, v8, v9, v10, v11, v12, v13, v14, v15, v16, v17, v18, v19, v20, v21, v22, v23, v29, rfl, M, hm, h4, hx, xr, xs, done⟩ := h
  refine ⟨_, rfl, .inl ⟨rfl, _, SqL.of hx⟩, by rw [lamQ_law]; exact M.tab, fun H1 kp t1 => ?_⟩
  rw [lamQ_law] at t1
  have h4 := kp_hab M.tab kp h4
  have hx := kp_at M.tab kp hx (fun _ z => by cases z)
  have M := M.kp p kp t1
  refine ⟨_, rfl, by show 1 ≤ sizeLine; decide, fun q hq => ?_⟩
  have g1 := Ge.new (o := .tup [V.int 0]) M.tb hq
  have hq1 : SqT K (upd H1 q (.tup [V.int 0])) q (([0] : List Int).map V.int) := SqT.of upd_same
  have M := M.ge p g1
  have h4 := g1.hab h4
  have hx := g1.lst hx
  refine ⟨a1, q, 2, g, rfl, M.h1.hab, M.tb, .inr ⟨[0], hq1, by decide, by decide, fun H2 g2 => .inr (.inl ⟨rfl, ?_⟩)⟩⟩
  have M := M.ge p g2
  have hx := g2.lst hx
  exact ⟨x, _, _, rfl, rfl, hx, by show 2 < sizeLine; decide, ⟨sa, S, r, a1, a2, a4, x, m, g, h, gg, _, _, _, _, _, _, _, _, _, _, _, _, _, _, _, _, _, _, _, _, _, _, _, _, _, rfl, M.say hx xr xs, hm, kt_hab (kt_wr hx) (g2.hab h4), upd_same, xr, xs, done⟩⟩
theorem law_e23 (L : Lw Pr w K mg base T CH CL CM) (p : Pt T P) (TB : LamX.TabB base mg c P) (hr : Room 7 (lawX Pr w K mg base f c A outer s H0 E).A) (hN : PSs (lawX Pr w K mg base f c A outer s H0 E) ((defBody sLaw).drop 24) (tE1 T K P [.str "many 5", .str "many 5", .str "layout", .str "habit"])) : PSs (lawX Pr w K mg base f c A outer s H0 E) ((defBody sLaw).drop 23) (tE1 T K P [.str "many 5", .str "many 5", .str "layout"]) := by
  have B := L.B
  obtain ⟨gs, fds, Fs, bs, ms⟩ := L.sd
  refine pss_imp (pss_cons (ps_expr (pe_bm PySem.F.plainAttrs_list PySem.F.slot_list_append PySem.F.type_list_append mt_append (pv 24) (pa_cons (pe_said (c := c) (P := P) (k := 5)
    (t := fun E => tCall (spBacked T K CH) [] E (tCons (tCall (spPick T K) [] E0 (tCons (tVar 28) (tCons (tLst (tCons (L2.tC .non) (tCons (tTup (tCons (tTup (tCons (L2.tC (.int 0)) tNil)) tNil)) (tCons (tTup (tCons (tTup (tCons (L2.tC (.int 0)) (tCons (L2.tC (.int 1)) tNil))) (tCons (tTup (tCons (L2.tC (.int 0)) (tCons (L2.tC (.int 0)) tNil))) tNil))) (tCons (tLst (tCons (tVar 26) tNil)) tNil))))) tNil))) tNil)) Fs bs ms (by rfl) L.E3 B.str hr (lamD_by (N := NL) (sc := defScope sLaw) (by decide +kernel))
    (makes1 (a := "_law_c") TB rfl (lamD_by (N := NL) (sc := defScope sLaw) (by decide +kernel)) rfl rfl rfl (fun _ _ _ _ _ _ _ => ⟨_, rfl, fun _ => rfl⟩))
    (fun _ _ _ _ _ _ _ hr2 => pe_fn L.ba hr2 (by decide) (by rfl) (passes_call (takes_of rfl rfl rfl rfl) (fun _ _ _ _ h => h)) (pa_cons (pe_fn L.pick hr2 (by decide) (by rfl) pass0 (pa_cons (pv 28) (pa_cons (pe_lst (pa_cons pe_non (pa_cons (pe_tup (pa_cons (pe_tup (pa_cons pe_int pa_nil)) pa_nil))
      (pa_cons (pe_tup (pa_cons (pe_tup (pa_cons pe_int (pa_cons pe_int pa_nil))) (pa_cons (pe_tup (pa_cons pe_int (pa_cons pe_int pa_nil))) pa_nil))) (pa_cons (pe_lst (pa_cons (pv 26) pa_nil)) pa_nil))))) pa_nil))) pa_nil))) pa_nil))) hN) (fun D σ H h => ?_)
  obtain ⟨sa, S, r, a1, a2, a4, x, m, g, h, gg, v0, v1, v2, v3, v4, v5, v6, v7, v8, v9, v10, v11, v12, v13, v14, v15, v16, v17, v18, v19, v20, v21, v22, v23, v29, rfl, M, hm, h4, hx, xr, xs, done⟩ := h
  refine ⟨_, rfl, .inl ⟨rfl, _, SqL.of hx⟩, by rw [lamQ_law]; exact M.tab, fun H1 kp t1 => ?_⟩
  rw [lamQ_law] at t1
  have h4 := kp_hab M.tab kp h4
  have hx := kp_at M.tab kp hx (fun _ z => by cases z)
  have M := M.kp p kp t1
  refine ⟨_, rfl, by show 1 ≤ sizeLine; decide, fun q1 hq1 => ⟨by show 1 ≤ sizeLine; decide, fun q2 hq2 => ⟨by show 2 ≤ sizeLine; decide, fun q3 hq3 => ⟨by show 2 ≤ sizeLine; decide, fun q4 hq4 => ⟨by show 2 ≤ sizeLine; decide, fun q5 hq5 => ⟨_, rfl, by show 1 ≤ sizeLine; decide, fun q6 hq6 => ⟨by show 4 ≤ sizeLine; decide, fun l hl => ?_⟩⟩⟩⟩⟩⟩⟩
  have k1 := Ge.new (o := .tup [V.int 0]) M.tb hq1
  have k2 := Ge.new (o := .tup [V.ref q1]) k1.t1 hq2
  have k3 := Ge.new (o := .tup [V.int 0, V.int 1]) k2.t1 hq3
  have k4 := Ge.new (o := .tup [V.int 0, V.int 0]) k3.t1 hq4
  have k5 := Ge.new (o := .tup [V.ref q3, V.ref q4]) k4.t1 hq5
  have k6 := Ge.new (o := .lst [V.ref a1]) k5.t1 hq6
  have k7 := Ge.new (o := .lst [V.non, V.ref q2, V.ref q5, V.ref q6]) k6.t1 hl
  have k67 := k6.trans k7
  have k57 := k5.trans k67
  have k47 := k4.trans k57
  have k37 := k3.trans k47
  have k17 := (k1.trans k2).trans k37
  have e2 := k37.tup (upd_same (H := upd H1 q1 (.tup [V.int 0])) (a := q2) (o := .tup [V.ref q1]))
  have e3 := k47.tup (upd_same (H := upd (upd H1 q1 (.tup [V.int 0])) q2 (.tup [V.ref q1])) (a := q3) (o := .tup [V.int 0, V.int 1]))
  have e4 := k57.tup (upd_same (H := upd (upd (upd H1 q1 (.tup [V.int 0])) q2 (.tup [V.ref q1])) q3 (.tup [V.int 0, V.int 1])) (a := q4) (o := .tup [V.int 0, V.int 0]))
  have e5 := k67.tup (upd_same (H := upd (upd (upd (upd H1 q1 (.tup [V.int 0])) q2 (.tup [V.ref q1])) q3 (.tup [V.int 0, V.int 1])) q4 (.tup [V.int 0, V.int 0])) (a := q5) (o := .tup [V.ref q3, V.ref q4]))
  have e6 := k7.lst (upd_same (H := upd (upd (upd (upd (upd H1 q1 (.tup [V.int 0])) q2 (.tup [V.ref q1])) q3 (.tup [V.int 0, V.int 1])) q4 (.tup [V.int 0, V.int 0])) q5 (.tup [V.ref q3, V.ref q4])) (a := q6) (o := .lst [V.ref a1]))
  have e7 : upd (upd (upd (upd (upd (upd (upd H1 q1 (.tup [V.int 0])) q2 (.tup [V.ref q1])) q3 (.tup [V.int 0, V.int 1])) q4 (.tup [V.int 0, V.int 0])) q5 (.tup [V.ref q3, V.ref q4])) q6 (.lst [V.ref a1])) l (.lst [V.non, V.ref q2, V.ref q5, V.ref q6]) l = some (.lst [V.non, V.ref q2, V.ref q5, V.ref q6]) := upd_same
  have M5 := M.ge p ((k1.trans k2).trans (k3.trans (k4.trans k5)))
  have q6r : q6 ≠ r := fun z => by
    obtain ⟨i, s, g, e, _⟩ := M5.R.at_
    rw [z, e] at hq6
    cases hq6
  have M6 := M5.ge p k6
  have lr : l ≠ r := fun z => by
    obtain ⟨i, s, g, e, _⟩ := M6.R.at_
    rw [z, e] at hl
    cases hl
  have M := M.ge p k17
  have h4 := k17.hab h4
  have hx := k17.lst hx
  generalize upd (upd (upd (upd (upd (upd (upd H1 q1 (.tup [V.int 0])) q2 (.tup [V.ref q1])) q3 (.tup [V.int 0, V.int 1])) q4 (.tup [V.int 0, V.int 0])) q5 (.tup [V.ref q3, V.ref q4])) q6 (.lst [V.ref a1])) l (.lst [V.non, V.ref q2, V.ref q5, V.ref q6]) = H7 at M h4 hx e2 e3 e4 e5 e6 e7 ⊢
  clear k1 k2 k3 k4 k5 k6 k7 k67 k57 k47 k37 k17 M5 M6
  refine ⟨r, sa, l, S, _, rfl, M.R, M.tb, lr, e7, by show 0 < 4; decide, by show 4 ≤ 1000; decide, fun j v H8 hj g8 R8 => ?_⟩
  have e2 := g8.tup M.R e2
  have e3 := g8.tup M.R e3
  have e4 := g8.tup M.R e4
  have e5 := g8.tup M.R e5
  have e6 := g8.lst e6 q6r
  have hx := g8.lst hx xr
  have h4 := g8.hab M.R h4
  have M := M.gr p g8 R8
  refine ⟨v, rfl, M.tb, .inr ⟨?_, fun d H9 g9 => .inl ⟨rfl, ?_⟩⟩⟩
  · match j, hj with
    | 0, hj =>
      have ev : V.non = v := Option.some.inj hj
      exact .inr (.inl ev.symm)
    | 1, hj =>
      have ev : V.ref q2 = v := Option.some.inj hj
      exact .inr (.inr (.inr ⟨q2, [V.ref q1], ev.symm, SqT.of e2, by show 1 < 2; decide⟩))
    | 2, hj =>
      have ev : V.ref q5 = v := Option.some.inj hj
      refine .inl ⟨q5, [[0, 1], [0, 0]], ev.symm, ⟨[q3, q4], SqT.of e5, rfl, fun i pp mm i1 i2 => ?_⟩, by decide, by decide, by decide, by decide⟩
      match i, i1, i2 with
      | 0, i1, i2 =>
        have j1 : q3 = pp := Option.some.inj i1
        have j2 : ([0, 1] : List Int) = mm := Option.some.inj i2
        rw [← j1, ← j2]
        exact SqT.of e3
      | 1, i1, i2 =>
        have j1 : q4 = pp := Option.some.inj i1
        have j2 : ([0, 0] : List Int) = mm := Option.some.inj i2
        rw [← j1, ← j2]
        exact SqT.of e4
      | i + 2, i1, i2 => simp at i1
    | 3, hj =>
      have ev : V.ref q6 = v := Option.some.inj hj
      exact .inr (.inr (.inl ⟨q6, _, ev.symm, e6⟩))
    | j + 4, hj => simp at hj
  · have M := M.ge p g9
    have hx := g9.lst hx
    exact ⟨x, _, _, rfl, rfl, hx, by show 3 < sizeLine; decide, ⟨sa, S, r, a1, a2, a4, x, m, g, h, gg, _, _, _, _, _, _, _, _, _, _, _, _, _, _, _, _, _, _, _, _, _, _, _, _, _, rfl, M.say hx xr xs, hm, kt_hab (kt_wr hx) (g9.hab h4), upd_same, xr, xs, done⟩⟩
theorem law_e24 (L : Lw Pr w K mg base T CH CL CM) (p : Pt T P) (hr : Room 7 (lawX Pr w K mg base f c A outer s H0 E).A) : PSs (lawX Pr w K mg base f c A outer s H0 E) ((defBody sLaw).drop 24) (tE1 T K P [.str "many 5", .str "many 5", .str "layout", .str "habit"]) := by
  refine pss_imp (pss_one (ps_ret (pe_cmpR (op_eqD hr.units) (pv 24) (pe_lst (pa_cons pe_str (pa_cons pe_str (pa_cons pe_str (pa_cons pe_str pa_nil))))) (nomark _)))) (fun D σ H h => ?_)
  obtain ⟨sa, S, r, a1, a2, a4, x, m, g, h, gg, v0, v1, v2, v3, v4, v5, v6, v7, v8, v9, v10, v11, v12, v13, v14, v15, v16, v17, v18, v19, v20, v21, v22, v23, v29, rfl, M, hm, h4, hx, xr, xs, done⟩ := h
  refine ⟨_, rfl, by show 4 ≤ sizeLine; decide, fun q hq => ?_⟩
  have g1 := Ge.new (o := .lst [V.str "many 5", V.str "many 5", V.str "layout", V.str "habit"]) M.tb hq
  have da : ∀ {H' : Hp} {a : Addr}, H' a = some (.lst [V.str "many 5", V.str "many 5", V.str "layout", V.str "habit"]) → Dp K H' (.ref a) (.list [.str "many 5", .str "many 5", .str "layout", .str "habit"]) := fun h => .lst (SqL.of h) (.cons (.str _) (.cons (.str _) (.cons (.str _) (.cons (.str _) .nil))))
  have sh : SeqAt.shaped (.list [.str "many 5", .str "many 5", .str "layout", .str "habit"]) = true := by decide +kernel
  refine ⟨_, _, da (g1.lst hx), da upd_same, sh, sh, ?_⟩
  have e : PyData.eqv (.list [.str "many 5", .str "many 5", .str "layout", .str "habit"]) (.list [.str "many 5", .str "many 5", .str "layout", .str "habit"]) = true := by decide +kernel
  have q2 := done (upd H q (.lst [V.str "many 5", V.str "many 5", V.str "layout", V.str "habit"]))
  rw [← e] at q2
  exact q2
end
end JX
end
section
set_option Elab.async false
set_option linter.all false
set_option maxRecDepth 100000
set_option maxHeartbeats 16000000
namespace JX
open PySem PySem.Spec PyProof.Rows L2
/-! ### the end -/
/-- the defs whose tables count -/
abbrev told : List Str := ["is_permutation", "after", "law"]
def TabsTold (K : PySem.W.Frag) (h : Heap) : Prop := ∀ (x : Str) (c P : Addr), x ∈ told → PySem.W.tabIn K x = some (c, P) → PySem.W.CodeHd h c P ∧ h.get? P = some { cls := .none, data := .fields #[] }
theorem told_of {q : Program} {K : PySem.W.Frag} {h : Heap} (tabs : ∀ (x : Str) (d : DefRec) (c P : Addr), (recsOf q).find? (fun e => e.name == x) = some d → PySem.W.tabIn K x = some (c, P) → PySem.W.CodeHd h c P ∧ h.get? P = some { cls := .none, data := .fields #[] })
    (has : (told.all fun x => ((recsOf q).find? fun e => e.name == x).isSome) = true) : TabsTold K h := fun x c P hx ht => by
  have e := List.all_eq_true.mp has x hx
  cases ed : (recsOf q).find? (fun e => e.name == x) with
  | none => rw [ed] at e; cases e
  | some d => exact tabs x d c P ed ht
theorem walk_all {l : PySem.W.OpenLaw} {n k : Nat} {q : Program} {loose : List Str} {XP : (Str → Option Value) → Heap → Prop} {YP : World → Heap → Prop} {d : DefRec} {K : Params → PySem.W.Frag} {CX : World → CXT} {x : Str}
    (hn : l.most = some n) (hn2 : n ≤ sizeLine) (hdf : d.params.defaults = []) (hr : Room k callerA) (hY : ∀ (w : World) (h : Heap), YP w h → (K w.params).In h)
    (F : ∀ (w : World) (mg : Str → Option Value) (fa : Addr) (h : Heap), YP w h → (K w.params).In h → h.Ns mainGlobals mg → mg d.name = some (.ref fa) →
      (∀ (x : Str) (e : DefRec) (c P : Addr), (recsOf q).find? (fun e => e.name == x) = some e → PySem.W.tabIn (K w.params) x = some (c, P) → PySem.W.CodeHd h c P ∧ h.get? P = some { cls := .none, data := .fields #[] }) →
      LamX.LawAtS l w (K w.params) (CX w) k n x mg fa h)
    (hCX : ∀ (w : World) (H : Hp) (s : Shared) (e : Value) (s' : Shared), CX w [] H s (fun _ _ _ => False) e s' → False) :
    PySem.W.WalkO q loose XP YP l.row.toRowW d [] (fun f vs => PySem.call f vs) := by
  refine Att.attach_callB hn hdf fun w s₀ s₁ mg mb fa o pm cd doc a vs ns G Y ho hd hcd hmg hobj hints hlen hbits hg => ?_
  have kin := hY w _ Y
  obtain ⟨fd, cs, sp, hT, nT, C, hb, hsp, hF⟩ := F w mg fa _ Y kin G.T.g hmg fun x e c P hx ht => PySem.W.tab_of G.T kin hx ht
  exact LamX.law_callTs kin G.T.g G.T.b G.T.builtins G.T.nolimit hg hT nT C G.T.bmain hobj hints (Nat.le_trans hlen hn2) hr hF hb (fun H hH hS => hsp H a ns hlen hbits hH hS) fun H e s' => hCX w H s₁ e s'
def spLaw (T : Two) (K : PySem.W.Frag) (P : Addr) : Sp := fun vs H Q _ => ∃ (sa : Addr) (S : List Int), vs = [.ref sa] ∧ SqL K H sa (S.map V.int) ∧ Tb T H ∧ LamX.TabS H P lq ∧ ∀ H', Q (.bl true) H'
theorem ok_law {Pr : Program} {w : World} {K : PySem.W.Frag} {mg : Str → Option Value} {base : Heap} {T : Two} {CH CL CM P f c : Addr} {fd : FuncData} (F : FunT K "law" "law" sLaw f fd c) (L : Lw Pr w K mg base T CH CL CM) (p : Pt T P) (TB : LamX.TabB base mg c P) :
    FnOk Pr w K mg base CX0 8 f fd ["_law_script"] (spLaw T K P) := by
  refine F.ok scLaw (fun vs H Q E h => ?_) (fun A outer s H vs Q E hr h => ?_)
  · obtain ⟨sa, S, rfl, _⟩ := h
    rfl
  · obtain ⟨sa, S, rfl, hS, tb, tab, q⟩ := h
    have hr : Room 7 (lawX Pr w K mg base f c A outer s H E).A := hr
    exact ⟨_, law_a0 L p hr (law_a1 L p hr (law_a2 L p hr (law_a3 L p hr (law_a4 L p hr (law_a5 L p hr (law_a6 L p hr (law_a7 L p hr (law_a8 L p hr (law_b9 L p hr (law_b10 L p hr (law_b11 L p hr (law_c12 L p hr (law_c13 L p hr (law_c14 L p hr (law_c15 L p hr (law_c16 L p hr
      (law_d17 L p hr (law_d18 L p hr (law_e19 L p hr (law_e20 L p TB hr (law_e21 L p TB hr (law_e22 L p TB hr (law_e23 L p TB hr (law_e24 L p hr)))))))))))))))))))))))), sa, S, rfl, hS, tb, tab, q⟩
theorem law_end {l : PySem.W.OpenLaw} {w : World} {K : PySem.W.Frag} {mg : Str → Option Value} {h : Heap} {fa P c0 c1 c2 : Addr} {cs : List (Addr × Addr)} {T : Two} {fd : FuncData}
    (hT : ∀ p ∈ cs, h.get? p.2 = some { cls := .none, data := .fields #[] }) (nT : ∀ p ∈ cs, K.lookup p.2 = none) (C : ∀ p ∈ cs, PySem.W.CodeHd h p.1 p.2) (hb : ∀ (s : Shared) (u : Value), BindsTo s fd ⟨[u], []⟩ [("_law_script", u)])
    (m0 : (c0, T.p) ∈ cs) (m1 : (c1, T.a) ∈ cs) (m2 : (c2, P) ∈ cs)
    (hF : ∀ base : Heap, K.In base → base.Ns mainGlobals mg → (∀ p ∈ cs, LamX.TabB base mg p.1 p.2) → FnOk l.prog w K mg base CX0 8 fa fd ["_law_script"] (spLaw T K P)) : LamX.LawAtS l w K CX0 8 63 "_law_script" mg fa h := by
  refine ⟨fd, cs, spLaw T K P, hT, nT, C, hb, fun H a ns _ _ hH hS => ⟨a, ns, rfl, hS, ⟨⟨#[], hH _ m0, True.intro⟩, ⟨#[], hH _ m1, True.intro⟩⟩, LamX.TabS.nil (hH _ m2), fun _ => rfl⟩, hF⟩
end JX
end
section
set_option Elab.async false
set_option linter.all false
set_option maxRecDepth 100000
set_option maxHeartbeats 16000000
namespace JX
open PySem PySem.Spec PyProof.Rows L2
/-! ### what stands behind the program's top -/
theorem all_mk {l : PySem.W.OpenLaw} {w : World} {K : PySem.W.Frag} {h : Heap} {mg : Str → Option Value} {fa CH CL CM fIH fIM f1 f2 f3 f4 f5 f6 f7 f8 f9 f10 f11 f12 f13 f14 f15 f16 f17 f18 f19 f20 f21 c2 P2 c8 P8 c21 P21 : Addr} (X : K.In h) (G : h.Ns mainGlobals mg) (hfa : mg "law" = some (.ref fa))
    (tabs : TabsTold K h)
    {od1 an1 od2 an2 od3 an3 od4 an4 od5 an5 od6 an6 od7 an7 od8 an8 od9 an9 od10 an10 od11 an11 od12 an12 od13 an13 od14 an14 od15 an15 od16 an16 od17 an17 od18 an18 od19 an19 od20 an20 od21 an21 odH anH odM anM : Option Addr} {sl1 sl2 sl3 sl4 sl5 sl6 sl7 sl8 sl9 sl10 sl11 sl12 sl13 sl14 sl15 sl16 sl17 sl18 sl19 sl20 sl21 slH slM : Array (Option Value)} {oc1 kV1 dc1 pm1 ct1 cd1 oc2 kV2 dc2 pm2 ct2 oc3 kV3 dc3 pm3 ct3 cd3 oc4 kV4 dc4 pm4 ct4 cd4 oc5 kV5 dc5 pm5 ct5 cd5 oc6 kV6 dc6 pm6 ct6 cd6 oc7 kV7 dc7 pm7 ct7 cd7 oc8 kV8 dc8 pm8 ct8 oc9 kV9 dc9 pm9 ct9 cd9 oc10 kV10 dc10 pm10 ct10 cd10 oc11 kV11 dc11 pm11 ct11 cd11 oc12 kV12 dc12 pm12 ct12 cd12 oc13 kV13 dc13 pm13 ct13 cd13 oc14 kV14 dc14 pm14 ct14 cd14 oc15 kV15 dc15 pm15 ct15 cd15 oc16 kV16 dc16 pm16 ct16 cd16 oc17 kV17 dc17 pm17 ct17 cd17 oc18 kV18 dc18 pm18 ct18 cd18 oc19 kV19 dc19 pm19 ct19 cd19 oc20 kV20 dc20 pm20 ct20 cd20 oc21 kV21 dc21 pm21 ct21 ocH kVH dcH pmH cdH ctH ocM kVM dcM pmM cdM ctM : Value}
    {nmH qH : Str} {NH SH : Addr} {bsH : List Value} {snH : List Str} {subH : List Value} {abH : Bool} {colH : Option Bool} {ddH : Option Addr} {m0H m1H m2H m3H m5H : Option Value}
    {nmM qM : Str} {NM SM : Addr} {bsM : List Value} {snM : List Str} {subM : List Value} {abM : Bool} {colM : Option Bool} {ddM : Option Addr} {m0M m1M m2M m3M m5M : Option Value}
    {tv1 tv2 tv3 : Tok}
    (a1 : PySem.W.nsIn K mainGlobals "is_number" = some (some (.ref f1)))
    (l1 : K.lookup f1 = some ⟨oc1, od1, .func (PySem.W.fnOf "is_number" "is_number" (defArgs sNum) (defBody sNum) (defScope sNum) .none kV1 dc1 pm1 an1 cd1 ct1), sl1⟩)
    (e1 : PySem.W.codeIn K cd1 "is_number" = true)
    (k1 : PySem.W.keepIn K (.ref f1) = true)
    (a2 : PySem.W.nsIn K mainGlobals "is_permutation" = some (some (.ref f2)))
    (l2 : K.lookup f2 = some ⟨oc2, od2, .func (PySem.W.fnOf "is_permutation" "is_permutation" (defArgs sPerm) (defBody sPerm) (defScope sPerm) .none kV2 dc2 pm2 an2 (.ref c2) ct2), sl2⟩)
    (e2 : PySem.W.codeIn K (.ref c2) "is_permutation" = true)
    (k2 : PySem.W.keepIn K (.ref f2) = true)
    (t2 : PySem.W.tabIn K "is_permutation" = some (c2, P2))
    (n2 : K.lookup P2 = none)
    (a3 : PySem.W.nsIn K mainGlobals "need_habit" = some (some (.ref f3)))
    (l3 : K.lookup f3 = some ⟨oc3, od3, .func (PySem.W.fnOf "need_habit" "need_habit" (defArgs sHabit) (defBody sHabit) (defScope sHabit) .none kV3 dc3 pm3 an3 cd3 ct3), sl3⟩)
    (e3 : PySem.W.codeIn K cd3 "need_habit" = true)
    (k3 : PySem.W.keepIn K (.ref f3) = true)
    (a4 : PySem.W.nsIn K mainGlobals "need_layout" = some (some (.ref f4)))
    (l4 : K.lookup f4 = some ⟨oc4, od4, .func (PySem.W.fnOf "need_layout" "need_layout" (defArgs sLayout) (defBody sLayout) (defScope sLayout) .none kV4 dc4 pm4 an4 cd4 ct4), sl4⟩)
    (e4 : PySem.W.codeIn K cd4 "need_layout" = true)
    (k4 : PySem.W.keepIn K (.ref f4) = true)
    (a5 : PySem.W.nsIn K mainGlobals "need_shelf" = some (some (.ref f5)))
    (l5 : K.lookup f5 = some ⟨oc5, od5, .func (PySem.W.fnOf "need_shelf" "need_shelf" (defArgs sShelf) (defBody sShelf) (defScope sShelf) .none kV5 dc5 pm5 an5 cd5 ct5), sl5⟩)
    (e5 : PySem.W.codeIn K cd5 "need_shelf" = true)
    (k5 : PySem.W.keepIn K (.ref f5) = true)
    (a6 : PySem.W.nsIn K mainGlobals "behind_touch" = some (some (.ref f6)))
    (l6 : K.lookup f6 = some ⟨oc6, od6, .func (PySem.W.fnOf "behind_touch" "behind_touch" (defArgs sTouch) (defBody sTouch) (defScope sTouch) .none kV6 dc6 pm6 an6 cd6 ct6), sl6⟩)
    (e6 : PySem.W.codeIn K cd6 "behind_touch" = true)
    (k6 : PySem.W.keepIn K (.ref f6) = true)
    (a7 : PySem.W.nsIn K mainGlobals "behind_word" = some (some (.ref f7)))
    (l7 : K.lookup f7 = some ⟨oc7, od7, .func (PySem.W.fnOf "behind_word" "behind_word" (defArgs sWord) (defBody sWord) (defScope sWord) .none kV7 dc7 pm7 an7 cd7 ct7), sl7⟩)
    (e7 : PySem.W.codeIn K cd7 "behind_word" = true)
    (k7 : PySem.W.keepIn K (.ref f7) = true)
    (a8 : PySem.W.nsIn K mainGlobals "after" = some (some (.ref f8)))
    (l8 : K.lookup f8 = some ⟨oc8, od8, .func (PySem.W.fnOf "after" "after" (defArgs sAfter) (defBody sAfter) (defScope sAfter) .none kV8 dc8 pm8 an8 (.ref c8) ct8), sl8⟩)
    (e8 : PySem.W.codeIn K (.ref c8) "after" = true)
    (k8 : PySem.W.keepIn K (.ref f8) = true)
    (t8 : PySem.W.tabIn K "after" = some (c8, P8))
    (n8 : K.lookup P8 = none)
    (a9 : PySem.W.nsIn K mainGlobals "words_from" = some (some (.ref f9)))
    (l9 : K.lookup f9 = some ⟨oc9, od9, .func (PySem.W.fnOf "words_from" "words_from" (defArgs sWords) (defBody sWords) (defScope sWords) .none kV9 dc9 pm9 an9 cd9 ct9), sl9⟩)
    (e9 : PySem.W.codeIn K cd9 "words_from" = true)
    (k9 : PySem.W.keepIn K (.ref f9) = true)
    (a10 : PySem.W.nsIn K mainGlobals "order" = some (some (.ref f10)))
    (l10 : K.lookup f10 = some ⟨oc10, od10, .func (PySem.W.fnOf "order" "order" (defArgs sOrder) (defBody sOrder) (defScope sOrder) .none kV10 dc10 pm10 an10 cd10 ct10), sl10⟩)
    (e10 : PySem.W.codeIn K cd10 "order" = true)
    (k10 : PySem.W.keepIn K (.ref f10) = true)
    (a11 : PySem.W.nsIn K mainGlobals "beside" = some (some (.ref f11)))
    (l11 : K.lookup f11 = some ⟨oc11, od11, .func (PySem.W.fnOf "beside" "beside" (defArgs sBeside) (defBody sBeside) (defScope sBeside) .none kV11 dc11 pm11 an11 cd11 ct11), sl11⟩)
    (e11 : PySem.W.codeIn K cd11 "beside" = true)
    (k11 : PySem.W.keepIn K (.ref f11) = true)
    (a12 : PySem.W.nsIn K mainGlobals "within" = some (some (.ref f12)))
    (l12 : K.lookup f12 = some ⟨oc12, od12, .func (PySem.W.fnOf "within" "within" (defArgs sWithin) (defBody sWithin) (defScope sWithin) .none kV12 dc12 pm12 an12 cd12 ct12), sl12⟩)
    (e12 : PySem.W.codeIn K cd12 "within" = true)
    (k12 : PySem.W.keepIn K (.ref f12) = true)
    (a13 : PySem.W.nsIn K mainGlobals "called" = some (some (.ref f13)))
    (l13 : K.lookup f13 = some ⟨oc13, od13, .func (PySem.W.fnOf "called" "called" (defArgs sCalled) (defBody sCalled) (defScope sCalled) .none kV13 dc13 pm13 an13 cd13 ct13), sl13⟩)
    (e13 : PySem.W.codeIn K cd13 "called" = true)
    (k13 : PySem.W.keepIn K (.ref f13) = true)
    (a14 : PySem.W.nsIn K mainGlobals "backed" = some (some (.ref f14)))
    (l14 : K.lookup f14 = some ⟨oc14, od14, .func (PySem.W.fnOf "backed" "backed" (defArgs sBacked) (defBody sBacked) (defScope sBacked) .none kV14 dc14 pm14 an14 cd14 ct14), sl14⟩)
    (e14 : PySem.W.codeIn K cd14 "backed" = true)
    (k14 : PySem.W.keepIn K (.ref f14) = true)
    (a15 : PySem.W.nsIn K mainGlobals "doubled" = some (some (.ref f15)))
    (l15 : K.lookup f15 = some ⟨oc15, od15, .func (PySem.W.fnOf "doubled" "doubled" (defArgs sDoubled) (defBody sDoubled) (defScope sDoubled) .none kV15 dc15 pm15 an15 cd15 ct15), sl15⟩)
    (e15 : PySem.W.codeIn K cd15 "doubled" = true)
    (k15 : PySem.W.keepIn K (.ref f15) = true)
    (a16 : PySem.W.nsIn K mainGlobals "_law_taken" = some (some (.ref f16)))
    (l16 : K.lookup f16 = some ⟨oc16, od16, .func (PySem.W.fnOf "_law_taken" "_law_taken" (defArgs sTaken) (defBody sTaken) (defScope sTaken) .none kV16 dc16 pm16 an16 cd16 ct16), sl16⟩)
    (e16 : PySem.W.codeIn K cd16 "_law_taken" = true)
    (k16 : PySem.W.keepIn K (.ref f16) = true)
    (a17 : PySem.W.nsIn K mainGlobals "_law_pick" = some (some (.ref f17)))
    (l17 : K.lookup f17 = some ⟨oc17, od17, .func (PySem.W.fnOf "_law_pick" "_law_pick" (defArgs sPick) (defBody sPick) (defScope sPick) .none kV17 dc17 pm17 an17 cd17 ct17), sl17⟩)
    (e17 : PySem.W.codeIn K cd17 "_law_pick" = true)
    (k17 : PySem.W.keepIn K (.ref f17) = true)
    (a18 : PySem.W.nsIn K mainGlobals "_law_permutation" = some (some (.ref f18)))
    (l18 : K.lookup f18 = some ⟨oc18, od18, .func (PySem.W.fnOf "_law_permutation" "_law_permutation" (defArgs sPermut) (defBody sPermut) (defScope sPermut) .none kV18 dc18 pm18 an18 cd18 ct18), sl18⟩)
    (e18 : PySem.W.codeIn K cd18 "_law_permutation" = true)
    (k18 : PySem.W.keepIn K (.ref f18) = true)
    (a19 : PySem.W.nsIn K mainGlobals "_law_habit" = some (some (.ref f19)))
    (l19 : K.lookup f19 = some ⟨oc19, od19, .func (PySem.W.fnOf "_law_habit" "_law_habit" (defArgs sDraw) (defBody sDraw) (defScope sDraw) .none kV19 dc19 pm19 an19 cd19 ct19), sl19⟩)
    (e19 : PySem.W.codeIn K cd19 "_law_habit" = true)
    (k19 : PySem.W.keepIn K (.ref f19) = true)
    (a20 : PySem.W.nsIn K mainGlobals "_law_said" = some (some (.ref f20)))
    (l20 : K.lookup f20 = some ⟨oc20, od20, .func (PySem.W.fnOf "_law_said" "_law_said" (defArgs sSaid) (defBody sSaid) (defScope sSaid) .none kV20 dc20 pm20 an20 cd20 ct20), sl20⟩)
    (e20 : PySem.W.codeIn K cd20 "_law_said" = true)
    (k20 : PySem.W.keepIn K (.ref f20) = true)
    (a21 : PySem.W.nsIn K mainGlobals "law" = some (some (.ref f21)))
    (l21 : K.lookup f21 = some ⟨oc21, od21, .func (PySem.W.fnOf "law" "law" (defArgs sLaw) (defBody sLaw) (defScope sLaw) .none kV21 dc21 pm21 an21 (.ref c21) ct21), sl21⟩)
    (e21 : PySem.W.codeIn K (.ref c21) "law" = true)
    (k21 : PySem.W.keepIn K (.ref f21) = true)
    (t21 : PySem.W.tabIn K "law" = some (c21, P21))
    (n21 : K.lookup P21 = none)
    (gCH : PySem.W.nsIn K mainGlobals "BadHabit" = some (some (.ref CH)))
    (xCH : K.lookup CH = some (excClassObj nmH qH CH NH bsH (.ref SH :: [.type "ValueError", .type "Exception", .type "BaseException", .type "object"]) true snH subH abH colH ddH m0H m1H m2H m3H m5H "ValueError.__new__"))
    (sCH : PySem.W.findIn K (.ref CH) "__setattr__" = some (some (.builtin "object.__setattr__")))
    (eCH : PySem.W.subIn K (.ref CH) (.type "BaseException") = some true)
    (tCH : PySem.W.typeIn K (.ref CH) = some (.type "type"))
    (kCH : PySem.W.keepIn K (.ref CH) = true)
    (iCH : PySem.W.findIn K (.ref CH) "__init__" = some (some (.ref fIH)))
    (yCH : PySem.W.typeIn K (.ref fIH) = some (.type "function"))
    (lCH : K.lookup fIH = some ⟨ocH, odH, .func (PySem.W.fnOf "__init__" "BadHabit.__init__" (defArgs sIniH) (defBody sIniH) (defScope sIniH) .none kVH dcH pmH anH cdH ctH), slH⟩)
    (cCH : PySem.W.codeIn K cdH "BadHabit.__init__" = true)
    (wCH : PySem.W.keepIn K (.ref fIH) = true)
    (nCH : PySem.W.findIn K (.ref CH) "place" = some none)
    (gCM : PySem.W.nsIn K mainGlobals "TooMany" = some (some (.ref CM)))
    (xCM : K.lookup CM = some (excClassObj nmM qM CM NM bsM (.ref SM :: [.type "ValueError", .type "Exception", .type "BaseException", .type "object"]) true snM subM abM colM ddM m0M m1M m2M m3M m5M "ValueError.__new__"))
    (sCM : PySem.W.findIn K (.ref CM) "__setattr__" = some (some (.builtin "object.__setattr__")))
    (eCM : PySem.W.subIn K (.ref CM) (.type "BaseException") = some true)
    (tCM : PySem.W.typeIn K (.ref CM) = some (.type "type"))
    (kCM : PySem.W.keepIn K (.ref CM) = true)
    (iCM : PySem.W.findIn K (.ref CM) "__init__" = some (some (.ref fIM)))
    (yCM : PySem.W.typeIn K (.ref fIM) = some (.type "function"))
    (lCM : K.lookup fIM = some ⟨ocM, odM, .func (PySem.W.fnOf "__init__" "TooMany.__init__" (defArgs sIniM) (defBody sIniM) (defScope sIniM) .none kVM dcM pmM anM cdM ctM), slM⟩)
    (cCM : PySem.W.codeIn K cdM "TooMany.__init__" = true)
    (wCM : PySem.W.keepIn K (.ref fIM) = true)
    (nCM : PySem.W.findIn K (.ref CM) "most" = some none)
    (gCL : PySem.W.nsIn K mainGlobals "BadLayout" = some (some (.ref CL)))
    (qCL : PySem.W.excIn K CL [.type "ValueError", .type "Exception", .type "BaseException", .type "object"] "ValueError.__new__" = true)
    (kCL : PySem.W.keepIn K (.ref CL) = true)
    (eCL : PySem.W.subIn K (.ref CL) (.type "BaseException") = some true)
    (tCL : PySem.W.typeIn K (.ref CL) = some (.type "type"))
    (xhh : PySem.W.exmOne K (.ref CH) (.ref CH) = some true)
    (xlh : PySem.W.exmOne K (.ref CL) (.ref CH) = some false)
    (xll : PySem.W.exmOne K (.ref CL) (.ref CL) = some true)
    (xmh : PySem.W.exmOne K (.ref CM) (.ref CH) = some false)
    (xml : PySem.W.exmOne K (.ref CM) (.ref CL) = some false)
    (xmm : PySem.W.exmOne K (.ref CM) (.ref CM) = some true)
    (gaM : PySem.W.findIn K (.ref CM) "__getattribute__" = some (some (.builtin "BaseException.__getattribute__")))
    (ggM : PySem.W.findIn K (.ref CM) "__getattr__" = some none)
    (hdM : PySem.W.hasDictIn K CM = true)
    (z_isinstance : PySem.W.nsIn K mainGlobals "isinstance" = some none)
    (z_int : PySem.W.nsIn K mainGlobals "int" = some none)
    (z_bool : PySem.W.nsIn K mainGlobals "bool" = some none)
    (z_tuple : PySem.W.nsIn K mainGlobals "tuple" = some none)
    (z_len : PySem.W.nsIn K mainGlobals "len" = some none)
    (z_all : PySem.W.nsIn K mainGlobals "all" = some none)
    (z_set : PySem.W.nsIn K mainGlobals "set" = some none)
    (z_enumerate : PySem.W.nsIn K mainGlobals "enumerate" = some none)
    (z_range : PySem.W.nsIn K mainGlobals "range" = some none)
    (z_list : PySem.W.nsIn K mainGlobals "list" = some none)
    (z_str : PySem.W.nsIn K mainGlobals "str" = some none)
    (v1 : PySem.W.nsIn K mainGlobals "LEAST_PLACES" = some (some (.int 2 tv1)))
    (v2 : PySem.W.nsIn K mainGlobals "MOST_PLACES" = some (some (.int 5 tv2)))
    (v3 : PySem.W.nsIn K mainGlobals "MOST_WORD" = some (some (.int 400 tv3)))
    (d1 : P21 ≠ P2)
    (d2 : P21 ≠ P8)
    : LamX.LawAtS l w K CX0 8 63 "_law_script" mg fa h := by
  have e := hfa.symm.trans (PySem.W.mg_of X G a21)
  cases e
  have F1 := fun_mk (st := sNum) l1 e1 k1
  have m1 := PySem.W.mg_of X G a1
  have F2 : FunT K "is_permutation" "is_permutation" sPerm f2 _ c2 := ⟨⟨oc2, od2, kV2, dc2, pm2, an2, ct2, sl2, rfl, l2, e2⟩, k2⟩
  have m2 := PySem.W.mg_of X G a2
  have b2 := F2.binds (ps := ["value", "many"]) fun _ _ _ _ _ _ us hl => match us, hl with | [_, _], _ => rfl
  have F3 := fun_mk (st := sHabit) l3 e3 k3
  have m3 := PySem.W.mg_of X G a3
  have b3 := F3.binds (ps := ["value"]) fun _ _ _ _ _ _ us hl => match us, hl with | [_], _ => rfl
  have F4 := fun_mk (st := sLayout) l4 e4 k4
  have m4 := PySem.W.mg_of X G a4
  have b4 := F4.binds (ps := ["habit", "value"]) fun _ _ _ _ _ _ us hl => match us, hl with | [_, _], _ => rfl
  have F5 := fun_mk (st := sShelf) l5 e5 k5
  have m5 := PySem.W.mg_of X G a5
  have b5 := F5.binds (ps := ["habit", "layout"]) fun _ _ _ _ _ _ us hl => match us, hl with | [_, _], _ => rfl
  have F6 := fun_mk (st := sTouch) l6 e6 k6
  have m6 := PySem.W.mg_of X G a6
  have b6 := F6.binds (ps := ["habit", "layout", "place"]) fun _ _ _ _ _ _ us hl => match us, hl with | [_, _, _], _ => rfl
  have F7 := fun_mk (st := sWord) l7 e7 k7
  have m7 := PySem.W.mg_of X G a7
  have b7 := F7.binds (ps := ["habit", "layout", "word"]) fun _ _ _ _ _ _ us hl => match us, hl with | [_, _, _], _ => rfl
  have F8 : FunT K "after" "after" sAfter f8 _ c8 := ⟨⟨oc8, od8, kV8, dc8, pm8, an8, ct8, sl8, rfl, l8, e8⟩, k8⟩
  have m8 := PySem.W.mg_of X G a8
  have b8 := F8.binds (ps := ["habit", "layout", "word"]) fun _ _ _ _ _ _ us hl => match us, hl with | [_, _, _], _ => rfl
  have F9 := fun_mk (st := sWords) l9 e9 k9
  have m9 := PySem.W.mg_of X G a9
  have b9 := F9.binds (ps := ["habit", "layout"]) fun _ _ _ _ _ _ us hl => match us, hl with | [_, _], _ => rfl
  have F10 := fun_mk (st := sOrder) l10 e10 k10
  have m10 := PySem.W.mg_of X G a10
  have b10 := F10.binds (ps := ["habit"]) fun _ _ _ _ _ _ us hl => match us, hl with | [_], _ => rfl
  have F11 := fun_mk (st := sBeside) l11 e11 k11
  have m11 := PySem.W.mg_of X G a11
  have b11 := F11.binds (ps := ["one", "other"]) fun _ _ _ _ _ _ us hl => match us, hl with | [_, _], _ => rfl
  have F12 := fun_mk (st := sWithin) l12 e12 k12
  have m12 := PySem.W.mg_of X G a12
  have b12 := F12.binds (ps := ["outer", "inner"]) fun _ _ _ _ _ _ us hl => match us, hl with | [_, _], _ => rfl
  have F13 := fun_mk (st := sCalled) l13 e13 k13
  have m13 := PySem.W.mg_of X G a13
  have b13 := F13.binds (ps := ["habit", "order"]) fun _ _ _ _ _ _ us hl => match us, hl with | [_, _], _ => rfl
  have F14 := fun_mk (st := sBacked) l14 e14 k14
  have m14 := PySem.W.mg_of X G a14
  have b14 := F14.binds (ps := ["habit"]) fun _ _ _ _ _ _ us hl => match us, hl with | [_], _ => rfl
  have F15 := fun_mk (st := sDoubled) l15 e15 k15
  have m15 := PySem.W.mg_of X G a15
  have b15 := F15.binds (ps := ["habit"]) fun _ _ _ _ _ _ us hl => match us, hl with | [_], _ => rfl
  have F16 := fun_mk (st := sTaken) l16 e16 k16
  have m16 := PySem.W.mg_of X G a16
  have b16 := F16.binds (ps := ["_law_row", "_law_many"]) fun _ _ _ _ _ _ us hl => match us, hl with | [_, _], _ => rfl
  have F17 := fun_mk (st := sPick) l17 e17 k17
  have m17 := PySem.W.mg_of X G a17
  have b17 := F17.binds (ps := ["_law_row", "_law_things"]) fun _ _ _ _ _ _ us hl => match us, hl with | [_, _], _ => rfl
  have F18 := fun_mk (st := sPermut) l18 e18 k18
  have m18 := PySem.W.mg_of X G a18
  have b18 := F18.binds (ps := ["_law_row", "_law_many"]) fun _ _ _ _ _ _ us hl => match us, hl with | [_, _], _ => rfl
  have F19 := fun_mk (st := sDraw) l19 e19 k19
  have m19 := PySem.W.mg_of X G a19
  have b19 := F19.binds (ps := ["_law_row", "_law_many"]) fun _ _ _ _ _ _ us hl => match us, hl with | [_, _], _ => rfl
  have F20 := fun_mk (st := sSaid) l20 e20 k20
  have m20 := PySem.W.mg_of X G a20
  have b20 := F20.binds (ps := ["_law_work"]) fun _ _ _ _ _ _ us hl => match us, hl with | [_], _ => rfl
  have F21 : FunT K "law" "law" sLaw fa _ c21 := ⟨⟨oc21, od21, kV21, dc21, pm21, an21, ct21, sl21, rfl, l21, e21⟩, k21⟩
  have m21 := PySem.W.mg_of X G a21
  have FIH := fun_mk (st := sIniH) lCH cCH wCH
  have bIH := FIH.binds (ps := ["self", "place"]) fun _ _ _ _ _ _ us hl => match us, hl with | [_, _], _ => rfl
  have OH : OexC K CH := ⟨⟨_, _, _, _, _, _, _, _, _, _, _, _, _, _, _, xCH, (show PySem.HandSPX.refsVE [.type "ValueError", .type "Exception", .type "BaseException", .type "object"] = true by decide +kernel)⟩, sCH, eCH, tCH, kCH⟩
  have FIM := fun_mk (st := sIniM) lCM cCM wCM
  have bIM := FIM.binds (ps := ["self", "most"]) fun _ _ _ _ _ _ us hl => match us, hl with | [_, _], _ => rfl
  have OM : OexC K CM := ⟨⟨_, _, _, _, _, _, _, _, _, _, _, _, _, _, _, xCM, (show PySem.HandSPX.refsVE [.type "ValueError", .type "Exception", .type "BaseException", .type "object"] = true by decide +kernel)⟩, sCM, eCM, tCM, kCM⟩
  have B : Bl mg := ⟨PySem.W.mg_none_of X G z_isinstance, PySem.W.mg_none_of X G z_int, PySem.W.mg_none_of X G z_bool, PySem.W.mg_none_of X G z_tuple, PySem.W.mg_none_of X G z_len, PySem.W.mg_none_of X G z_all, PySem.W.mg_none_of X G z_set, PySem.W.mg_none_of X G z_enumerate, PySem.W.mg_none_of X G z_range, PySem.W.mg_none_of X G z_list, PySem.W.mg_none_of X G z_str⟩
  have S : Cs mg := ⟨⟨_, PySem.W.mg_of X G v1⟩, ⟨_, PySem.W.mg_of X G v2⟩, ⟨_, PySem.W.mg_of X G v3⟩⟩
  have OL : Own0 K mg "BadLayout" CL := ⟨qCL, PySem.W.mg_of X G gCL, kCL, eCL, tCL⟩
  have E3 : Ex3 K mg CH CL CM := ⟨PySem.W.mg_of X G gCH, PySem.W.mg_of X G gCL, PySem.W.mg_of X G gCM, xhh, xlh, xll, xmh, xml, xmm, ⟨gaM, ggM, eCM, hdM⟩, nCM⟩
  have d0 : (⟨P2, P8⟩ : Two).p = P2 := rfl
  refine law_end (cs := [(c2, P2), (c8, P8), (c21, P21)]) (T := ⟨P2, P8⟩) (P := P21) (fd := PySem.W.fnOf "law" "law" (defArgs sLaw) (defBody sLaw) (defScope sLaw) .none kV21 dc21 pm21 an21 (.ref c21) ct21)
    (fun q hq => ?_) (fun q hq => ?_) (fun q hq => ?_) (fun s u => .of_eq rfl) (List.mem_cons_self) (List.mem_cons_of_mem _ List.mem_cons_self) (List.mem_cons_of_mem _ (List.mem_cons_of_mem _ List.mem_cons_self)) (fun base hK hn TBs => ?_)
  · rcases List.mem_cons.mp hq with z | z
    · rw [z]; exact (tabs "is_permutation" c2 P2 (by simp [told]) t2).2
    · rcases List.mem_cons.mp z with z | z
      · rw [z]; exact (tabs "after" c8 P8 (by simp [told]) t8).2
      · rcases List.mem_cons.mp z with z | z
        · rw [z]; exact (tabs "law" c21 P21 (by simp [told]) t21).2
        · cases z
  · rcases List.mem_cons.mp hq with z | z
    · rw [z]; exact n2
    · rcases List.mem_cons.mp z with z | z
      · rw [z]; exact n8
      · rcases List.mem_cons.mp z with z | z
        · rw [z]; exact n21
        · cases z
  · rcases List.mem_cons.mp hq with z | z
    · rw [z]; exact (tabs "is_permutation" c2 P2 (by simp [told]) t2).1
    · rcases List.mem_cons.mp z with z | z
      · rw [z]; exact (tabs "after" c8 P8 (by simp [told]) t8).1
      · rcases List.mem_cons.mp z with z | z
        · rw [z]; exact (tabs "law" c21 P21 (by simp [told]) t21).1
        · cases z
  · have TP := TBs (c2, P2) List.mem_cons_self
    have TA := TBs (c8, P8) (List.mem_cons_of_mem _ List.mem_cons_self)
    have TL := TBs (c21, P21) (List.mem_cons_of_mem _ (List.mem_cons_of_mem _ List.mem_cons_self))
    let T : Two := ⟨P2, P8⟩
    have OxH : Oex l.prog w K mg base "BadHabit" "place" CH := ⟨OH, PySem.W.mg_of X G gCH, fIH, _, iCH, yCH, ok_iniH FIH OH nCH, bIH⟩
    have OxM : Oex l.prog w K mg base "TooMany" "most" CM := ⟨OM, PySem.W.mg_of X G gCM, fIM, _, iCM, yCM, ok_iniM FIM OM nCM, bIM⟩
    have Cperm : Callee l.prog w K mg base CX0 2 "is_permutation" ["value", "many"] (spPerm T K) := ⟨f2, _, ok_perm F2 ⟨TP.code, TP.bm, TP.gP⟩ B F1 m1, m2, k2, b2⟩
    have Chab : Callee l.prog w K mg base (L2.CX l.prog w) 4 "need_habit" ["value"] (spHabit T K CH) := ⟨f3, _, ok_habit F3 B S OxH Cperm, m3, k3, b3⟩
    have Clay : Callee l.prog w K mg base CX0 3 "need_layout" ["habit", "value"] (spLayout T K) := ⟨f4, _, ok_layout F4 B Cperm, m4, k4, b4⟩
    have Cshelf : Callee l.prog w K mg base CX0 5 "need_shelf" ["habit", "layout"] (spLayout T K) := ⟨f5, _, ok_shelf F5 Chab Clay, m5, k5, b5⟩
    have Ctouch : Callee l.prog w K mg base CX0 1 "behind_touch" ["habit", "layout", "place"] (spTouch T K) := ⟨f6, _, ok_touch F6 B, m6, k6, b6⟩
    have Cword : Callee l.prog w K mg base CX0 2 "behind_word" ["habit", "layout", "word"] (spWord T K) := ⟨f7, _, ok_word F7 Ctouch, m7, k7, b7⟩
    have Cafter : Callee l.prog w K mg base CX0 6 "after" ["habit", "layout", "word"] (spAfter T K) := ⟨f8, _, ok_after F8 ⟨TA.code, TA.bm, TA.gP⟩ B S F1 m1 Cshelf Cword, m8, k8, b8⟩
    have Cwords : Callee l.prog w K mg base CX0 2 "words_from" ["habit", "layout"] (spWords T K) := ⟨f9, _, ok_words F9 B Ctouch, m9, k9, b9⟩
    have Corder : Callee l.prog w K mg base CX0 5 "order" ["habit"] (spOrder T K) := ⟨f10, _, ok_order F10 B Chab Cwords, m10, k10, b10⟩
    have Cbeside : Callee l.prog w K mg base (L2.CX l.prog w) 5 "beside" ["one", "other"] (spBeside T K CM) := ⟨f11, _, ok_beside F11 B S OxM Chab, m11, k11, b11⟩
    have Cwithin : Callee l.prog w K mg base (L2.CX l.prog w) 5 "within" ["outer", "inner"] (spWithin T K CM) := ⟨f12, _, ok_within F12 B S OxM Chab, m12, k12, b12⟩
    have Ccalled : Callee l.prog w K mg base (L2.CX l.prog w) 5 "called" ["habit", "order"] (spCalled T K CL) := ⟨f13, _, ok_called F13 B OL Cperm Chab, m13, k13, b13⟩
    have Cbacked : Callee l.prog w K mg base (L2.CX l.prog w) 5 "backed" ["habit"] (spBacked T K CH) := ⟨f14, _, ok_backed F14 B Chab, m14, k14, b14⟩
    have Cdoubled : Callee l.prog w K mg base (L2.CX l.prog w) 5 "doubled" ["habit"] (spDoubled T K) := ⟨f15, _, ok_doubled F15 B Chab, m15, k15, b15⟩
    have Ctaken : Callee l.prog w K mg base CX0 1 "_law_taken" ["_law_row", "_law_many"] (spTaken T K) := ⟨f16, _, ok_taken F16 B, m16, k16, b16⟩
    have Cpick : Callee l.prog w K mg base CX0 2 "_law_pick" ["_law_row", "_law_things"] (spPick T K) := ⟨f17, _, ok_pick F17 B Ctaken, m17, k17, b17⟩
    have Cpermut : Callee l.prog w K mg base CX0 2 "_law_permutation" ["_law_row", "_law_many"] (spPermut T K) := ⟨f18, _, ok_permut F18 B Ctaken, m18, k18, b18⟩
    have Cdraw : Callee l.prog w K mg base CX0 3 "_law_habit" ["_law_row", "_law_many"] (spDraw T K) := ⟨f19, _, ok_draw F19 B Ctaken Cpermut, m19, k19, b19⟩
    exact ok_law F21 ⟨B, Ctaken, Cpick, Cpermut, Cdraw, Cafter, Corder, Cbeside, Cwithin, Ccalled, Cbacked, Cdoubled, E3, ⟨f20, _, F20, b20, m20⟩⟩ ⟨d1, d2⟩ TL
end JX
end
open PySem PySem.W PyProof.Rows
set_option maxRecDepth 100000 in
set_option maxHeartbeats 0 in
theorem PySem.Challenge.cw_restlesshelf_k84_whole_joins_holds : PySem.Challenge.rw_restlesshelf_k84_whole_joins.Holds := by
  w_on; o_law; k_head; (case hw => w_witness2)
  k_fill
  refine JX.walk_all (l := PySem.Challenge.rw_restlesshelf_k84_whole_joins) (n := 63) (k := 8) (CX := fun _ => L2.CX0) (x := "_law_script") rfl (by decide) rfl ⟨rfl, by decide, by decide⟩ (fun w h Y => PySem.W.km_in_of Y) ?F (fun _ _ _ _ _ z => z)
  case F =>
    intro w mg fa h Y KX G hmg tabs
    refine' JX.all_mk KX G hmg (JX.told_of tabs (by decide +kernel)) ?a1 ?l1 ?e1 ?k1 ?a2 ?l2 ?e2 ?k2 ?t2 ?n2 ?a3 ?l3 ?e3 ?k3 ?a4 ?l4 ?e4 ?k4 ?a5 ?l5 ?e5 ?k5 ?a6 ?l6 ?e6 ?k6 ?a7 ?l7 ?e7 ?k7 ?a8 ?l8 ?e8 ?k8 ?t8 ?n8 ?a9 ?l9 ?e9 ?k9 ?a10 ?l10 ?e10 ?k10 ?a11 ?l11 ?e11 ?k11 ?a12 ?l12 ?e12 ?k12 ?a13 ?l13 ?e13 ?k13 ?a14 ?l14 ?e14 ?k14 ?a15 ?l15 ?e15 ?k15 ?a16 ?l16 ?e16 ?k16 ?a17 ?l17 ?e17 ?k17 ?a18 ?l18 ?e18 ?k18 ?a19 ?l19 ?e19 ?k19 ?a20 ?l20 ?e20 ?k20 ?a21 ?l21 ?e21 ?k21 ?t21 ?n21 ?gCH ?xCH ?sCH ?eCH ?tCH ?kCH ?iCH ?yCH ?lCH ?cCH ?wCH ?nCH ?gCM ?xCM ?sCM ?eCM ?tCM ?kCM ?iCM ?yCM ?lCM ?cCM ?wCM ?nCM ?gCL ?qCL ?kCL ?eCL ?tCL ?xhh ?xlh ?xll ?xmh ?xml ?xmm ?gaM ?ggM ?hdM ?z_isinstance ?z_int ?z_bool ?z_tuple ?z_len ?z_all ?z_set ?z_enumerate ?z_range ?z_list ?z_str ?v1 ?v2 ?v3 ?d1 ?d2
    (case a1 => k_is)
    (case l1 => k_is)
    (case e1 => k_is)
    (case k1 => k_is)
    (case a2 => k_is)
    (case l2 => k_is)
    (case e2 => k_is)
    (case k2 => k_is)
    (case t2 => first | k_is | rfl | decide +kernel)
    (case n2 => first | rfl | with_unfolding_all rfl | kernel_rfl | decide +kernel)
    (case a3 => k_is)
    (case l3 => k_is)
    (case e3 => k_is)
    (case k3 => k_is)
    (case a4 => k_is)
    (case l4 => k_is)
    (case e4 => k_is)
    (case k4 => k_is)
    (case a5 => k_is)
    (case l5 => k_is)
    (case e5 => k_is)
    (case k5 => k_is)
    (case a6 => k_is)
    (case l6 => k_is)
    (case e6 => k_is)
    (case k6 => k_is)
    (case a7 => k_is)
    (case l7 => k_is)
    (case e7 => k_is)
    (case k7 => k_is)
    (case a8 => k_is)
    (case l8 => k_is)
    (case e8 => k_is)
    (case k8 => k_is)
    (case t8 => first | k_is | rfl | decide +kernel)
    (case n8 => first | rfl | with_unfolding_all rfl | kernel_rfl | decide +kernel)
    (case a9 => k_is)
    (case l9 => k_is)
    (case e9 => k_is)
    (case k9 => k_is)
    (case a10 => k_is)
    (case l10 => k_is)
    (case e10 => k_is)
    (case k10 => k_is)
    (case a11 => k_is)
    (case l11 => k_is)
    (case e11 => k_is)
    (case k11 => k_is)
    (case a12 => k_is)
    (case l12 => k_is)
    (case e12 => k_is)
    (case k12 => k_is)
    (case a13 => k_is)
    (case l13 => k_is)
    (case e13 => k_is)
    (case k13 => k_is)
    (case a14 => k_is)
    (case l14 => k_is)
    (case e14 => k_is)
    (case k14 => k_is)
    (case a15 => k_is)
    (case l15 => k_is)
    (case e15 => k_is)
    (case k15 => k_is)
    (case a16 => k_is)
    (case l16 => k_is)
    (case e16 => k_is)
    (case k16 => k_is)
    (case a17 => k_is)
    (case l17 => k_is)
    (case e17 => k_is)
    (case k17 => k_is)
    (case a18 => k_is)
    (case l18 => k_is)
    (case e18 => k_is)
    (case k18 => k_is)
    (case a19 => k_is)
    (case l19 => k_is)
    (case e19 => k_is)
    (case k19 => k_is)
    (case a20 => k_is)
    (case l20 => k_is)
    (case e20 => k_is)
    (case k20 => k_is)
    (case a21 => k_is)
    (case l21 => k_is)
    (case e21 => k_is)
    (case k21 => k_is)
    (case t21 => first | k_is | rfl | decide +kernel)
    (case n21 => first | rfl | with_unfolding_all rfl | kernel_rfl | decide +kernel)
    (case gCH => k_is)
    (case xCH => k_is)
    (case sCH => k_is)
    (case eCH => k_is)
    (case tCH => k_is)
    (case kCH => k_is)
    (case iCH => k_is)
    (case yCH => k_is)
    (case lCH => k_is)
    (case cCH => k_is)
    (case wCH => k_is)
    (case nCH => k_is)
    (case gCM => k_is)
    (case xCM => k_is)
    (case sCM => k_is)
    (case eCM => k_is)
    (case tCM => k_is)
    (case kCM => k_is)
    (case iCM => k_is)
    (case yCM => k_is)
    (case lCM => k_is)
    (case cCM => k_is)
    (case wCM => k_is)
    (case nCM => k_is)
    (case gCL => k_is)
    (case qCL => k_exc)
    (case kCL => k_is)
    (case eCL => k_is)
    (case tCL => k_is)
    (case xhh => first | k_is | rfl | decide +kernel)
    (case xlh => first | k_is | rfl | decide +kernel)
    (case xll => first | k_is | rfl | decide +kernel)
    (case xmh => first | k_is | rfl | decide +kernel)
    (case xml => first | k_is | rfl | decide +kernel)
    (case xmm => first | k_is | rfl | decide +kernel)
    (case gaM => k_is)
    (case ggM => k_is)
    (case hdM => k_is)
    (case z_isinstance => k_is)
    (case z_int => k_is)
    (case z_bool => k_is)
    (case z_tuple => k_is)
    (case z_len => k_is)
    (case z_all => k_is)
    (case z_set => k_is)
    (case z_enumerate => k_is)
    (case z_range => k_is)
    (case z_list => k_is)
    (case z_str => k_is)
    (case v1 => k_is)
    (case v2 => k_is)
    (case v3 => k_is)
    (case d1 => decide)
    (case d2 => decide)

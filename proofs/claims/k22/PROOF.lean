import PyProof.Rows.All
import Wide.All
import OpenK.AllK
import Wide.FinOn
import PyProof.EqAt
import PyProof.EqKinds
import PyProof.TupleCall
import KE.GoesEnum
import HandS.ForMost
import HandS.Zip
import PyProof.TupleOfSeq
import KE.SortData
import KE.SortKeyHeap
import HandS.SortInts
import PyProof.DictUpdate
import HandS.DictComp
import HandS.TupLe
import KE.KLam
import HandS.Lambda
import HandS.EndOwn
import HandS.Evl
import HandS.IsInst
import HandS.Star
import HandS.Exc
import HandS.TupAny
import KE.KEqDeep
import KE.KEqSeq
import HandS.Deep
import HandS.Conv
import PySem.Challenge.RW_mexrooms_k22_whole_counts_of_rows
set_option Elab.async false
set_option linter.all false
set_option maxRecDepth 100000
set_option maxHeartbeats 4000000
namespace Mx
/-! plain mathematics: no Python here -/
/-! ### lists -/
theorem pigeon : ∀ (n : Nat) (l : List Nat), (∀ k, k < n → k ∈ l) → n ≤ l.length
  | 0, _, _ => Nat.zero_le _
  | n + 1, l, h => by
    have hn : n ∈ l := h n (Nat.lt_succ_self n)
    have ih := pigeon n (l.erase n) fun k hk => (List.mem_erase_of_ne (by omega)).mpr (h k (by omega))
    rw [List.length_erase_of_mem hn] at ih
    have : 0 < l.length := List.length_pos_of_mem hn
    omega
def mexF (l : List Nat) : Nat → Nat → Nat
  | 0, k => k
  | f + 1, k => if k ∈ l then mexF l f (k + 1) else k
def mex (l : List Nat) : Nat := mexF l (l.length + 1) 0
theorem mexF_spec (l : List Nat) : ∀ (f k : Nat), (∀ j, j < k → j ∈ l) → (∀ j, j < mexF l f k → j ∈ l) ∧ (mexF l f k ∈ l → mexF l f k = k + f)
  | 0, k, h => ⟨h, fun _ => rfl⟩
  | f + 1, k, h => by
    unfold mexF
    by_cases hk : k ∈ l
    · rw [if_pos hk]
      obtain ⟨a, b⟩ := mexF_spec l f (k + 1) fun j hj => by
        rcases Nat.lt_succ_iff_lt_or_eq.mp hj with h1 | h1
        · exact h j h1
        · exact h1 ▸ hk
      exact ⟨a, fun z => by rw [b z]; omega⟩
    · rw [if_neg hk]
      exact ⟨h, fun z => absurd z hk⟩
theorem mex_lt {l : List Nat} {j : Nat} (h : j < mex l) : j ∈ l := (mexF_spec l (l.length + 1) 0 (by simp)).1 j h
theorem mex_le (l : List Nat) : mex l ≤ l.length := pigeon _ l fun _ h => mex_lt h
theorem mex_not (l : List Nat) : mex l ∉ l := fun z => by
  have h := (mexF_spec l (l.length + 1) 0 (by simp)).2 z
  have h2 := mex_le l
  unfold mex at h2
  omega
theorem mex_unique {l : List Nat} {m : Nat} (h1 : m ∉ l) (h2 : ∀ j, j < m → j ∈ l) : mex l = m := by
  rcases Nat.lt_trichotomy (mex l) m with h | h | h
  · exact absurd (h2 _ h) (mex_not l)
  · exact h
  · exact absurd (mex_lt h) h1
theorem mex_congr {l l' : List Nat} (h : ∀ x, x ∈ l ↔ x ∈ l') : mex l = mex l' :=
  (mex_unique (fun z => mex_not l ((h _).mpr z)) fun _ hj => (h _).mp (mex_lt hj)).symm

/-! ### houses -/
abbrev Doors := List (Nat × Nat)
def adj (D : Doors) (x y : Nat) : Bool := decide ((x, y) ∈ D) || decide ((y, x) ∈ D)
theorem adj_iff {D : Doors} {x y : Nat} : adj D x y = true ↔ (x, y) ∈ D ∨ (y, x) ∈ D := by simp [adj]
theorem adj_comm {D : Doors} {x y : Nat} : adj D x y = adj D y x := by simp [adj, Bool.or_comm]
def lexLt (p q : Nat × Nat) : Prop := p.1 < q.1 ∨ (p.1 = q.1 ∧ p.2 < q.2)
structure House (n : Nat) (D : Doors) : Prop where
  pos : 1 ≤ n
  top : n ≤ 6
  ok : ∀ p ∈ D, p.1 < p.2 ∧ p.2 < n
  asc : D.Pairwise lexLt
  few : D.length ≤ 28
theorem House.adj_lt {n : Nat} {D : Doors} (h : House n D) {x y : Nat} (a : adj D x y = true) : x < n ∧ y < n ∧ x ≠ y := by
  rcases adj_iff.mp a with z | z
  · have := h.ok _ z; simp only at this; omega
  · have := h.ok _ z; simp only at this; omega
/-- the neighbors' rows, in whatever order -/
structure RowsOk (n : Nat) (D : Doors) (rows : List (List Nat)) : Prop where
  len : rows.length = n
  mem : ∀ x, x < n → ∀ y, y ∈ rows.getD x [] ↔ adj D x y = true
  short : ∀ x, x < n → (rows.getD x []).length ≤ 28
abbrev State := List Nat
abbrev _root_.List.mxa (s : List Nat) (x : Nat) : Nat := s.getD x 0
def shown (rows : List (List Nat)) (s : State) (x : Nat) : List Nat := (rows.getD x []).map s.mxa
/-- the least number that no neighbor shows -/
def free (n : Nat) (D : Doors) (s : State) (x : Nat) : Nat := mex (((List.range n).filter (adj D x)).map s.mxa)
theorem free_mem {n : Nat} {D : Doors} (h : House n D) {s : State} {x k : Nat} : k ∈ ((List.range n).filter (adj D x)).map s.mxa ↔ ∃ y, adj D x y = true ∧ s.mxa y = k := by
  simp only [List.mem_map, List.mem_filter, List.mem_range]
  constructor
  · rintro ⟨y, ⟨_, a⟩, e⟩; exact ⟨y, a, e⟩
  · rintro ⟨y, a, e⟩; exact ⟨y, ⟨(h.adj_lt a).2.1, a⟩, e⟩
theorem free_rows {n : Nat} {D : Doors} {rows : List (List Nat)} (h : House n D) (r : RowsOk n D rows) {s : State} {x : Nat} (hx : x < n) : mex (shown rows s x) = free n D s x := by
  refine mex_congr fun k => ?_
  rw [free_mem h]
  simp only [shown, List.mem_map]
  constructor
  · rintro ⟨y, a, e⟩; exact ⟨y, (r.mem x hx y).mp a, e⟩
  · rintro ⟨y, a, e⟩; exact ⟨y, (r.mem x hx y).mpr a, e⟩
theorem free_ne {n : Nat} {D : Doors} (h : House n D) {s : State} {x y : Nat} (a : adj D x y = true) : s.mxa y ≠ free n D s x := fun e =>
  mex_not _ ((free_mem h).mpr ⟨y, a, e⟩)
theorem free_has {n : Nat} {D : Doors} (h : House n D) {s : State} {x k : Nat} (hk : k < free n D s x) : ∃ y, adj D x y = true ∧ s.mxa y = k := (free_mem h).mp (mex_lt hk)
theorem free_eq {n : Nat} {D : Doors} (h : House n D) {s : State} {x m : Nat} (h1 : ∀ y, adj D x y = true → s.mxa y ≠ m) (h2 : ∀ k, k < m → ∃ y, adj D x y = true ∧ s.mxa y = k) : free n D s x = m :=
  mex_unique (fun z => by obtain ⟨y, a, e⟩ := (free_mem h).mp z; exact h1 y a e) fun _ hj => (free_mem h).mpr (h2 _ hj)
structure Rest (n : Nat) (D : Doors) (r : State) : Prop where
  len : r.length = n
  ok : ∀ x, x < n → free n D r x = r.mxa x
def Le (n : Nat) (r s : State) : Prop := ∀ x, x < n → r.mxa x ≤ s.mxa x
def Parted (D : Doors) (s : State) : Prop := ∀ p ∈ D, s.mxa p.1 ≠ s.mxa p.2
def keyIn (n : Nat) (D : Doors) (s : State) (x : Nat) : State := s.set x (free n D s x)
theorem keyIn_len {n : Nat} {D : Doors} {s : State} {x : Nat} : (keyIn n D s x).length = s.length := by simp [keyIn]
theorem at_set {s : State} {x y v : Nat} (hx : x < s.length) : (s.set x v).mxa y = if y = x then v else s.mxa y := by
  simp only [List.mxa, List.getD_eq_getElem?_getD, List.getElem?_set]
  by_cases h : x = y
  · subst h; simp [hx]
  · have h' : ¬ y = x := fun e => h e.symm
    simp [h, h']
theorem ext_at {n : Nat} {s t : State} (hs : s.length = n) (ht : t.length = n) (h : ∀ x, x < n → s.mxa x = t.mxa x) : s = t := by
  refine List.ext_getElem (by omega) fun i h1 h2 => ?_
  have := h i (by omega)
  simpa [List.mxa, List.getD_eq_getElem?_getD, h1, h2] using this
def done (n : Nat) (D : Doors) (s : State) (ks : List Nat) : State := ks.foldl (keyIn n D) s
theorem done_len {n : Nat} {D : Doors} : ∀ {ks : List Nat} {s : State}, (done n D s ks).length = s.length
  | [], _ => rfl
  | k :: ks, s => by
    show (done n D (keyIn n D s k) ks).length = _
    rw [done_len, keyIn_len]
theorem done_snoc {n : Nat} {D : Doors} {s : State} {p : List Nat} {x : Nat} : done n D s (p ++ [x]) = keyIn n D (done n D s p) x := by
  simp [done, List.foldl_append]
theorem done_off {n : Nat} {D : Doors} {x : Nat} : ∀ {ks : List Nat} {s : State}, x ∉ ks → (∀ k ∈ ks, k < s.length) → (done n D s ks).mxa x = s.mxa x
  | [], _, _, _ => rfl
  | k :: ks, s, h, hl => by
    show (done n D (keyIn n D s k) ks).mxa x = _
    rw [done_off (fun z => h (List.mem_cons_of_mem _ z)) fun j hj => by rw [keyIn_len]; exact hl j (List.mem_cons_of_mem _ hj)]
    unfold keyIn
    rw [at_set (hl k List.mem_cons_self), if_neg fun (e : x = k) => h (by rw [e]; exact List.mem_cons_self)]
def changed (n : Nat) (r s : State) : List Nat := (List.range n).filter fun x => decide (r.mxa x < s.mxa x)
theorem mem_changed {n : Nat} {r s : State} {x : Nat} : x ∈ changed n r s ↔ x < n ∧ r.mxa x < s.mxa x := by simp [changed]
theorem changed_nodup {n : Nat} {r s : State} : (changed n r s).Nodup := List.Pairwise.filter _ List.nodup_range
def fit (n : Nat) (D : Doors) (r s : State) : List Nat := (List.range n).filter fun x => decide (r.mxa x < s.mxa x) && decide (free n D s x = r.mxa x)

/-! ### the number of shortest rows -/
def cntF (n : Nat) (D : Doors) (r : State) : Nat → State → Nat
  | 0, _ => 1
  | k + 1, s => if s = r then 1 else ((fit n D r s).map fun x => cntF n D r k (keyIn n D s x)).sum
def cnt (n : Nat) (D : Doors) (r s : State) : Nat := cntF n D r (changed n r s).length s
theorem changed_nil {n : Nat} {r s : State} (hr : r.length = n) (hs : s.length = n) (h : Le n r s) : changed n r s = [] ↔ s = r := by
  constructor
  · intro e
    refine ext_at hs hr fun x hx => ?_
    have h1 := h x hx
    by_cases h2 : r.mxa x < s.mxa x
    · have : x ∈ changed n r s := mem_changed.mpr ⟨hx, h2⟩
      rw [e] at this; cases this
    · omega
  · intro e
    subst e
    simp [changed]
theorem filter_len_erase {p q : Nat → Bool} {x : Nat} : ∀ {l : List Nat}, l.Nodup → x ∈ l → p x = true → (∀ y, q y = (p y && decide (y ≠ x))) → (l.filter p).length = (l.filter q).length + 1
  | [], _, h, _, _ => by cases h
  | a :: l, hn, h, hp, hq => by
    have hn' := List.nodup_cons.mp hn
    by_cases e : a = x
    · subst e
      have hqa : q a = false := by rw [hq]; simp
      rw [List.filter_cons_of_pos hp, List.filter_cons_of_neg (by simp [hqa]), List.length_cons]
      congr 2
      refine List.filter_congr fun y hy => ?_
      rw [hq]
      have : y ≠ a := fun e => hn'.1 (e ▸ hy)
      simp [this]
    · have hx : x ∈ l := (List.mem_cons.mp h).resolve_left fun z => e z.symm
      have ih := filter_len_erase hn'.2 hx hp hq
      have hqa : q a = p a := by rw [hq]; simp [e]
      cases hpa : p a with
      | true => rw [List.filter_cons_of_pos hpa, List.filter_cons_of_pos (by rw [hqa]; exact hpa), List.length_cons, List.length_cons, ih]
      | false => rw [List.filter_cons_of_neg (by simp [hpa]), List.filter_cons_of_neg (by rw [hqa]; simp [hpa]), ih]
theorem le_key {n : Nat} {D : Doors} {r s : State} {x : Nat} (hs : s.length = n) (h : Le n r s) (hx : x ∈ fit n D r s) : Le n r (keyIn n D s x) := fun y hy => by
  simp only [fit, List.mem_filter, List.mem_range, Bool.and_eq_true, decide_eq_true_eq] at hx
  unfold keyIn
  rw [at_set (by omega)]
  by_cases e : y = x
  · rw [if_pos e, hx.2.2, e]; exact Nat.le_refl _
  · rw [if_neg e]; exact h y hy
theorem changed_key {n : Nat} {D : Doors} {r s : State} {x : Nat} (hs : s.length = n) (hx : x ∈ fit n D r s) : (changed n r s).length = (changed n r (keyIn n D s x)).length + 1 := by
  simp only [fit, List.mem_filter, List.mem_range, Bool.and_eq_true, decide_eq_true_eq] at hx
  unfold changed
  refine filter_len_erase (x := x) List.nodup_range (List.mem_range.mpr hx.1) (by simpa using hx.2.1) fun y => ?_
  unfold keyIn
  rw [at_set (by omega)]
  by_cases e : y = x
  · subst e; simp [hx.2.2]
  · simp [e]
theorem cnt_eq {n : Nat} {D : Doors} {r s : State} (hr : r.length = n) (hs : s.length = n) (h : Le n r s) : cnt n D r s = if s = r then 1 else ((fit n D r s).map fun x => cnt n D r (keyIn n D s x)).sum := by
  by_cases e : s = r
  · rw [if_pos e]
    unfold cnt
    rw [(changed_nil hr hs h).mpr e]
    rfl
  · rw [if_neg e]
    have hne : changed n r s ≠ [] := fun z => e ((changed_nil hr hs h).mp z)
    obtain ⟨k, hk⟩ : ∃ k, (changed n r s).length = k + 1 := by
      cases q : (changed n r s).length with
      | zero => exact absurd (List.length_eq_zero_iff.mp q) hne
      | succ k => exact ⟨k, rfl⟩
    show cntF n D r (changed n r s).length s = _
    rw [hk]
    show (if s = r then 1 else _) = _
    rw [if_neg e]
    congr 1
    refine List.map_congr_left fun x hx => ?_
    have := changed_key hs hx
    unfold cnt
    rw [show (changed n r (keyIn n D s x)).length = k by omega]
/-- the law's rows of keys -/
def orders (ch : List Nat) : Nat → List (List Nat)
  | 0 => [[]]
  | k + 1 => (orders ch k).flatMap fun p => (ch.filter fun x => decide (x ∉ p)).map fun x => p ++ [x]
def ext (ch : List Nat) : Nat → List Nat → List (List Nat)
  | 0, p => [p]
  | j + 1, p => (ch.filter fun x => decide (x ∉ p)).flatMap fun x => ext ch j (p ++ [x])
theorem orders_ext (ch : List Nat) : ∀ j i, orders ch (i + j) = (orders ch i).flatMap (ext ch j)
  | 0, i => by simp [ext]
  | j + 1, i => by
    rw [show i + (j + 1) = (i + 1) + j by omega, orders_ext ch j (i + 1)]
    show ((orders ch i).flatMap fun p => (ch.filter fun x => decide (x ∉ p)).map fun x => p ++ [x]).flatMap (ext ch j) = _
    rw [List.flatMap_assoc]
    congr 1
    funext p
    rw [List.flatMap_map]
    rfl
theorem sum_ite (f : Nat → Nat) (P : Nat → Bool) : ∀ l : List Nat, (l.map fun x => if P x = true then f x else 0).sum = ((l.filter P).map f).sum
  | [] => rfl
  | a :: l => by
    have ih := sum_ite f P l
    cases h : P a with
    | true => simp [List.filter_cons, h, ih]
    | false => simp [List.filter_cons, h, ih]
theorem count_flat (P : List Nat → Bool) (f : Nat → List (List Nat)) : ∀ l : List Nat, ((l.flatMap f).filter P).length = (l.map fun x => ((f x).filter P).length).sum
  | [] => rfl
  | a :: l => by simp [List.flatMap_cons, List.filter_append, count_flat P f l]
section
variable {n : Nat} {D : Doors} {r s : State}
theorem ext_mem {ch : List Nat} : ∀ {j : Nat} {p q : List Nat}, q ∈ ext ch j p → ∃ u, q = p ++ u ∧ (∀ x ∈ u, x ∈ ch ∧ x ∉ p)
  | 0, p, q, h => ⟨[], by simpa [ext] using h, by simp⟩
  | j + 1, p, q, h => by
    simp only [ext, List.mem_flatMap, List.mem_filter, decide_eq_true_eq] at h
    obtain ⟨x, ⟨hx, hp⟩, h⟩ := h
    obtain ⟨u, e, hu⟩ := ext_mem h
    refine ⟨x :: u, by rw [e]; simp, fun y hy => ?_⟩
    rcases List.mem_cons.mp hy with rfl | hy
    · exact ⟨hx, hp⟩
    · exact ⟨(hu y hy).1, fun z => (hu y hy).2 (List.mem_append_left _ z)⟩
/-- a room that was put elsewhere than to its number stays there -/
theorem ext_bad {p : List Nat} {x : Nat} (hs : s.length = n) (hx : x ∈ p) (hb : (done n D s p).mxa x ≠ r.mxa x) (j : Nat) : ((ext (changed n r s) j p).filter fun q => decide (done n D s q = r)).length = 0 := by
  rw [List.length_eq_zero_iff, List.filter_eq_nil_iff]
  intro q hq
  obtain ⟨u, e, hu⟩ := ext_mem hq
  simp only [decide_eq_true_eq]
  intro z
  refine hb ?_
  have : done n D s q = done n D (done n D s p) u := by rw [e]; simp [done, List.foldl_append]
  rw [← z, this, done_off fun y => (hu x y).2 hx]
  intro k hk
  rw [done_len, hs]
  exact (mem_changed.mp (hu k hk).1).1
theorem ext_good (hr : r.length = n) (hs : s.length = n) (h : Le n r s) : ∀ (j : Nat) (p : List Nat), p.Nodup → (∀ x ∈ p, x ∈ changed n r s) → p.length + j = (changed n r s).length →
    (∀ x, x < n → (done n D s p).mxa x = if x ∈ p then r.mxa x else s.mxa x) → ((ext (changed n r s) j p).filter fun q => decide (done n D s q = r)).length = cnt n D r (done n D s p) := by
  intro j
  induction j with
  | zero =>
    intro p hn hsub hl hst
    have hall : ∀ x ∈ changed n r s, x ∈ p := fun x hx => by
      apply Classical.byContradiction
      intro hxp
      have h1 : (x :: p).Nodup := List.nodup_cons.mpr ⟨hxp, hn⟩
      have h2 : (x :: p).length ≤ (changed n r s).length := by
        have := List.Nodup.length_le_of_subset (l₁ := x :: p) (l₂ := changed n r s) h1 fun y hy => by
          rcases List.mem_cons.mp hy with rfl | hy
          · exact hx
          · exact hsub y hy
        exact this
      rw [List.length_cons] at h2
      omega
    have e : done n D s p = r := ext_at (by rw [done_len, hs]) hr fun x hx => by
      rw [hst x hx]
      split
      · rfl
      · rename_i hxp
        have h1 := h x hx
        have h2 : ¬ r.mxa x < s.mxa x := fun z => hxp (hall x (mem_changed.mpr ⟨hx, z⟩))
        omega
    rw [e, cnt_eq hr hr (fun _ _ => Nat.le_refl _), if_pos rfl]
    simp [ext, e]
  | succ j ih =>
    intro p hn hsub hl hst
    have hlen : (done n D s p).length = n := by rw [done_len, hs]
    have hle : Le n r (done n D s p) := fun x hx => by
      rw [hst x hx]
      split
      · exact Nat.le_refl _
      · exact h x hx
    have hne : done n D s p ≠ r := fun z => by
      have h2 : (changed n r s).length ≤ p.length := List.Nodup.length_le_of_subset changed_nodup fun x hx => by
        apply Classical.byContradiction
        intro hxp
        have h1 := hst x (mem_changed.mp hx).1
        rw [if_neg hxp, z] at h1
        have := (mem_changed.mp hx).2
        omega
      omega
    rw [cnt_eq hr hlen hle, if_neg hne]
    show ((((changed n r s).filter fun x => decide (x ∉ p)).flatMap fun x => ext (changed n r s) j (p ++ [x])).filter _).length = _
    rw [count_flat]
    have step : ∀ x ∈ (changed n r s).filter fun x => decide (x ∉ p), ((ext (changed n r s) j (p ++ [x])).filter fun q => decide (done n D s q = r)).length = if (decide (free n D (done n D s p) x = r.mxa x)) = true then cnt n D r (keyIn n D (done n D s p) x) else 0 := by
      intro x hx
      simp only [List.mem_filter, decide_eq_true_eq] at hx
      have hxn := (mem_changed.mp hx.1).1
      by_cases hf : free n D (done n D s p) x = r.mxa x
      · rw [if_pos (decide_eq_true hf), ← done_snoc]
        refine ih (p ++ [x]) ?_ ?_ ?_ ?_
        · rw [List.nodup_append]
          exact ⟨hn, by simp, fun a ha b hb => by simp at hb; subst hb; exact fun e => hx.2 (e ▸ ha)⟩
        · intro y hy
          rcases List.mem_append.mp hy with hy | hy
          · exact hsub y hy
          · simp at hy; subst hy; exact hx.1
        · simp; omega
        · intro y hy
          rw [done_snoc]
          unfold keyIn
          rw [at_set (by omega), hf]
          by_cases e : y = x
          · subst e; simp
          · rw [if_neg e, hst y hy]; simp [e]
      · rw [if_neg (by simpa using hf)]
        refine ext_bad (x := x) hs (by simp) ?_ j
        rw [done_snoc]
        unfold keyIn
        rw [at_set (by omega), if_pos rfl]
        exact hf
    rw [List.map_congr_left step, sum_ite (fun x => cnt n D r (keyIn n D (done n D s p) x)) (fun x => decide (free n D (done n D s p) x = r.mxa x))]
    congr 2
    unfold changed fit
    rw [List.filter_filter, List.filter_filter]
    refine List.filter_congr fun x hx => ?_
    rw [List.mem_range] at hx
    rw [hst x hx]
    by_cases hxp : x ∈ p
    · simp [hxp]
    · simp [hxp, Bool.and_comm]
/-- by all orders -/
theorem count_orders (hr : r.length = n) (hs : s.length = n) (h : Le n r s) : ((orders (changed n r s) (changed n r s).length).filter fun q => decide (done n D s q = r)).length = cnt n D r s := by
  have e := orders_ext (changed n r s) (changed n r s).length 0
  rw [Nat.zero_add] at e
  rw [e]
  show ((([[]] : List (List Nat)).flatMap (ext (changed n r s) (changed n r s).length)).filter _).length = _
  rw [List.flatMap_cons, List.flatMap_nil, List.append_nil]
  have := ext_good (n := n) (D := D) hr hs h (changed n r s).length [] (by simp) (by simp) (by simp) (fun x _ => by simp [done])
  simpa [done] using this
end
end Mx
namespace Mx
/-! ### the order by numbers -/
section
variable {n : Nat} {D : Doors} {r s : State}
def byNum (r : State) (x y : Nat) : Prop := r.mxa x < r.mxa y ∨ (r.mxa x = r.mxa y ∧ x ≤ y)
theorem order_done (h : House n D) (hr : Rest n D r) (hs : s.length = n) (hle : Le n r s) {o : List Nat} (hn : o.Nodup) (hm : ∀ x, x ∈ o ↔ x ∈ changed n r s) (ho : o.Pairwise (byNum r)) :
    ∀ (u p : List Nat), o = p ++ u → (∀ x, x < n → (done n D s p).mxa x = if x ∈ p then r.mxa x else s.mxa x) → done n D s o = r := by
  intro u
  induction u with
  | nil =>
    intro p e hp
    rw [List.append_nil] at e
    subst e
    refine ext_at (by rw [done_len, hs]) hr.len fun x hx => ?_
    rw [hp x hx]
    split
    · rfl
    · rename_i hxp
      have h1 := hle x hx
      have h2 : ¬ r.mxa x < s.mxa x := fun z => hxp ((hm x).mpr (mem_changed.mpr ⟨hx, z⟩))
      omega
  | cons x u ih =>
    intro p e hp
    refine ih (p ++ [x]) (by rw [e]; simp) fun y hy => ?_
    have hxo : x ∈ o := by rw [e]; simp
    have hxc := mem_changed.mp ((hm x).mp hxo)
    have hlen : (done n D s p).length = n := by rw [done_len, hs]
    have hxp : x ∉ p := fun z => by
      rw [e] at hn
      exact (List.nodup_append.mp hn).2.2 x z x (by simp) rfl
    have key : ∀ y, adj D x y = true → (done n D s p).mxa y = r.mxa y ∨ ((done n D s p).mxa y > r.mxa x ∧ r.mxa y > r.mxa x) := fun y ay => by
      have hyn := (h.adj_lt ay).2.1
      have hne : r.mxa y ≠ r.mxa x := by
        have q := free_ne h (s := r) ay
        rw [hr.ok x hxc.1] at q
        exact q
      rw [hp y hyn]
      by_cases hyp : y ∈ p
      · rw [if_pos hyp]; exact .inl rfl
      · rw [if_neg hyp]
        by_cases hyo : y ∈ o
        · have hyu : y ∈ u := by
            rw [e] at hyo
            rcases List.mem_append.mp hyo with z | z
            · exact absurd z hyp
            · rcases List.mem_cons.mp z with z | z
              · exact absurd z.symm (h.adj_lt ay).2.2
              · exact z
          have hb : byNum r x y := by
            rw [e] at ho
            exact (List.pairwise_cons.mp (List.pairwise_append.mp ho).2.1).1 y hyu
          have := (mem_changed.mp ((hm y).mp hyo)).2
          unfold byNum at hb
          right; omega
        · have h1 := hle y hyn
          have h2 : ¬ r.mxa y < s.mxa y := fun z => hyo ((hm y).mpr (mem_changed.mpr ⟨hyn, z⟩))
          left; omega
    have hf : free n D (done n D s p) x = r.mxa x := by
      refine free_eq h (fun y ay z => ?_) fun k hk => ?_
      · have hne := free_ne h (s := r) ay
        rw [hr.ok x hxc.1] at hne
        rcases key y ay with q | q
        · rw [q] at z; exact hne z
        · omega
      · rw [← hr.ok x hxc.1] at hk
        obtain ⟨y, ay, ey⟩ := free_has h hk
        rw [hr.ok x hxc.1] at hk
        refine ⟨y, ay, ?_⟩
        rcases key y ay with q | q
        · omega
        · omega
    rw [done_snoc]
    unfold keyIn
    rw [at_set (by omega), hf]
    by_cases e1 : y = x
    · subst e1; simp
    · rw [if_neg e1, hp y hy]; simp [e1]
theorem order_ok (h : House n D) (hr : Rest n D r) (hs : s.length = n) (hle : Le n r s) {o : List Nat} (hp : o.Perm (changed n r s)) (ho : o.Pairwise (byNum r)) : done n D s o = r :=
  order_done h hr hs hle (hp.nodup_iff.mpr changed_nodup) (fun x => hp.mem_iff) ho o [] rfl fun x _ => by simp [done]
theorem orders_mem {ch : List Nat} : ∀ (k : Nat) (q : List Nat), q.length = k → q.Nodup → (∀ x ∈ q, x ∈ ch) → q ∈ orders ch k
  | 0, q, hl, _, _ => by
    have : q = [] := List.length_eq_zero_iff.mp hl
    subst this
    simp [orders]
  | k + 1, q, hl, hn, hs => by
    have hne : q ≠ [] := fun z => by rw [z] at hl; cases hl
    have e := List.dropLast_concat_getLast hne
    rw [← e] at hn hs ⊢
    have hl' : q.dropLast.length = k := by rw [List.length_dropLast]; omega
    have h1 := List.nodup_append.mp hn
    show _ ∈ (orders ch k).flatMap fun p => (ch.filter fun x => decide (x ∉ p)).map fun x => p ++ [x]
    refine List.mem_flatMap.mpr ⟨q.dropLast, orders_mem k _ hl' h1.1 fun x hx => hs x (List.mem_append_left _ hx), List.mem_map.mpr ⟨q.getLast hne, List.mem_filter.mpr ⟨hs _ (by simp), ?_⟩, rfl⟩⟩
    simp only [decide_eq_true_eq]
    exact fun z => h1.2.2 _ z _ (by simp) rfl
theorem order_in {o : List Nat} (hp : o.Perm (changed n r s)) : o ∈ orders (changed n r s) (changed n r s).length :=
  orders_mem _ o hp.length_eq (hp.nodup_iff.mpr changed_nodup) fun _ hx => hp.mem_iff.mp hx
theorem orders_len (ch : List Nat) : ∀ (k : Nat) (q : List Nat), q ∈ orders ch k → q.length = k ∧ ∀ x ∈ q, x ∈ ch
  | 0, q, h => by simp [orders] at h; subst h; simp
  | k + 1, q, h => by
    simp only [orders, List.mem_flatMap, List.mem_map, List.mem_filter] at h
    obtain ⟨p, hp, x, ⟨hx, _⟩, rfl⟩ := h
    obtain ⟨h1, h2⟩ := orders_len ch k p hp
    refine ⟨by simp [h1], fun y hy => ?_⟩
    rcases List.mem_append.mp hy with hy | hy
    · exact h2 y hy
    · simp at hy; subst hy; exact hx
theorem flat_le {f : List Nat → List (List Nat)} {c : Nat} : ∀ l : List (List Nat), (∀ p ∈ l, (f p).length ≤ c) → (l.flatMap f).length ≤ l.length * c
  | [], _ => by simp
  | a :: l, h => by
    have h1 := h a List.mem_cons_self
    have h2 := flat_le l fun p hp => h p (List.mem_cons_of_mem _ hp)
    rw [List.flatMap_cons, List.length_append, List.length_cons, Nat.add_mul, Nat.one_mul]
    omega
theorem orders_count (ch : List Nat) : ∀ k : Nat, (orders ch k).length ≤ ch.length ^ k
  | 0 => by simp [orders]
  | k + 1 => by
    have ih := orders_count ch k
    have h := flat_le (f := fun p => (ch.filter fun x => decide (x ∉ p)).map fun x => p ++ [x]) (c := ch.length) (orders ch k) fun p _ => by
      rw [List.length_map]; exact List.length_filter_le _ _
    rw [Nat.pow_succ]
    exact Nat.le_trans h (Nat.mul_le_mul_right _ ih)
end

/-! ### largest sets -/
def grow (rows : List (List Nat)) (found : List (List Nat)) (room : Nat) : List (List Nat) :=
  found ++ (found.filter fun some => !((rows.getD room []).any fun o => decide (o ∈ some))).map fun some => some ++ [room]
def founds (rows : List (List Nat)) (rooms : List Nat) : List (List Nat) := rooms.foldl (grow rows) [[]]
def isLargest (rows : List (List Nat)) (rooms some : List Nat) : Bool := rooms.all fun room => decide (room ∈ some) || (rows.getD room []).any fun o => decide (o ∈ some)
structure Indep (D : Doors) (pre some : List Nat) : Prop where
  sub : some.Sublist pre
  no : ∀ x ∈ some, ∀ y ∈ some, adj D x y = false
theorem founds_snoc {rows : List (List Nat)} {pre : List Nat} {x : Nat} : founds rows (pre ++ [x]) = grow rows (founds rows pre) x := by simp [founds]
section
variable {n : Nat} {D : Doors} {rows : List (List Nat)}
theorem grow_len (found : List (List Nat)) (x : Nat) : (grow rows found x).length ≤ 2 * found.length := by
  unfold grow
  rw [List.length_append, List.length_map]
  have := List.length_filter_le (fun some => !((rows.getD x []).any fun o => decide (o ∈ some))) found
  omega
theorem founds_len (pre : List Nat) : (founds rows pre).length ≤ 2 ^ pre.length := by
  unfold founds
  suffices h : ∀ (l : List Nat) (f : List (List Nat)), (l.foldl (grow rows) f).length ≤ 2 ^ l.length * f.length by
    have := h pre [[]]; simpa using this
  intro l
  induction l with
  | nil => intro f; simp
  | cons a l ih =>
    intro f
    have h1 := ih (grow rows f a)
    have h2 := grow_len (rows := rows) f a
    rw [List.foldl_cons, List.length_cons, Nat.pow_succ]
    refine Nat.le_trans h1 ?_
    rw [Nat.mul_assoc]
    exact Nat.mul_le_mul_left _ h2
theorem founds_head (pre : List Nat) : ∃ l, founds rows pre = [] :: l := by
  unfold founds
  suffices h : ∀ (l : List Nat) (f : List (List Nat)), (∃ t, f = [] :: t) → ∃ t, l.foldl (grow rows) f = [] :: t from h pre _ ⟨[], rfl⟩
  intro l
  induction l with
  | nil => intro f h; exact h
  | cons a l ih =>
    rintro f ⟨t, rfl⟩
    exact ih _ ⟨_, rfl⟩
theorem founds_indep (h : House n D) (r : RowsOk n D rows) : ∀ (u pre : List Nat), (∀ x ∈ pre ++ u, x < n) → (∀ some ∈ founds rows pre, Indep D pre some) → ∀ some ∈ founds rows (pre ++ u), Indep D (pre ++ u) some := by
  intro u
  induction u with
  | nil => intro pre _ hp; simpa using hp
  | cons x u ih =>
    intro pre hlt hp
    have e : pre ++ x :: u = (pre ++ [x]) ++ u := by simp
    rw [e] at hlt ⊢
    refine ih _ hlt fun some hs => ?_
    rw [founds_snoc] at hs
    have hx : x < n := hlt x (by simp)
    rcases List.mem_append.mp hs with hs | hs
    · have := hp some hs
      exact ⟨this.sub.trans (List.sublist_append_left _ _), this.no⟩
    · simp only [List.mem_map, List.mem_filter] at hs
      obtain ⟨q, ⟨hq, hno⟩, rfl⟩ := hs
      have hi := hp q hq
      have no : ∀ y ∈ q, adj D x y = false := fun y hy => by
        cases e : adj D x y with
        | false => rfl
        | true =>
          have h1 := (r.mem x hx y).mpr e
          simp only [Bool.not_eq_true', List.any_eq_false, decide_eq_true_eq] at hno
          exact absurd hy (hno y h1)
      refine ⟨hi.sub.append (List.Sublist.refl _), fun a ha b hb => ?_⟩
      have irr : adj D x x = false := by
        cases e : adj D x x with
        | false => rfl
        | true => exact absurd rfl (h.adj_lt e).2.2
      rcases List.mem_append.mp ha with ha' | ha' <;> rcases List.mem_append.mp hb with hb' | hb'
      · exact hi.no a ha' b hb'
      · rw [List.mem_singleton.mp hb', adj_comm]; exact no a ha'
      · rw [List.mem_singleton.mp ha']; exact no b hb'
      · rw [List.mem_singleton.mp ha', List.mem_singleton.mp hb']; exact irr
/-- what stands in largest_in's list -/
structure Lset (D : Doors) (rooms some : List Nat) : Prop where
  ind : Indep D rooms some
  big : ∀ x ∈ rooms, x ∈ some ∨ ∃ y ∈ some, adj D x y = true
def largest (rows : List (List Nat)) (rooms : List Nat) : List (List Nat) := (founds rows rooms).filter (isLargest rows rooms)
theorem largest_ok (h : House n D) (r : RowsOk n D rows) {rooms some : List Nat} (hlt : ∀ x ∈ rooms, x < n) (hs : some ∈ largest rows rooms) : Lset D rooms some := by
  unfold largest at hs
  rw [List.mem_filter] at hs
  refine ⟨?_, fun x hx => ?_⟩
  · have := founds_indep h r rooms [] (by simpa using hlt) (fun s hs => by simp [founds] at hs; subst hs; exact ⟨List.Sublist.refl _, by simp⟩) some (by simpa using hs.1)
    simpa using this
  · have h2 := hs.2
    unfold isLargest at h2
    rw [List.all_eq_true] at h2
    have h3 := h2 x hx
    simp only [Bool.or_eq_true, decide_eq_true_eq, List.any_eq_true] at h3
    rcases h3 with h3 | ⟨y, h3, h4⟩
    · exact .inl h3
    · exact .inr ⟨y, h4, (r.mem x (hlt x hx) y).mp h3⟩
theorem largest_len (rooms : List Nat) (hne : rooms ≠ []) : (largest rows rooms).length + 1 ≤ 2 ^ rooms.length := by
  obtain ⟨l, e⟩ := founds_head (rows := rows) rooms
  have h1 := founds_len (rows := rows) rooms
  have hf : isLargest rows rooms [] = false := by
    cases rooms with
    | nil => exact absurd rfl hne
    | cons a t => simp [isLargest]
  unfold largest
  rw [e] at h1 ⊢
  rw [List.filter_cons_of_neg (by rw [hf]; simp)]
  have := List.length_filter_le (isLargest rows rooms) l
  rw [List.length_cons] at h1
  omega
theorem Lset.ne {rooms some : List Nat} (l : Lset D rooms some) (hne : rooms ≠ []) : some ≠ [] := fun e => by
  subst e
  cases rooms with
  | nil => exact hne rfl
  | cons a t => simpa using l.big a List.mem_cons_self
end
/-- a bound of the numbers of rests -/
def lim : Nat → Nat
  | 0 => 1
  | k + 1 => (2 ^ (k + 1) - 1) * lim k
theorem lim_pos : ∀ k, 1 ≤ lim k
  | 0 => Nat.le_refl _
  | k + 1 => by
    have h1 := lim_pos k
    have h2 : 2 ≤ 2 ^ (k + 1) := by
      rw [Nat.pow_succ]
      have := Nat.one_le_two_pow (n := k)
      omega
    show 1 ≤ (2 ^ (k + 1) - 1) * lim k
    exact Nat.mul_pos (by omega) h1
theorem lim_mono : ∀ {j k : Nat}, j ≤ k → lim j ≤ lim k := by
  intro j k h
  induction h with
  | refl => exact Nat.le_refl _
  | @step m h ih =>
    refine Nat.le_trans ih ?_
    show lim m ≤ (2 ^ (m + 1) - 1) * lim m
    have h2 : 2 ≤ 2 ^ (m + 1) := by
      rw [Nat.pow_succ]
      have := Nat.one_le_two_pow (n := m)
      omega
    exact Nat.le_mul_of_pos_left _ (by omega)
theorem lim6 : lim 6 = 615195 := by decide

/-! ### rests below, room by room -/
/-- what a dict of below_in tells: its pairs (room, number) -/
structure Bel (D : Doors) (s : State) (rooms : List Nat) (level : Nat) (ps : List (Nat × Nat)) : Prop where
  nd : (ps.map (·.1)).Nodup
  keys : ∀ x, x ∈ ps.map (·.1) ↔ x ∈ rooms
  low : ∀ p ∈ ps, level ≤ p.2 ∧ p.2 ≤ s.mxa p.1
  apart : ∀ p ∈ ps, ∀ q ∈ ps, adj D p.1 q.1 = true → p.2 ≠ q.2
  has : ∀ p ∈ ps, ∀ j, level ≤ j → j < p.2 → ∃ q ∈ ps, adj D p.1 q.1 = true ∧ q.2 = j
theorem Bel.nil {D : Doors} {s : State} {level : Nat} : Bel D s [] level [] := ⟨by simp, by simp, by simp, by simp, by simp⟩
theorem Bel.step {D : Doors} {s : State} {rooms some : List Nat} {level : Nat} {ps : List (Nat × Nat)} (hn : rooms.Nodup) (l : Lset D rooms some) (hs : ∀ x ∈ some, level ≤ s.mxa x)
    (b : Bel D s (rooms.filter fun x => decide (x ∉ some)) (level + 1) ps) : Bel D s rooms level (some.map (fun x => (x, level)) ++ ps) := by
  have sub : ∀ x ∈ some, x ∈ rooms := fun x hx => l.ind.sub.subset hx
  have ek : (some.map (fun x => (x, level)) ++ ps).map (·.1) = some ++ ps.map (·.1) := by
    rw [List.map_append, List.map_map]
    congr 1
    exact List.map_id' some
  have dis : ∀ x ∈ ps.map (·.1), x ∈ rooms ∧ x ∉ some := fun x hx => by
    have := (b.keys x).mp hx
    simpa using this
  have cs : ∀ p, p ∈ some.map (fun x => (x, level)) ++ ps → (p.1 ∈ some ∧ p.2 = level) ∨ (p ∈ ps) := fun p hp => by
    rcases List.mem_append.mp hp with hp | hp
    · obtain ⟨x, hx, e⟩ := List.mem_map.mp hp
      subst e
      exact .inl ⟨hx, rfl⟩
    · exact .inr hp
  refine ⟨?_, fun x => ?_, fun p hp => ?_, fun p hp q hq a => ?_, fun p hp j h1 h2 => ?_⟩
  · rw [ek, List.nodup_append]
    exact ⟨l.ind.sub.nodup hn, b.nd, fun x hx y hy e => (dis y hy).2 (e ▸ hx)⟩
  · rw [ek, List.mem_append]
    constructor
    · rintro (z | z)
      · exact sub x z
      · exact (dis x z).1
    · intro hx
      by_cases z : x ∈ some
      · exact .inl z
      · exact .inr ((b.keys x).mpr (by simpa using ⟨hx, z⟩))
  · rcases cs p hp with ⟨z1, z2⟩ | z
    · exact ⟨by omega, by rw [z2]; exact hs _ z1⟩
    · have := b.low p z
      exact ⟨by omega, this.2⟩
  · rcases cs p hp with ⟨z1, z2⟩ | z <;> rcases cs q hq with ⟨y1, y2⟩ | y
    · rw [l.ind.no _ z1 _ y1] at a; cases a
    · have := (b.low q y).1; omega
    · have := (b.low p z).1; omega
    · exact b.apart p z q y a
  · rcases cs p hp with ⟨z1, z2⟩ | z
    · omega
    · by_cases hj : j = level
      · have hp1 := dis p.1 (List.mem_map_of_mem z)
        rcases l.big p.1 hp1.1 with q | ⟨y, hy, ay⟩
        · exact absurd q hp1.2
        · exact ⟨(y, level), List.mem_append_left _ (List.mem_map.mpr ⟨y, hy, rfl⟩), ay, hj.symm⟩
      · obtain ⟨q, hq, aq, eq⟩ := b.has p z j (by omega) h2
        exact ⟨q, List.mem_append_right _ hq, aq, eq⟩
/-- the state that a dict tells -/
def told (n : Nat) (ps : List (Nat × Nat)) : State := (List.range n).map fun x => (ps.lookup x).getD 0
theorem told_at {n : Nat} {ps : List (Nat × Nat)} {x : Nat} (hx : x < n) : (told n ps).mxa x = (ps.lookup x).getD 0 := by
  simp [told, List.mxa, List.getD_eq_getElem?_getD, hx]
theorem lookup_mem : ∀ {ps : List (Nat × Nat)} {x : Nat}, x ∈ ps.map (·.1) → ∃ v, ps.lookup x = some v ∧ (x, v) ∈ ps
  | [], x, h => by simp at h
  | (a, b) :: ps, x, h => by
    by_cases e : x = a
    · subst e
      exact ⟨b, by simp [List.lookup], by simp⟩
    · obtain ⟨v, h1, h2⟩ := lookup_mem (ps := ps) (x := x) (by simpa [e] using h)
      refine ⟨v, ?_, List.mem_cons_of_mem _ h2⟩
      have : (x == a) = false := by simpa using e
      simp [List.lookup, this, h1]
theorem nd_val : ∀ {ps : List (Nat × Nat)} {x u v : Nat}, (ps.map (·.1)).Nodup → (x, u) ∈ ps → (x, v) ∈ ps → u = v
  | (a, b) :: ps, x, u, v, hn, h1, h2 => by
    rw [List.map_cons, List.nodup_cons] at hn
    rcases List.mem_cons.mp h1 with e1 | h1 <;> rcases List.mem_cons.mp h2 with e2 | h2
    · cases e1; cases e2; rfl
    · cases e1; exact absurd (List.mem_map_of_mem (f := (·.1)) h2) hn.1
    · cases e2; exact absurd (List.mem_map_of_mem (f := (·.1)) h1) hn.1
    · exact nd_val hn.2 h1 h2
theorem Bel.rest {n : Nat} {D : Doors} {s : State} {ps : List (Nat × Nat)} (h : House n D) (b : Bel D s (List.range n) 0 ps) : Rest n D (told n ps) ∧ Le n (told n ps) s := by
  have val : ∀ x, x < n → (x, (told n ps).mxa x) ∈ ps := fun x hx => by
    obtain ⟨v, h1, h2⟩ := lookup_mem ((b.keys x).mpr (List.mem_range.mpr hx))
    rw [told_at hx, h1]
    exact h2
  refine ⟨⟨by simp [told], fun x hx => free_eq h (fun y ay z => ?_) fun k hk => ?_⟩, fun x hx => (b.low _ (val x hx)).2⟩
  · have hy := (h.adj_lt ay).2.1
    exact b.apart _ (val x hx) _ (val y hy) ay z.symm
  · obtain ⟨q, hq, aq, eq⟩ := b.has _ (val x hx) k (Nat.zero_le _) hk
    have hqn := (h.adj_lt aq).2.1
    exact ⟨q.1, aq, by rw [← eq]; exact nd_val b.nd (val q.1 hqn) hq⟩
end Mx
/-! rules of our own: enumerate(tuple) -/
namespace MxR
open PySem PySem.Spec PyProof.Rows L2 RZ
/-! ### enumerate(tuple) -/
theorem meets_enum1 {v : Value} {o : Obj} {H : Heap → Prop} (B : Begins v o H) :
    Meets (Builtin.«enumerate.__new__» ⟨[.type "enumerate", v], []⟩) (fun _ R s => H s.heap ∧
      R (.ok (.ret (.ref (s.heap.push o).objs.size))) { s with heap := (s.heap.push o).push { cls := .type "enumerate", data := .fields #[.none, .bool false, .ref s.heap.objs.size, rawInt 0, .none, .none] } }) :=
  .of_wp fun prog w A R s h => by
    obtain ⟨hp, g, d, tk, os⟩ := s; obtain ⟨h1, h⟩ := h
    have hsub := sub_enumerate
    have q1 : ∀ {A' : Around} {E : Value → Shared → Prop} {Q : Value → Shared → Prop}, Q (.ref hp.objs.size) ⟨hp.push o, g, d, tk, os⟩ → wpAny (model prog w) A' (pyIter v) Q E ⟨hp, g, d, tk, os⟩ :=
      fun q => B.iter prog w _ _ ⟨hp, g, d, tk, os⟩ _ h1 q
    wp_walk using q1
    refine wpAny_stack_any fun st => wpAny_pure ?_
    split
    · rename_i c _ _ _ _ _
      cases (c == Value.type "enumerate")
      · wp_walk using q1
        exact ⟨_, rfl, h⟩
      · wp_walk using q1
        exact ⟨_, rfl, h⟩
    · wp_walk using q1
      exact ⟨_, rfl, h⟩
section
variable {prog : Program} {w : World} {A : Around} {E : Value → Shared → Prop} {s : Shared}
theorem enum1_begins {v : Value} {o : Obj} {H : Heap → Prop} {Q : Value → Shared → Prop} (B : Begins v o H) (h1 : H s.heap)
    (h : ∀ h', IsEnum h' (s.heap.objs.size + 1) s.heap.objs.size 0 .none → h'.get? s.heap.objs.size = some o → h'.objs.size = s.heap.objs.size + 2 →
      (∀ b o, s.heap.get? b = some o → h'.get? b = some o) → Q (.ref (s.heap.objs.size + 1)) { s with heap := h' }) :
    wpAny (model prog w) A (call (.type "enumerate") [v]) Q E s := by
  refine callType_new F.called_enumerate (by decide) (F.typeCall_enumerate_1 _) (F.newCall_enumerate_1 _) (fun obj => F.args_object_init_2 obj _) F.entry_enumerate_new
    (meets_enum1 B) ⟨h1, ?_⟩
  have hz : (s.heap.push o).objs.size = s.heap.objs.size + 1 := Heap.size_push ..
  show _ ∧ _
  rw [hz]
  have he : IsEnum ((s.heap.push o).push { cls := .type "enumerate", data := .fields #[.none, .bool false, .ref s.heap.objs.size, rawInt 0, .none, .none] }) (s.heap.objs.size + 1) s.heap.objs.size 0 .none := by
    have := Heap.get?_push_size (s.heap.push o) (o := { cls := .type "enumerate", data := .fields #[.none, .bool false, .ref s.heap.objs.size, rawInt 0, .none, .none] }) rfl
    rw [hz] at this; exact this
  refine ⟨⟨_, he, rfl⟩, h _ he (Heap.get?_push_of_some _ (Heap.get?_push_size _ B.free)) (by rw [Heap.size_push, hz]) fun b o x => Heap.get?_push_of_some _ (Heap.get?_push_of_some _ x)⟩
end
/-- the tuple at a, each item in a new pair -/
def IteT (K : PySem.W.Frag) (a : Addr) : It :=
  ⟨fun i H => ∃ (xs : List V) (x : V), SqT K H a xs ∧ xs[i]? = some x, fun i H v H' => ∃ T x, v = .ref T ∧ H T = none ∧ H' = upd H T (.tup [.int (i : Nat), x]) ∧ ∀ xs, SqT K H a xs → xs[i]? = some x, fun i H => ∃ xs : List V, SqT K H a xs ∧ xs.length ≤ i⟩
theorem turn_enumT {P : Program} {w : World} {K : PySem.W.Frag} {elts : List Expr} {kk : Nat} {tpos : Pos} (a e it : Addr) :
    Turn P w K (.Tuple elts kk tpos) (IteT K a) [e, it] e (fun i h => (∃ old, IsEnum h e it ((i : Nat) : Int) old) ∧ h.IsTupleIter it a i ∧ e ≠ it ∧ a ≠ it ∧ a ≠ e) where
  mem := by simp
  obj := fun i h st b hb => by
    obtain ⟨⟨old, he⟩, ⟨o, ho, hc, hd⟩, _⟩ := st
    have e' : b = e ∨ b = it := by simpa using hb
    rcases e' with z | z
    · rw [z]; exact ⟨_, he, fun v q => nomatch q⟩
    · rw [z]; exact ⟨o, ho, fun v q => by rw [hd] at q; cases q⟩
  keep := fun i h h' st k => let ⟨⟨old, he⟩, hi, hne⟩ := st; ⟨⟨old, k e (by simp) _ he⟩, hi.at fun o q => k it (by simp) o q, hne⟩
  item := by
    intro X hP hw hK hc i pins s σ H E I hf st hg
    subst hP hw hK
    obtain ⟨⟨old, he⟩, hit, hne, hai, hae⟩ := st
    obtain ⟨xs, x, hq, hx⟩ := hg
    obtain ⟨its, rv, p, hz⟩ := I.tuple hq
    obtain ⟨u, hu, ru⟩ := rv.get hx
    have hel : e < s.heap.objs.size := Heap.lt_size he
    have hil : it < s.heap.objs.size := by obtain ⟨_, q, _⟩ := hit; exact Heap.lt_size q
    have hlt : i < its.toArray.size := by
      rw [List.size_toArray]
      exact (List.getElem?_eq_some_iff.mp hu).1
    have D := Draws.tuple (prog := X.prog) (w := X.w) (A := X.A.in1) (I.ok.hd hc) it a hai its.toArray
    have hea : e ∉ [it, a] := by simp [hne, Ne.symm hae]
    refine wpAny_pyNext_enum_itemC D he ⟨hit, p⟩ hlt hne hea fun x' h' tk hP ho hst' hT hsz hk => ?_
    have ex : x' = u := by
      rw [List.getElem?_toArray] at hP
      exact Option.some.inj (hP.symm.trans hu)
    subst ex
    refine ⟨_, rfl, wpAny_letOwnedTupleGo_enum (s := { s with heap := h', toks := tk + 1 }) ho fun h'' he' sb => ?_⟩
    have hT2 : h''.get? s.heap.objs.size = some { cls := .type "tuple", data := .seq #[.int i tk, x'] } := (sb.2 _ (Nat.ne_of_gt hel)).trans hT
    have new : ObjOk X.prog X.w (upd H s.heap.objs.size (.tup [.int (i : Nat), x])) h'' s.heap.objs.size (.tup [.int (i : Nat), x]) :=
      ⟨by show 2 ≤ sizeLine; decide, [.int i tk, x'], .cons ⟨_, rfl⟩ (.cons ru .nil), ⟨_, hT2, rfl, _, rfl⟩⟩
    have I1 : Inv X pins σ (upd H s.heap.objs.size (.tup [.int (i : Nat), x])) { s with heap := h'', toks := tk + 1 } :=
      I.turnedNew (ch := [e, it]) (fun b ob hb q => (sb.2 b (fun z => hb (by simp [z]))).trans (hk b ob (fun z => hb (by simp [z])) (fun z => hb (by simp [z])) q)) hf (Nat.le_refl _) new
    refine ⟨.ref s.heap.objs.size, _, I1, rfl, ⟨_, x, rfl, I.hok.fresh (Nat.le_refl _), rfl, fun ys hy => by rw [I.tuple_inj hy hq]; exact hx⟩, ⟨⟨x', ?_⟩, hst'.1.at fun o q => (sb.2 it (Ne.symm hne)).trans q, hne, hai, hae⟩, fun b hb => ?_⟩
    · have e1 : ((i + 1 : Nat) : Int) = (i : Int) + 1 := by omega
      rw [e1]; exact he'
    · have hb' : b < s.heap.objs.size := by
        have e' : b = e ∨ b = it := by simpa using hb
        rcases e' with z | z
        · rw [z]; exact hel
        · rw [z]; exact hil
      rw [upd_ne (Nat.ne_of_lt hb')]
      exact (hf b hb).1
  done := by
    intro X hP hw hK hc i pins s σ H E I hf st hg
    subst hP hw hK
    obtain ⟨⟨old, he⟩, hit, hne, hai, hae⟩ := st
    obtain ⟨xs, hq, hx⟩ := hg
    obtain ⟨its, rv, p, hz⟩ := I.tuple hq
    obtain ⟨f0, f1, f2, f3, f4, f5⟩ := hf it (by simp)
    have hl := rv.length
    -- the iterator's place may lie at the end alone
    have D : Draws X.prog X.w X.A.in1 it [it, a] i (fun _ _ => True) (fun j h => j = i ∧ h.IsTupleIter it a i ∧ h.IsTuple a its.toArray) := by
      refine ⟨fun _ _ st => let ⟨o, ho, _⟩ := st.2.1; ⟨o, ho⟩, fun j h h' st hk => ⟨st.1, st.2.1.at fun o e => hk it (by simp) o e, st.2.2.at fun o e => hk a (by simp) o e⟩, fun j s Q E hj st hQ => ?_, fun s Q E st hE => ?_⟩
      · have := st.1; omega
      · exact wpAny_nextOf_tuple_end (I.ok.hd hc) st.2.1 st.2.2 (by simp; omega) hE
    exact wpAny_pyNext_enum_endD D he ⟨rfl, hit, p⟩ fun h' eb => ⟨rfl, I.turned (t' := s.toks) (fun b o hb q => eb b o hb q) f0 f1 f3 f4 f5⟩
  self := fun A i s Q E st h => let ⟨⟨_, he⟩, _⟩ := st; wpAny_pyIter_enum he h
def iEnumT (K : PySem.W.Frag) (ta : TA) : TI := fun σ H R => ta σ H fun vs H1 => ∃ a xs, vs = [.ref a] ∧ SqT K H1 a xs ∧ R (IteT K a) H1
theorem pi_enumT {X : Cx} {e : Expr} {ta : TA} {p pos tpos : Pos} {elts : List Expr} {kk : Nat} (hg : Gl X "enumerate") (hm : X.mg "enumerate" = none) (ha : PA X [e] ta) (hs : starEach [e] X.env = [(false, eval e X.env)] := by rfl) :
    PI X (.Tuple elts kk tpos) (.Call (.Name "enumerate" p) [e] [] pos) (iEnumT X.K ta) := by
  refine ⟨fun pins s σ H R I h => ?_⟩
  refine Call_ (ld_blt I hg hm boot_enumerate (PyProof.Rows.callWith_type1 (thn (ha.run pos pins s σ H _ I h) fun us s1 ⟨vs, H1, I1, r1, q1⟩ => ?_) hs rfl))
  obtain ⟨a, xs, ex, hq, q⟩ := q1
  subst ex
  cases r1 with
  | cons r rr =>
    cases rr
    cases r
    obtain ⟨its, rv, p', hz⟩ := I1.tuple hq
    have hlt : a < s1.heap.objs.size := by obtain ⟨o, ho, _⟩ := id p'; exact Heap.lt_size ho
    refine enum1_begins (begins_tuple a its.toArray) p' fun h' he hit hsz hk => wpAny_pyIter_enum he ?_
    have I2 : Inv X pins σ H1 { s1 with heap := h' } := I1.kept (t' := s1.toks) hk
    refine ⟨s1.heap.objs.size + 1, [s1.heap.objs.size + 1, s1.heap.objs.size], _, _, H1, rfl, I2, turn_enumT a (s1.heap.objs.size + 1) s1.heap.objs.size, ⟨⟨.none, he⟩, ⟨_, hit, rfl, rfl⟩, Nat.succ_ne_self _, Nat.ne_of_lt hlt, Nat.ne_of_lt (Nat.lt_succ_of_lt hlt)⟩, fun b hb => ?_, q⟩
    have e' : b = s1.heap.objs.size + 1 ∨ b = s1.heap.objs.size := by simpa using hb
    have hle : s1.heap.objs.size ≤ b := by
      rcases e' with z | z
      · rw [z]; exact Nat.le_add_right _ _
      · rw [z]; exact Nat.le_refl _
    exact I1.fpOk hle (I1.hok.fresh hle)
/-- the loops' form: over enumerate(t), t a tuple that stands still -/
theorem for_enumT {K : PySem.W.Frag} {a : Addr} {xs : List V} {g : TG} {tb : TS} {D : Ends} {σ : L2.St} {H : Hp} (Pv : Nat → L2.St → Hp → Prop) (h0 : Pv 0 σ H) (hq : ∀ i σ H, Pv i σ H → SqT K H a xs)
    (hs : ∀ i x T σ H, xs[i]? = some x → Pv i σ H → H T = none → g (.ref T) σ (upd H T (.tup [.int (i : Nat), x])) fun σ2 H2 => tb { nx := fun σ H => Pv (i + 1) σ H, rt := D.rt, bk := D.nx, ct := fun σ H => Pv (i + 1) σ H } σ2 H2)
    (hd : ∀ σ H, Pv xs.length σ H → D.nx σ H) :
    ∃ W : Nat → Nat → L2.St → Hp → Prop, (∃ m, W 0 m σ H) ∧ ∀ i m σ H, W i m σ H →
      ((IteT K a).stop i H ∧ D.nx σ H) ∨ ((IteT K a).go i H ∧ ∃ Nx : L2.St → Hp → Prop, (∀ σ' H', Nx σ' H' → ∃ m', m' < m ∧ W (i + 1) m' σ' H') ∧ ∀ x H', (IteT K a).yld i H x H' → g x σ H' fun σ2 H2 => tb { nx := Nx, rt := D.rt, bk := D.nx, ct := Nx } σ2 H2) := by
  refine ⟨fun i m σ H => m = xs.length - i ∧ i ≤ xs.length ∧ Pv i σ H, ⟨xs.length, by simp, Nat.zero_le _, h0⟩, ?_⟩
  rintro i m σ H ⟨rfl, hi, p⟩
  have q := hq i σ H p
  by_cases hlt : i < xs.length
  · refine .inr ⟨⟨xs, xs[i], q, by simp [hlt]⟩, fun σ' H' => Pv (i + 1) σ' H', fun σ' H' p' => ⟨xs.length - (i + 1), by omega, rfl, hlt, p'⟩, fun x H' y => ?_⟩
    obtain ⟨T, x', e1, e2, e3, e4⟩ := y
    subst e1 e3
    exact hs i x' T σ H (e4 xs q) p e2
  · have e : i = xs.length := by omega
    subst e
    exact .inl ⟨⟨xs, q, Nat.le_refl _⟩, hd σ H p⟩
theorem lc_enumT {K : PySem.W.Frag} {a : Addr} {xs : List V} {g : TG} {tt : TT} {te : TE} {vs : List Nat} {σ : L2.St} {H1 : Hp} {D : Addr} {Qd : Hp → Prop} (Pv : Nat → Hp → Prop) (h0 : Pv 0 (upd H1 D (.lst []))) (hl : ∀ i H, i ≤ xs.length → Pv i H → SqT K H a xs)
    (hs : ∀ i x T H, xs[i]? = some x → Pv i H → H T = none → g (.ref T) (wipe σ vs) (upd H T (.tup [.int (i : Nat), x])) fun σ2 H2 => wipe σ2 vs = wipe σ vs ∧ tt σ2 H2 fun b H3 =>
      if b = true then te σ2 H3 fun y H4 => ∃ acc, H4 D = some (.lst acc) ∧ acc.length < sizeLine ∧ Pv (i + 1) (upd H4 D (.lst (acc ++ [y]))) else Pv (i + 1) H3) (hd : ∀ H, Pv xs.length H → Qd H) :
    ∃ W : Nat → Nat → Hp → Prop, (∃ m, W 0 m (upd H1 D (.lst []))) ∧ ∀ i m H, W i m H →
      ((IteT K a).stop i H ∧ Qd H) ∨ ((IteT K a).go i H ∧ ∃ Nx : Hp → Prop, (∀ H', Nx H' → ∃ m', m' < m ∧ W (i + 1) m' H') ∧ ∀ x H', (IteT K a).yld i H x H' → g x (wipe σ vs) H' fun σ2 H2 => wipe σ2 vs = wipe σ vs ∧ tt σ2 H2 fun b H3 =>
        if b = true then te σ2 H3 fun y H4 => ∃ acc, H4 D = some (.lst acc) ∧ acc.length < sizeLine ∧ Nx (upd H4 D (.lst (acc ++ [y]))) else Nx H3) := by
  refine ⟨fun i m H => m = xs.length - i ∧ i ≤ xs.length ∧ Pv i H, ⟨xs.length, by simp, Nat.zero_le _, h0⟩, ?_⟩
  rintro i m H ⟨rfl, hi, p⟩
  have q := hl i H hi p
  by_cases hlt : i < xs.length
  · refine .inr ⟨⟨xs, xs[i], q, by simp [hlt]⟩, Pv (i + 1), fun H' p' => ⟨xs.length - (i + 1), by omega, rfl, hlt, p'⟩, fun x H' y => ?_⟩
    obtain ⟨T, x', e1, e2, e3, e4⟩ := y
    subst e1 e3
    exact hs i x' T _ (e4 xs q) p e2
  · have e : i = xs.length := by omega
    subst e
    exact .inl ⟨⟨xs, q, Nat.le_refl _⟩, hd H p⟩
theorem lc_zipT {K : PySem.W.Frag} {a b : Addr} {xs ys : List V} {g : TG} {tt : TT} {te : TE} {vs : List Nat} {σ : L2.St} {H1 : Hp} {D : Addr} {Qd : Hp → Prop} (hxy : xs.length = ys.length) (Pv : Nat → Hp → Prop) (h0 : Pv 0 (upd H1 D (.lst []))) (hl : ∀ i H, i ≤ xs.length → Pv i H → SqT K H a xs ∧ SqT K H b ys)
    (hs : ∀ i x y T H, xs[i]? = some x → ys[i]? = some y → Pv i H → H T = none → g (.ref T) (wipe σ vs) (upd H T (.tup [x, y])) fun σ2 H2 => wipe σ2 vs = wipe σ vs ∧ tt σ2 H2 fun b H3 =>
      if b = true then te σ2 H3 fun y H4 => ∃ acc, H4 D = some (.lst acc) ∧ acc.length < sizeLine ∧ Pv (i + 1) (upd H4 D (.lst (acc ++ [y]))) else Pv (i + 1) H3) (hd : ∀ H, Pv xs.length H → Qd H) :
    ∃ W : Nat → Nat → Hp → Prop, (∃ m, W 0 m (upd H1 D (.lst []))) ∧ ∀ i m H, W i m H →
      ((ItzT K a b).stop i H ∧ Qd H) ∨ ((ItzT K a b).go i H ∧ ∃ Nx : Hp → Prop, (∀ H', Nx H' → ∃ m', m' < m ∧ W (i + 1) m' H') ∧ ∀ x H', (ItzT K a b).yld i H x H' → g x (wipe σ vs) H' fun σ2 H2 => wipe σ2 vs = wipe σ vs ∧ tt σ2 H2 fun b H3 =>
        if b = true then te σ2 H3 fun y H4 => ∃ acc, H4 D = some (.lst acc) ∧ acc.length < sizeLine ∧ Nx (upd H4 D (.lst (acc ++ [y]))) else Nx H3) := by
  refine ⟨fun i m H => m = xs.length - i ∧ i ≤ xs.length ∧ Pv i H, ⟨xs.length, by simp, Nat.zero_le _, h0⟩, ?_⟩
  rintro i m H ⟨rfl, hi, p⟩
  have q := hl i H hi p
  by_cases hlt : i < xs.length
  · refine .inr ⟨⟨xs, ys, xs[i], ys[i]'(hxy ▸ hlt), q.1, q.2, by simp [hlt], by simp [hxy ▸ hlt]⟩, Pv (i + 1), fun H' p' => ⟨xs.length - (i + 1), by omega, rfl, hlt, p'⟩, fun x H' y => ?_⟩
    obtain ⟨T, x', y', e1, e2, e3, e4, e5⟩ := y
    subst e1 e3
    exact hs i x' y' T _ (e4 xs q.1) (e5 ys q.2) p e2
  · have e : i = xs.length := by omega
    subst e
    exact .inl ⟨⟨xs, ys, q.1, q.2, .inl (Nat.le_refl _)⟩, hd H p⟩
end MxR
/-! rules of our own: sorted over tuples -/
namespace MxR
open PySem PySem.Spec PyProof.Rows L2
/-! ### sorted(t), t a tuple of ints -/
def rSortedTI (K : PySem.W.Frag) : List V → Hp → VK → Prop := fun vs H Q => ∃ (a : Addr) (ns : List Int), vs = [V.ref a] ∧ SqT K H a (ns.map V.int) ∧
  ∀ (ns' : List Int) (p : Addr), ns'.Perm ns → ns'.Pairwise (· ≤ ·) → H p = none → Q (.ref p) (upd H p (.lst (ns'.map V.int)))
section
variable {X : Cx}
theorem cr_sortedTI : CallR X (.builtin "sorted") (rSortedTI X.K) := by
  intro pins s σ H vs us Q I r h
  obtain ⟨a, ns, rfl, hs, q⟩ := h
  obtain ⟨its, rv, hl, hz⟩ := I.tuple hs
  rw [Vals.ref1 r]
  have hi := rv.ints
  have hz' : its.length ≤ sizeLine := by rw [← rv.length]; exact hz
  obtain ⟨o, ho, hc, n, hd⟩ := id hl
  refine Calls.call_function_entry kind_sorted plain_sorted entry_sorted (args_sorted1 _) ?_
  unfold Builtin.«sorted»
  refine wpAny_bind (m := checkCount "sorted" 1 1 _) (wpAny_pure ?_)
  refine wpAny_bind (wpAny_collect_seq a (.inr rfl) ho hc hd (fun h1 hk => ?_) (by rw [List.size_toArray]; exact hz'))
  have e0 : its.toArray.toList = its := by simp
  rw [e0]
  have I1 : Inv X pins σ H { s with heap := h1 } := I.kept (t' := s.toks) hk
  refine wpAny_bind (wpAny_newList ?_ hz')
  have hoL : (h1.push (seqObj "list" its.toArray 0)).get? h1.objs.size = some (seqObj "list" its.toArray 0) := Heap.get?_push_size _ rfl
  show wpAny _ _ _ _ _ { s with heap := h1.push (seqObj "list" its.toArray 0) }
  refine wpAny_bind (wpAny_holding (wpAny_call_entry slot_list_sort ⟨_, hoL, rfl⟩ entry_list_sort (SrtO.list_sort_ord SrtO.swo_int hoL hz' (fun h2 => SrtO.ints_sortable hi h2) fun out o1 o2 => ⟨_, rfl, ?_⟩) (args_list_sort _)))
  refine wpAny_pure ⟨_, rfl, ?_⟩
  obtain ⟨k1, k2, k3⟩ := SrtO.ints_out hi o1 o2
  obtain ⟨ep, he'⟩ := sortedHeap_at (out := out.toArray) hoL
  have hlen : ((out.map SrtO.iv).map V.int).length ≤ sizeLine := by
    rw [List.length_map, k2.length_eq]
    rw [List.length_map] at hz
    exact hz
  refine ⟨.ref h1.objs.size, upd H h1.objs.size (.lst ((out.map SrtO.iv).map V.int)), I1.laid (t' := s.toks) (fun b u e => ?_) (Nat.le_refl _) ⟨hlen, out, ep, vals_of_ints k1, he'⟩, rfl, q _ _ k2 k3 (I1.hok.fresh (Nat.le_refl _))⟩
  have hlt : b < h1.objs.size := Heap.lt_size e
  rw [sortedHeap_old (Nat.ne_of_lt hlt) (by rw [size_push']; exact Nat.lt_succ_of_lt hlt)]
  exact Heap.get?_push_of_some _ e
end
/-! ### sorted(xs), xs a list of tuples of ints, each not empty -/
def encT (b : V × List Int) : PyData := .tuple (b.2.map .int)
def rSortedT (K : PySem.W.Frag) : List V → Hp → VK → Prop := fun vs H Q => ∃ (a : Addr) (bs : List (V × List Int)), vs = [V.ref a] ∧ SqL K H a (bs.map (·.1)) ∧ (∀ b ∈ bs, b.2 ≠ [] ∧ ∃ t, b.1 = .ref t ∧ SqT K H t (b.2.map V.int)) ∧
  ∀ (bs' : List (V × List Int)) (p : Addr), bs'.Perm bs → H p = none → Q (.ref p) (upd H p (.lst (bs'.map (·.1))))
section
variable {X : Cx}
theorem dp_ints {K : PySem.W.Frag} {H : Hp} : ∀ ns : List Int, DpAll K H (ns.map V.int) (ns.map .int)
  | [] => .nil
  | n :: ns => .cons (.int n) (dp_ints ns)
theorem each_vals : ∀ {bs : List (V × List Int)} {us : List Value}, Vals (bs.map (·.1)) us → PySem.W.EachIs (fun v b => RelV b.1 v ∧ b ∈ bs) us bs := by
  suffices h : ∀ (all bs : List (V × List Int)) (us : List Value), (∀ b ∈ bs, b ∈ all) → Vals (bs.map (·.1)) us → PySem.W.EachIs (fun v b => RelV b.1 v ∧ b ∈ all) us bs from fun {bs us} r => h bs bs us (fun _ h => h) r
  intro all bs
  induction bs with
  | nil => intro us _ r; cases r; exact .nil
  | cons b bs ih =>
    intro us hm r
    cases r with
    | cons r1 r2 => exact .cons ⟨r1, hm b List.mem_cons_self⟩ (ih _ (fun c hc => hm c (List.mem_cons_of_mem _ hc)) r2)
theorem vals_each {all : List (V × List Int)} : ∀ {bs : List (V × List Int)} {us : List Value}, PySem.W.EachIs (fun v b => RelV b.1 v ∧ b ∈ all) us bs → Vals (bs.map (·.1)) us
  | _, _, .nil => .nil
  | _, _, .cons h t => .cons h.1 (vals_each t)
theorem depth_encT (b : V × List Int) : (encT b).depth ≤ 1 := by
  show (PyData.tuple (b.2.map .int)).depth ≤ 1
  unfold PyData.depth
  rw [PySem.W.depth_ints]
  exact Nat.le_refl _
theorem cr_sortedT (hu : X.A.units + 64 < cLine) : CallR X (.builtin "sorted") (rSortedT X.K) := by
  intro pins s σ H vs us Q I r h
  obtain ⟨a, bs, rfl, hs, hb, q⟩ := h
  obtain ⟨its, rv, hl, hz⟩ := I.list hs
  rw [Vals.ref1 r]
  have e := each_vals rv
  have er : PySem.W.EachIs (fun v b => ∃ as, Reads s.heap v (encT b) as) its bs := e.mono fun v b ⟨h1, h2⟩ => by
    obtain ⟨_, t, e1, e2⟩ := hb b h2
    exact Dp.reads I (encT b) b.1 v (by rw [e1]; exact .tup e2 (dp_ints _)) h1
  rw [List.length_map] at hz
  refine PySem.W.sorted_data (enc := encT) hl.isList e er (.of fun b b' => ?_) (.inl fun d hd => ?_) hz (fun b _ => ?_) fun out ho eo => ?_
  · exact PySem.W.alike_ints _ _
  · obtain ⟨b, hb1, rfl⟩ := List.mem_map.mp hd
    have := (hb b hb1).1
    cases q : b.2 with
    | nil => exact absurd q this
    | cons x r => exact ⟨.int x, r.map .int, by show PyData.tuple (b.2.map .int) = _; rw [q]; rfl⟩
  · have := depth_encT b
    omega
  · obtain ⟨ep, he'⟩ := sortedAll_at s.heap its out.toArray
    have hp : (bs.mergeSort (PySem.W.dataLe false encT)).Perm bs := List.mergeSort_perm _ _
    have hlen : ((bs.mergeSort (PySem.W.dataLe false encT)).map (·.1)).length ≤ sizeLine := by
      rw [List.length_map, hp.length_eq]
      exact hz
    exact ⟨.ref _, upd H (s.heap.objs.size + 1) (.lst ((bs.mergeSort (PySem.W.dataLe false encT)).map (·.1))), I.laid (t' := s.toks) (fun _ _ => sortedAll_old) (Nat.le_succ _) ⟨hlen, out, ep, vals_each eo, he'⟩, rfl, q _ _ hp (I.hok.fresh (Nat.le_succ _))⟩
end
end MxR
/-! rules of our own: {**a, **b}, t >= u -/
namespace MxR
open PySem PySem.Spec PyProof.Rows L2
section
variable {prog : Program} {w : World} {K : Type} [DecidableEq K] {knd : PySem.KeyKind prog w K} {A : Around} {E : Value → Shared → Prop} {s : Shared}
theorem put_pairs {d : Addr} {kvs : List (K × Value)} {k : K} {key v : Value} {Q : Unit → Shared → Prop} (hkey : knd.is k key = true) (hm : s.heap.DictOf knd d kvs)
    (hQ : ∀ h', h'.DictOf knd d (stored kvs k v) → Heap.SameBut d s.heap h' → Q () { s with heap := h' })
    (hsz : kvs.length ≤ sizeLine := by size_fits) :
    wpAny (model prog w) A (dictPut d (knd.hash k) key v) Q E s := by
  obtain ⟨o, es, ep, ho, hc, hd, hk, hp, hn⟩ := hm
  have hes : es.size ≤ sizeLine := by have e1 := hp.length; have e2 : es.toList.length = es.size := by simp
                                      omega
  unfold dictPut
  refine wpAny_bind (wpAny_dictFind_of hkey ho hd hk ?_)
  have hidx : (es.findIdx? fun e => knd.is k e.key) = kvs.findIdx? fun kv => decide (kv.1 = k) := by
    rw [← hp.findIdx k]; obtain ⟨l⟩ := es; simp
  cases hi : es.findIdx? fun e => knd.is k e.key with
  | some i =>
    refine wpAny_updateDict ho hd (hQ _ ⟨_, _, ep, Heap.get?_update_self _ ho (Obj.isFreed_of_dict (Obj.data_mapDict hd _)),
      hc.mapDict _, Obj.data_mapDict hd _, hk.modify _ _, ?_, ?_⟩ (Heap.SameBut.update ..))
    · rw [stored, if_pos (any_of_findIdx_some (hidx ▸ hi))]
      have hl : (es.toList.findIdx? fun e => knd.is k e.key) = some i := by rw [← hi]; obtain ⟨l⟩ := es; simp
      have := hp.modify hn hl v
      obtain ⟨l⟩ := es
      simpa using this
    · rw [stored, if_pos (any_of_findIdx_some (hidx ▸ hi)), keys_map_store]; exact hn
  | none =>
    have hnot : k ∉ kvs.map (·.1) := not_mem_of_findIdx_none (hidx ▸ hi)
    have hany : ¬ (kvs.any fun kv => decide (kv.1 = k)) = true := by
      rw [List.any_eq_true]; rintro ⟨kv, hkv, he⟩
      exact hnot (List.mem_map.mpr ⟨kv, hkv, of_decide_eq_true he⟩)
    refine wpAny_updateDictKeys (hz := hes) ho hd (hQ _ ⟨_, _, ep + 1, Heap.get?_update_self _ ho (Obj.isFreed_of_dict (Obj.data_mapDictKeys hd _)),
      hc.mapDictKeys _, Obj.data_mapDictKeys hd _, hk.push hkey _, ?_, ?_⟩ (Heap.SameBut.update ..))
    · rw [stored, if_neg hany]
      have := hp.append hkey (knd.hash k) v
      obtain ⟨l⟩ := es
      simpa using this
    · rw [stored, if_neg hany, List.map_append, List.nodup_append]
      refine ⟨hn, by simp, ?_⟩
      intro a ha b hb
      simp only [List.map_cons, List.map_nil, List.mem_singleton] at hb
      subst hb
      exact fun e => hnot (e ▸ ha)
/-- d, a dict, takes what the dict o holds -/
theorem merge_map (href : ∀ k v, knd.is k v = true → ∀ a, v ≠ .ref a) {d o : Addr} {kvs more : List (K × Value)} {Q : Unit → Shared → Prop} (hdo : d ≠ o) (hoS : (o == sysModules) = false)
    (hd : s.heap.DictOf knd d kvs) (ho : s.heap.DictOf knd o more)
    (hQ : ∀ h', h'.DictOf knd d (merged kvs more) → h'.DictOf knd o more → Heap.SameBut d s.heap h' → Q () { s with heap := h' })
    (hsz : kvs.length + more.length ≤ sizeLine := by size_fits) :
    wpAny (model prog w) A (mergeMapping d (.ref o) false) Q E s := by
  obtain ⟨od, esd, epd, hod, hcd, hdd, hkd, hpd, hnd⟩ := id hd
  obtain ⟨oo, eso, epo, hoo, hco, hdo', hko, hpo, hno⟩ := id ho
  unfold mergeMapping
  refine wpAny_bind (wpAny_isInstance ho.typeIs isSubtype_dict_dict ?_)
  simp only [if_true]
  refine wpAny_bind (wpAny_specialOf ho.typeIs F.slot_dict_iter.lookup ?_)
  refine wpAny_bind (wpAny_pure ?_)
  have hlen : more.length = eso.size := by rw [← hpo.length]; simp
  show wpAny _ _ (if (o == sysModules) = true then _ else _) _ _ _
  rw [if_neg (by rw [hoS]; exact Bool.false_ne_true)]
  refine wpAny_bind (wpAny_dictEntries hod hdd ?_)
  have loop : ∀ {t : Sem Unit}, (t = do
      let l ← dictEntries o
      let epoch ← dictEpoch o
      forIn (List.range l.size) PUnit.unit fun i (_ : PUnit) => (do
          let l' ← dictEntries o
          match l'[i]? with
            | some e => do
              holding [e.key, e.val] (if false = true then do
                              let f ← dictFind d e.key e.hash
                              if f.isSome = true then do
                                  rule "dict.merge.duplicate-key"
                                  let x ← newExc (Value.type "KeyError") [e.key]
                                  raiseNew x
                                  dictPut d e.hash e.key e.val
                                else dictPut d e.hash e.key e.val
                            else dictPut d e.hash e.key e.val)
              let ep' ← dictEpoch o
              if (ep' != epoch) = true then do
                  (unsupported "dict.changed-during-merge" : Sem PUnit)
                  pure (ForInStep.yield PUnit.unit)
                else pure (ForInStep.yield PUnit.unit)
            | x => do
              (unsupported "dict.changed-during-merge" : Sem PUnit)
              pure (ForInStep.yield PUnit.unit) : Sem (ForInStep PUnit))
      pure ()) → wpAny (model prog w) A t Q E s := by
    intro t ht
    subst ht
    refine wpAny_bind (wpAny_dictEntries hoo hdo' ?_)
    refine wpAny_bind (wpAny_dictEpoch hoo hdo' ?_)
    refine wpAny_bind ?_
    rw [List.range_eq_range']
    refine wpAny_forIn_list _
      (fun rest _ s' => ∃ h' i, s' = { s with heap := h' } ∧ rest = List.range' i (eso.size - i) ∧ i ≤ eso.size ∧ h'.DictOf knd d (merged kvs (more.take i)) ∧ h'.get? o = some oo ∧ Heap.SameBut d s.heap h')
      _ ?_ ?_ _ _ ⟨s.heap, 0, rfl, by simp, Nat.zero_le _, by simpa [merged] using hd, hoo, Heap.SameBut.refl _ _⟩
    · rintro x rest b s' ⟨h', i, rfl, hr, hi, hd', hoo', hs'⟩
      have hlt : i < eso.size := by
        rcases Nat.lt_or_ge i eso.size with h | h
        · exact h
        · rw [Nat.sub_eq_zero_of_le h] at hr; simp at hr
      obtain ⟨rfl, hrest⟩ : x = i ∧ rest = List.range' (i + 1) (eso.size - (i + 1)) := by
        have e : eso.size - i = (eso.size - (i + 1)) + 1 := by omega
        rw [e, List.range'_succ] at hr
        injection hr with h1 h2
        exact ⟨h1, h2⟩
      refine wpAny_bind (wpAny_dictEntries hoo' hdo' ?_)
      rw [Array.getElem?_eq_getElem hlt]
      obtain ⟨kv, hkv⟩ : ∃ kv, more[x]? = some kv := ⟨more[x]'(by rw [hlen]; exact hlt), List.getElem?_eq_getElem _⟩
      obtain ⟨k, v⟩ := kv
      obtain ⟨hkey, hval⟩ := hpo.get? (e := eso[x]) (by simp [hlt]) hkv
      obtain ⟨k', hkey', hhash⟩ := hko eso[x] (Array.getElem_mem hlt)
      obtain rfl : k' = k := knd.inj _ _ _ hkey' hkey
      show wpAny _ _ (holding [eso[x].key, eso[x].val] (dictPut d eso[x].hash eso[x].key eso[x].val) >>= _) _ _ _
      rw [hhash, hval]
      have hmx : (merged kvs (more.take x)).length ≤ sizeLine := by
        have e1 := merged_length_le kvs (more.take x)
        have e2 : (more.take x).length ≤ more.length := by rw [List.length_take]; omega
        omega
      refine wpAny_bind (wpAny_holding (put_pairs (hsz := hmx) hkey hd' fun h'' hd'' hs'' => ?_))
      have hoo'' : h''.get? o = some oo := (hs''.2 o (Ne.symm hdo)).trans hoo'
      refine wpAny_bind (wpAny_dictEpoch hoo'' hdo' ?_)
      rw [if_neg (by simp)]
      exact wpAny_pure ⟨h'', x + 1, rfl, hrest, hlt, by rw [merged_take_succ kvs more x (k', v) hkv]; exact hd'', hoo'', hs'.trans hs''⟩
    · rintro b s' ⟨h', i, rfl, hr, hi, hd', hoo', hs'⟩
      have hin : i = eso.size := by
        rcases Nat.lt_or_ge i eso.size with h | h
        · have e : eso.size - i = (eso.size - (i + 1)) + 1 := by omega
          rw [e, List.range'_succ] at hr; exact nomatch hr
        · exact Nat.le_antisymm hi h
      refine wpAny_pure (hQ h' ?_ ⟨oo, eso, epo, hoo', hco, hdo', hko, hpo, hno⟩ hs')
      rw [hin, ← hlen, List.take_length] at hd'; exact hd'
  by_cases he : esd.isEmpty = true
  · rw [if_pos he]
    refine wpAny_bind (wpAny_dictEntries hoo hdo' ?_)
    refine wpAny_bind ?_
    rw [← Array.forIn_toList]
    refine wpAny_forIn_list _ (fun rest _ s' => s' = s ∧ ∀ e ∈ rest, e ∈ eso) _ ?_ ?_ _ _ ⟨rfl, fun e he => Array.mem_toList_iff.mp he⟩
    · rintro e rest b s' ⟨rfl, hm⟩
      obtain ⟨k, hk, _⟩ := hko e (hm e List.mem_cons_self)
      split
      · rename_i a hq
        exact absurd hq (href _ _ hk a)
      · exact wpAny_pure ⟨rfl, fun e' he' => hm e' (List.mem_cons_of_mem _ he')⟩
    · rintro b s' ⟨rfl, _⟩
      exact loop rfl
  · rw [if_neg he]
    exact loop rfl
end
/-! ### {**a, **b} -/
theorem mix_ref {P : Program} {w : World} : ∀ (k : Key) (v : Value), (mixKind P w).is k v = true → ∀ a, v ≠ .ref a := fun k v h a e => by
  subst e
  rcases keyIs_shape h with ⟨i, t, _, q⟩ | ⟨x, t, _, q⟩ <;> cases q
def tDisp2 (ta tb : TE) : TE := fun σ H Q => ∀ p, H p = none → ta σ (upd H p (.dK [])) fun x H1 => ∃ a ka, x = .ref a ∧ Rd H1 a (.dK ka) ∧ a ≠ p ∧ ka.length ≤ 1000 ∧ H1 p = some (.dK []) ∧
  tb σ (upd H1 p (.dK (mergeK [] ka))) fun y H2 => ∃ b kb, y = .ref b ∧ Rd H2 b (.dK kb) ∧ b ≠ p ∧ kb.length ≤ 1000 ∧ H2 p = some (.dK (mergeK [] ka)) ∧ Q (.ref p) (upd H2 p (.dK (mergeK (mergeK [] ka) kb)))
theorem merge_step {X : Cx} {pins : List (Addr × Obj)} {σ : L2.St} {H : Hp} {s : Shared} {E : Value → Shared → Prop} {p a : Addr} {ka kb : List (Key × V)} {Q : Unit → Shared → Prop} (I : Inv X pins σ H s) (hp : H p = some (.dK ka)) (ha : Rd H a (.dK kb)) (hne : a ≠ p)
    (hz : ka.length + kb.length ≤ sizeLine) (h : ∀ s', Inv X pins σ (upd H p (.dK (mergeK ka kb))) s' → Q () s') : wpAny (model X.prog X.w) X.A (mergeMapping p (.ref a) false) Q E s := by
  obtain ⟨z1, hd1, va, r1, d1⟩ := dk_of I.hok hp
  obtain ⟨z2, hd2, vb, r2, d2⟩ := dk_rd I.hok ha
  have l1 := Paired.length r1
  have l2 := Paired.length r2
  refine merge_map mix_ref (Ne.symm hne) hd2 d1 d2 (fun h' dd' ho' hs => h _ ?_) (by omega)
  have hz' : (mergeK ka kb).length ≤ sizeLine := Nat.le_trans (length_mergeK kb ka) hz
  have he : ∃ q, h'.get? p = some q := let ⟨q, _, _, hq, _⟩ := dd'; ⟨q, hq⟩
  exact d_write I (by rw [hp]; exact True.intro) hs he (dk_new hz' hd1 (r2.merge r1) dd')
theorem pe_disp2 {X : Cx} {pos : Pos} {ea eb : Expr} {ta tb : TE} (ha : PE X ea ta) (hb : PE X eb tb) : PE X (.Dict [none, none] [ea, eb] pos) (tDisp2 ta tb) := by
  refine ⟨fun pins s σ H Q I q => ?_⟩
  have hn := I.hok.fresh (Nat.le_refl s.heap.objs.size)
  have I1 := I.laid (a := s.heap.objs.size) (o := .dK []) (h' := s.heap.push { cls := .type "dict", data := .dict #[] }) (t' := s.toks) (fun _ _ q => Heap.get?_push_of_some _ q) (Nat.le_refl _) (dk_empty s.heap I.big)
  show wpAny _ _ (do standAt pos; dictDisplay [(none, do let x ← eval ea X.env; standAt pos; pure x), (none, do let x ← eval eb X.env; standAt pos; pure x)]) _ _ _
  refine wpAny_bind (wpAny_standAt ?_)
  unfold dictDisplay
  dsimp only
  simp only [List.forIn_cons, List.forIn_nil, List.isEmpty_nil, if_true, pure_bind, bind_assoc]
  refine wpAny_bind (wpAny_alloc ?_)
  obtain ⟨h1⟩ := ha
  obtain ⟨h2⟩ := hb
  refine wpAny_bind (wpAny_holding (wpAny_bind (thn (h1 pins _ σ _ _ I1 (q _ hn)) fun u s1 hu => wpAny_bind (wpAny_standAt (wpAny_pure ?_)))))
  obtain ⟨x, H1, I2, rx, a, ka, ex, hra, hne, hlen, hp, q2⟩ := hu
  subst ex
  obtain rfl : u = Value.ref a := rx
  refine wpAny_bind (wpAny_onRaise (wpAny_tryCatch (wpAny_onRaise (wpAny_holding (merge_step I2 hp hra hne (by rw [sizeLine_eq, List.length_nil]; omega) fun s2 I3 => ?_)))))
  refine wpAny_bind (wpAny_holding (wpAny_bind (thn (h2 pins s2 σ _ _ I3 q2) fun u s3 hu => wpAny_bind (wpAny_standAt (wpAny_pure ?_)))))
  obtain ⟨y, H2, I4, ry, b, kb, ey, hrb, hne2, hlen2, hp2, q3⟩ := hu
  subst ey
  obtain rfl : u = Value.ref b := ry
  refine wpAny_bind (wpAny_onRaise (wpAny_tryCatch (wpAny_onRaise (wpAny_holding (merge_step I4 hp2 hrb hne2 (by
    have := length_mergeK ka []
    rw [List.length_nil] at this
    rw [sizeLine_eq]; omega) fun s4 I5 => ?_)))))
  exact wpAny_pure ⟨.ref s.heap.objs.size, _, I5, rfl, q3⟩
/-! ### the loops of a dict comprehension over a list -/
theorem dc_list {K : PySem.W.Frag} {a : Addr} {xs : List V} {g : TG} {tt : TT} {tk tv : TE} {vs : List Nat} {σ : L2.St} {H1 : Hp} {D : Addr} {Qd : Hp → Prop} (Pv : Nat → Hp → Prop) (h0 : Pv 0 (upd H1 D (.dK []))) (hl : ∀ i H, i ≤ xs.length → Pv i H → SqL K H a xs)
    (hs : ∀ i x H, xs[i]? = some x → Pv i H → g x (wipe σ vs) H fun σ2 H2 => wipe σ2 vs = wipe σ vs ∧ tt σ2 H2 fun b H3 =>
      if b = true then tk σ2 H3 fun y H4 => tv σ2 H4 fun z H5 => ∃ kvs k, y = kV k ∧ H5 D = some (.dK kvs) ∧ kvs.length < sizeLine ∧ Pv (i + 1) (upd H5 D (.dK (putK kvs k z))) else Pv (i + 1) H3) (hd : ∀ H, Pv xs.length H → Qd H) :
    ∃ W : Nat → Nat → Hp → Prop, (∃ m, W 0 m (upd H1 D (.dK []))) ∧ ∀ i m H, W i m H →
      ((Itl K a).stop i H ∧ Qd H) ∨ ((Itl K a).go i H ∧ ∃ Nx : Hp → Prop, (∀ H', Nx H' → ∃ m', m' < m ∧ W (i + 1) m' H') ∧ ∀ x H', (Itl K a).yld i H x H' → g x (wipe σ vs) H' fun σ2 H2 => wipe σ2 vs = wipe σ vs ∧ tt σ2 H2 fun b H3 =>
        if b = true then tk σ2 H3 fun y H4 => tv σ2 H4 fun z H5 => ∃ kvs k, y = kV k ∧ H5 D = some (.dK kvs) ∧ kvs.length < sizeLine ∧ Nx (upd H5 D (.dK (putK kvs k z))) else Nx H3) := by
  refine ⟨fun i m H => m = xs.length - i ∧ i ≤ xs.length ∧ Pv i H, ⟨xs.length, by simp, Nat.zero_le _, h0⟩, ?_⟩
  rintro i m H ⟨rfl, hi, p⟩
  have q := hl i H hi p
  by_cases hlt : i < xs.length
  · refine .inr ⟨⟨xs, xs[i], q, by simp [hlt]⟩, Pv (i + 1), fun H' p' => ⟨xs.length - (i + 1), by omega, rfl, hlt, p'⟩, fun x H' y => ?_⟩
    obtain ⟨e, y⟩ := y
    subst e
    exact hs i x _ (y xs q) p
  · have e : i = xs.length := by omega
    subst e
    exact .inl ⟨⟨xs, q, Nat.le_refl _⟩, hd H p⟩
/-! ### t >= u, two pairs of ints -/
def rGeT (K : PySem.W.Frag) : R2 := fun x y H Q => ∃ (a b : Addr) (i j k l : Int), x = .ref a ∧ y = .ref b ∧ SqT K H a [.int i, .int j] ∧ SqT K H b [.int k, .int l] ∧
  Q (.bl (decide (k < i ∨ (i = k ∧ l ≤ j)))) H
theorem op_geT {X : Cx} (hu : X.A.units < cLine) : OpR X (compareOp .GtE) (rGeT X.K) := by
  intro pins s σ H x y v u Q I rx ry h
  obtain ⟨a, b, i, j, k, l, rfl, rfl, ha, hb, q⟩ := h
  cases rx
  cases ry
  obtain ⟨its, r1, p1, _⟩ := I.tuple ha
  obtain ⟨its2, r2, p2, _⟩ := I.tuple hb
  have i1 : IntsAre its [i, j] := Vals.ints r1
  have i2 : IntsAre its2 [k, l] := Vals.ints r2
  have e1 : its.toArray.size = 2 := by rw [List.size_toArray]; exact i1.length
  have e2 : its2.toArray.size = 2 := by rw [List.size_toArray]; exact i2.length
  have at1 : ∀ n (h1 : n < its.toArray.size), ∃ t, its.toArray[n] = .int ([i, j].getD n 0) t := fun n h1 => PyProof.Rows.IntsAre.int_at i1 _ _ (by simp at h1; simp [h1])
  have at2 : ∀ n (h1 : n < its2.toArray.size), ∃ t, its2.toArray[n] = .int ([k, l].getD n 0) t := fun n h1 => PyProof.Rows.IntsAre.int_at i2 _ _ (by simp at h1; simp [h1])
  have R := Ob.RcOp.tuples_ge (A := X.A) (s := s) (e := fun n => decide ([i, j].getD n 0 = [k, l].getD n 0)) (r := fun n => decide ([k, l].getD n 0 ≤ [i, j].getD n 0)) p1 p2 hu (fun n h1 h2 => by
    obtain ⟨t, et⟩ := at1 n h1
    obtain ⟨t', et'⟩ := at2 n h2
    rw [et, et']
    have z : ([i, j].getD n 0 == [k, l].getD n 0) = decide ([i, j].getD n 0 = [k, l].getD n 0) := by
      by_cases q : [i, j].getD n 0 = [k, l].getD n 0
      · rw [decide_eq_true q]; exact beq_iff_eq.mpr q
      · rw [decide_eq_false q]; exact beq_eq_false_iff_ne.mpr q
    rw [← z]
    exact SeqAt.EqAt.int_int _ _ _ _) (fun n h1 h2 _ => by
    obtain ⟨t, et⟩ := at1 n h1
    obtain ⟨t', et'⟩ := at2 n h2
    rw [et, et']
    exact Ob.RcOp.ge_int _ _ _ _)
  rw [e1, e2] at R
  have ev : Ob.lexAt (fun n => decide ([i, j].getD n 0 = [k, l].getD n 0)) (fun n => decide ([k, l].getD n 0 ≤ [i, j].getD n 0)) (decide (2 ≥ 2)) 0 (min 2 2) = decide (k < i ∨ (i = k ∧ l ≤ j)) := by
    show (if decide (i = k) = true then (if decide (j = l) = true then decide (2 ≥ 2) else decide (l ≤ j)) else decide (k ≤ i)) = _
    by_cases c1 : i = k
    · by_cases c2 : j = l
      · simp [c1, c2]
      · simp [c1, c2]
    · have : decide (k ≤ i) = decide (k < i) := by
        have : (k ≤ i) ↔ (k < i) := by omega
        simp [this]
      simp [c1, this]
  rw [ev] at R
  have z : wpAny (model X.prog X.w) X.A (compareOp .GtE (.ref a) (.ref b)) (EP X pins σ Q) X.xe s := R X.prog X.w X.xe (EP X pins σ Q) ⟨.bl _, H, I, rfl, q⟩
  exact z
end MxR
/-! rules of our own: sorted(xs, key=lambda x: (t[x], x)) -/
namespace MxR
open PySem PySem.Spec PyProof.Rows L2 PySem.W
/-! ### the lambda -/
structure LamK (params : Arguments) (body : Expr) (sc scope : Scope) (x r : Str) : Prop where
  bd : ∃ k p1 p2 p3 p4 p5, body = .Tuple [.Subscript (.Name r p1) (.Name x p2) p3, .Name x p4] k p5
  kind : scope.kind = .function
  co : scope.isCoroutine = false
  gen : scope.isGenerator = false
  noc : ∀ y ∈ scope.names, y.2 ≠ .cell
  lx : scope.names.lookup x = some .local
  lr : scope.names.lookup r = some .free
  fr : ∀ y ∈ scope.names, y.2 = .free → sc.names.lookup y.1 = some .cell ∨ sc.names.lookup y.1 = some .free
  dx : (x == ("__debug__" : Str)) = false
  dr : (r == ("__debug__" : Str)) = false
  cr : (r == ("__classdict__" : Str)) = false
  defs : ∀ env, defaultsOf params env = ([], [])
  bind : ∀ (q : Str) (cl : List (Str × Addr)) (pm cdv ct v : Value), bindArgs (PySem.W.kla_fn "<lambda>" q params body scope cl pm cdv ct) ⟨[v], []⟩ = pure [(x, v)]
theorem seqIndex_nat {i n : Nat} (h : i < n) : seqIndex? (i : Int) n = some i := by
  unfold seqIndex?
  simp
  omega
section
variable {prog : Program} {w : World} {A : Around} {s : Shared} {params : Arguments} {body : Expr} {sc scope : Scope} {x r : Str}
theorem lam_key (L : LamK params body sc scope x r) {f c' t c : Addr} {q : Str} {clos : List (Str × Addr)} {pm ctv : Value} {its : List Value} {ns : List Int} {i : Nat} {tk : Tok}
    (hd : A.depth < recursionLimit) (hlim : s.heap.NoLimit) (hf : s.heap.get? f = some (PySem.W.kla_obj "<lambda>" q params body scope clos pm c' ctv)) (hcode : s.heap.CodeRec (.ref c') q)
    (hc : clos.lookup r = some c) (hcell : s.heap.IsCell c (some (.ref t))) (ht : IsTup s.heap t its.toArray) (hI : IntsAre its ns) (hz : its.length ≤ sizeLine) (hi : i < its.length) :
    wpAny (model prog w) A (call (.ref f) [.int i tk]) (PySem.W.KeyPure (.tuple [.int (ns.getD i 0), .int i]) s) (fun _ _ => False) s := by
  obtain ⟨k, p1, p2, p3, p4, p5, hb⟩ := L.bd
  have rc : codeAny (model prog w) A (.call (.ref f) ⟨[.int i tk], []⟩) (fun res s' => match res with | .ok (.ret v) => PySem.W.KeyPure (.tuple [.int (ns.getD i 0), .int i]) s v s' | _ => False) s := by
    refine PySem.W.kla_callFunE hd hf rfl L.co L.gen rfl hcode ?_
    rw [L.bind]
    refine wpAny_pure (wpAny_newFunctionEnv (fun y hy => L.noc y hy) (fun y hy => ?_) (fun h₁ hns hsb => ⟨hlim.fresh _ hsb, ?_⟩) L.kind)
    · rcases List.mem_singleton.mp hy with rfl
      exact L.lx
    · have kp : ∀ b o, s.heap.get? b = some o → h₁.get? b = some o := fun b o e => hsb.extBut b o (Nat.ne_of_lt (Heap.lt_size e)) (Heap.get?_push_of_some _ e)
      obtain ⟨tu, eu⟩ : ∃ tu, its[i]? = some (.int (ns.getD i 0) tu) := by
        obtain ⟨tu, e⟩ := PyProof.Rows.IntsAre.int_at hI i its[i] (by simp [hi])
        exact ⟨tu, by rw [← e]; simp [hi]⟩
      have hcell' : h₁.IsCell c (some (.ref t)) := by
        obtain ⟨o, ho, hd⟩ := hcell
        exact ⟨o, kp _ _ ho, hd⟩
      have ht' : IsTup h₁ t its.toArray := by
        obtain ⟨o, ho, rest⟩ := ht
        exact ⟨o, kp _ _ ho, rest⟩
      have hn := line63
      rw [hb]
      refine PySem.W.kla_codeExpr (wpAny_Tuple_spliced (Calls.spliced_cons ?_))
      refine Subscript_ ?_
      refine wpAny_Name (wpAny_loadName_free L.kind L.lr hc hcell' ?_ L.cr) L.dr
      refine wpAny_Name (wpAny_loadName_local (v := .int i tk) L.kind L.lx hns (by simp [List.lookup]) ?_) L.dx
      refine subscriptTail_builtinR (x := .int (ns.getD i 0) tu) (show Shared.TypeIs _ (.ref t) "tuple" from by obtain ⟨o, ho, hc, _⟩ := ht'; exact ⟨o, ho, hc⟩) slot_tuple_getitem.lookup
        (getItem_tuple (j := i) (Q := fun res s' => res = .int (ns.getD i 0) tu ∧ _ ) ht' (by omega) (by omega) (by rw [List.size_toArray]; exact seqIndex_nat hi) (by simpa using eu) ⟨rfl, ?_⟩) rfl
      refine Calls.spliced_cons ?_
      refine wpAny_Name (wpAny_loadName_local (v := .int i tk) L.kind L.lx hns (by simp [List.lookup]) ?_) L.dx
      refine Calls.spliced_nil ⟨by rw [sizeLine_eq]; exact (by decide : 2 ≤ 16777216), ?_⟩
      refine ⟨_, _, rfl, fun b o e => Heap.get?_push_of_some _ (kp b o e), ?_⟩
      refine .tuple (Heap.get?_push_size _ rfl) rfl rfl ?_
      exact .cons (.int _ _) (.cons (.int _ _) .nil)
  refine wpAny_call (codeAny_mono rc fun res s' h => ?_)
  cases res with
  | error e => exact h.elim
  | ok fl =>
    cases fl with
    | ret u => exact h
    | next => exact h.elim
    | brk => exact h.elim
    | cont => exact h.elim
end
/-! ### sorted(xs, key=lambda x: (t[x], x)) -/
abbrev nI (n : Nat) : V := .int n
def sortLamP (K : PySem.W.Frag) (T : List (Addr × Str)) (j : Nat) (σ : L2.St) (Q : VK) (x : V) (H1 : Hp) : Prop := ∃ (a : Addr) (xs : List Nat) (t : Addr) (ns : List Nat), x = .ref a ∧ SqL K H1 a (xs.map nI) ∧ σ[j]? = some (some (.ref t)) ∧ SqT K H1 t (ns.map nI) ∧
  (∀ y ∈ xs, y < ns.length) ∧ LamX.Tabs T H1 ∧ ∀ (H2 : Hp) (xs' : List Nat) (p : Addr), LamX.ExtN H1 H2 → LamX.Tabs T H2 → xs'.Perm xs → xs'.Pairwise (fun x y => ns.getD x 0 < ns.getD y 0 ∨ (ns.getD x 0 = ns.getD y 0 ∧ x ≤ y)) → H2 p = none → Q (.ref p) (upd H2 p (.lst (xs'.map nI)))
def tSortLam (K : PySem.W.Frag) (T : List (Addr × Str)) (j : Nat) (te : TE) : TE := fun σ H Q => te σ H fun x H1 => sortLamP K T j σ Q x H1
theorem extN_list {K : PySem.W.Frag} {H H' : Hp} {a : Addr} {xs : List V} (e : LamX.ExtN H H') (h : SqL K H a xs) : SqL K H' a xs := by
  rcases h with (h | ⟨o, h⟩) | h
  · exact .inl (.inl (e _ _ h fun ps z => by cases z))
  · exact .inl (.inr ⟨o, e _ _ h fun ps z => by cases z⟩)
  · exact .inr h
theorem extN_tup {K : PySem.W.Frag} {H H' : Hp} {a : Addr} {xs : List V} (e : LamX.ExtN H H') (h : SqT K H a xs) : SqT K H' a xs := by
  rcases h with (h | ⟨o, h⟩) | h
  · exact .inl (.inl (e _ _ h fun ps z => by cases z))
  · exact .inl (.inr ⟨o, e _ _ h fun ps z => by cases z⟩)
  · exact .inr h
theorem each_nI : ∀ {xs : List Nat} {us : List Value}, Vals (xs.map nI) us → PySem.W.EachIs (fun v (y : Nat) => ∃ t, v = Value.int y t) us xs
  | [], _, .nil => .nil
  | _ :: _, _, .cons h t => .cons h (each_nI t)
theorem nI_each : ∀ {xs : List Nat} {us : List Value}, PySem.W.EachIs (fun v (y : Nat) => ∃ t, v = Value.int y t) us xs → Vals (xs.map nI) us
  | _, _, .nil => .nil
  | _, _, .cons h t => .cons h (nI_each t)
theorem ints_nI {ns : List Nat} {us : List Value} (r : Vals (ns.map nI) us) : IntsAre us (ns.map Int.ofNat) := by
  have e : ns.map nI = (ns.map Int.ofNat).map V.int := by rw [List.map_map]; rfl
  rw [e] at r
  exact Vals.ints r
theorem getD_ofNat (ns : List Nat) (i : Nat) : (ns.map Int.ofNat).getD i 0 = ((ns.getD i 0 : Nat) : Int) := by
  simp only [List.getD_eq_getElem?_getD, List.getElem?_map]
  cases ns[i]? <;> rfl
section
variable {X : Cx} {params : Arguments} {body : Expr} {scope : Scope} {x r : Str}
theorem pe_sortLam {T : List (Addr × Str)} {c P : Addr} {j : Nat} {e : Expr} {te : TE} {lpos kpos p pos : Pos} {k : Nat} (L : LamK params body X.env.scope scope x r) (hr : Room (k + 3) X.A)
    (TB : LamX.TabB X.base X.mg c P) (hcode : X.env.code = .ref c) (hm : (P, X.env.qual ++ "<lambda>") ∈ T) (hu : ∀ p ∈ T, p.1 = P → p.2 = X.env.qual ++ "<lambda>")
    (hN : X.N[j]? = some r) (hv : X.env.scope.names.lookup r = some .cell) (hg : Gl X "sorted") (hmg : X.mg "sorted" = none) (ha : PE X e te)
    (he : backTo pos (starEach [e] X.env) = (false, eval e X.env) :: backTo pos (starEach [] X.env) := by rfl) (hpl : (backTo pos (starEach [e] X.env)).any (·.1) = false := by rfl) (hna : starEach (e :: []) X.env = (false, eval e X.env) :: starEach [] X.env := by rfl) :
    PE X (.Call (.Name "sorted" p) [e] [⟨some "key", .Lambda params body scope lpos, kpos⟩] pos) (tSortLam X.K T j te) := by
  refine ⟨fun pins s σ H Q I h => ?_⟩
  refine wpAny_Call_Name_kw (ld_blt I hg hmg (u := .builtin "sorted") (by decide +kernel) ?_ (by decide) (by decide))
  refine PyProof.Rows.callWith_kw (thn ((pa_cons ha pa_nil hna).run pos pins s σ H (fun vs H1 => match vs with | [x] => sortLamP X.K T j σ Q x H1 | _ => False) I h) fun us s1 ⟨vs, H1, I1, r1, q1⟩ => ?_) he hpl (by rfl) (by rfl)
  obtain ⟨x0, rfl, q1⟩ : ∃ x0, vs = [x0] ∧ sortLamP X.K T j σ Q x0 H1 := by
    match vs, q1 with
    | [x0], q1 => exact ⟨x0, rfl, q1⟩
  obtain ⟨a, xs, t, ns, rfl, hxs, hσ, hns, hlt, hT, q⟩ := q1
  rw [Vals.ref1 r1]
  show wpAny _ _ (evalAll [do let v ← eval (.Lambda params body scope lpos) X.env; standAt pos; pure v]) _ _ s1
  have hfree : ∀ y ∈ scope.names, y.2 = .free → ∃ c, X.env.cells.lookup y.1 = some c := fun y hy e => by
    rcases L.fr y hy e with k | k
    · exact I.ok.has _ (.inl k)
    · exact I.ok.has _ (.inr k)
  refine wpAny_evalAll_cons (wpAny_bind (LamX.lam_make2 I1 TB hcode hm hu hT (L.defs _) hfree fun f c' pm ctv H2 s2 I2 hE hT2 hf hfn hfr hco => wpAny_bind (wpAny_standAt (wpAny_pure (wpAny_evalAll_nil ?_)))))
  show wpAny _ _ (call (.builtin "sorted") [.ref a] [(Str.ofString "key", .ref f)]) _ _ s2
  obtain ⟨its, rv, hl, hz⟩ := I2.list (extN_list hE hxs)
  obtain ⟨tis, rt, htup, hzt⟩ := I2.tuple (extN_tup hE hns)
  -- the captured cell
  obtain ⟨c0, hc0, hcell⟩ : ∃ c0, (cloFrom X.env.cells scope.names []).lookup r = some c0 ∧ s2.heap.IsCell c0 (some (.ref t)) := by
    have hy : (r, NameKind.free) ∈ scope.names := PySem.mem_of_lookup L.lr
    obtain ⟨c2, h2⟩ := mem_lookup (cloFrom_has (cells := X.env.cells) (acc := []) hy)
    have c1 : X.env.cells.lookup r = some c2 := by
      rcases cloFrom_mem (PySem.mem_of_lookup h2) with hm | ⟨h1, h3⟩
      · cases hm
      · obtain ⟨c1, hc⟩ := hfree _ h1 rfl
        have hc : X.env.cells.lookup r = some c1 := hc
        rw [hc] at h3
        rw [h3, hc]
        rfl
    obtain ⟨m, hn, hlk⟩ := I2.loc
    obtain ⟨u, ru, lk⟩ := hlk j r _ hN hσ (.inr (.inl hv))
    obtain rfl : u = Value.ref t := ru
    refine ⟨c2, h2, ?_⟩
    rcases lk with ⟨hk, _⟩ | ⟨_, c3, e', z⟩
    · have hk : X.env.scope.names.lookup r = some .local := hk
      rw [hv] at hk
      cases hk
    · rw [c1] at e'
      cases e'
      exact z
  have hcr : s2.heap.CodeRec (.ref c') (X.env.qual ++ Str.ofString "<lambda>") := by
    obtain ⟨⟨oc, vs, tk, hoc, hdc, hvc⟩, _, _⟩ := I2.hok c' _ hco
    exact ⟨c', oc, vs, tk, rfl, hoc, hdc, hvc⟩
  have hlt' : tis.length = ns.length := by rw [← rt.length, List.length_map]
  rw [List.length_map] at hz
  have hru := hr.units
  refine PySem.W.sorted_key_data (b := false) (bs := xs) (R := fun v (y : Nat) => ∃ t, v = Value.int y t) (fun y => .tuple [.int ((ns.getD y 0 : Nat) : Int), .int y]) hl.isList (each_nI rv) (.of fun _ _ => rfl) (.tuples fun _ => ⟨_, _, rfl⟩) hz
    (fun _ _ => by show X.A.units + 2 + 1 < cLine; omega) (ksk_s1 _ _) (fun _ => ksk_l1 _ _) (fun x => ksk_t1 f x) (fun v y hR hy h tk hk => ?_) (fun out cc h' tk hk hfr2 hob hol heo => ?_)
  · obtain ⟨tk0, rfl⟩ := hR
    have hd : X.A.in1.in1.depth < recursionLimit := (hr.in1.in1).depth
    have := lam_key (prog := X.prog) (w := X.w) (A := X.A.in1.in1) (s := { s2 with heap := h, toks := tk }) L (i := y) (tk := tk0) (its := tis) (ns := ns.map Int.ofNat) (t := t) (c := c0) (f := f) hd (I2.nolimit.keeps hk) (hk _ _ hf) (hcr.keeps hk) hc0
      (by obtain ⟨o, ho, hd⟩ := hcell; exact ⟨o, hk _ _ ho, hd⟩) (by obtain ⟨o, ho, hd⟩ := htup; exact ⟨o, hk _ _ ho, hd⟩) (ints_nI rt) (by rw [List.length_map] at hzt; omega) (by rw [hlt']; exact hlt y hy)
    rw [getD_ofNat] at this
    exact this
  · have hp : (xs.mergeSort (PySem.W.dataLe false fun y => .tuple [.int ((ns.getD y 0 : Nat) : Int), .int (y : Int)])).Perm xs := List.mergeSort_perm _ _
    have hs : (xs.mergeSort (PySem.W.dataLe false fun y => .tuple [.int ((ns.getD y 0 : Nat) : Int), .int (y : Int)])).Pairwise (fun x y => ns.getD x 0 < ns.getD y 0 ∨ (ns.getD x 0 = ns.getD y 0 ∧ x ≤ y)) := by
      rw [PySem.W.dataLe_ii (fun y : Nat => ((ns.getD y 0 : Nat) : Int)) (fun y : Nat => (y : Int))]
      refine (List.pairwise_mergeSort (fun a b c h1 h2 => ?_) (fun a b => ?_) xs).imp fun {a b} h => ?_
      · simp only [decide_eq_true_eq] at h1 h2 ⊢
        omega
      · simp only [Bool.or_eq_true, decide_eq_true_eq]
        omega
      · simp only [decide_eq_true_eq] at h
        omega
    generalize hms : xs.mergeSort (PySem.W.dataLe false fun y => .tuple [.int ((ns.getD y 0 : Nat) : Int), .int (y : Int)]) = ms at hp hs heo
    have hlen : (ms.map nI).length ≤ sizeLine := by
      rw [List.length_map, hp.length_eq]
      exact hz
    have fr2 : H2 (s2.heap.objs.size + 1) = none := I2.hok.fresh (Nat.le_succ _)
    exact ⟨.ref _, upd H2 (s2.heap.objs.size + 1) (.lst (ms.map nI)), I2.laid (t' := tk) hk (Nat.le_succ _) ⟨hlen, out, cc, nI_each heo, hob⟩, rfl, q H2 ms _ hE hT2 hp hs fr2⟩
end
end MxR
/-! rules of our own: name = {k: v for ..} -/
namespace MxR
open PySem PySem.Spec PyProof.Rows L2
section
variable {X : Cx}
/-- name = {..} on one line, the name a local -/
theorem ps_setDc {i : Nat} {y : Str} {py : Pos} {kx vx tg iter : Expr} {ifs : List Expr} {scope : Scope} {own : List (Str × Nat)} {pos spos : Pos} {wi : TI} {g : TG} {tt : TT} {tk tv : TE} (hc : X.calm = true) (hN : X.N.Nodup) (hy : X.N[i]? = some y) (hyl : X.env.scope.names.lookup y = some .local)
    (hsw : swapsWith (.DictComp kx vx [⟨tg, iter, ifs, 0⟩] scope pos) (some (.Name y py)) spos.line X.env = pure true) (hi : PI X tg iter wi) (ok : BlkOk X.N X.env.scope scope own)
    (hg : ∀ (s : Shared) (H : Hp) (C : Addr) (cl : List (Str × Addr)) (fp : List Addr), PG (X.blk s H scope (compEnvC scope cl C X.env) fp) tg g) (ht : ∀ (s : Shared) (H : Hp) (C : Addr) (cl : List (Str × Addr)) (fp : List Addr), PTs (X.blk s H scope (compEnvC scope cl C X.env) fp) ifs tt)
    (hk : ∀ (s : Shared) (H : Hp) (C : Addr) (cl : List (Str × Addr)) (fp : List Addr), PE (X.blk s H scope (compEnvC scope cl C X.env) fp) kx tk)
    (he : ∀ (s : Shared) (H : Hp) (C : Addr) (cl : List (Str × Addr)) (fp : List Addr), PE (X.blk s H scope (compEnvC scope cl C X.env) fp) vx tv) (hs : ∀ x, foldedSetIterable iter X.env x = pure x := by intro _; rfl) :
    PS X (.Assign [.Name y py] (.DictComp kx vx [⟨tg, iter, ifs, 0⟩] scope pos) spos) (tAsg (tDc wi g tt tk tv (own.map (·.2))) (gName i)) := by
  refine ⟨fun pins s σ H D I h => ?_⟩
  rw [exec_Assign_Name_used _ _ _ _ hsw]
  refine wpAny_bind (wpAny_standAt (wpAny_bind ?_))
  show wpAny _ X.A (do let _ ← comprehension (.DictComp kx vx [⟨tg, iter, ifs, 0⟩] scope pos) scope X.env (firstIterPos [⟨tg, iter, ifs, 0⟩] pos) newDict false (eval iter X.env) (some (assign (.Name y py) X.env))) _ _ s
  have h : tDc wi g tt tk tv (own.map (·.2)) σ H (fun x H1 => gName i x σ H1 D.nx) := h
  refine wpAny_bind (thn (dc_core (Qf := fun _ s' => SP X pins D .next s') hc hN I hi ok hg ht hk he hs h fun L C s' m H' I' q hn f => ?_) fun _ s' hq => wpAny_pure (wpAny_pure hq))
  show wpAny _ _ (assign (.Name y py) X.env (.ref L)) _ _ _
  refine wpAny_assign_Name (store_ok2 (v := V.ref L) I' hN hy (.inl hyl) rfl (fun s2 I2 ⟨a, sb, ha⟩ => ?_) (.inr hyl))
  obtain ⟨f0, f1, f2, f3, f4, f5⟩ := f
  have haC : C ≠ a := by
    rcases ha with z | z
    · rw [z]; exact f1
    · exact fun e => f4 y a z e.symm
  refine ⟨m, hn.sameBut sb haC, fun h3 sb3 => ?_⟩
  exact ⟨_, H', I2.turned (t' := s2.toks) (fun b o hb e => (sb3.2 b hb).trans e) f0 f1 f3 f4 f5, q⟩
theorem sw_trueD {kx vx : Expr} {gs : List Comprehension} {scope : Scope} {pos py : Pos} {y : Str} {l : Nat} {env : Env} (hk : env.scope.kind = .function) (hy : env.scope.names.lookup y = some .local) (hl : (py.line == pos.line) = true)
    (ha : (scope.names.any fun (n, k) => n == y && (k == .local || k == .cell)) = false) : swapsWith (.DictComp kx vx gs scope pos) (some (.Name y py)) l env = pure true := by
  have ky : env.kindOf y = some .local := hy
  have hb : env.blockKind = .function := by unfold Env.blockKind; rw [hk]; rfl
  unfold swapsWith
  simp only [hb, ky, ha, Expr.pos, hl]
  rfl
end
end MxR
/-! the text, common words -/
namespace MxB
open PySem PySem.Spec PyProof.Rows L2 Evl MxR Mx
def topS (i : Nat) : Stmt := PySem.Challenge.pw_mexrooms_k22_whole_counts_of_rows.main.body.getD i (.Pass ⟨0, 0, 0, 0⟩)
/-! ### what is called -/
/-- a def of the top, by its name: its promise and all that a call asks -/
structure Cal (P : Program) (w : World) (K : PySem.W.Frag) (mg : Str → Option Value) (base : Heap) (k : Nat) (x : Str) (ps : List Str) (sp : Sp) : Prop where
  ex : ∃ f fd, FnOk P w K mg base CX0 k f fd ps sp ∧ mg x = some (.ref f) ∧ PySem.W.keepIn K (.ref f) = true ∧ Binds K fd ps []
theorem Cal.mono {P : Program} {w : World} {K : PySem.W.Frag} {mg : Str → Option Value} {base : Heap} {j k : Nat} {x : Str} {ps : List Str} {sp : Sp} (C : Cal P w K mg base j x ps sp) (h : j ≤ k) : Cal P w K mg base k x ps sp := by
  obtain ⟨f, fd, F, r⟩ := C.ex
  exact ⟨f, fd, F.mono h, r⟩
section
variable {X : Cx}
theorem pe_cal {k : Nat} {x : Str} {ps : List Str} {sp : Sp} {e : Expr} {es : List Expr} {t : TA} {p pos : Pos} (C : Cal X.prog X.w X.K X.mg X.base k x ps sp) (hr : Room k X.A) (hg : Gl X x) (ha : PA X (e :: es) t) (hd : (x == ("__debug__" : Str)) = false := by decide)
    (he : starEach (e :: es) X.env = (false, eval e X.env) :: starEach es X.env := by rfl) (hpl : (backTo pos (starEach es X.env)).any (·.1) = false := by rfl) : PE X (.Call (.Name x p) (e :: es) [] pos) (tCall sp [] E0 t) := by
  obtain ⟨f, fd, F, hm, hk, hb⟩ := C.ex
  exact pe_call F hr hg hm hk hb .nil pass0 ha hd he hpl
end
/-! ### values -/
def nT (l : List Nat) : List V := l.map nI
/-- the built-ins that the program calls are still what they were -/
structure Blt (mg : Str → Option Value) : Prop where
  isi : mg "isinstance" = none
  int : mg "int" = none
  bool : mg "bool" = none
  tuple : mg "tuple" = none
  list : mg "list" = none
  str : mg "str" = none
  len : mg "len" = none
  enum : mg "enumerate" = none
  all : mg "all" = none
  any : mg "any" = none
  range : mg "range" = none
  sorted : mg "sorted" = none
  zip : mg "zip" = none
  sum : mg "sum" = none
  rooms : ∃ t, mg "MOST_ROOMS" = some (.int 8 t)
  number : ∃ t, mg "MOST_NUMBER" = some (.int 60 t)
section
variable {K : PySem.W.Frag} {σ : L2.St} {H : Hp}
theorem ty_int (i : Int) : TyX K H (.int i) (.type "int") := .base (.int i)
theorem ty_tup {a : Addr} {xs : List V} (h : SqT K H a xs) : TyX K H (.ref a) (.type "tuple") := by
  rcases h with (h | ⟨o, h⟩) | ⟨o, h⟩
  · exact .base (.tup h)
  · exact .fTuple h
  · exact .kTuple h.choose_spec.choose_spec.1 h.choose_spec.choose_spec.2.1
theorem rc_isi {x : V} {T U : String} {b : Bool} (ty : ∀ H1, Ex H H1 → TyX K H1 x (.type T)) (e : PySem.W.kitOne K (.type T) (.type U) = some b) : RC (rIsi K) [x, .ty U] H (.bl b) := fun H1 e1 Q q =>
  ⟨x, .ty U, .type T, .type U, b, rfl, .ty U, ty H1 e1, e, q H1 (Ex.refl H1)⟩
end
end MxB
/-! what comprehensions evaluate to -/
namespace MxE
open PySem PySem.Spec PyProof.Rows L2 Evl MxR Mx MxB
theorem take_snoc {α : Type} {l : List α} {i : Nat} {x : α} (h : l[i]? = some x) : l.take (i + 1) = l.take i ++ [x] := by
  rw [List.take_add_one, h]
  rfl
section
variable {α : Type} {K : PySem.W.Frag} {σ : L2.St} {H H' : Hp} {te : TE} {t : TT}
def got (l : List α) (f : α → Bool) (i : Nat) : List α := (l.take i).filter f
theorem got_yes {l : List α} {f : α → Bool} {i : Nat} {x : α} (h : l[i]? = some x) (hf : f x = true) : got l f (i + 1) = got l f i ++ [x] := by
  unfold got
  rw [take_snoc h, List.filter_append, List.filter_cons, if_pos hf]
  rfl
theorem got_no {l : List α} {f : α → Bool} {i : Nat} {x : α} (h : l[i]? = some x) (hf : f x = false) : got l f (i + 1) = got l f i := by
  unfold got
  rw [take_snoc h, List.filter_append, List.filter_cons, if_neg (by rw [hf]; decide)]
  simp
theorem got_len (l : List α) (f : α → Bool) (i : Nat) : (got l f i).length ≤ i := by
  unfold got
  have h := List.length_filter_le f (l.take i)
  rw [List.length_take] at h
  omega
theorem got_all (l : List α) (f : α → Bool) : got l f l.length = l.filter f := by
  unfold got
  rw [List.take_length]
/-! plain values -/
def Cp (H : Hp) (l : List α) (f : α → Bool) (v : α → V) (Dl : Addr) (i : Nat) (H' : Hp) : Prop := H Dl = none ∧ Ex H H' ∧ H' Dl = some (.lst ((got l f i).map v))
theorem cp_turn {l : List α} {f : α → Bool} {v : α → V} {Dl : Addr} {i : Nat} {x : α} {σ2 : L2.St} (p : Cp H l f v Dl i H') (hx : l[i]? = some x) (hi : i < 5000000) (ht : EvT t σ2 H' (f x)) (he : f x = true → Ev te σ2 H' (v x)) :
    t σ2 H' fun b H3 => if b = true then te σ2 H3 fun y H4 => ∃ acc, H4 Dl = some (.lst acc) ∧ acc.length < sizeLine ∧ Cp H l f v Dl (i + 1) (upd H4 Dl (.lst (acc ++ [y]))) else Cp H l f v Dl (i + 1) H3 := by
  obtain ⟨p1, p2, p3⟩ := p
  refine ht H' (Ex.refl H') _ fun H3 e3 => ?_
  cases hf : f x with
  | true =>
    show te σ2 H3 _
    refine he hf H3 e3 _ fun H4 e4 => ⟨_, e4 Dl _ (e3 Dl _ p3), ?_, p1, Ex.mut ((p2.trans e3).trans e4) p1, ?_⟩
    · have := got_len l f i
      rw [List.length_map, sizeLine_eq]
      omega
    · rw [got_yes hx hf, List.map_append]
      exact upd_same
  | false =>
    show Cp H l f v Dl (i + 1) H3
    refine ⟨p1, p2.trans e3, ?_⟩
    rw [got_no hx hf]
    exact e3 Dl _ p3
/-! new tuples -/
theorem sqT_wr {q D : Addr} {xs ys zs : List V} (hD : H D = some (.lst ys)) (h : SqT K H q xs) : SqT K (upd H D (.lst zs)) q xs := by
  rcases h with (h | ⟨o, h⟩) | h
  · exact .inl (.inl (by rw [upd_ne (ne_of h hD (by intro z; cases z))]; exact h))
  · exact .inl (.inr ⟨o, by rw [upd_ne (ne_of h hD (by intro z; cases z))]; exact h⟩)
  · exact .inr h
def TupAt (K : PySem.W.Frag) (H : Hp) (v : V) (xs : List V) : Prop := ∃ q, v = .ref q ∧ SqT K H q xs
theorem TupAt.mono {v : V} {xs : List V} (e : Ex H H') (h : TupAt K H v xs) : TupAt K H' v xs := let ⟨q, e1, e2⟩ := h; ⟨q, e1, ex_t e e2⟩
theorem TupAt.wr {v : V} {xs ys zs : List V} {D : Addr} (hD : H D = some (.lst ys)) (h : TupAt K H v xs) : TupAt K (upd H D (.lst zs)) v xs := let ⟨q, e1, e2⟩ := h; ⟨q, e1, sqT_wr hD e2⟩
/-- a tuple, new or not -/
def EvS (K : PySem.W.Frag) (te : TE) (σ : L2.St) (H : Hp) (xs : List V) : Prop := ∀ H1, Ex H H1 → ∀ Q : VK, (∀ p H2, Ex H1 H2 → SqT K H2 p xs → Q (.ref p) H2) → te σ H1 Q
theorem EvS.of {xs : List V} (h : EvU te σ H xs) : EvS K te σ H xs := fun H1 e Q q => h H1 e Q fun p H2 _ e2 h2 => q p H2 e2 (st_of h2)
theorem EvS.ref {xs : List V} {p : Addr} (h : Ev te σ H (.ref p)) (hx : SqT K H p xs) : EvS K te σ H xs := fun H1 e Q q => h H1 e Q fun H2 e2 => q p H2 e2 (ex_t (e.trans e2) hx)
theorem es_sl {tl th : TO} {a : Addr} {xs : List V} {lo hi : Option Int} (h : Ev te σ H (.ref a)) (h1 : EvO tl σ H lo) (h2 : EvO th σ H hi) (hs : SqT K H a xs) : EvS K (tSl (rSlA K) te tl th) σ H (cutV xs lo hi) := fun H1 e Q q =>
  h H1 e _ fun H2 e2 => h1 H2 (e.trans e2) _ fun H3 e3 => h2 H3 ((e.trans e2).trans e3) _ fun H4 e4 =>
    ⟨a, xs, rfl, ex_t (((e.trans e2).trans e3).trans e4) hs, fun hw => by
      have ec : cutV xs lo hi = xs := by
        unfold cutV
        rw [hw.1, hw.2, List.drop_zero, Nat.sub_zero, List.take_length]
      rw [ec] at q
      exact q a H4 ((e2.trans e3).trans e4) (ex_t (((e.trans e2).trans e3).trans e4) hs),
    fun _ p hp => q p _ (((e2.trans e3).trans e4).trans (Ex.new hp)) (st_of upd_same)⟩
theorem es_cat {ta tb : TE} {xs ys : List V} (h1 : EvS K ta σ H xs) (h2 : EvS K tb σ H ys) (hz : xs.length + ys.length ≤ 100000) : EvS K (tOp (rCatA K) ta tb) σ H (xs ++ ys) := fun H1 e Q q =>
  h1 H1 e _ fun a H2 e2 ha => h2 H2 (e.trans e2) _ fun b H3 e3 hb => ⟨a, b, xs, ys, rfl, rfl, ex_t e3 ha, hb, sz_of hz, fun z => by
      subst z
      exact q b H3 (e2.trans e3) hb, fun _ z => by
      subst z
      rw [List.append_nil] at q
      exact q a H3 (e2.trans e3) (ex_t e3 ha), fun _ _ p hp => q p _ ((e2.trans e3).trans (Ex.new hp)) (st_of upd_same)⟩
theorem ea_star {tr : TA} {xs vs : List V} (h : EvS K te σ H xs) (hr : EvA tr σ H vs) : EvA (StX.tStar K te tr) σ H (xs ++ vs) := fun H1 e _ q =>
  h H1 e _ fun p H2 e2 hp => ⟨p, xs, rfl, .inl hp, hr H2 (e.trans e2) _ fun H3 e3 => q H3 (e2.trans e3)⟩
def TupsAt (K : PySem.W.Frag) (H : Hp) (vs : List V) (ws : List (List V)) : Prop := Paired (fun v w => TupAt K H v w) vs ws
theorem TupsAt.mono {vs : List V} {ws : List (List V)} (e : Ex H H') (h : TupsAt K H vs ws) : TupsAt K H' vs ws := Paired.mapP h fun _ _ x => x.mono e
theorem TupsAt.wr {vs ys zs : List V} {ws : List (List V)} {D : Addr} (hD : H D = some (.lst ys)) (h : TupsAt K H vs ws) : TupsAt K (upd H D (.lst zs)) vs ws := Paired.mapP h fun _ _ x => x.wr hD
theorem cut_take (xs : List V) (n : Nat) (h : n ≤ xs.length) : cutV xs none (some (n : Int)) = xs.take n := by
  unfold cutV
  rw [HT.sIx_none, HT.sIx_nat, Nat.min_eq_left h, List.drop_zero, Nat.sub_zero]
theorem cut_drop (xs : List V) (n : Nat) (h : n ≤ xs.length) : cutV xs (some (n : Int)) none = xs.drop n := by
  unfold cutV
  rw [HT.sIx_none, HT.sIx_nat, Nat.min_eq_left h]
  exact List.take_of_length_le (by rw [List.length_drop]; exact Nat.le_refl _)
theorem Paired.app {α β : Type} {F : α → β → Prop} : ∀ {l1 l2 : List α} {m1 m2 : List β}, Paired F l1 m1 → Paired F l2 m2 → Paired F (l1 ++ l2) (m1 ++ m2)
  | _, _, _, _, .nil, h => h
  | _, _, _, _, .cons x y, h => .cons x (Paired.app y h)
def Ct (K : PySem.W.Frag) (H : Hp) (l : List α) (f : α → Bool) (w : α → List V) (Dl : Addr) (i : Nat) (H' : Hp) : Prop := H Dl = none ∧ Ex H H' ∧ ∃ vs, H' Dl = some (.lst vs) ∧ TupsAt K H' vs ((got l f i).map w)
theorem ct_turn {l : List α} {f : α → Bool} {w : α → List V} {Dl : Addr} {i : Nat} {x : α} {σ2 : L2.St} (p : Ct K H l f w Dl i H') (hx : l[i]? = some x) (hi : i < 5000000) (ht : EvT t σ2 H' (f x)) (he : f x = true → EvS K te σ2 H' (w x)) :
    t σ2 H' fun b H3 => if b = true then te σ2 H3 fun y H4 => ∃ acc, H4 Dl = some (.lst acc) ∧ acc.length < sizeLine ∧ Ct K H l f w Dl (i + 1) (upd H4 Dl (.lst (acc ++ [y]))) else Ct K H l f w Dl (i + 1) H3 := by
  obtain ⟨p1, p2, vs, p3, p4⟩ := p
  refine ht H' (Ex.refl H') _ fun H3 e3 => ?_
  cases hf : f x with
  | true =>
    show te σ2 H3 _
    refine he hf H3 e3 _ fun q H4 e4 hq => ⟨_, e4 Dl _ (e3 Dl _ p3), ?_, p1, Ex.mut ((p2.trans e3).trans e4) p1, vs ++ [.ref q], upd_same, ?_⟩
    · have := got_len l f i
      have h2 := Paired.length p4
      rw [List.length_map] at h2
      rw [sizeLine_eq]
      omega
    · rw [got_yes hx hf, List.map_append]
      exact Paired.app ((p4.mono (e3.trans e4)).wr (e4 Dl _ (e3 Dl _ p3))) (.cons (TupAt.wr (e4 Dl _ (e3 Dl _ p3)) ⟨q, rfl, hq⟩) .nil)
  | false =>
    show Ct K H l f w Dl (i + 1) H3
    refine ⟨p1, p2.trans e3, vs, e3 Dl _ p3, ?_⟩
    rw [got_no hx hf]
    exact p4.mono e3
/-- a new list of tuples -/
def EvLT (K : PySem.W.Frag) (te : TE) (σ : L2.St) (H : Hp) (ws : List (List V)) : Prop := ∀ H1, Ex H H1 → ∀ Q : VK, (∀ p H2 vs, H1 p = none → Ex H1 H2 → H2 p = some (.lst vs) → TupsAt K H2 vs ws → Q (.ref p) H2) → te σ H1 Q
/-! the sources -/
theorem el_L {l : List α} {c : α → V} {a : Addr} {tl : TE} {j : Nat} {vs : List Nat} (f : α → Bool) (v : α → V) (h : Ev tl σ H (.ref a)) (hx : SqL K H a (l.map c)) (hz : l.length ≤ 4000000) (hw : ∀ x, wipe ((wipe σ vs).set j (some x)) vs = wipe σ vs)
    (ht : ∀ x ∈ l, ∀ H1, Ex H H1 → EvT t ((wipe σ vs).set j (some (c x))) H1 (f x)) (he : ∀ x ∈ l, ∀ H1, Ex H H1 → f x = true → Ev te ((wipe σ vs).set j (some (c x))) H1 (v x)) :
    EvL (tLc (iList K tl) (gName j) t te vs) σ H ((l.filter f).map v) := fun H0 e Q q => h H0 e _ fun H1 e1 => ⟨a, rfl, ⟨_, ex_l (e.trans e1) hx⟩, fun Dl hD =>
  lc_list (xs := l.map c) (Cp H1 l f v Dl) ⟨hD, Ex.new hD, upd_same⟩ (fun i H' _ p => ex_l ((e.trans e1).trans p.2.1) hx) (fun i y H' hi p => by
    rw [List.getElem?_map] at hi
    obtain ⟨x, hx', rfl⟩ := Option.map_eq_some_iff.mp hi
    exact ⟨hw _, cp_turn p hx' (by have := (List.getElem?_eq_some_iff.mp hx').1; omega) (ht x (List.mem_of_getElem? hx') H' ((e.trans e1).trans p.2.1)) (fun hf => he x (List.mem_of_getElem? hx') H' ((e.trans e1).trans p.2.1) hf)⟩)
    (fun H' p => by
      rw [List.length_map] at p
      have p2 := p.2.2
      rw [got_all] at p2
      exact q Dl H' (fresh_back e1 p.1) (e1.trans p.2.1) p2)⟩
theorem el_T {l : List α} {c : α → V} {a : Addr} {tl : TE} {j : Nat} {vs : List Nat} (f : α → Bool) (v : α → V) (h : Ev tl σ H (.ref a)) (hx : SqT K H a (l.map c)) (hz : l.length ≤ 4000000) (hw : ∀ x, wipe ((wipe σ vs).set j (some x)) vs = wipe σ vs)
    (ht : ∀ x ∈ l, ∀ H1, Ex H H1 → EvT t ((wipe σ vs).set j (some (c x))) H1 (f x)) (he : ∀ x ∈ l, ∀ H1, Ex H H1 → f x = true → Ev te ((wipe σ vs).set j (some (c x))) H1 (v x)) :
    EvL (tLc (iTup K tl) (gName j) t te vs) σ H ((l.filter f).map v) := fun H0 e Q q => h H0 e _ fun H1 e1 => ⟨a, rfl, ⟨_, ex_t (e.trans e1) hx⟩, fun Dl hD =>
  lc_tup (xs := l.map c) (Cp H1 l f v Dl) ⟨hD, Ex.new hD, upd_same⟩ (fun i H' _ p => ex_t ((e.trans e1).trans p.2.1) hx) (fun i y H' hi p => by
    rw [List.getElem?_map] at hi
    obtain ⟨x, hx', rfl⟩ := Option.map_eq_some_iff.mp hi
    exact ⟨hw _, cp_turn p hx' (by have := (List.getElem?_eq_some_iff.mp hx').1; omega) (ht x (List.mem_of_getElem? hx') H' ((e.trans e1).trans p.2.1)) (fun hf => he x (List.mem_of_getElem? hx') H' ((e.trans e1).trans p.2.1) hf)⟩)
    (fun H' p => by
      rw [List.length_map] at p
      have p2 := p.2.2
      rw [got_all] at p2
      exact q Dl H' (fresh_back e1 p.1) (e1.trans p.2.1) p2)⟩
theorem el_N {l : List α} {c : α → V} {tl : TE} {j : Nat} {vs : List Nat} (f : α → Bool) (v : α → V) (h : EvL tl σ H (l.map c)) (hz : l.length ≤ 4000000) (hw : ∀ x, wipe ((wipe σ vs).set j (some x)) vs = wipe σ vs)
    (ht : ∀ x ∈ l, ∀ H1, Ex H H1 → EvT t ((wipe σ vs).set j (some (c x))) H1 (f x)) (he : ∀ x ∈ l, ∀ H1, Ex H H1 → f x = true → Ev te ((wipe σ vs).set j (some (c x))) H1 (v x)) :
    EvL (tLc (iList K tl) (gName j) t te vs) σ H ((l.filter f).map v) := fun H0 e Q q => h H0 e _ fun a H1 ha e1 hx => ⟨a, rfl, ⟨_, sq_of hx⟩, fun Dl hD =>
  lc_list (xs := l.map c) (Cp H1 l f v Dl) ⟨hD, Ex.new hD, upd_same⟩ (fun i H' _ p => sq_of (p.2.1 a _ hx)) (fun i y H' hi p => by
    rw [List.getElem?_map] at hi
    obtain ⟨x, hx', rfl⟩ := Option.map_eq_some_iff.mp hi
    exact ⟨hw _, cp_turn p hx' (by have := (List.getElem?_eq_some_iff.mp hx').1; omega) (ht x (List.mem_of_getElem? hx') H' ((e.trans e1).trans p.2.1)) (fun hf => he x (List.mem_of_getElem? hx') H' ((e.trans e1).trans p.2.1) hf)⟩)
    (fun H' p => by
      rw [List.length_map] at p
      have p2 := p.2.2
      rw [got_all] at p2
      exact q Dl H' (fresh_back e1 p.1) (e1.trans p.2.1) p2)⟩
theorem range_get {n i : Nat} (h : i < n) : (List.range n)[i]? = some i := by simp [h]
theorem el_R {ta : TA} {j : Nat} {vs : List Nat} {n : Nat} (f : Nat → Bool) (v : Nat → V) (h : EvA ta σ H [nI n]) (hn : n ≤ 4000000) (hw : ∀ x, wipe ((wipe σ vs).set j (some x)) vs = wipe σ vs)
    (ht : ∀ x, x < n → ∀ H1, Ex H H1 → EvT t ((wipe σ vs).set j (some (nI x))) H1 (f x)) (he : ∀ x, x < n → ∀ H1, Ex H H1 → f x = true → Ev te ((wipe σ vs).set j (some (nI x))) H1 (v x)) :
    EvL (tLc (iRng1 ta) (gName j) t te vs) σ H (((List.range n).filter f).map v) := fun H0 e Q q => h H0 e _ fun H1 e1 => ⟨(n : Int), rfl, by omega, by omega, fun Dl hD =>
  lc_range (lo := 0) (n := (n : Int).toNat) (Cp H1 (List.range n) f v Dl) ⟨hD, Ex.new hD, upd_same⟩ (fun i H' hi p => by
    have e0 : (0 : Int) + (i : Int) = (i : Int) := Int.zero_add _
    have hi' : i < n := by omega
    show wipe ((wipe σ vs).set j (some (.int ((0 : Int) + (i : Int))))) vs = wipe σ vs ∧ t ((wipe σ vs).set j (some (.int ((0 : Int) + (i : Int))))) H' fun b H3 => if b = true then te ((wipe σ vs).set j (some (.int ((0 : Int) + (i : Int))))) H3 fun y H4 => ∃ acc, H4 Dl = some (.lst acc) ∧ acc.length < sizeLine ∧ Cp H1 (List.range n) f v Dl (i + 1) (upd H4 Dl (.lst (acc ++ [y]))) else Cp H1 (List.range n) f v Dl (i + 1) H3
    rw [e0]
    exact ⟨hw _, cp_turn p (range_get hi') (by omega) (ht i hi' H' ((e.trans e1).trans p.2.1)) (fun hf => he i hi' H' ((e.trans e1).trans p.2.1) hf)⟩) (fun H' p => by
      have p2 := p.2.2
      have e2 : got (List.range n) f (n : Int).toNat = (List.range n).filter f := by
        have := got_all (List.range n) f
        rw [List.length_range] at this
        exact this
      rw [e2] at p2
      exact q Dl H' (fresh_back e1 p.1) (e1.trans p.2.1) p2)⟩
/-- tuples out of a list -/
theorem et_L {l : List α} {xs : List V} {a : Addr} {tl : TE} {j : Nat} {vs : List Nat} (f : α → Bool) (w : α → List V) (h : Ev tl σ H (.ref a)) (hx : SqL K H a xs) (hlen : xs.length = l.length) (hz : l.length ≤ 4000000) (hw : ∀ x, wipe ((wipe σ vs).set j (some x)) vs = wipe σ vs)
    (ht : ∀ (i : Nat) x y, l[i]? = some x → xs[i]? = some y → ∀ H1, Ex H H1 → EvT t ((wipe σ vs).set j (some y)) H1 (f x)) (he : ∀ (i : Nat) x y, l[i]? = some x → xs[i]? = some y → ∀ H1, Ex H H1 → f x = true → EvS K te ((wipe σ vs).set j (some y)) H1 (w x)) :
    EvLT K (tLc (iList K tl) (gName j) t te vs) σ H ((l.filter f).map w) := fun H0 e Q q => h H0 e _ fun H1 e1 => ⟨a, rfl, ⟨_, ex_l (e.trans e1) hx⟩, fun Dl hD =>
  lc_list (xs := xs) (Ct K H1 l f w Dl) ⟨hD, Ex.new hD, [], upd_same, .nil⟩ (fun i H' _ p => ex_l ((e.trans e1).trans p.2.1) hx) (fun i y H' hi p => by
    have hi2 : i < l.length := by
      have := (List.getElem?_eq_some_iff.mp hi).1
      omega
    have hx' : l[i]? = some l[i] := List.getElem?_eq_getElem hi2
    exact ⟨hw _, ct_turn p hx' (by omega) (ht i _ y hx' hi H' ((e.trans e1).trans p.2.1)) (fun hf => he i _ y hx' hi H' ((e.trans e1).trans p.2.1) hf)⟩)
    (fun H' p => by
      rw [hlen] at p
      obtain ⟨p1, p2, vs', p3, p4⟩ := p
      rw [got_all] at p4
      exact q Dl H' vs' (fresh_back e1 p1) (e1.trans p2) p3 p4)⟩
/-- plain values out of a list, told by the place -/
theorem el_Li {l : List α} {xs : List V} {a : Addr} {tl : TE} {j : Nat} {vs : List Nat} (f : α → Bool) (v : α → V) (h : Ev tl σ H (.ref a)) (hx : SqL K H a xs) (hlen : xs.length = l.length) (hz : l.length ≤ 4000000) (hw : ∀ x, wipe ((wipe σ vs).set j (some x)) vs = wipe σ vs)
    (ht : ∀ (i : Nat) x y, l[i]? = some x → xs[i]? = some y → ∀ H1, Ex H H1 → EvT t ((wipe σ vs).set j (some y)) H1 (f x)) (he : ∀ (i : Nat) x y, l[i]? = some x → xs[i]? = some y → ∀ H1, Ex H H1 → f x = true → Ev te ((wipe σ vs).set j (some y)) H1 (v x)) :
    EvL (tLc (iList K tl) (gName j) t te vs) σ H ((l.filter f).map v) := fun H0 e Q q => h H0 e _ fun H1 e1 => ⟨a, rfl, ⟨_, ex_l (e.trans e1) hx⟩, fun Dl hD =>
  lc_list (xs := xs) (Cp H1 l f v Dl) ⟨hD, Ex.new hD, upd_same⟩ (fun i H' _ p => ex_l ((e.trans e1).trans p.2.1) hx) (fun i y H' hi p => by
    have hi2 : i < l.length := by
      have := (List.getElem?_eq_some_iff.mp hi).1
      omega
    have hx' : l[i]? = some l[i] := List.getElem?_eq_getElem hi2
    exact ⟨hw _, cp_turn p hx' (by omega) (ht i _ y hx' hi H' ((e.trans e1).trans p.2.1)) (fun hf => he i _ y hx' hi H' ((e.trans e1).trans p.2.1) hf)⟩)
    (fun H' p => by
      rw [hlen] at p
      have p2 := p.2.2
      rw [got_all] at p2
      exact q Dl H' (fresh_back e1 p.1) (e1.trans p.2.1) p2)⟩
/-! all(..), any(..), tuple(..), sum(..) of a new list -/
theorem et_yes : EvT tYes σ H true := fun H1 _ _ q => q H1 (Ex.refl H1)
theorem ev_allN {bs : List Bool} (h : EvL te σ H (bs.map V.bl)) : Ev (tCB (rAll K) (tCons te tNil)) σ H (.bl (bs.all id)) := fun H1 e Q q =>
  h H1 e _ fun p H2 _ e2 hp => ⟨p, bs, rfl, sq_of hp, q H2 e2⟩
theorem ev_anyN {bs : List Bool} (h : EvL te σ H (bs.map V.bl)) : Ev (tCB (rAny K) (tCons te tNil)) σ H (.bl (bs.any id)) := fun H1 e Q q =>
  h H1 e _ fun p H2 _ e2 hp => ⟨p, bs, rfl, sq_of hp, q H2 e2⟩
theorem filter_true (l : List α) : l.filter (fun _ => true) = l := List.filter_eq_self.mpr fun _ _ => rfl
theorem map_bl (l : List α) (b : α → Bool) : l.map (fun x => V.bl (b x)) = (l.map b).map V.bl := by rw [List.map_map]; rfl
end
/-! raw steps -/
theorem q_raw {te : TE} {g : TG} {tz : TS} {D : Ends} {σ : L2.St} {H : Hp} (h : te σ H fun x H1 => g x σ H1 (tz D)) : tSeq (tAsg te g) tz D σ H := h
theorem s_raw {te : TE} {g : TG} {D : Ends} {σ : L2.St} {H : Hp} (h : te σ H fun x H1 => g x σ H1 D.nx) : tAsg te g D σ H := h
theorem tCall_go {sp : Sp} {E : XK} {ta : TA} {vs : List V} {σ : L2.St} {H : Hp} {Q : VK} (h : EvA ta σ H vs) (k : ∀ H1, Ex H H1 → sp (vs ++ []) H1 Q E) : tCall sp [] E ta σ H Q := h H (Ex.refl H) _ fun H1 e => k H1 e
theorem q_seq {t u : TS} {D : Ends} {σ : L2.St} {H : Hp} (h : t { D with nx := u D } σ H) : tSeq t u D σ H := h
theorem s_retRaw {te : TE} {D : Ends} {σ : L2.St} {H : Hp} (h : te σ H D.rt) : tRet te D σ H := h
/-! numbers in tuples and lists -/
theorem nT_len (s : List Nat) : (nT s).length = s.length := List.length_map _
theorem nT_get {s : List Nat} {y : Nat} (h : y < s.length) : (nT s)[y]? = some (nI (s.mxa y)) := by
  unfold nT
  rw [List.getElem?_map, List.getElem?_eq_getElem h]
  simp [List.mxa, List.getD_eq_getElem?_getD, h]
theorem atI_nT {s : List Nat} {y : Nat} (h : y < s.length) : atI (nT s) (y : Int) = some (nI (s.mxa y)) := at_of rfl (nT_get h)
theorem inV_nT (l : List Nat) (x : Nat) : inV (nI x) (nT l) = decide (x ∈ l) := by
  unfold inV nT
  rw [List.any_map]
  induction l with
  | nil => rfl
  | cons a l ih =>
    rw [List.any_cons, ih]
    have e : ((fun y => eqV y (nI x)) ∘ nI) a = decide (a = x) := by
      show eqV (V.int (a : Int)) (V.int (x : Int)) = _
      unfold eqV
      by_cases c : a = x
      · subst c; simp
      · have : ¬ ((a : Int) = (x : Int)) := by omega
        simp [c, this]
    rw [e]
    by_cases c : a = x
    · simp [c]
    · have : ¬ x = a := fun z => c z.symm
      simp [c, this]
theorem flat_nT (l : List Nat) : (nT l).all flatV = true := by
  unfold nT
  rw [List.all_map]
  exact List.all_eq_true.mpr fun _ _ => rfl
theorem in_nT {K : PySem.W.Frag} {σ : L2.St} {H : Hp} {ta tb : TE} {p : Addr} {l : List Nat} {x : Nat} (ha : Ev ta σ H (nI x)) (hb : Ev tb σ H (.ref p)) (h : SqT K H p (nT l)) : Ev (tOp (rIn K false) ta tb) σ H (.bl (decide (x ∈ l))) :=
  ev_is (ev_op ha hb (rv_isT h rfl (flat_nT l))) (by rw [inV_nT])
theorem nin_nT {K : PySem.W.Frag} {σ : L2.St} {H : Hp} {ta tb : TE} {p : Addr} {l : List Nat} {x : Nat} (ha : Ev ta σ H (nI x)) (hb : Ev tb σ H (.ref p)) (h : SqT K H p (nT l)) : Ev (tOp (rIn K true) ta tb) σ H (.bl (!decide (x ∈ l))) :=
  ev_is (ev_op ha hb (rv_niT h rfl (flat_nT l))) (by rw [inV_nT])
end MxE
/-! tuples and lists of numbers compared; tuple(..) of a new list -/
namespace MxE
open PySem PySem.Spec PyProof.Rows L2 Evl MxR Mx MxB
def dI (l : List Nat) : List PyData := (l.map Int.ofNat).map PyData.int
theorem dpA_nT {K : PySem.W.Frag} {H : Hp} : ∀ l : List Nat, DpAll K H (nT l) (dI l)
  | [] => .nil
  | n :: l => .cons (.int n) (dpA_nT l)
theorem eqv_dT (l m : List Nat) : PyData.eqv (.tuple (dI l)) (.tuple (dI m)) = decide (l = m) := by
  show PyData.eqvAll (dI l) (dI m) = _
  unfold dI
  rw [PySem.W.ked_eqvAll]
  have : (l.map Int.ofNat = m.map Int.ofNat) ↔ l = m := by
    constructor
    · intro h
      have h2 := congrArg (List.map Int.toNat) h
      rw [List.map_map, List.map_map] at h2
      have e : (Int.toNat ∘ Int.ofNat) = id := by funext x; rfl
      rw [e, List.map_id, List.map_id] at h2
      exact h2
    · intro h; rw [h]
  simp [this]
theorem eqv_dL (l m : List Nat) : PyData.eqv (.list (dI l)) (.list (dI m)) = decide (l = m) := eqv_dT l m
theorem shaped_dL (l : List Nat) : SeqAt.shaped (.list (dI l)) = true := PySem.W.ke_shaped_ints _
theorem shaped_dT (l : List Nat) : SeqAt.shaped (.tuple (dI l)) = true := PySem.W.ke_shaped_ints _
section
variable {K : PySem.W.Frag} {σ : L2.St} {H : Hp} {te ta tb : TE}
theorem dp_T {a : Addr} {l : List Nat} (h : SqT K H a (nT l)) : Dp K H (.ref a) (.tuple (dI l)) := .tup h (dpA_nT l)
theorem dp_L {a : Addr} {l : List Nat} (h : SqL K H a (nT l)) : Dp K H (.ref a) (.list (dI l)) := .lst h (dpA_nT l)
theorem ev_eqT {l m : List Nat} (h1 : EvS K ta σ H (nT l)) (h2 : EvS K tb σ H (nT m)) : Ev (tOp (rEqD K) ta tb) σ H (.bl (decide (l = m))) := fun H1 e Q q =>
  h1 H1 e _ fun a H2 e2 ha => h2 H2 (e.trans e2) _ fun b H3 e3 hb => ⟨_, _, dp_T (ex_t e3 ha), dp_T hb, shaped_dT l, shaped_dT m, by rw [eqv_dT]; exact q H3 (e2.trans e3)⟩
theorem ev_neL {l m : List Nat} {b : Addr} (h1 : EvL ta σ H (nT l)) (h2 : Ev tb σ H (.ref b)) (hb : SqL K H b (nT m)) : Ev (tOp (rNeD K) ta tb) σ H (.bl (!decide (l = m))) := fun H1 e Q q =>
  h1 H1 e _ fun a H2 _ e2 ha => h2 H2 (e.trans e2) _ fun H3 e3 => ⟨_, _, dp_L (ex_l e3 (sq_of ha)), dp_L (ex_l ((e.trans e2).trans e3) hb), shaped_dL l, shaped_dL m, by rw [eqv_dL]; exact q H3 (e2.trans e3)⟩
def rTupOf (K : PySem.W.Frag) : List V → Hp → VK → Prop := fun xs H Q => ∃ p ys, xs = [.ref p] ∧ ((SqL K H p ys ∧ ∀ l, H l = none → Q (.ref l) (upd H l (.tup ys))) ∨ (SqT K H p ys ∧ Q (.ref p) H))
theorem eu_tupN {xs : List V} (h : EvL te σ H xs) : EvU (tCB (rTupOf K) (tCons te tNil)) σ H xs := fun H1 e Q q =>
  h H1 e _ fun p H2 _ e2 hp => ⟨p, xs, rfl, .inl ⟨sq_of hp, fun l hl => q l _ (fresh_back e2 hl) (e2.trans (Ex.new hl)) upd_same⟩⟩
theorem eu_tupL {xs : List V} {a : Addr} (h : Ev te σ H (.ref a)) (hx : SqL K H a xs) : EvU (tCB (rTupOf K) (tCons te tNil)) σ H xs := fun H1 e Q q =>
  h H1 e _ fun H2 e2 => ⟨a, xs, rfl, .inl ⟨ex_l (e.trans e2) hx, fun l hl => q l _ (fresh_back e2 hl) (e2.trans (Ex.new hl)) upd_same⟩⟩
end
end MxE
namespace MxD
open PySem PySem.Spec PyProof.Rows L2 Evl MxR Mx MxB
abbrev sIsInteger : Stmt := topS 8
abbrev sIsIn : Stmt := topS 9
abbrev sIsList : Stmt := topS 10
theorem scIsInteger : FnScope ["value"] ["value"] (defScope sIsInteger) := ⟨rfl, rfl, rfl, by decide +kernel, rfl, by decide +kernel, by decide +kernel⟩
theorem scIsIn : FnScope ["value", "least", "most"] ["value", "least", "most"] (defScope sIsIn) := ⟨rfl, rfl, rfl, by decide +kernel, rfl, by decide +kernel, by decide +kernel⟩
theorem scIsList : FnScope ["value", "least", "most"] ["value", "least", "most"] (defScope sIsList) := ⟨rfl, rfl, rfl, by decide +kernel, rfl, by decide +kernel, by decide +kernel⟩
def spIsInteger : Sp := fun vs H Q _ => ∃ i : Int, vs = [.int i] ∧ RetV (.bl true) H Q
def spIsIn : Sp := fun vs H Q _ => ∃ v l m : Int, vs = [.int v, .int l, .int m] ∧ RetV (.bl (decide (l ≤ v) && decide (v ≤ m))) H Q
def spIsList (K : PySem.W.Frag) : Sp := fun vs H Q _ => ∃ (a : Addr) (xs : List V) (l m : Int), vs = [.ref a, .int l, .int m] ∧ SqT K H a xs ∧ RetV (.bl (decide (l ≤ (xs.length : Int)) && decide ((xs.length : Int) ≤ m))) H Q
section
variable {P : Program} {w : World} {K : PySem.W.Frag} {mg : Str → Option Value} {base : Heap}
theorem ok_isInteger {f : Addr} {fd : FuncData} (F : Fun K "is_integer" "is_integer" sIsInteger f fd) (B : Blt mg) : FnOk P w K mg base CX0 1 f fd ["value"] spIsInteger := by
  refine F.ok scIsInteger (fun vs H Q E h => ?_) (fun cdv A outer s H vs Q E hr h => ?_)
  · obtain ⟨i, rfl, _⟩ := h
    rfl
  · obtain ⟨i, rfl, q⟩ := h
    refine ⟨_, pss_one (ps_ret (pe_and (pe_callB call_isi (by rfl) B.isi (by decide +kernel) (pa_cons (pv 0) (pa_cons (pe_bltn (v := .ty "int") (by rfl) B.int (by decide +kernel) rfl) pa_nil)))
      (pe_one (pe_not (pe_callB call_isi (by rfl) B.isi (by decide +kernel) (pa_cons (pv 0) (pa_cons (pe_bltn (v := .ty "bool") (by rfl) B.bool (by decide +kernel) rfl) pa_nil))))))), ?_⟩
    exact s_ret (ev_andV (a := true) (b := !false) (ev_cb (ea_cons (ev_var rfl) (ea_cons ev_c ea_nil)) (rc_isi (fun _ _ => ty_int i) (kit_ty (by decide +kernel)))) fun _ =>
      ev_notV (ev_cb (ea_cons (ev_var rfl) (ea_cons ev_c ea_nil)) (rc_isi (fun _ _ => ty_int i) (kit_ty (by decide +kernel))))) q
theorem rv_le {H : Hp} (i j : Int) : RV (rI0 fun i j => .bl (decide (i ≤ j))) (.int i) (.int j) H (.bl (decide (i ≤ j))) := rv_I0 (g := fun i j => .bl (decide (i ≤ j)))
theorem ev_chain {r r' : R2} {ta tb tc : TE} {σ : L2.St} {H : Hp} {x y z : V} {a b : Bool} (ha : Ev ta σ H x) (hb : Ev tb σ H y) (h1 : RV r x y H (.bl a)) (hc : Ev tc σ H z) (h2 : RV r' y z H (.bl b)) : Ev (tChain r r' ta tb tc) σ H (.bl (a && b)) := fun H1 e Q q =>
  ha H1 e _ fun H2 e2 => hb H2 (e.trans e2) _ fun H3 e3 => h1 H3 ((e.trans e2).trans e3) _ fun H4 e4 => ⟨a, rfl, by
    cases a with
    | true =>
      show tc σ H4 _
      exact hc H4 (((e.trans e2).trans e3).trans e4) _ fun H5 e5 => h2 H5 ((((e.trans e2).trans e3).trans e4).trans e5) Q fun H6 e6 => q H6 ((((e2.trans e3).trans e4).trans e5).trans e6)
    | false =>
      show Q (.bl false) H4
      exact q H4 ((e2.trans e3).trans e4)⟩
theorem ok_isIn {f : Addr} {fd : FuncData} (F : Fun K "is_in" "is_in" sIsIn f fd) (C : Cal P w K mg base 1 "is_integer" ["value"] spIsInteger) : FnOk P w K mg base CX0 2 f fd ["value", "least", "most"] spIsIn := by
  refine F.ok scIsIn (fun vs H Q E h => ?_) (fun cdv A outer s H vs Q E hr h => ?_)
  · obtain ⟨v, l, m, rfl, _⟩ := h
    rfl
  · obtain ⟨v, l, m, rfl, q⟩ := h
    refine ⟨_, pss_one (ps_ret (pe_and (pe_cal C hr (by rfl) (pa_cons (pv 0) pa_nil)) (pe_one (pe_chain op_le op_le (pv 1) (pv 0) (pv 2))))), ?_⟩
    refine s_ret (ev_andV (a := true) (ev_call (ea_cons (ev_var rfl) ea_nil) fun H1 e Q k E => ⟨v, rfl, k⟩) fun _ => ev_chain (ev_var rfl) (ev_var rfl) (rv_le l v) (ev_var rfl) (rv_le v m)) fun H1 e => ?_
    rw [Bool.true_and]
    exact q H1 e
theorem ok_isList {f : Addr} {fd : FuncData} (F : Fun K "is_list" "is_list" sIsList f fd) (B : Blt mg) : FnOk P w K mg base CX0 1 f fd ["value", "least", "most"] (spIsList K) := by
  refine F.ok scIsList (fun vs H Q E h => ?_) (fun cdv A outer s H vs Q E hr h => ?_)
  · obtain ⟨a, xs, l, m, rfl, _⟩ := h
    rfl
  · obtain ⟨a, xs, l, m, rfl, hx, q⟩ := h
    refine ⟨_, pss_one (ps_ret (pe_and (pe_callB call_isi (by rfl) B.isi (by decide +kernel) (pa_cons (pv 0) (pa_cons (pe_bltn (v := .ty "tuple") (by rfl) B.tuple (by decide +kernel) rfl) pa_nil)))
      (pe_one (pe_chain op_le op_le (pv 1) (pe_callB call_len_seq (by rfl) B.len PySem.boot_len (pa_cons (pv 0) pa_nil)) (pv 2))))), ?_⟩
    refine s_ret (ev_andV (a := true) (ev_cb (ea_cons (ev_var rfl) (ea_cons ev_c ea_nil)) (rc_isi (fun H1 e => ty_tup (ex_t e hx)) (kit_ty (by decide +kernel)))) fun _ =>
      ev_chain (ev_var rfl) (ev_cb (ea_cons (ev_var rfl) ea_nil) (z := .int xs.length) fun H1 e Q k => ⟨a, xs, rfl, .inr (ex_t e hx), k H1 (Ex.refl H1)⟩) (rv_le l xs.length) (ev_var rfl) (rv_le xs.length m)) fun H1 e => ?_
    rw [Bool.true_and]
    exact q H1 e
end
end MxD
namespace MxD
open PySem PySem.Spec PyProof.Rows L2 Evl MxR Mx MxB MxE
/-! ### houses, states, rows in the heap -/
theorem pget1 {α β : Type} {F : α → β → Prop} : ∀ {l1 : List α} {l2 : List β} {i : Nat} {x : α}, Paired F l1 l2 → l1[i]? = some x → ∃ y, l2[i]? = some y ∧ F x y
  | _, _, _, _, .nil, h => by simp at h
  | _, _, 0, _, .cons a _, h => by cases Option.some.inj h; exact ⟨_, rfl, a⟩
  | _, _, i + 1, _, .cons _ b, h => pget1 (i := i) b h
theorem pget2 {α β : Type} {F : α → β → Prop} : ∀ {l1 : List α} {l2 : List β} {i : Nat} {y : β}, Paired F l1 l2 → l2[i]? = some y → ∃ x, l1[i]? = some x ∧ F x y
  | _, _, _, _, .nil, h => by simp at h
  | _, _, 0, _, .cons a _, h => by cases Option.some.inj h; exact ⟨_, rfl, a⟩
  | _, _, i + 1, _, .cons _ b, h => pget2 (i := i) b h
def DoorAt (K : PySem.W.Frag) (H : Hp) (v : V) (p : Nat × Nat) : Prop := ∃ t, v = .ref t ∧ SqT K H t [nI p.1, nI p.2]
def DoorsAt (K : PySem.W.Frag) (H : Hp) (d : Addr) (D : Doors) : Prop := ∃ ds, SqT K H d ds ∧ Paired (DoorAt K H) ds D
def HouseAt (K : PySem.W.Frag) (H : Hp) (h : Addr) (n : Nat) (D : Doors) : Prop := ∃ d, SqT K H h [nI n, .ref d] ∧ DoorsAt K H d D
def RowAt (K : PySem.W.Frag) (H : Hp) (v : V) (row : List Nat) : Prop := ∃ q, v = .ref q ∧ SqL K H q (nT row)
def RowsAt (K : PySem.W.Frag) (H : Hp) (p : Addr) (rows : List (List Nat)) : Prop := ∃ vs, SqL K H p vs ∧ Paired (RowAt K H) vs rows
section
variable {K : PySem.W.Frag} {H H' : Hp}
theorem DoorAt.mono {v : V} {p : Nat × Nat} (e : Ex H H') (h : DoorAt K H v p) : DoorAt K H' v p := let ⟨t, a, b⟩ := h; ⟨t, a, ex_t e b⟩
theorem DoorsAt.mono {d : Addr} {D : Doors} (e : Ex H H') (h : DoorsAt K H d D) : DoorsAt K H' d D := let ⟨ds, a, b⟩ := h; ⟨ds, ex_t e a, Paired.mapP b fun _ _ x => x.mono e⟩
theorem HouseAt.mono {h : Addr} {n : Nat} {D : Doors} (e : Ex H H') (x : HouseAt K H h n D) : HouseAt K H' h n D := let ⟨d, a, b⟩ := x; ⟨d, ex_t e a, b.mono e⟩
theorem RowAt.mono {v : V} {row : List Nat} (e : Ex H H') (h : RowAt K H v row) : RowAt K H' v row := let ⟨q, a, b⟩ := h; ⟨q, a, ex_l e b⟩
theorem RowsAt.mono {p : Addr} {rows : List (List Nat)} (e : Ex H H') (h : RowsAt K H p rows) : RowsAt K H' p rows := let ⟨vs, a, b⟩ := h; ⟨vs, ex_l e a, Paired.mapP b fun _ _ x => x.mono e⟩
end
/-! ### loops over enumerate(tuple) -/
section
variable {K : PySem.W.Frag} {σ : L2.St} {H : Hp} {D : Ends} {tu tz : TS}
theorem s_forE {ta : TA} {a : Addr} {xs : List V} {i1 i2 : Nat} (h : EvA ta σ H [.ref a]) (hx : SqT K H a xs) (Pv : Nat → L2.St → Hp → Prop) (h0 : ∀ H1, Ex H H1 → Pv 0 σ H1) (hq : ∀ i σ' H', Pv i σ' H' → SqT K H' a xs)
    (hs : ∀ (i : Nat) x σ' H', xs[i]? = some x → Pv i σ' H' → ∀ H2, Ex H' H2 → tu { D with nx := Pv (i + 1), ct := Pv (i + 1), bk := D.nx } ((σ'.set i1 (some (nI i))).set i2 (some x)) H2) (hd : ∀ σ' H', Pv xs.length σ' H' → D.nx σ' H') :
    tFor (iEnumT K ta) (gTup K 2 (gCons (gName i1) (gCons (gName i2) gNil))) tu D σ H :=
  h H (Ex.refl H) _ fun H1 e => ⟨a, xs, rfl, ex_t e hx, for_enumT Pv (h0 H1 e) hq (fun i x T σ' H' hi p nT => ⟨T, [nI i, x], rfl, st_of upd_same, rfl, nI i, [x], rfl, x, [], rfl, rfl, hs i x σ' H' hi p _ (Ex.new nT)⟩) hd⟩
theorem rv_geT {a b : Addr} {i j k l : Int} (ha : SqT K H a [.int i, .int j]) (hb : SqT K H b [.int k, .int l]) : RV (rGeT K) (.ref a) (.ref b) H (.bl (decide (k < i ∨ (i = k ∧ l ≤ j)))) := fun H1 e Q q =>
  ⟨a, b, i, j, k, l, rfl, rfl, ex_t e ha, ex_t e hb, q H1 (Ex.refl H1)⟩
end
abbrev sNeedDoors : Stmt := topS 13
abbrev sNeedHouse : Stmt := topS 14
abbrev sNeedNumbers : Stmt := topS 18
abbrev sNeedState : Stmt := topS 19
theorem scNeedDoors : FnScope ["size", "doors", "index", "door", "room"] ["size", "doors"] (defScope sNeedDoors) := ⟨rfl, rfl, rfl, by decide +kernel, rfl, by decide +kernel, by decide +kernel⟩
theorem scNeedHouse : FnScope ["house"] ["house"] (defScope sNeedHouse) := ⟨rfl, rfl, rfl, by decide +kernel, rfl, by decide +kernel, by decide +kernel⟩
theorem scNeedNumbers : FnScope ["house", "state", "index", "number"] ["house", "state"] (defScope sNeedNumbers) := ⟨rfl, rfl, rfl, by decide +kernel, rfl, by decide +kernel, by decide +kernel⟩
theorem scNeedState : FnScope ["house", "state"] ["house", "state"] (defScope sNeedState) := ⟨rfl, rfl, rfl, by decide +kernel, rfl, by decide +kernel, by decide +kernel⟩
def spNeedDoors (K : PySem.W.Frag) : Sp := fun vs H Q _ => ∃ (n : Nat) (d : Addr) (D : Doors), vs = [nI n, .ref d] ∧ House n D ∧ DoorsAt K H d D ∧ RetV .non H Q
def spNeedHouse (K : PySem.W.Frag) : Sp := fun vs H Q _ => ∃ (h : Addr) (n : Nat) (D : Doors), vs = [.ref h] ∧ House n D ∧ HouseAt K H h n D ∧ RetV .non H Q
def spNeedNumbers (K : PySem.W.Frag) : Sp := fun vs H Q _ => ∃ (h a : Addr) (n : Nat) (D : Doors) (s : State), vs = [.ref h, .ref a] ∧ HouseAt K H h n D ∧ SqT K H a (nT s) ∧ s.length = n ∧ (∀ x ∈ s, x ≤ 60) ∧ RetV .non H Q
def spNeedState (K : PySem.W.Frag) : Sp := fun vs H Q _ => ∃ (h a : Addr) (n : Nat) (D : Doors) (s : State), vs = [.ref h, .ref a] ∧ House n D ∧ HouseAt K H h n D ∧ SqT K H a (nT s) ∧ s.length = n ∧ (∀ x ∈ s, x ≤ 60) ∧ RetV .non H Q
section
variable {P : Program} {w : World} {K : PySem.W.Frag} {mg : Str → Option Value} {base : Heap}
abbrev CIsIn (P : Program) (w : World) (K : PySem.W.Frag) (mg : Str → Option Value) (base : Heap) : Prop := Cal P w K mg base 2 "is_in" ["value", "least", "most"] spIsIn
abbrev CIsList (P : Program) (w : World) (K : PySem.W.Frag) (mg : Str → Option Value) (base : Heap) : Prop := Cal P w K mg base 1 "is_list" ["value", "least", "most"] (spIsList K)
theorem sv_isIn {H : Hp} {v l m : Int} {b : Bool} (h : (decide (l ≤ v) && decide (v ≤ m)) = b) : SpV spIsIn [.int v, .int l, .int m] H (.bl b) := fun H1 e Q q E => ⟨v, l, m, rfl, by rw [h]; exact q⟩
theorem sv_isList {H : Hp} {a : Addr} {xs : List V} {l m : Int} {b : Bool} (hx : SqT K H a xs) (h : (decide (l ≤ (xs.length : Int)) && decide ((xs.length : Int) ≤ m)) = b) : SpV (spIsList K) [.ref a, .int l, .int m] H (.bl b) := fun H1 e Q q E =>
  ⟨a, xs, l, m, rfl, ex_t e hx, by rw [h]; exact q⟩
theorem ok_needDoors {f : Addr} {fd : FuncData} (F : Fun K "need_doors" "need_doors" sNeedDoors f fd) (B : Blt mg) (C1 : CIsIn P w K mg base) (C2 : CIsList P w K mg base) : FnOk P w K mg base CX0 3 f fd ["size", "doors"] (spNeedDoors K) := by
  refine F.ok scNeedDoors (fun vs H Q E h => ?_) (fun cdv A outer s H vs Q E hr h => ?_)
  · obtain ⟨n, d, D, rfl, _⟩ := h
    rfl
  · obtain ⟨n, d, D, rfl, hh, ⟨ds, hds, hp⟩, q⟩ := h
    obtain ⟨tr, htr⟩ := B.rooms
    have nd := scNeedDoors.nd
    refine ⟨_, pss_cons (ps_if (pt_not (pt_val (pe_cal C2 (hr.mono (by decide)) (by rfl) (pa_cons (pv 1) (pa_cons pe_int (pa_cons (pe_op op_fdiv (pe_op op_mul (pe_glob (by rfl) htr (v := .int 8) ⟨tr, rfl⟩) (pe_op op_sub (pe_glob (by rfl) htr (v := .int 8) ⟨tr, rfl⟩) pe_int)) pe_int) pa_nil)))))) pss_never pss_nil)
      (pss_one (ps_for PassesOwn.never rfl (pi_enumT (by rfl) B.enum (pa_cons (pv 1) pa_nil)) (pg_tup rfl (pgs_cons (pg_name (i := 2) nd rfl (.inl rfl)) (pgs_cons (pg_name (i := 3) nd rfl (.inl rfl)) pgs_nil)))
        (pss_cons (ps_if (PW.pt (pw_or (pt_not (pt_val (pe_cal C2 (hr.mono (by decide)) (by rfl) (pa_cons (pv 3) (pa_cons pe_int (pa_cons pe_int pa_nil))))))
            (pw_or (pt_not (pt_val (pe_callB (cr_all rfl) (by rfl) B.all (by decide +kernel) (pa_cons (pe_lc (own := [("room", 4)]) (g := gName 4) (tt := tYes) rfl nd (pi_tup (pv 3)) (blkOk_by (own := [("room", 4)]) (N := ["size", "doors", "index", "door", "room"]) (sc := defScope sNeedDoors) (by decide +kernel))
              (fun _ _ _ _ _ => pg_name (i := 4) nd rfl (Or.inl rfl)) (fun _ _ _ _ _ => pts_nil) (fun _ _ _ _ _ => pe_cal C1 (hr.mono (by decide)) (by rfl) (pa_cons (pv 4) (pa_cons pe_int (pa_cons (pe_op op_sub (pv 0) pe_int) pa_nil))))) pa_nil))))
            (pw_or1 (pt_cmpR op_ge (pe_ix ix_tup (pv 3) pe_int (fun _ _ => rfl)) (pe_ix ix_tup (pv 3) pe_int (fun _ _ => rfl)) (nomark _)))))) pss_never pss_nil)
        (pss_one (ps_if (PW.pt (pw_and (pt_cmpR op_gt (pv 2) pe_int (nomark _)) (pw_and1 (pt_cmpR (op_geT hr.units0) (pe_ix ix_tup (pv 1) (pe_op op_sub (pv 2) pe_int) (fun _ _ => rfl)) (pv 3) (nomark _))))) pss_never pss_nil))))), ?_⟩
    have hlen : ds.length = D.length := Paired.length hp
    refine q_when (b := false) (et_not (a := true) (et_B (ev_call (ea_cons (ev_var rfl) (ea_cons ev_c (ea_cons (ev_op (ev_op ev_c (ev_op ev_c ev_c (rv_I0 (g := fun i j => .int (i - j)))) (rv_I (g := fun i j => .int (i * j)) (.inl ⟨by decide, by decide⟩))) ev_c (rv_I (g := fun i j => .int (i / j)) ⟨by decide, by decide⟩)) ea_nil)))
      (sv_isList hds (by
        have := hh.few
        rw [Bool.and_eq_true]
        exact ⟨decide_eq_true (by omega), decide_eq_true (by show (ds.length : Int) ≤ 28; omega)⟩))))) (fun z => by cases z) (fun _ H1 e1 => ?_)
    refine s_forE (ea_cons (ev_var rfl) ea_nil) (ex_t e1 hds) (fun i σ' H' => (∃ y2 y3, σ' = [some (nI n), some (.ref d), y2, y3, none]) ∧ Ex H H') (fun H2 e2 => ⟨⟨none, none, rfl⟩, e1.trans e2⟩) (fun i σ' H' p => ex_t p.2 hds) ?_ (fun σ' H' p => q H' p.2)
    rintro i x σ' H' hi ⟨⟨y2, y3, rfl⟩, eH⟩ H2 e2
    obtain ⟨p, hpD, t, rfl, ht⟩ := pget1 hp hi
    have e3 : Ex H H2 := eH.trans e2
    have hok := hh.ok p (List.mem_of_getElem? hpD)
    have htp := hh.top
    have ht2 := ex_t e3 ht
    refine q_when (b := false) (et_or (a := false) (b := false) (et_not (a := true) (et_B (ev_call (ea_cons (ev_var rfl) (ea_cons ev_c (ea_cons ev_c ea_nil))) (sv_isList ht2 (by rfl))))) fun _ =>
      et_or (a := false) (b := false) (et_not (a := true) (et_B (ev_is (ev_allN (bs := [p.1, p.2].map fun _ => true) (by
          have := el_T (te := tCall spIsIn [] E0 (tCons (tVar 4) (tCons (tC (.int 0)) (tCons (tOp (rI0 fun i j => .int (i - j)) (tVar 0) (tC (.int 1))) tNil)))) (t := tYes) (K := K) (l := [p.1, p.2]) (c := nI) (f := fun _ => true) (v := fun _ => .bl true) (j := 4) (vs := [4]) (tl := tVar 3) (σ := [some (nI n), some (.ref d), some (nI i), some (.ref t), none]) (H := H2) (a := t)
            (ev_var rfl) ht2 (by simp) (fun _ => rfl) (fun _ _ _ _ => et_yes) (fun y hy H3 e4 _ => ev_call (ea_cons (ev_var rfl) (ea_cons ev_c (ea_cons (ev_op (ev_var rfl) ev_c (rv_I0 (g := fun i j => .int (i - j)))) ea_nil))) (sv_isIn (by
              have hy' : y = p.1 ∨ y = p.2 := by simpa using hy
              rw [Bool.and_eq_true]
              refine ⟨decide_eq_true (by omega), decide_eq_true ?_⟩
              omega)))
          exact this)) rfl))) fun _ =>
        et_test (ev_is (ev_op (ev_op (ev_var rfl) ev_c (rv_ixT (v := nI p.1) ht2 rfl)) (ev_op (ev_var rfl) ev_c (rv_ixT (v := nI p.2) ht2 rfl)) (rv_I0 (g := fun i j => .bl (decide (j ≤ i))))) (by
          congr 1
          exact decide_eq_false (by omega)))) (fun z => by cases z) (fun _ H3 e4 => ?_)
    refine s_when (b := false) (et_is (et_and (a := decide ((0 : Int) < (i : Int))) (b := false) (et_test (ev_op (ev_var rfl) ev_c (rv_I0 (g := fun i j => .bl (decide (j < i)))))) fun hpos => ?_) (by simp)) (fun z => by cases z) (fun _ H4 e5 => ⟨⟨_, _, rfl⟩, ((eH.trans e2).trans e4).trans e5⟩)
    have hpos : 0 < i := by
      have := of_decide_eq_true hpos
      omega
    have hil : i - 1 < D.length := by
      have := (List.getElem?_eq_some_iff.mp hpD).1
      omega
    obtain ⟨x', hx', t', rfl, ht'⟩ := pget2 hp (List.getElem?_eq_getElem hil)
    have e6 : Ex H H3 := e3.trans e4
    have hlt : Mx.lexLt D[i - 1] p := by
      have h1 := List.pairwise_iff_getElem.mp hh.asc (i - 1) i hil (List.getElem?_eq_some_iff.mp hpD).1 (by omega)
      rw [(List.getElem?_eq_some_iff.mp hpD).2] at h1
      exact h1
    refine et_test (ev_is (ev_op (ev_op (ev_var rfl) (ev_op (ev_var rfl) ev_c (rv_I0 (g := fun i j => .int (i - j)))) (rv_ixT (v := .ref t') (ex_t e6 hds) (at_of (j := i - 1) (by omega) hx'))) (ev_var rfl) (rv_geT (ex_t e6 ht') (ex_t e6 ht))) (by
      congr 1
      refine decide_eq_false ?_
      unfold Mx.lexLt at hlt
      omega))
end
end MxD
namespace MxD
open PySem PySem.Spec PyProof.Rows L2 Evl MxR Mx MxB MxE
section
variable {P : Program} {w : World} {K : PySem.W.Frag} {mg : Str → Option Value} {base : Heap}
theorem ok_needHouse {f : Addr} {fd : FuncData} (F : Fun K "need_house" "need_house" sNeedHouse f fd) (B : Blt mg) (C1 : CIsIn P w K mg base) (C2 : CIsList P w K mg base) (C3 : Cal P w K mg base 3 "need_doors" ["size", "doors"] (spNeedDoors K)) : FnOk P w K mg base CX0 4 f fd ["house"] (spNeedHouse K) := by
  refine F.ok scNeedHouse (fun vs H Q E h => ?_) (fun cdv A outer s H vs Q E hr h => ?_)
  · obtain ⟨h, n, D, rfl, _⟩ := h
    rfl
  · obtain ⟨h, n, D, rfl, hh, ⟨d, hd, hds⟩, q⟩ := h
    obtain ⟨tr, htr⟩ := B.rooms
    refine ⟨_, pss_cons (ps_if (pt_not (pt_val (pe_cal C2 (hr.mono (by decide)) (by rfl) (pa_cons (pv 0) (pa_cons pe_int (pa_cons pe_int pa_nil)))))) pss_never pss_nil)
      (pss_cons (ps_if (pt_not (pt_val (pe_cal C1 (hr.mono (by decide)) (by rfl) (pa_cons (pe_ix ix_tup (pv 0) pe_int (fun _ _ => rfl)) (pa_cons pe_int (pa_cons (pe_glob (by rfl) htr (v := .int 8) ⟨tr, rfl⟩) pa_nil)))))) pss_never pss_nil)
      (pss_one (ps_expr (pe_cal C3 hr (by rfl) (pa_cons (pe_ix ix_tup (pv 0) pe_int (fun _ _ => rfl)) (pa_cons (pe_ix ix_tup (pv 0) pe_int (fun _ _ => rfl)) pa_nil)))))), ?_⟩
    have i0 : ∀ {H1 : Hp} {σ : L2.St}, σ[0]? = some (some (.ref h)) → Ex H H1 → Ev (tOp (rIxT K) (tVar 0) (tC (.int 0))) σ H1 (nI n) := fun hs e => ev_op (ev_var hs) ev_c (rv_ixT (ex_t e hd) rfl)
    refine q_when (b := false) (et_not (a := true) (et_B (ev_call (ea_cons (ev_var rfl) (ea_cons ev_c (ea_cons ev_c ea_nil))) (sv_isList hd (by rfl))))) (fun z => by cases z) (fun _ H1 e1 => ?_)
    refine q_when (b := false) (et_not (a := true) (et_B (ev_call (ea_cons (i0 rfl e1) (ea_cons ev_c (ea_cons ev_c ea_nil))) (sv_isIn (by
      have := hh.pos
      have := hh.top
      rw [Bool.and_eq_true]
      exact ⟨decide_eq_true (by omega), decide_eq_true (by omega)⟩))))) (fun z => by cases z) (fun _ H2 e2 => ?_)
    have e3 := e1.trans e2
    exact s_drop (ev_call (ea_cons (i0 rfl e3) (ea_cons (ev_op (ev_var rfl) ev_c (rv_ixT (v := .ref d) (ex_t e3 hd) rfl)) ea_nil)) (z := .non) fun H3 e4 Q' k E' => ⟨n, d, D, rfl, hh, hds.mono (e3.trans e4), k⟩) fun H3 e4 => q H3 (e3.trans e4)
theorem ok_needNumbers {f : Addr} {fd : FuncData} (F : Fun K "need_numbers" "need_numbers" sNeedNumbers f fd) (B : Blt mg) (C1 : CIsIn P w K mg base) (C2 : CIsList P w K mg base) : FnOk P w K mg base CX0 3 f fd ["house", "state"] (spNeedNumbers K) := by
  refine F.ok scNeedNumbers (fun vs H Q E h => ?_) (fun cdv A outer s H vs Q E hr h => ?_)
  · obtain ⟨h, a, n, D, s, rfl, _⟩ := h
    rfl
  · obtain ⟨h, a, n, D, st, rfl, ⟨d, hd, hds⟩, ha, hl, h60, q⟩ := h
    obtain ⟨tr, htr⟩ := B.number
    have nd := scNeedNumbers.nd
    refine ⟨_, pss_cons (ps_if (pt_not (pt_val (pe_cal C2 (hr.mono (by decide)) (by rfl) (pa_cons (pv 1) (pa_cons (pe_ix ix_tup (pv 0) pe_int (fun _ _ => rfl)) (pa_cons (pe_ix ix_tup (pv 0) pe_int (fun _ _ => rfl)) pa_nil)))))) pss_never pss_nil)
      (pss_one (ps_for PassesOwn.never rfl (pi_enumT (by rfl) B.enum (pa_cons (pv 1) pa_nil)) (pg_tup rfl (pgs_cons (pg_name (i := 2) nd rfl (.inl rfl)) (pgs_cons (pg_name (i := 3) nd rfl (.inl rfl)) pgs_nil)))
        (pss_one (ps_if (pt_not (pt_val (pe_cal C1 (hr.mono (by decide)) (by rfl) (pa_cons (pv 3) (pa_cons pe_int (pa_cons (pe_glob (by rfl) htr (v := .int 60) ⟨tr, rfl⟩) pa_nil)))))) pss_never pss_nil)))), ?_⟩
    have i0 : ∀ {H1 : Hp} {σ : L2.St}, σ[0]? = some (some (.ref h)) → Ex H H1 → Ev (tOp (rIxT K) (tVar 0) (tC (.int 0))) σ H1 (nI n) := fun hs e => ev_op (ev_var hs) ev_c (rv_ixT (ex_t e hd) rfl)
    refine q_when (b := false) (et_not (a := true) (et_B (ev_call (ea_cons (ev_var rfl) (ea_cons (i0 rfl (Ex.refl H)) (ea_cons (i0 rfl (Ex.refl H)) ea_nil))) (sv_isList ha (by
      unfold nT
      rw [List.length_map, hl, Bool.and_eq_true]
      exact ⟨decide_eq_true (Int.le_refl _), decide_eq_true (Int.le_refl _)⟩))))) (fun z => by cases z) (fun _ H1 e1 => ?_)
    refine s_forE (ea_cons (ev_var rfl) ea_nil) (ex_t e1 ha) (fun i σ' H' => (∃ y2 y3, σ' = [some (.ref h), some (.ref a), y2, y3]) ∧ Ex H H') (fun H2 e2 => ⟨⟨none, none, rfl⟩, e1.trans e2⟩) (fun i σ' H' p => ex_t p.2 ha) ?_ (fun σ' H' p => q H' p.2)
    rintro i x σ' H' hi ⟨⟨y2, y3, rfl⟩, eH⟩ H2 e2
    unfold nT at hi
    rw [List.getElem?_map] at hi
    obtain ⟨z, hz, rfl⟩ := Option.map_eq_some_iff.mp hi
    have hz60 := h60 z (List.mem_of_getElem? hz)
    exact s_when (b := false) (et_not (a := true) (et_B (ev_call (ea_cons (ev_var rfl) (ea_cons ev_c (ea_cons ev_c ea_nil))) (sv_isIn (by
      rw [Bool.and_eq_true]
      exact ⟨decide_eq_true (by omega), decide_eq_true (by omega)⟩))))) (fun z => by cases z) (fun _ H4 e5 => ⟨⟨_, _, rfl⟩, (eH.trans e2).trans e5⟩)
theorem ok_needState {f : Addr} {fd : FuncData} (F : Fun K "need_state" "need_state" sNeedState f fd) (C1 : Cal P w K mg base 4 "need_house" ["house"] (spNeedHouse K)) (C2 : Cal P w K mg base 3 "need_numbers" ["house", "state"] (spNeedNumbers K)) : FnOk P w K mg base CX0 5 f fd ["house", "state"] (spNeedState K) := by
  refine F.ok scNeedState (fun vs H Q E h => ?_) (fun cdv A outer s H vs Q E hr h => ?_)
  · obtain ⟨h, a, n, D, s, rfl, _⟩ := h
    rfl
  · obtain ⟨h, a, n, D, st, rfl, hh, hH, ha, hl, h60, q⟩ := h
    refine ⟨_, pss_cons (ps_expr (pe_cal C1 hr (by rfl) (pa_cons (pv 0) pa_nil))) (pss_one (ps_expr (pe_cal C2 (hr.mono (by decide)) (by rfl) (pa_cons (pv 0) (pa_cons (pv 1) pa_nil))))), ?_⟩
    refine q_drop (ev_call (ea_cons (ev_var rfl) ea_nil) (z := .non) fun H3 e4 Q' k E' => ⟨h, n, D, rfl, hh, hH.mono e4, k⟩) fun H1 e1 => ?_
    exact s_drop (ev_call (ea_cons (ev_var rfl) (ea_cons (ev_var rfl) ea_nil)) (z := .non) fun H3 e4 Q' k E' => ⟨h, a, n, D, st, rfl, hH.mono (e1.trans e4), ex_t (e1.trans e4) ha, hl, h60, k⟩) fun H3 e4 => q H3 (e1.trans e4)
end
end MxD
namespace MxD
open PySem PySem.Spec PyProof.Rows L2 Evl MxR Mx MxB MxE
/-! ### the rows, door by door -/
def addTo (rows : List (List Nat)) (x y : Nat) : List (List Nat) := rows.set x (rows.getD x [] ++ [y])
def addDoor (rows : List (List Nat)) (p : Nat × Nat) : List (List Nat) := addTo (addTo rows p.1 p.2) p.2 p.1
def rowsU (n : Nat) (D : Doors) : List (List Nat) := D.foldl addDoor (List.replicate n [])
theorem addTo_len (rows : List (List Nat)) (x y : Nat) : (addTo rows x y).length = rows.length := by simp [addTo]
theorem addTo_get {rows : List (List Nat)} {x y z : Nat} (hx : x < rows.length) : (addTo rows x y).getD z [] = if z = x then rows.getD x [] ++ [y] else rows.getD z [] := by
  unfold addTo
  simp only [List.getD_eq_getElem?_getD, List.getElem?_set]
  by_cases h : x = z
  · subst h; simp [hx]
  · have h' : ¬ z = x := fun e => h e.symm
    simp [h, h']
theorem rowsU_snoc (n : Nat) (D : Doors) (p : Nat × Nat) : rowsU n (D ++ [p]) = addDoor (rowsU n D) p := by simp [rowsU]
theorem rowsU_len (n : Nat) : ∀ D : Doors, (rowsU n D).length = n := by
  intro D
  unfold rowsU
  suffices h : ∀ (D : Doors) (r : List (List Nat)), (D.foldl addDoor r).length = r.length by rw [h]; simp
  intro D
  induction D with
  | nil => intro r; rfl
  | cons p D ih => intro r; rw [List.foldl_cons, ih]; unfold addDoor; rw [addTo_len, addTo_len]
theorem rowsU_ok {n : Nat} {D : Doors} (h : House n D) : RowsOk n D (rowsU n D) := by
  suffices key : ∀ (u pre : Doors), (∀ p ∈ pre ++ u, p.1 < p.2 ∧ p.2 < n) → ((∀ x, x < n → ∀ y, y ∈ (rowsU n pre).getD x [] ↔ adj pre x y = true) ∧ ∀ x, x < n → ((rowsU n pre).getD x []).length ≤ pre.length) →
      ((∀ x, x < n → ∀ y, y ∈ (rowsU n (pre ++ u)).getD x [] ↔ adj (pre ++ u) x y = true) ∧ ∀ x, x < n → ((rowsU n (pre ++ u)).getD x []).length ≤ (pre ++ u).length) by
    have := key D [] (by simpa using h.ok) ⟨fun x hx y => by simp [rowsU, adj, List.getD_eq_getElem?_getD, hx], fun x hx => by simp [rowsU, List.getD_eq_getElem?_getD, hx]⟩
    rw [List.nil_append] at this
    exact ⟨rowsU_len n D, this.1, fun x hx => Nat.le_trans (this.2 x hx) h.few⟩
  intro u
  induction u with
  | nil => intro pre _ hp; rw [List.append_nil]; exact hp
  | cons p u ih =>
    intro pre hok hp
    have e : pre ++ p :: u = (pre ++ [p]) ++ u := by simp
    rw [e] at hok ⊢
    refine ih _ hok ?_
    have hpp := hok p (by simp)
    have l1 : p.1 < (rowsU n pre).length := by rw [rowsU_len]; omega
    have l2 : p.2 < (addTo (rowsU n pre) p.1 p.2).length := by rw [addTo_len, rowsU_len]; omega
    have get : ∀ z, (rowsU n (pre ++ [p])).getD z [] = if z = p.2 then (rowsU n pre).getD p.2 [] ++ [p.1] else if z = p.1 then (rowsU n pre).getD p.1 [] ++ [p.2] else (rowsU n pre).getD z [] := fun z => by
      rw [rowsU_snoc]
      unfold addDoor
      rw [addTo_get l2, addTo_get l1, addTo_get l1]
      have : ¬ p.2 = p.1 := by omega
      rw [if_neg this]
    refine ⟨fun x hx y => ?_, fun x hx => ?_⟩
    · rw [get x]
      have i1 := hp.1 p.1 (by omega) y
      have i2 := hp.1 p.2 (by omega) y
      have i3 := hp.1 x hx y
      have ea : adj (pre ++ [p]) x y = true ↔ adj pre x y = true ∨ (x = p.1 ∧ y = p.2) ∨ (x = p.2 ∧ y = p.1) := by
        rw [adj_iff, adj_iff]
        simp only [List.mem_append, List.mem_singleton, Prod.ext_iff]
        constructor
        · rintro ((z | z) | (z | z))
          · exact .inl (.inl z)
          · exact .inr (.inl z)
          · exact .inl (.inr z)
          · exact .inr (.inr ⟨z.2, z.1⟩)
        · rintro ((z | z) | z | z)
          · exact .inl (.inl z)
          · exact .inr (.inl z)
          · exact .inl (.inr z)
          · exact .inr (.inr ⟨z.2, z.1⟩)
      rw [ea]
      by_cases c2 : x = p.2
      · subst c2
        rw [if_pos rfl, List.mem_append, i2, List.mem_singleton]
        constructor
        · rintro (z | z)
          · exact .inl z
          · exact .inr (.inr ⟨rfl, z⟩)
        · rintro (z | z | z)
          · exact .inl z
          · omega
          · exact .inr z.2
      · rw [if_neg c2]
        by_cases c1 : x = p.1
        · subst c1
          rw [if_pos rfl, List.mem_append, i1, List.mem_singleton]
          constructor
          · rintro (z | z)
            · exact .inl z
            · exact .inr (.inl ⟨rfl, z⟩)
          · rintro (z | z | z)
            · exact .inl z
            · exact .inr z.2
            · exact absurd z.1 c2
        · rw [if_neg c1, i3]
          constructor
          · exact .inl
          · rintro (z | z | z)
            · exact z
            · exact absurd z.1 c1
            · exact absurd z.1 c2
    · rw [get x, List.length_append]
      have j1 := hp.2 p.1 (by omega)
      have j2 := hp.2 p.2 (by omega)
      have j3 := hp.2 x hx
      show _ ≤ pre.length + 1
      split
      · rw [List.length_append]; show _ + 1 ≤ _; omega
      · split
        · rw [List.length_append]; show _ + 1 ≤ _; omega
        · omega
/-! ### the rows in the heap while they grow -/
structure Rws (H0 H' : Hp) (as : List Addr) (rows : List (List Nat)) : Prop where
  len : as.length = rows.length
  nd : as.Nodup
  new : ∀ a ∈ as, H0 a = none
  at' : ∀ (k : Nat) (a : Addr), as[k]? = some a → H' a = some (.lst (nT (rows.getD k [])))
theorem Rws.mono {H0 H1 H2 : Hp} {as : List Addr} {rows : List (List Nat)} (r : Rws H0 H1 as rows) (e : Ex H1 H2) : Rws H0 H2 as rows := ⟨r.len, r.nd, r.new, fun k a h => e a _ (r.at' k a h)⟩
theorem Rws.add {H0 H1 : Hp} {as : List Addr} {rows : List (List Nat)} {x y : Nat} {a : Addr} (r : Rws H0 H1 as rows) (ha : as[x]? = some a) : Rws H0 (upd H1 a (.lst (nT (rows.getD x []) ++ [nI y]))) as (addTo rows x y) := by
  have hx : x < as.length := (List.getElem?_eq_some_iff.mp ha).1
  refine ⟨by rw [addTo_len]; exact r.len, r.nd, r.new, fun k b hb => ?_⟩
  rw [addTo_get (by rw [← r.len]; exact hx)]
  by_cases e : k = x
  · subst e
    rw [ha] at hb
    cases hb
    rw [upd_same, if_pos rfl]
    unfold nT
    rw [List.map_append]
    rfl
  · have hne : b ≠ a := fun z => by
      subst z
      exact e (nd_ix r.nd hb ha)
    rw [upd_ne hne, if_neg e]
    exact r.at' k b hb
theorem Rws.snoc {H0 H1 : Hp} {as : List Addr} {rows : List (List Nat)} {a : Addr} (r : Rws H0 H1 as rows) (h0 : H0 a = none) (hna : a ∉ as) (h1 : H1 a = some (.lst [])) : Rws H0 H1 (as ++ [a]) (rows ++ [[]]) := by
  refine ⟨by simp [r.len], ?_, fun b hb => ?_, fun k b hb => ?_⟩
  · rw [List.nodup_append]
    exact ⟨r.nd, by simp, fun x hx y hy e => by
      rw [List.mem_singleton] at hy
      subst hy
      exact hna (e ▸ hx)⟩
  · rcases List.mem_append.mp hb with hb | hb
    · exact r.new b hb
    · rw [List.mem_singleton.mp hb]; exact h0
  · rw [List.getElem?_append] at hb
    by_cases hk : k < as.length
    · rw [if_pos hk] at hb
      have : (rows ++ [[]]).getD k [] = rows.getD k [] := by
        simp only [List.getD_eq_getElem?_getD]
        rw [List.getElem?_append_left (by rw [← r.len]; exact hk)]
      rw [this]
      exact r.at' k b hb
    · rw [if_neg hk] at hb
      have hk2 : k - as.length = 0 := by
        have := (List.getElem?_eq_some_iff.mp hb).1
        simp at this
        omega
      rw [hk2] at hb
      have e : a = b := Option.some.inj hb
      subst e
      have : (rows ++ [[]]).getD k [] = [] := by
        simp only [List.getD_eq_getElem?_getD]
        rw [List.getElem?_append_right (by rw [← r.len]; omega)]
        have : k - rows.length = 0 := by rw [← r.len]; exact hk2
        rw [this]
        rfl
      rw [this]
      exact h1
/-- in the end -/
theorem Rws.rows {K : PySem.W.Frag} {H0 H1 : Hp} {as : List Addr} {rows : List (List Nat)} {p : Addr} (r : Rws H0 H1 as rows) (hp : SqL K H1 p (as.map V.ref)) : RowsAt K H1 p rows := by
  refine ⟨_, hp, ?_⟩
  have hl := r.len
  have ha := r.at'
  clear hp
  suffices h : ∀ (as : List Addr) (rows : List (List Nat)), as.length = rows.length → (∀ (k : Nat) (a : Addr), as[k]? = some a → H1 a = some (.lst (nT (rows.getD k [])))) → Paired (RowAt K H1) (as.map V.ref) rows from h as rows hl ha
  intro as
  induction as with
  | nil =>
    intro rows hl _
    cases rows with
    | nil => exact .nil
    | cons a b => cases hl
  | cons a as ih =>
    intro rows hl h
    cases rows with
    | nil => cases hl
    | cons r rows =>
      refine .cons ⟨a, rfl, sq_of (h 0 a rfl)⟩ (ih rows (Nat.succ.inj hl) fun k b hb => ?_)
      exact h (k + 1) b hb
/-- [[] for room in range(n)] -/
theorem el_rows {σ : L2.St} {H : Hp} {ta : TA} {j : Nat} {vs : List Nat} {n : Nat} {Q : VK} (h : EvA ta σ H [nI n]) (hn : n ≤ 1000) (hw : ∀ x, wipe ((wipe σ vs).set j (some x)) vs = wipe σ vs)
    (q : ∀ (F : Addr) (as : List Addr) (H2 : Hp), H F = none → F ∉ as → Ex H H2 → H2 F = some (.lst (as.map V.ref)) → Rws H H2 as (List.replicate n []) → Q (.ref F) H2) : tLc (iRng1 ta) (gName j) tYes (tLst tNil) vs σ H Q :=
  h H (Ex.refl H) _ fun H1 e1 => ⟨(n : Int), rfl, by omega, by omega, fun Dl hD =>
    lc_range (lo := 0) (n := (n : Int).toNat) (fun i H' => Ex H H' ∧ ∃ as, Dl ∉ as ∧ H' Dl = some (.lst (as.map V.ref)) ∧ Rws H H' as (List.replicate i []))
      ⟨e1.trans (Ex.new hD), [], by simp, upd_same, ⟨rfl, List.nodup_nil, by simp, by simp⟩⟩
      (fun i H' hi p => by
        obtain ⟨e2, as, p1, p2, p3⟩ := p
        refine ⟨hw _, ?_⟩
        dsimp only [tYes]
        rw [if_pos rfl]
        refine ⟨by rw [sizeLine_eq]; exact Nat.zero_le _, fun l hl => ⟨as.map V.ref, ?_, ?_, ?_, as ++ [l], ?_, ?_, ?_⟩⟩
        · rw [upd_ne (ne_of_none p2 hl)]
          exact p2
        · rw [List.length_map, p3.len, List.length_replicate, sizeLine_eq]
          omega
        · exact Ex.mut (e2.trans (Ex.new hl)) (fresh_back e1 hD)
        · intro z
          rcases List.mem_append.mp z with z | z
          · exact p1 z
          · rw [List.mem_singleton] at z
            exact ne_of_none p2 hl z
        · rw [upd_same, List.map_append]
          rfl
        · have hla : l ∉ as := fun z => by
            obtain ⟨k, hk⟩ := List.mem_iff_getElem?.mp z
            rw [p3.at' k l hk] at hl
            cases hl
          have r1 := (p3.mono (Ex.new hl)).snoc (a := l) (fresh_back e2 hl) hla (by rw [upd_same])
          rw [List.replicate_succ', ]
          refine ⟨r1.len, r1.nd, r1.new, fun k b hb => ?_⟩
          have hne : b ≠ Dl := fun z => by
            subst z
            rcases List.mem_append.mp (List.mem_of_getElem? hb) with z | z
            · exact p1 z
            · rw [List.mem_singleton] at z
              exact ne_of_none p2 hl z
          rw [upd_ne hne]
          exact r1.at' k b hb)
      (fun H' p => by
        obtain ⟨e2, as, p1, p2, p3⟩ := p
        exact q Dl as H' (fresh_back e1 hD) p1 e2 p2 p3)⟩
end MxD
namespace MxD
open PySem PySem.Spec PyProof.Rows L2 Evl MxR Mx MxB MxE
abbrev sNear : Stmt := topS 15
abbrev sLNear : Stmt := topS 43
theorem scNear : FnScope ["house", "found", "one", "other", "room", "row"] ["house"] (defScope sNear) := ⟨rfl, rfl, rfl, by decide +kernel, rfl, by decide +kernel, by decide +kernel⟩
theorem scLNear : FnScope ["_law_house_here", "_law_found", "_law_one", "_law_other", "_law_room"] ["_law_house_here"] (defScope sLNear) := ⟨rfl, rfl, rfl, by decide +kernel, rfl, by decide +kernel, by decide +kernel⟩
def spNear (K : PySem.W.Frag) : Sp := fun vs H Q _ => ∃ (h : Addr) (n : Nat) (D : Doors), vs = [.ref h] ∧ House n D ∧ HouseAt K H h n D ∧ ∀ p H2 rows, Ex H H2 → RowsOk n D rows → RowsAt K H2 p rows → Q (.ref p) H2
/-! ### sorted(row) -/
theorem perm_nat {ns : List Nat} {ms : List Int} (h : ms.Perm (ns.map Int.ofNat)) : ∃ ns' : List Nat, ns'.Perm ns ∧ ms = ns'.map Int.ofNat := by
  refine ⟨ms.map Int.toNat, ?_, ?_⟩
  · have h1 := h.map Int.toNat
    rw [List.map_map] at h1
    have e : (Int.toNat ∘ Int.ofNat) = id := by funext x; rfl
    rw [e, List.map_id] at h1
    exact h1
  · rw [List.map_map]
    have : ∀ x ∈ ms, (Int.ofNat ∘ Int.toNat) x = x := fun x hx => by
      obtain ⟨y, _, e⟩ := List.mem_map.mp (h.mem_iff.mp hx)
      rw [← e]
      rfl
    have e2 : ms.map (Int.ofNat ∘ Int.toNat) = ms.map id := List.map_congr_left fun x hx => this x hx
    rw [e2, List.map_id]
theorem nT_ofNat (l : List Nat) : nT l = (l.map Int.ofNat).map V.int := by
  unfold nT
  rw [List.map_map]
  rfl
section
variable {K : PySem.W.Frag} {σ : L2.St} {H : Hp} {D : Ends}
def tLoopNear (K : PySem.W.Frag) : TS := tFor (iTup K (tOp (rIxT K) (tVar 0) (tC (.int 1)))) (gTup K 2 (gCons (gName 2) (gCons (gName 3) gNil)))
  (tSeq (tDrop (tBM K "list" rAppend (tOp (rIxL K) (tVar 1) (tVar 2)) (tCons (tVar 3) tNil))) (tDrop (tBM K "list" rAppend (tOp (rIxL K) (tVar 1) (tVar 3)) (tCons (tVar 2) tNil))))
theorem near_loop {h F : Addr} {n : Nat} {Do : Doors} {as : List Addr} {H0 : Hp} {y2 y3 : Option V} {tl : L2.St} (hh : House n Do) (hH : HouseAt K H0 h n Do) (e : Ex H0 H) (hF : H F = some (.lst (as.map V.ref))) (h0 : H0 F = none) (hFa : F ∉ as) (r : Rws H0 H as (List.replicate n []))
    (k : ∀ z2 z3 H2, Ex H0 H2 → H2 F = some (.lst (as.map V.ref)) → Rws H0 H2 as (rowsU n Do) → D.nx (some (.ref h) :: some (.ref F) :: z2 :: z3 :: tl) H2) : tLoopNear K D (some (.ref h) :: some (.ref F) :: y2 :: y3 :: tl) H := by
  obtain ⟨d, hd, ds, hds, hp⟩ := hH
  have hlen : ds.length = Do.length := Paired.length hp
  refine s_forT (xs := ds) (a := d) (ev_op (ev_var rfl) ev_c (rv_ixT (ex_t e hd) rfl)) (ex_t e hds) (fun i σ' H' => (∃ z2 z3, σ' = some (.ref h) :: some (.ref F) :: z2 :: z3 :: tl) ∧ Ex H0 H' ∧ H' F = some (.lst (as.map V.ref)) ∧ Rws H0 H' as (rowsU n (Do.take i)))
    (fun H1 e1 => ⟨⟨_, _, rfl⟩, e.trans e1, e1 F _ hF, by rw [List.take_zero]; exact r.mono e1⟩) (fun i σ' H' _ p => ex_t p.2.1 hds) ?_ (fun σ' H' p => ?_)
  · rintro i x σ' H' hi ⟨⟨z2, z3, rfl⟩, e1, hF1, r1⟩
    obtain ⟨p, hpD, t, rfl, ht⟩ := pget1 hp hi
    have hok := hh.ok p (List.mem_of_getElem? hpD)
    have la : as.length = n := by rw [r1.len, rowsU_len]
    refine ⟨t, [nI p.1, nI p.2], rfl, ex_t e1 ht, rfl, nI p.1, [nI p.2], rfl, nI p.2, [], rfl, rfl, ?_⟩
    have g1 : as[p.1]? = some (as[p.1]'(by omega)) := List.getElem?_eq_getElem (by omega)
    have g2 : as[p.2]? = some (as[p.2]'(by omega)) := List.getElem?_eq_getElem (by omega)
    generalize as[p.1]'(by omega) = a1 at g1
    generalize as[p.2]'(by omega) = a2 at g2
    have n1 : F ≠ a1 := fun z => hFa (z ▸ List.mem_of_getElem? g1)
    have n2 : F ≠ a2 := fun z => hFa (z ▸ List.mem_of_getElem? g2)
    have hz : ∀ x, x < n → ((rowsU n (Do.take i)).getD x []).length ≤ 28 := fun x hx =>
      (rowsU_ok (D := Do.take i) ⟨hh.pos, hh.top, fun q hq => hh.ok q (List.mem_of_mem_take hq), hh.asc.sublist (List.take_sublist _ _), Nat.le_trans (by rw [List.length_take]; omega) hh.few⟩).short x hx
    refine q_app (xs := nT ((rowsU n (Do.take i)).getD p.1 [])) (r1.at' _ _ g1) (ev_op (ev_var rfl) (ev_var rfl) (rv_ixL (xs := as.map V.ref) (sq_of hF1) (at_of (j := p.1) rfl (by rw [List.getElem?_map, g1]; rfl)))) (ev_var rfl) (by
      unfold nT
      rw [List.length_map]
      have := hz p.1 (by omega)
      omega) (fun H2 e2 => ?_)
    have r2 := (r1.mono e2).add (y := p.2) g1
    have hF2 : (upd H2 a1 (.lst (nT ((rowsU n (Do.take i)).getD p.1 []) ++ [nI p.2]))) F = some (.lst (as.map V.ref)) := by
      rw [upd_ne n1]
      exact e2 F _ hF1
    have ea : Ex H0 (upd H2 a1 (.lst (nT ((rowsU n (Do.take i)).getD p.1 []) ++ [nI p.2]))) := Ex.mut (e1.trans e2) (r1.new _ (List.mem_of_getElem? g1))
    refine s_app (xs := nT ((addTo (rowsU n (Do.take i)) p.1 p.2).getD p.2 [])) (r2.at' _ _ g2) (ev_op (ev_var rfl) (ev_var rfl) (rv_ixL (xs := as.map V.ref) (sq_of hF2) (at_of (j := p.2) rfl (by rw [List.getElem?_map, g2]; rfl)))) (ev_var rfl) (by
      unfold nT
      rw [List.length_map, addTo_get (by rw [rowsU_len]; omega), if_neg (by omega)]
      have := hz p.2 (by omega)
      omega) (fun H3 e3 => ?_)
    refine ⟨⟨_, _, rfl⟩, Ex.mut (ea.trans e3) (r1.new _ (List.mem_of_getElem? g2)), ?_, ?_⟩
    · rw [upd_ne n2]
      exact e3 F _ hF2
    · have r3 := (r2.mono e3).add (y := p.1) g2
      have es : rowsU n (Do.take (i + 1)) = addTo (addTo (rowsU n (Do.take i)) p.1 p.2) p.2 p.1 := by
        rw [take_snoc hpD, rowsU_snoc]
        rfl
      rw [es]
      exact r3
  · obtain ⟨⟨z2, z3, rfl⟩, e1, hF1, r1⟩ := p
    rw [hlen, List.take_length] at r1
    exact k z2 z3 H' e1 hF1 r1
/-- [sorted(row) for row in found] -/
theorem el_sorted {F : Addr} {j : Nat} {vs : List Nat} {tl : TE} {ts : TA → TE} {rows : List (List Nat)} {Q : VK} (h : Ev tl σ H (.ref F)) (hF : RowsAt K H F rows) (hz : rows.length ≤ 1000) (hw : ∀ x, wipe ((wipe σ vs).set j (some x)) vs = wipe σ vs) (hj : ∀ x, ((wipe σ vs).set j (some x))[j]? = some (some x))
    (q : ∀ p H2 rows', Ex H H2 → Paired (fun (r' r : List Nat) => r'.Perm r) rows' rows → RowsAt K H2 p rows' → Q (.ref p) H2) : tLc (iList K tl) (gName j) tYes (tCB (rSortedI K) (tCons (tVar j) tNil)) vs σ H Q := by
  obtain ⟨ws, hws, hp⟩ := hF
  have hlen := Paired.length hp
  refine h H (Ex.refl H) _ fun H1 e1 => ⟨F, rfl, ⟨_, ex_l e1 hws⟩, fun Dl hD => ?_⟩
  refine lc_list (xs := ws) (fun i H' => Ex H H' ∧ ∃ (us : List V) (rows' : List (List Nat)), H' Dl = some (.lst us) ∧ us.length = i ∧ Paired (fun v r' => ∃ q, v = .ref q ∧ q ≠ Dl ∧ H' q = some (.lst (nT r'))) us rows' ∧ Paired (fun (r' r : List Nat) => r'.Perm r) rows' (rows.take i))
    ⟨e1.trans (Ex.new hD), [], [], upd_same, rfl, .nil, by rw [List.take_zero]; exact .nil⟩ (fun i H' _ p => ex_l p.1 hws) (fun i y H' hi p => ?_) (fun H' p => ?_)
  · obtain ⟨e2, us, rows', p1, p2, p3, p4⟩ := p
    obtain ⟨row, hrow, a, rfl, ha⟩ := pget1 hp hi
    have hil : i < rows.length := (List.getElem?_eq_some_iff.mp hrow).1
    refine ⟨hw _, ?_⟩
    dsimp only [tYes]
    rw [if_pos rfl]
    refine ⟨.ref a, hj _, a, row.map Int.ofNat, rfl, by rw [← nT_ofNat]; exact ex_l e2 ha, fun ns' p hperm _ hnew => ?_⟩
    obtain ⟨row', hr', rfl⟩ := perm_nat hperm
    rw [← nT_ofNat]
    have hpD : p ≠ Dl := (ne_of_none p1 hnew).symm
    refine ⟨us, ?_, ?_, Ex.mut (e2.trans (Ex.new hnew)) (fresh_back e1 hD), us ++ [.ref p], rows' ++ [row'], upd_same, by simp [p2], ?_, ?_⟩
    · rw [upd_ne hpD.symm]
      exact p1
    · rw [p2, sizeLine_eq]
      omega
    · refine Paired.app (Paired.mapP p3 fun v r' ⟨q, e, n, hq⟩ => ⟨q, e, n, ?_⟩) (.cons ⟨p, rfl, hpD, ?_⟩ .nil)
      · rw [upd_ne n, upd_ne (ne_of_none hq hnew)]
        exact hq
      · rw [upd_ne hpD, upd_same]
    · rw [take_snoc hrow]
      exact Paired.app p4 (.cons hr' .nil)
  · obtain ⟨e2, us, rows', p1, p2, p3, p4⟩ := p
    rw [hlen, List.take_length] at p4
    exact q Dl H' rows' e2 p4 ⟨us, sq_of p1, Paired.mapP p3 fun v r' ⟨q, e, _, hq⟩ => ⟨q, e, sq_of hq⟩⟩
end
theorem rows_perm {n : Nat} {D : Doors} {rows rows' : List (List Nat)} (r : RowsOk n D rows) (h : Paired (fun (r' r : List Nat) => r'.Perm r) rows' rows) : RowsOk n D rows' := by
  have hl := Paired.length h
  have get : ∀ x, (rows'.getD x []).Perm (rows.getD x []) := fun x => by
    simp only [List.getD_eq_getElem?_getD]
    cases e : rows'[x]? with
    | none =>
      have : rows[x]? = none := by
        rw [List.getElem?_eq_none_iff] at e ⊢
        omega
      rw [this]
    | some z =>
      obtain ⟨y, e2, hp⟩ := pget1 h e
      rw [e2]
      exact hp
  exact ⟨by rw [hl]; exact r.len, fun x hx y => ((get x).mem_iff).trans (r.mem x hx y), fun x hx => by rw [(get x).length_eq]; exact r.short x hx⟩
section
variable {P : Program} {w : World} {K : PySem.W.Frag} {mg : Str → Option Value} {base : Heap}
theorem ok_near {f : Addr} {fd : FuncData} (F : Fun K "near" "near" sNear f fd) (B : Blt mg) : FnOk P w K mg base CX0 1 f fd ["house"] (spNear K) := by
  refine F.ok scNear (fun vs H Q E h => ?_) (fun cdv A outer s H vs Q E hr h => ?_)
  · obtain ⟨h, n, D, rfl, _⟩ := h
    rfl
  · obtain ⟨h, n, D, rfl, hh, hH, q⟩ := h
    have nd := scNear.nd
    refine ⟨_, pss_cons (ps_setLc (i := 1) (own := [("room", 4)]) (g := gName 4) (tt := tYes) rfl nd rfl rfl (sw_true rfl rfl rfl (by decide +kernel)) (pi_range1 (by rfl) B.range (pa_cons (pe_ix ix_tup (pv 0) pe_int (fun _ _ => rfl)) pa_nil)) (blkOk_by (own := [("room", 4)]) (N := ["house", "found", "one", "other", "room", "row"]) (sc := defScope sNear) (by decide +kernel))
        (fun _ _ _ _ _ => pg_name (i := 4) nd rfl (Or.inl rfl)) (fun _ _ _ _ _ => pts_nil) (fun _ _ _ _ _ => pe_lst pa_nil))
      (pss_cons (ps_for PassesOwn.never rfl (pi_tup (pe_ix ix_tup (pv 0) pe_int (fun _ _ => rfl))) (pg_tup rfl (pgs_cons (pg_name (i := 2) nd rfl (.inl rfl)) (pgs_cons (pg_name (i := 3) nd rfl (.inl rfl)) pgs_nil)))
        (pss_cons (ps_expr (pe_bm PySem.F.plainAttrs_list PySem.F.slot_list_append PySem.F.type_list_append mt_append (pe_ix ix_list (pv 1) (pv 2) (fun _ _ => rfl)) (pa_cons (pv 3) pa_nil)))
          (pss_one (ps_expr (pe_bm PySem.F.plainAttrs_list PySem.F.slot_list_append PySem.F.type_list_append mt_append (pe_ix ix_list (pv 1) (pv 3) (fun _ _ => rfl)) (pa_cons (pv 2) pa_nil))))))
      (pss_one (ps_ret (pe_lc (own := [("row", 5)]) (g := gName 5) (tt := tYes) (te := tCB (rSortedI K) (tCons (tVar 5) tNil)) rfl nd (pi_list (pv 1)) (blkOk_by (own := [("row", 5)]) (N := ["house", "found", "one", "other", "room", "row"]) (sc := defScope sNear) (by decide +kernel))
        (fun _ _ _ _ _ => pg_name (i := 5) nd rfl (Or.inl rfl)) (fun _ _ _ _ _ => pts_nil) (fun _ _ _ _ _ => pe_callB cr_sortedI (by rfl) B.sorted (by decide +kernel) (pa_cons (pv 5) pa_nil)))))), ?_⟩
    obtain ⟨d, hd, hds⟩ := id hH
    refine q_raw (el_rows (n := n) (ea_cons (ev_op (ev_var rfl) ev_c (rv_ixT hd rfl)) ea_nil) (by have := hh.top; omega) (by intro _; rfl) fun F as H2 f0 fa e1 hF r => ?_)
    refine q_seq (near_loop (D := { nx := _, rt := Q }) hh hH e1 hF f0 fa r fun z2 z3 H3 e2 hF2 r2 => ?_)
    exact s_retRaw (el_sorted (K := K) (ts := fun t => tCB (rSortedI K) t) (ev_var rfl) (r2.rows (sq_of hF2)) (by rw [rowsU_len]; have := hh.top; omega) (by intro _; rfl) (by intro _; rfl) fun p H4 rows' e4 hp hR => q p H4 rows' (e2.trans e4) (rows_perm (rowsU_ok hh) hp) hR)
theorem ok_lnear {f : Addr} {fd : FuncData} (F : Fun K "_law_near" "_law_near" sLNear f fd) (B : Blt mg) : FnOk P w K mg base CX0 1 f fd ["_law_house_here"] (spNear K) := by
  refine F.ok scLNear (fun vs H Q E h => ?_) (fun cdv A outer s H vs Q E hr h => ?_)
  · obtain ⟨h, n, D, rfl, _⟩ := h
    rfl
  · obtain ⟨h, n, D, rfl, hh, hH, q⟩ := h
    have nd := scLNear.nd
    refine ⟨_, pss_cons (ps_setLc (i := 1) (own := [("_law_room", 4)]) (g := gName 4) (tt := tYes) rfl nd rfl rfl (sw_true rfl rfl rfl (by decide +kernel)) (pi_range1 (by rfl) B.range (pa_cons (pe_ix ix_tup (pv 0) pe_int (fun _ _ => rfl)) pa_nil)) (blkOk_by (own := [("_law_room", 4)]) (N := ["_law_house_here", "_law_found", "_law_one", "_law_other", "_law_room"]) (sc := defScope sLNear) (by decide +kernel))
        (fun _ _ _ _ _ => pg_name (i := 4) nd rfl (Or.inl rfl)) (fun _ _ _ _ _ => pts_nil) (fun _ _ _ _ _ => pe_lst pa_nil))
      (pss_cons (ps_for PassesOwn.never rfl (pi_tup (pe_ix ix_tup (pv 0) pe_int (fun _ _ => rfl))) (pg_tup rfl (pgs_cons (pg_name (i := 2) nd rfl (.inl rfl)) (pgs_cons (pg_name (i := 3) nd rfl (.inl rfl)) pgs_nil)))
        (pss_cons (ps_expr (pe_bm PySem.F.plainAttrs_list PySem.F.slot_list_append PySem.F.type_list_append mt_append (pe_ix ix_list (pv 1) (pv 2) (fun _ _ => rfl)) (pa_cons (pv 3) pa_nil)))
          (pss_one (ps_expr (pe_bm PySem.F.plainAttrs_list PySem.F.slot_list_append PySem.F.type_list_append mt_append (pe_ix ix_list (pv 1) (pv 3) (fun _ _ => rfl)) (pa_cons (pv 2) pa_nil))))))
      (pss_one (ps_ret (pv 1)))), ?_⟩
    obtain ⟨d, hd, hds⟩ := id hH
    refine q_raw (el_rows (n := n) (ea_cons (ev_op (ev_var rfl) ev_c (rv_ixT hd rfl)) ea_nil) (by have := hh.top; omega) (by intro _; rfl) fun F as H2 f0 fa e1 hF r => ?_)
    refine q_seq (near_loop (D := { nx := _, rt := Q }) hh hH e1 hF f0 fa r fun z2 z3 H3 e2 hF2 r2 => ?_)
    exact ⟨_, rfl, q F H3 _ e2 (rowsU_ok hh) (r2.rows (sq_of hF2))⟩
end
end MxD
namespace MxD
open PySem PySem.Spec PyProof.Rows L2 Evl MxR Mx MxB MxE
/-! ### small facts -/
theorem rowsAt_get {K : PySem.W.Frag} {H : Hp} {p : Addr} {rows : List (List Nat)} {x : Nat} (r : RowsAt K H p rows) (h : x < rows.length) : ∃ vs q, SqL K H p vs ∧ atI vs (x : Int) = some (.ref q) ∧ SqL K H q (nT (rows.getD x [])) := by
  obtain ⟨vs, h1, h2⟩ := r
  obtain ⟨v, hv, q, rfl, hq⟩ := pget2 h2 (List.getElem?_eq_getElem h)
  refine ⟨vs, q, h1, at_of rfl hv, ?_⟩
  have : rows.getD x [] = rows[x] := by simp [List.getD_eq_getElem?_getD, h]
  rw [this]
  exact hq
def dk (l : List Nat) : List (Key × V) := l.foldl (fun (acc : List (Key × V)) (k : Nat) => putK acc (.inl (k : Int)) (.bl true)) []
theorem dk_snoc (l : List Nat) (k : Nat) : dk (l ++ [k]) = putK (dk l) (.inl (k : Int)) (.bl true) := by simp [dk]
theorem dk_val (l : List Nat) (m : Nat) : valV (dk l) (.inl (m : Int)) = if m ∈ l then some (.bl true) else none := by
  suffices h : ∀ (u l : List Nat), (∀ m : Nat, valV (dk l) (.inl (m : Int)) = if m ∈ l then some (.bl true) else none) → ∀ m : Nat, valV (dk (l ++ u)) (.inl (m : Int)) = if m ∈ l ++ u then some (.bl true) else none by
    have := h l [] (fun m => by simp [dk, valV_nil]) m
    simpa using this
  intro u
  induction u with
  | nil => intro l h m; rw [List.append_nil]; exact h m
  | cons k u ih =>
    intro l h m
    have e : l ++ k :: u = (l ++ [k]) ++ u := by simp
    rw [e]
    refine ih _ (fun m => ?_) m
    rw [dk_snoc, valV_put, h m]
    by_cases c : m = k
    · subst c; simp
    · have c2 : ¬ ((Sum.inl (m : Int) : Key) = Sum.inl (k : Int)) := fun z => by
        have := Sum.inl.inj z
        omega
      rw [if_neg c2]
      simp [c]
theorem dk_len : ∀ l : List Nat, (dk l).length ≤ l.length := by
  suffices h : ∀ (u l : List Nat), (dk l).length ≤ l.length → (dk (l ++ u)).length ≤ (l ++ u).length by
    intro l; simpa using h l [] (by simp [dk])
  intro u
  induction u with
  | nil => intro l h; simpa using h
  | cons k u ih =>
    intro l h
    have e : l ++ k :: u = (l ++ [k]) ++ u := by simp
    rw [e]
    refine ih _ ?_
    rw [dk_snoc]
    have := length_putK (dk l) (.inl (k : Int)) (.bl true)
    simp only [List.length_append, List.length_singleton]
    omega
abbrev sFree : Stmt := topS 20
abbrev sKeyIn : Stmt := topS 21
theorem scFree : FnScope ["rows", "state", "room", "shown", "number", "other"] ["rows", "state", "room"] (defScope sFree) := ⟨rfl, rfl, rfl, by decide +kernel, rfl, by decide +kernel, by decide +kernel⟩
theorem scKeyIn : FnScope ["rows", "state", "room"] ["rows", "state", "room"] (defScope sKeyIn) := ⟨rfl, rfl, rfl, by decide +kernel, rfl, by decide +kernel, by decide +kernel⟩
def spFree (K : PySem.W.Frag) : Sp := fun vs H Q _ => ∃ (p a : Addr) (rows : List (List Nat)) (s : State) (x n : Nat) (D : Doors), vs = [.ref p, .ref a, nI x] ∧ House n D ∧ RowsOk n D rows ∧ RowsAt K H p rows ∧ SqT K H a (nT s) ∧ s.length = n ∧ x < n ∧ RetV (nI (free n D s x)) H Q
def spKeyIn (K : PySem.W.Frag) : Sp := fun vs H Q _ => ∃ (p a : Addr) (rows : List (List Nat)) (s : State) (x n : Nat) (D : Doors), vs = [.ref p, .ref a, nI x] ∧ House n D ∧ RowsOk n D rows ∧ RowsAt K H p rows ∧ SqT K H a (nT s) ∧ s.length = n ∧ x < n ∧
  ∀ q H2, Ex H H2 → H2 q = some (.tup (nT (keyIn n D s x))) → Q (.ref q) H2
section
variable {P : Program} {w : World} {K : PySem.W.Frag} {mg : Str → Option Value} {base : Heap}
theorem ok_free {f : Addr} {fd : FuncData} (F : Fun K "free_number" "free_number" sFree f fd) : FnOk P w K mg base CX0 1 f fd ["rows", "state", "room"] (spFree K) := by
  refine F.ok scFree (fun vs H Q E h => ?_) (fun cdv A outer s H vs Q E hr h => ?_)
  · obtain ⟨p, a, rows, s, x, n, D, rfl, _⟩ := h
    rfl
  · obtain ⟨p, a, rows, st, x, n, D, rfl, hh, ho, hR, ha, hl, hx, q⟩ := h
    have nd := scFree.nd
    refine ⟨_, pss_cons (ps_setDc (i := 3) (own := [("other", 5)]) (g := gName 5) (tt := tYes) (tk := tOp (rIxT K) (tVar 1) (tVar 5)) (tv := tC (.bl true)) rfl nd rfl rfl (sw_trueD rfl rfl rfl (by decide +kernel)) (pi_list (pe_ix ix_list (pv 0) (pv 2) (fun _ _ => rfl)))
        (blkOk_by (own := [("other", 5)]) (N := ["rows", "state", "room", "shown", "number", "other"]) (sc := defScope sFree) (by decide +kernel))
        (fun _ _ _ _ _ => pg_name (i := 5) nd rfl (Or.inl rfl)) (fun _ _ _ _ _ => pts_nil) (fun _ _ _ _ _ => pe_ix ix_tup (pv 1) (pv 5) (fun _ _ => rfl)) (fun _ _ _ _ _ => pe_bl))
      (pss_cons (ps_set (i := 4) nd rfl (.inl rfl) pe_int)
      (pss_cons (ps_while PassesOwn.never (pt_cmp (pc_din (hu_of hr) (pv 4) (pv 3))) (pss_one (ps_aug (i := 4) nd rfl (.inl rfl) pe_int ip_add)))
      (pss_one (ps_ret (pv 4))))), ?_⟩
    obtain ⟨vs, qa, hvs, hat, hrow⟩ := rowsAt_get hR (x := x) (by rw [ho.len]; exact hx)
    have hshort := ho.short x hx
    have hmem : ∀ y ∈ rows.getD x [], y < st.length := fun y hy => by
      rw [hl]
      exact (hh.adj_lt ((ho.mem x hx y).mp hy)).2.1
    generalize hrw : rows.getD x [] = row at hrow hshort hmem
    refine q_raw ?_
    refine (ev_op (x := .ref p) (y := nI x) (z := .ref qa) (ev_var rfl) (ev_var rfl) (rv_ixL hvs hat)) H (Ex.refl H) _ fun H1 e1 => ⟨qa, rfl, ⟨_, ex_l e1 hrow⟩, fun Dl hD => ?_⟩
    refine dc_list (xs := nT row) (fun i H' => Ex H H' ∧ H' Dl = some (.dK (dk ((row.take i).map st.mxa)))) ⟨e1.trans (Ex.new hD), by rw [upd_same]; rfl⟩ (fun i H' _ p => ex_l p.1 hrow) (fun i y H' hi p => ?_) (fun H2 p2 => ?_)
    · obtain ⟨e2, hDl⟩ := p
      have hil : i < row.length := by
        have := (List.getElem?_eq_some_iff.mp hi).1
        rw [nT_len] at this
        exact this
      rw [nT_get hil] at hi
      obtain rfl := (Option.some.inj hi).symm
      have hy := hmem (row.mxa i) (by
        have : row.mxa i = row[i] := by simp [List.mxa, List.getD_eq_getElem?_getD, hil]
        rw [this]
        exact List.getElem_mem hil)
      refine ⟨rfl, ?_⟩
      dsimp only [tYes]
      rw [if_pos rfl]
      refine ⟨.ref a, rfl, nI (row.mxa i), rfl, a, nT st, (row.mxa i : Int), nI (st.mxa (row.mxa i)), rfl, rfl, ex_t e2 ha, atI_nT hy, ?_⟩
      refine ⟨dk ((row.take i).map st.mxa), .inl (st.mxa (row.mxa i) : Int), rfl, hDl, ?_, Ex.mut e2 (fresh_back e1 hD), ?_⟩
      · have := dk_len ((row.take i).map st.mxa)
        rw [List.length_map, List.length_take] at this
        rw [sizeLine_eq]
        omega
      · rw [upd_same]
        congr 2
        have e3 : row.take (i + 1) = row.take i ++ [row.mxa i] := by
          refine take_snoc ?_
          simp [List.mxa, List.getD_eq_getElem?_getD, hil]
        rw [e3, List.map_append, List.map_singleton, dk_snoc]
    · obtain ⟨e2, hDl⟩ := p2
      rw [nT_len, List.take_length] at hDl
      generalize hls : row.map st.mxa = l at hDl
      have hlen : l.length ≤ 28 := by rw [← hls, List.length_map]; exact hshort
      refine q_asg ev_c fun H3 e3 => ?_
      refine q_while (fun m σ' H' => ∃ num : Nat, σ' = [some (.ref p), some (.ref a), some (nI x), some (.ref Dl), some (nI num), none] ∧ (∀ j, j < num → j ∈ l) ∧ m = l.length + 1 - num ∧ Ex H H' ∧ H' Dl = some (.dK (dk l))) (l.length + 1)
        ⟨0, rfl, by simp, by omega, e2.trans e3, e3 Dl _ hDl⟩ ?_
      rintro m σ' H' ⟨num, rfl, hj, rfl, e4, hD4⟩
      refine ⟨decide (num ∈ l), fun H5 e5 Qt k => ⟨nI num, rfl, .ref Dl, rfl, Dl, _, rfl, DGet.k (k := Sum.inl (num : Int)) (e5 Dl _ hD4), _, rfl, ?_⟩, fun hb H5 e5 => ?_, fun hb H5 e5 => ?_⟩
      · have e6 : (valV (dk l) (Sum.inl (num : Int))).isSome = decide (num ∈ l) := by
          rw [dk_val]
          by_cases c : num ∈ l
          · rw [if_pos c, decide_eq_true c]; rfl
          · rw [if_neg c, decide_eq_false c]; rfl
        rw [e6]
        exact k H5 (Ex.refl H5)
      · have hin := of_decide_eq_true hb
        have hpg : num + 1 ≤ l.length := pigeon (num + 1) l fun j h => by
          rcases Nat.lt_succ_iff_lt_or_eq.mp h with h | h
          · exact hj j h
          · rw [h]; exact hin
        refine ⟨fun σ2 H6 => ∃ m', m' < l.length + 1 - num ∧ ∃ num : Nat, σ2 = [some (.ref p), some (.ref a), some (nI x), some (.ref Dl), some (nI num), none] ∧ (∀ j, j < num → j ∈ l) ∧ m' = l.length + 1 - num ∧ Ex H H6 ∧ H6 Dl = some (.dK (dk l)), fun σ2 H6 h => h, ?_⟩
        refine s_aug (f := fun i j => i + j) (a := (num : Int)) (b := 1) rfl ev_c fun H6 e6 => ⟨l.length + 1 - (num + 1), by omega, num + 1, rfl, fun j h => ?_, rfl, (e4.trans e5).trans e6, e6 Dl _ (e5 Dl _ hD4)⟩
        rcases Nat.lt_succ_iff_lt_or_eq.mp h with h | h
        · exact hj j h
        · rw [h]; exact hin
      · have hnot := of_decide_eq_false hb
        have e7 : free n D st x = num := by
          rw [← free_rows hh ho hx]
          unfold Mx.shown
          rw [hrw, hls]
          exact mex_unique hnot hj
        refine s_ret (ev_var rfl) fun H6 e6 => ?_
        rw [← e7]
        exact q H6 ((e4.trans e5).trans e6)
end
end MxD
namespace MxD
open PySem PySem.Spec PyProof.Rows L2 Evl MxR Mx MxB MxE StX
abbrev sLFree : Stmt := topS 44
abbrev sLKey : Stmt := topS 45
abbrev sLDone : Stmt := topS 46
abbrev sRestsIn : Stmt := topS 24
abbrev sLikeIn : Stmt := topS 22
abbrev sNeedParted : Stmt := topS 23
theorem scLFree : FnScope ["_law_rows", "_law_state", "_law_room", "_law_shown", "_law_number", "_law_other"] ["_law_rows", "_law_state", "_law_room"] (defScope sLFree) := ⟨rfl, rfl, rfl, by decide +kernel, rfl, by decide +kernel, by decide +kernel⟩
theorem scLKey : FnScope ["_law_rows", "_law_state", "_law_room"] ["_law_rows", "_law_state", "_law_room"] (defScope sLKey) := ⟨rfl, rfl, rfl, by decide +kernel, rfl, by decide +kernel, by decide +kernel⟩
theorem scLDone : FnScope ["_law_rows", "_law_state", "_law_keys", "_law_room"] ["_law_rows", "_law_state", "_law_keys"] (defScope sLDone) := ⟨rfl, rfl, rfl, by decide +kernel, rfl, by decide +kernel, by decide +kernel⟩
theorem scRestsIn : FnScope ["rows", "state", "room", "number"] ["rows", "state"] (defScope sRestsIn) := ⟨rfl, rfl, rfl, by decide +kernel, rfl, by decide +kernel, by decide +kernel⟩
theorem scLikeIn : FnScope ["house", "state", "door"] ["house", "state"] (defScope sLikeIn) := ⟨rfl, rfl, rfl, by decide +kernel, rfl, by decide +kernel, by decide +kernel⟩
theorem scNeedParted : FnScope ["house", "state"] ["house", "state"] (defScope sNeedParted) := ⟨rfl, rfl, rfl, by decide +kernel, rfl, by decide +kernel, by decide +kernel⟩
def spLKey (K : PySem.W.Frag) : Sp := fun vs H Q _ => ∃ (p a : Addr) (rows : List (List Nat)) (s : State) (x n : Nat) (D : Doors), vs = [.ref p, .ref a, nI x] ∧ House n D ∧ RowsOk n D rows ∧ RowsAt K H p rows ∧ SqT K H a (nT s) ∧ s.length = n ∧ x < n ∧
  ∀ q H2, Ex H H2 → SqT K H2 q (nT (keyIn n D s x)) → Q (.ref q) H2
def spLDone (K : PySem.W.Frag) : Sp := fun vs H Q _ => ∃ (p a kq : Addr) (rows : List (List Nat)) (s : State) (ks : List Nat) (n : Nat) (D : Doors), vs = [.ref p, .ref a, .ref kq] ∧ House n D ∧ RowsOk n D rows ∧ RowsAt K H p rows ∧ SqT K H a (nT s) ∧ s.length = n ∧
  SqT K H kq (nT ks) ∧ (∀ x ∈ ks, x < n) ∧ ∀ q H2, Ex H H2 → SqT K H2 q (nT (done n D s ks)) → Q (.ref q) H2
def spRestsIn (K : PySem.W.Frag) : Sp := fun vs H Q _ => ∃ (p a : Addr) (rows : List (List Nat)) (s : State) (n : Nat) (D : Doors), vs = [.ref p, .ref a] ∧ House n D ∧ RowsOk n D rows ∧ RowsAt K H p rows ∧ SqT K H a (nT s) ∧ Rest n D s ∧ RetV (.bl true) H Q
def spLikeIn (K : PySem.W.Frag) : Sp := fun vs H Q _ => ∃ (h a : Addr) (n : Nat) (D : Doors) (s : State), vs = [.ref h, .ref a] ∧ House n D ∧ HouseAt K H h n D ∧ SqT K H a (nT s) ∧ s.length = n ∧ Parted D s ∧ RetL [] H Q
def spNeedParted (K : PySem.W.Frag) : Sp := fun vs H Q _ => ∃ (h a : Addr) (n : Nat) (D : Doors) (s : State), vs = [.ref h, .ref a] ∧ House n D ∧ HouseAt K H h n D ∧ SqT K H a (nT s) ∧ s.length = n ∧ (∀ x ∈ s, x ≤ 60) ∧ Parted D s ∧ RetV .non H Q
/-! ### small facts -/
theorem nT_set {s : State} {x v : Nat} (h : x < s.length) : (nT s).take x ++ (nI v :: ((nT s).drop (x + 1) ++ [])) = nT (s.set x v) := by
  unfold nT
  rw [List.append_nil, List.set_eq_take_append_cons_drop, if_pos h, List.map_append, List.map_cons, List.map_take, List.map_drop]
section
variable {K : PySem.W.Frag} {σ : L2.St} {H : Hp} {te : TE} {t : TT}
theorem sv_free {p a : Addr} {rows : List (List Nat)} {s : State} {x n : Nat} {D : Doors} (hh : House n D) (ho : RowsOk n D rows) (hR : RowsAt K H p rows) (ha : SqT K H a (nT s)) (hl : s.length = n) (hx : x < n) : SpV (spFree K) [.ref p, .ref a, nI x] H (nI (free n D s x)) := fun H1 e Q q E =>
  ⟨p, a, rows, s, x, n, D, rfl, hh, ho, hR.mono e, ex_t e ha, hl, hx, q⟩
/-- over enumerate of a tuple -/
theorem el_E {l : List Nat} {a : Addr} {ta : TA} {i1 i2 : Nat} {vs : List Nat} (v : Nat → V) (h : EvA ta σ H [.ref a]) (hx : SqT K H a (nT l)) (hz : l.length ≤ 4000000) (hw : ∀ x y, wipe (((wipe σ vs).set i1 (some x)).set i2 (some y)) vs = wipe σ vs)
    (he : ∀ i, i < l.length → ∀ H1, Ex H H1 → Ev te (((wipe σ vs).set i1 (some (nI i))).set i2 (some (nI (l.mxa i)))) H1 (v i)) :
    EvL (tLc (iEnumT K ta) (gTup K 2 (gCons (gName i1) (gCons (gName i2) gNil))) tYes te vs) σ H ((List.range l.length).map v) := fun H0 e Q q => h H0 e _ fun H1 e1 => ⟨a, nT l, rfl, ex_t (e.trans e1) hx, fun Dl hD =>
  lc_enumT (xs := nT l) (Cp H1 (List.range l.length) (fun _ => true) v Dl) ⟨hD, Ex.new hD, upd_same⟩ (fun i H' _ p => ex_t ((e.trans e1).trans p.2.1) hx) (fun i y T H' hi p nT' => by
    have hil : i < l.length := by
      have := (List.getElem?_eq_some_iff.mp hi).1
      rw [nT_len] at this
      exact this
    rw [nT_get hil] at hi
    obtain rfl := (Option.some.inj hi).symm
    refine ⟨T, [nI i, nI (l.mxa i)], rfl, st_of upd_same, rfl, nI i, [nI (l.mxa i)], rfl, nI (l.mxa i), [], rfl, rfl, hw _ _, ?_⟩
    have e2 : Ex H (upd H' T (.tup [.int (i : Nat), nI (l.mxa i)])) := ((e.trans e1).trans p.2.1).trans (Ex.new nT')
    have p' : Cp H1 (List.range l.length) (fun _ => true) v Dl i (upd H' T (.tup [.int (i : Nat), nI (l.mxa i)])) := ⟨p.1, p.2.1.trans (Ex.new nT'), by rw [upd_ne (ne_of_none p.2.2 nT')]; exact p.2.2⟩
    exact cp_turn p' (range_get hil) (by omega) et_yes (fun _ => he i hil _ e2))
    (fun H' p => by
      rw [nT_len] at p
      have p2 := p.2.2
      have e2 : got (List.range l.length) (fun _ => true) l.length = List.range l.length := by
        have := got_all (List.range l.length) (fun _ => true)
        rw [List.length_range] at this
        rw [this, filter_true]
      rw [e2] at p2
      exact q Dl H' (fresh_back e1 p.1) (e1.trans p.2.1) p2)⟩
end
section
variable {P : Program} {w : World} {K : PySem.W.Frag} {mg : Str → Option Value} {base : Heap}
abbrev CFree (P : Program) (w : World) (K : PySem.W.Frag) (mg : Str → Option Value) (base : Heap) : Prop := Cal P w K mg base 1 "free_number" ["rows", "state", "room"] (spFree K)
theorem ok_keyIn {f : Addr} {fd : FuncData} (F : Fun K "key_in" "key_in" sKeyIn f fd) (C : CFree P w K mg base) : FnOk P w K mg base CX0 2 f fd ["rows", "state", "room"] (spKeyIn K) := by
  refine F.ok scKeyIn (fun vs H Q E h => ?_) (fun cdv A outer s H vs Q E hr h => ?_)
  · obtain ⟨p, a, rows, s, x, n, D, rfl, _⟩ := h
    rfl
  · obtain ⟨p, a, rows, st, x, n, D, rfl, hh, ho, hR, ha, hl, hx, q⟩ := h
    refine ⟨_, pss_one (ps_ret (pe_tup (pa_star (pe_slice sl_tupA (pv 1) po_none (po_some (pv 2))) (pa_cons (pe_cal C hr (by rfl) (pa_cons (pv 0) (pa_cons (pv 1) (pa_cons (pv 2) pa_nil)))) (pa_star (pe_slice sl_tupA (pv 1) (po_some (pe_op op_add (pv 2) pe_int)) po_none) pa_nil))))), ?_⟩
    have hx' : x < st.length := by omega
    have tp := hh.top
    refine s_retU (xs := nT (keyIn n D st x)) ?_ (fun r H1 _ e h1 => q r H1 e h1)
    unfold keyIn
    rw [← nT_set hx']
    have e1 : (nT st).take x = cutV (nT st) none (some (x : Int)) := (cut_take _ _ (by rw [nT_len]; omega)).symm
    have e2 : (nT st).drop (x + 1) = cutV (nT st) (some ((x : Int) + 1)) none := (cut_drop _ (x + 1) (by rw [nT_len]; omega)).symm
    rw [e1, e2]
    refine eu_tup (ea_star (es_sl (ev_var rfl) eo_none (eo_some (ev_var rfl)) ha) (ea_cons (ev_call (ea_cons (ev_var rfl) (ea_cons (ev_var rfl) (ea_cons (ev_var rfl) ea_nil))) (sv_free hh ho hR ha hl hx)) (ea_star (es_sl (ev_var rfl) (eo_some (ev_op (ev_var rfl) ev_c (rv_I0 (g := fun i j => .int (i + j))))) eo_none ha) ea_nil))) ?_
    have h1 := cutV_length (nT st) none (some (x : Int))
    have h2 := cutV_length (nT st) (some ((x : Int) + 1)) none
    rw [nT_len] at h1 h2
    simp only [List.length_append, List.length_cons, List.length_nil]
    omega
theorem ok_lfree {f : Addr} {fd : FuncData} (F : Fun K "_law_free" "_law_free" sLFree f fd) (B : Blt mg) : FnOk P w K mg base CX0 1 f fd ["_law_rows", "_law_state", "_law_room"] (spFree K) := by
  refine F.ok scLFree (fun vs H Q E h => ?_) (fun cdv A outer s H vs Q E hr h => ?_)
  · obtain ⟨p, a, rows, s, x, n, D, rfl, _⟩ := h
    rfl
  · obtain ⟨p, a, rows, st, x, n, D, rfl, hh, ho, hR, ha, hl, hx, q⟩ := h
    have nd := scLFree.nd
    refine ⟨_, pss_cons (ps_setLc (i := 3) (own := [("_law_other", 5)]) (g := gName 5) (tt := tYes) (te := tOp (rIxT K) (tVar 1) (tVar 5)) rfl nd rfl rfl (sw_true rfl rfl rfl (by decide +kernel)) (pi_list (pe_ix ix_list (pv 0) (pv 2) (fun _ _ => rfl)))
        (blkOk_by (own := [("_law_other", 5)]) (N := ["_law_rows", "_law_state", "_law_room", "_law_shown", "_law_number", "_law_other"]) (sc := defScope sLFree) (by decide +kernel))
        (fun _ _ _ _ _ => pg_name (i := 5) nd rfl (Or.inl rfl)) (fun _ _ _ _ _ => pts_nil) (fun _ _ _ _ _ => pe_ix ix_tup (pv 1) (pv 5) (fun _ _ => rfl)))
      (pss_cons (ps_for PassesOwn.never rfl (pi_range1 (by rfl) B.range (pa_cons (pe_op op_add (pe_callB call_len_seq (by rfl) B.len PySem.boot_len (pa_cons (pv 3) pa_nil)) pe_int) pa_nil)) (pg_name (i := 4) nd rfl (.inl rfl))
        (pss_one (ps_if (pt_cmpR op_notIn_seq (pv 4) (pv 3) (by rfl)) (pss_one (ps_ret (pv 4))) pss_nil)))
      (pss_one (ps_ret (pe_callB call_len_seq (by rfl) B.len PySem.boot_len (pa_cons (pv 3) pa_nil))))), ?_⟩
    obtain ⟨vs, qa, hvs, hat, hrow⟩ := rowsAt_get hR (x := x) (by rw [ho.len]; exact hx)
    have hshort := ho.short x hx
    have hmem : ∀ y ∈ rows.getD x [], y < st.length := fun y hy => by
      rw [hl]
      exact (hh.adj_lt ((ho.mem x hx y).mp hy)).2.1
    have hfr := free_rows hh ho (s := st) hx
    unfold Mx.shown at hfr
    generalize hrw : rows.getD x [] = row at hrow hshort hmem hfr
    refine q_asgL (xs := nT (row.map st.mxa)) ?_ (fun Dl H1 hD e1 h1 => ?_)
    · have := el_L (K := K) (te := tOp (rIxT K) (tVar 1) (tVar 5)) (t := tYes) (l := row) (c := nI) (f := fun _ => true) (v := fun y => nI (st.mxa y)) (j := 5) (vs := [5]) (tl := tOp (rIxL K) (tVar 0) (tVar 2)) (σ := [some (.ref p), some (.ref a), some (nI x), none, none, none]) (H := H) (a := qa)
        (ev_op (ev_var rfl) (ev_var rfl) (rv_ixL hvs hat)) hrow (by omega) (fun _ => rfl) (fun _ _ _ _ => et_yes) (fun y hy H3 e4 _ => ev_op (ev_var rfl) (ev_var rfl) (rv_ixT (ex_t e4 ha) (atI_nT (hmem y hy))))
      rw [filter_true] at this
      have e2 : nT (row.map st.mxa) = row.map fun y => nI (st.mxa y) := by unfold nT; rw [List.map_map]; rfl
      rw [e2]
      exact this
    · generalize hls : row.map st.mxa = l at h1 hfr
      have hlen : l.length ≤ 28 := by rw [← hls, List.length_map]; exact hshort
      have hlenE : ∀ {H2 : Hp} {σ : L2.St}, σ[3]? = some (some (.ref Dl)) → Ex H1 H2 → Ev (tCB (rLenS K) (tCons (tVar 3) tNil)) σ H2 (nI l.length) := fun hs e => ev_is (ev_len (ev_var hs) (ex_l e (sq_of h1))) (by rw [nT_len])
      refine q_forR1 (n := ((l.length + 1 : Nat) : Int)) (ea_cons (ev_is (ev_op (hlenE rfl (Ex.refl H1)) ev_c (rv_I0 (g := fun i j => .int (i + j)))) (by rfl)) ea_nil) (by omega)
        (fun i σ' H' => (∃ y4, σ' = [some (.ref p), some (.ref a), some (nI x), some (.ref Dl), y4, none]) ∧ (∀ j, j < i → j ∈ l) ∧ Ex H1 H') (fun H2 e2 => ⟨⟨none, rfl⟩, by simp, e2⟩) ?_ ?_
      · rintro i σ' H' hi ⟨⟨y4, rfl⟩, hj, e2⟩
        refine s_when (b := !decide (i ∈ l)) (et_test (ev_is (ev_op (ev_var rfl) (ev_var rfl) (rv_niL (ex_l e2 (sq_of h1)) rfl (flat_nT l))) (by rw [inV_nT]))) (fun hb H3 e3 => ?_) (fun hb H3 e3 => ?_)
        · have hnot : i ∉ l := by simpa using hb
          refine s_ret (ev_var rfl) fun H4 e4 => ?_
          rw [← mex_unique hnot hj, hfr]
          exact q H4 (((e1.trans e2).trans e3).trans e4)
        · have hin : i ∈ l := by simpa using hb
          refine ⟨⟨_, rfl⟩, fun j h => ?_, e2.trans e3⟩
          rcases Nat.lt_succ_iff_lt_or_eq.mp h with h | h
          · exact hj j h
          · rw [h]; exact hin
      · rintro σ' H' ⟨⟨y4, rfl⟩, hj, e2⟩
        have := pigeon _ l hj
        omega
abbrev CLFree (P : Program) (w : World) (K : PySem.W.Frag) (mg : Str → Option Value) (base : Heap) : Prop := Cal P w K mg base 1 "_law_free" ["_law_rows", "_law_state", "_law_room"] (spFree K)
theorem ok_lkey {f : Addr} {fd : FuncData} (F : Fun K "_law_key" "_law_key" sLKey f fd) (C : CLFree P w K mg base) : FnOk P w K mg base CX0 2 f fd ["_law_rows", "_law_state", "_law_room"] (spLKey K) := by
  refine F.ok scLKey (fun vs H Q E h => ?_) (fun cdv A outer s H vs Q E hr h => ?_)
  · obtain ⟨p, a, rows, s, x, n, D, rfl, _⟩ := h
    rfl
  · obtain ⟨p, a, rows, st, x, n, D, rfl, hh, ho, hR, ha, hl, hx, q⟩ := h
    refine ⟨_, pss_one (ps_ret (pe_op op_catA (pe_op op_catA (pe_slice sl_tupA (pv 1) po_none (po_some (pv 2))) (pe_tup (pa_cons (pe_cal C hr (by rfl) (pa_cons (pv 0) (pa_cons (pv 1) (pa_cons (pv 2) pa_nil)))) pa_nil))) (pe_slice sl_tupA (pv 1) (po_some (pe_op op_add (pv 2) pe_int)) po_none))), ?_⟩
    have hx' : x < st.length := by omega
    have tp := hh.top
    have e1 : (nT st).take x = cutV (nT st) none (some (x : Int)) := (cut_take _ _ (by rw [nT_len]; omega)).symm
    have e2 : (nT st).drop (x + 1) = cutV (nT st) (some ((x : Int) + 1)) none := (cut_drop _ (x + 1) (by rw [nT_len]; omega)).symm
    have h1 := cutV_length (nT st) none (some (x : Int))
    have h2 := cutV_length (nT st) (some ((x : Int) + 1)) none
    rw [nT_len] at h1 h2
    have key : EvS K (tOp (rCatA K) (tOp (rCatA K) (tSl (rSlA K) (tVar 1) tNoPart (tPart (tVar 2))) (tTup (tCons (tCall (spFree K) [] E0 (tCons (tVar 0) (tCons (tVar 1) (tCons (tVar 2) tNil)))) tNil))) (tSl (rSlA K) (tVar 1) (tPart (tOp (rI0 fun i j => .int (i + j)) (tVar 2) (tC (.int 1)))) tNoPart)) [some (.ref p), some (.ref a), some (nI x)] H (cutV (nT st) none (some (x : Int)) ++ [nI (free n D st x)] ++ cutV (nT st) (some ((x : Int) + 1)) none) :=
      es_cat (es_cat (es_sl (ev_var rfl) eo_none (eo_some (ev_var rfl)) ha) (EvS.of (eu_tup (ea_cons (ev_call (ea_cons (ev_var rfl) (ea_cons (ev_var rfl) (ea_cons (ev_var rfl) ea_nil))) (sv_free hh ho hR ha hl hx)) ea_nil) (by simp))) (by simp; omega))
        (es_sl (ev_var rfl) (eo_some (ev_op (ev_var rfl) ev_c (rv_I0 (g := fun i j => .int (i + j))))) eo_none ha) (by simp; omega)
    refine s_retRaw (key H (Ex.refl H) Q fun r H1 e h1 => q r H1 e ?_)
    unfold keyIn
    rw [← nT_set hx', e1, e2, List.append_nil]
    rw [List.append_assoc, List.singleton_append] at h1
    exact h1
end
end MxD
namespace MxD
open PySem PySem.Spec PyProof.Rows L2 Evl MxR Mx MxB MxE StX RZ
abbrev sNeedRest : Stmt := topS 28
abbrev sIsBelow : Stmt := topS 30
theorem scNeedRest : FnScope ["house", "rest"] ["house", "rest"] (defScope sNeedRest) := ⟨rfl, rfl, rfl, by decide +kernel, rfl, by decide +kernel, by decide +kernel⟩
theorem scIsBelow : FnScope ["one", "other", "a", "b"] ["one", "other"] (defScope sIsBelow) := ⟨rfl, rfl, rfl, by decide +kernel, rfl, by decide +kernel, by decide +kernel⟩
def spNeedRest (K : PySem.W.Frag) : Sp := fun vs H Q _ => ∃ (h a : Addr) (n : Nat) (D : Doors) (r : State), vs = [.ref h, .ref a] ∧ House n D ∧ HouseAt K H h n D ∧ SqT K H a (nT r) ∧ Rest n D r ∧ (∀ x ∈ r, x ≤ 60) ∧ RetV .non H Q
def spIsBelow (K : PySem.W.Frag) : Sp := fun vs H Q _ => ∃ (a b : Addr) (r s : State), vs = [.ref a, .ref b] ∧ SqT K H a (nT r) ∧ SqT K H b (nT s) ∧ r.length = s.length ∧ r.length ≤ 1000 ∧ Le r.length r s ∧ RetV (.bl true) H Q
section
variable {K : PySem.W.Frag} {σ : L2.St} {H : Hp} {te : TE}
/-- over zip of two tuples -/
theorem el_Z {l m : List Nat} {a b : Addr} {ta : TA} {i1 i2 : Nat} {vs : List Nat} (v : Nat → V) (h : EvA ta σ H [.ref a, .ref b]) (hx : SqT K H a (nT l)) (hy : SqT K H b (nT m)) (hlm : l.length = m.length) (hz : l.length ≤ 4000000) (hw : ∀ x y, wipe (((wipe σ vs).set i1 (some x)).set i2 (some y)) vs = wipe σ vs)
    (he : ∀ i, i < l.length → ∀ H1, Ex H H1 → Ev te (((wipe σ vs).set i1 (some (nI (l.mxa i)))).set i2 (some (nI (m.mxa i)))) H1 (v i)) :
    EvL (tLc (iZipA K ta) (gTup K 2 (gCons (gName i1) (gCons (gName i2) gNil))) tYes te vs) σ H ((List.range l.length).map v) := fun H0 e Q q => h H0 e _ fun H1 e1 => ⟨a, b, nT l, nT m, rfl, .inr ⟨ex_t (e.trans e1) hx, ex_t (e.trans e1) hy, fun Dl hD =>
  lc_zipT (xs := nT l) (ys := nT m) (by rw [nT_len, nT_len, hlm]) (Cp H1 (List.range l.length) (fun _ => true) v Dl) ⟨hD, Ex.new hD, upd_same⟩ (fun i H' _ p => ⟨ex_t ((e.trans e1).trans p.2.1) hx, ex_t ((e.trans e1).trans p.2.1) hy⟩) (fun i y z T H' hi hi2 p nT' => by
    have hil : i < l.length := by
      have := (List.getElem?_eq_some_iff.mp hi).1
      rw [nT_len] at this
      exact this
    rw [nT_get hil] at hi
    obtain rfl := (Option.some.inj hi).symm
    rw [nT_get (by omega)] at hi2
    obtain rfl := (Option.some.inj hi2).symm
    refine ⟨T, [nI (l.mxa i), nI (m.mxa i)], rfl, st_of upd_same, rfl, nI (l.mxa i), [nI (m.mxa i)], rfl, nI (m.mxa i), [], rfl, rfl, hw _ _, ?_⟩
    have e2 : Ex H (upd H' T (.tup [nI (l.mxa i), nI (m.mxa i)])) := ((e.trans e1).trans p.2.1).trans (Ex.new nT')
    have p' : Cp H1 (List.range l.length) (fun _ => true) v Dl i (upd H' T (.tup [nI (l.mxa i), nI (m.mxa i)])) := ⟨p.1, p.2.1.trans (Ex.new nT'), by rw [upd_ne (ne_of_none p.2.2 nT')]; exact p.2.2⟩
    exact cp_turn p' (range_get hil) (by omega) et_yes (fun _ => he i hil _ e2))
    (fun H' p => by
      rw [nT_len] at p
      have p2 := p.2.2
      have e2 : got (List.range l.length) (fun _ => true) l.length = List.range l.length := by
        have := got_all (List.range l.length) (fun _ => true)
        rw [List.length_range] at this
        rw [this, filter_true]
      rw [e2] at p2
      exact q Dl H' (fresh_back e1 p.1) (e1.trans p.2.1) p2)⟩⟩
theorem all_true {α : Type} (l : List α) : (l.map fun _ => true).all id = true := by
  rw [List.all_map]
  exact List.all_eq_true.mpr fun _ _ => rfl
end
section
variable {P : Program} {w : World} {K : PySem.W.Frag} {mg : Str → Option Value} {base : Heap}
theorem ok_ldone {f : Addr} {fd : FuncData} (F : Fun K "_law_done" "_law_done" sLDone f fd) (C : Cal P w K mg base 2 "_law_key" ["_law_rows", "_law_state", "_law_room"] (spLKey K)) : FnOk P w K mg base CX0 3 f fd ["_law_rows", "_law_state", "_law_keys"] (spLDone K) := by
  refine F.ok scLDone (fun vs H Q E h => ?_) (fun cdv A outer s H vs Q E hr h => ?_)
  · obtain ⟨p, a, kq, rows, s, ks, n, D, rfl, _⟩ := h
    rfl
  · obtain ⟨p, a, kq, rows, st, ks, n, D, rfl, hh, ho, hR, ha, hl, hk, hks, q⟩ := h
    have nd := scLDone.nd
    refine ⟨_, pss_cons (ps_for PassesOwn.never rfl (pi_tup (pv 2)) (pg_name (i := 3) nd rfl (.inl rfl)) (pss_one (ps_set (i := 1) nd rfl (.inl rfl) (pe_cal C hr (by rfl) (pa_cons (pv 0) (pa_cons (pv 1) (pa_cons (pv 3) pa_nil)))))))
      (pss_one (ps_ret (pv 1))), ?_⟩
    refine q_forT (xs := nT ks) (a := kq) (ev_var rfl) hk (fun i σ' H' => (∃ a' y3, σ' = [some (.ref p), some (.ref a'), some (.ref kq), y3] ∧ SqT K H' a' (nT (done n D st (ks.take i)))) ∧ Ex H H') (fun H1 e1 => ⟨⟨a, none, rfl, ex_t e1 ha⟩, e1⟩) (fun i σ' H' _ p => ex_t p.2 hk) ?_ ?_
    · rintro i x σ' H' hi ⟨⟨a', y3, rfl, ha'⟩, e1⟩
      have hil : i < ks.length := by
        have := (List.getElem?_eq_some_iff.mp hi).1
        rw [nT_len] at this
        exact this
      rw [nT_get hil] at hi
      obtain rfl := (Option.some.inj hi).symm
      have hki : ks[i]? = some (ks.mxa i) := by simp [List.mxa, List.getD_eq_getElem?_getD, hil]
      have hxn := hks _ (List.mem_of_getElem? hki)
      refine s_raw (tCall_go (ea_cons (ev_var rfl) (ea_cons (ev_var rfl) (ea_cons (ev_var rfl) ea_nil))) fun H2 e2 => ⟨p, a', rows, done n D st (ks.take i), ks.mxa i, n, D, rfl, hh, ho, hR.mono (e1.trans e2), ex_t e2 ha', by rw [done_len, hl], hxn, fun r H3 e3 h3 => ⟨⟨r, _, rfl, ?_⟩, (e1.trans e2).trans e3⟩⟩)
      rw [take_snoc hki, done_snoc]
      exact h3
    · rintro σ' H' ⟨⟨a', y3, rfl, ha'⟩, e1⟩
      rw [nT_len, List.take_length] at ha'
      exact ⟨_, rfl, q a' H' e1 ha'⟩
theorem ok_restsIn {f : Addr} {fd : FuncData} (F : Fun K "rests_in" "rests_in" sRestsIn f fd) (B : Blt mg) (C : CFree P w K mg base) : FnOk P w K mg base CX0 2 f fd ["rows", "state"] (spRestsIn K) := by
  refine F.ok scRestsIn (fun vs H Q E h => ?_) (fun cdv A outer s H vs Q E hr h => ?_)
  · obtain ⟨p, a, rows, s, n, D, rfl, _⟩ := h
    rfl
  · obtain ⟨p, a, rows, st, n, D, rfl, hh, ho, hR, ha, hrest, q⟩ := h
    have nd := scRestsIn.nd
    have tp := hh.top
    refine ⟨_, pss_one (ps_ret (pe_callB (cr_all rfl) (by rfl) B.all (by decide +kernel) (pa_cons (pe_lc (own := [("room", 2), ("number", 3)]) (g := gTup K 2 (gCons (gName 2) (gCons (gName 3) gNil))) (tt := tYes) (te := tOp rEq (tCall (spFree K) [] E0 (tCons (tVar 0) (tCons (tVar 1) (tCons (tVar 2) tNil)))) (tVar 3)) rfl nd (pi_enumT (by rfl) B.enum (pa_cons (pv 1) pa_nil))
      (blkOk_by (own := [("room", 2), ("number", 3)]) (N := ["rows", "state", "room", "number"]) (sc := defScope sRestsIn) (by decide +kernel))
      (fun _ _ _ _ _ => pg_tup rfl (pgs_cons (pg_name (i := 2) nd rfl (.inl rfl)) (pgs_cons (pg_name (i := 3) nd rfl (.inl rfl)) pgs_nil))) (fun _ _ _ _ _ => pts_nil) (fun _ _ _ _ _ => pe_cmpR op_eq (pe_cal C hr (by rfl) (pa_cons (pv 0) (pa_cons (pv 1) (pa_cons (pv 2) pa_nil)))) (pv 3) (nomark _))) pa_nil))), ?_⟩
    have e0 := el_E (K := K) (te := tOp rEq (tCall (spFree K) [] E0 (tCons (tVar 0) (tCons (tVar 1) (tCons (tVar 2) tNil)))) (tVar 3)) (l := st) (a := a) (ta := tCons (tVar 1) tNil) (i1 := 2) (i2 := 3) (vs := [2, 3]) (σ := [some (.ref p), some (.ref a), none, none]) (H := H) (v := fun _ => .bl true)
      (ea_cons (ev_var rfl) ea_nil) ha (by rw [hrest.len]; omega) (fun _ _ => rfl) (fun i hi H1 e1 => ev_is (ev_op (ev_call (ea_cons (ev_var rfl) (ea_cons (ev_var rfl) (ea_cons (ev_var rfl) ea_nil))) (sv_free hh ho (hR.mono e1) (ex_t e1 ha) hrest.len (by rw [← hrest.len]; exact hi))) (ev_var rfl) (rv_eq rfl)) (by
        rw [hrest.ok i (by rw [← hrest.len]; exact hi), decide_eq_true rfl]))
    rw [map_bl _ (fun _ => true)] at e0
    exact s_ret (ev_is (ev_allN e0) (by rw [all_true])) q
theorem ok_likeIn {f : Addr} {fd : FuncData} (F : Fun K "like_in" "like_in" sLikeIn f fd) (B : Blt mg) : FnOk P w K mg base CX0 1 f fd ["house", "state"] (spLikeIn K) := by
  refine F.ok scLikeIn (fun vs H Q E h => ?_) (fun cdv A outer s H vs Q E hr h => ?_)
  · obtain ⟨h, a, n, D, s, rfl, _⟩ := h
    rfl
  · obtain ⟨h, a, n, D, st, rfl, hh, ⟨d, hd, ds, hds, hp⟩, ha, hl, hpt, q⟩ := h
    have nd := scLikeIn.nd
    have few := hh.few
    have hlen : ds.length = D.length := Paired.length hp
    refine ⟨_, pss_one (ps_ret (pe_lc (own := [("door", 2)]) (g := gName 2) (tt := tTest (tOp rEq (tOp (rIxT K) (tVar 1) (tOp (rIxT K) (tVar 2) (tC (.int 0)))) (tOp (rIxT K) (tVar 1) (tOp (rIxT K) (tVar 2) (tC (.int 1)))))) (te := tVar 2) rfl nd (pi_tup (pe_ix ix_tup (pv 0) pe_int (fun _ _ => rfl)))
      (blkOk_by (own := [("door", 2)]) (N := ["house", "state", "door"]) (sc := defScope sLikeIn) (by decide +kernel))
      (fun _ _ _ _ _ => pg_name (i := 2) nd rfl (Or.inl rfl)) (fun _ _ _ _ _ => pts_one (pt_cmpR op_eq (pe_ix ix_tup (pv 1) (pe_ix ix_tup (pv 2) pe_int (fun _ _ => rfl)) (fun _ _ => rfl)) (pe_ix ix_tup (pv 1) (pe_ix ix_tup (pv 2) pe_int (fun _ _ => rfl)) (fun _ _ => rfl)) (nomark _))) (fun _ _ _ _ _ => pv 2))), ?_⟩
    have e0 := el_T (K := K) (te := tVar 2) (t := tTest (tOp rEq (tOp (rIxT K) (tVar 1) (tOp (rIxT K) (tVar 2) (tC (.int 0)))) (tOp (rIxT K) (tVar 1) (tOp (rIxT K) (tVar 2) (tC (.int 1)))))) (l := ds) (c := id) (f := fun _ => false) (v := id) (a := d) (tl := tOp (rIxT K) (tVar 0) (tC (.int 1))) (j := 2) (vs := [2]) (σ := [some (.ref h), some (.ref a), none]) (H := H)
      (ev_op (ev_var rfl) ev_c (rv_ixT hd rfl)) (by rw [List.map_id]; exact hds) (by omega) (fun _ => rfl) (fun x hx H1 e1 => by
        obtain ⟨i, hi⟩ := List.mem_iff_getElem?.mp hx
        obtain ⟨p, hpD, t, rfl, ht⟩ := pget1 hp hi
        have hok := hh.ok p (List.mem_of_getElem? hpD)
        have hne := hpt p (List.mem_of_getElem? hpD)
        refine et_test (ev_is (ev_op (x := nI (st.mxa p.1)) (y := nI (st.mxa p.2)) (ev_op (ev_var rfl) (ev_op (ev_var rfl) ev_c (rv_ixT (v := nI p.1) (ex_t e1 ht) rfl)) (rv_ixT (ex_t e1 ha) (atI_nT (by omega)))) (ev_op (ev_var rfl) (ev_op (ev_var rfl) ev_c (rv_ixT (v := nI p.2) (ex_t e1 ht) rfl)) (rv_ixT (ex_t e1 ha) (atI_nT (by omega)))) (rv_eq rfl)) ?_)
        congr 1
        refine decide_eq_false fun z => hne ?_
        have := V.int.inj z
        omega) (fun x hx H1 e1 hf => by cases hf)
    have e2 : (ds.filter fun _ => false).map id = [] := by simp
    rw [e2] at e0
    exact s_retL e0 q
theorem ok_needParted {f : Addr} {fd : FuncData} (F : Fun K "need_parted" "need_parted" sNeedParted f fd) (C1 : Cal P w K mg base 5 "need_state" ["house", "state"] (spNeedState K)) (C2 : Cal P w K mg base 1 "like_in" ["house", "state"] (spLikeIn K)) : FnOk P w K mg base CX0 6 f fd ["house", "state"] (spNeedParted K) := by
  refine F.ok scNeedParted (fun vs H Q E h => ?_) (fun cdv A outer s H vs Q E hr h => ?_)
  · obtain ⟨h, a, n, D, s, rfl, _⟩ := h
    rfl
  · obtain ⟨h, a, n, D, st, rfl, hh, hH, ha, hl, h60, hpt, q⟩ := h
    refine ⟨_, pss_cons (ps_expr (pe_cal C1 hr (by rfl) (pa_cons (pv 0) (pa_cons (pv 1) pa_nil)))) (pss_one (ps_if (pt_cmpR (op_neD hr.units) (pe_cal C2 (hr.mono (by decide)) (by rfl) (pa_cons (pv 0) (pa_cons (pv 1) pa_nil))) (pe_lst pa_nil) (nomark _)) pss_never pss_nil)), ?_⟩
    refine q_drop (ev_call (ea_cons (ev_var rfl) (ea_cons (ev_var rfl) ea_nil)) (z := .non) fun H3 e4 Q' k E' => ⟨h, a, n, D, st, rfl, hh, hH.mono e4, ex_t e4 ha, hl, h60, k⟩) fun H1 e1 => ?_
    refine s_when (b := false) (et_test (ev_opLL (xs := []) (ys := []) (el_call (ea_cons (ev_var rfl) (ea_cons (ev_var rfl) ea_nil)) fun H2 e2 Q' k E' => ⟨h, a, n, D, st, rfl, hh, hH.mono (e1.trans e2), ex_t (e1.trans e2) ha, hl, hpt, fun p H3 h0 e3 h3 => k p H3 h0 e3 h3⟩) (el_lst ea_nil (by simp)) fun p r H2 hp hr' e2 H3 e3 Q' k =>
      ⟨.list [], .list [], .lst (sq_of (e3 p _ hp)) .nil, .lst (sq_of (e3 r _ hr')) .nil, rfl, rfl, k H3 (Ex.refl H3)⟩)) (fun z => by cases z) fun _ H2 e2 => q H2 (e1.trans e2)
theorem ok_needRest {f : Addr} {fd : FuncData} (F : Fun K "need_rest" "need_rest" sNeedRest f fd) (C1 : Cal P w K mg base 3 "need_numbers" ["house", "state"] (spNeedNumbers K)) (C2 : Cal P w K mg base 2 "rests_in" ["rows", "state"] (spRestsIn K)) (C3 : Cal P w K mg base 1 "near" ["house"] (spNear K)) : FnOk P w K mg base CX0 4 f fd ["house", "rest"] (spNeedRest K) := by
  refine F.ok scNeedRest (fun vs H Q E h => ?_) (fun cdv A outer s H vs Q E hr h => ?_)
  · obtain ⟨h, a, n, D, s, rfl, _⟩ := h
    rfl
  · obtain ⟨h, a, n, D, r, rfl, hh, hH, ha, hrest, h60, q⟩ := h
    refine ⟨_, pss_cons (ps_try_thru0 (pss_one (ps_expr (pe_cal C1 hr (by rfl) (pa_cons (pv 0) (pa_cons (pv 1) pa_nil))))))
      (pss_one (ps_if (pt_not (pt_val (pe_cal C2 (hr.mono (by decide)) (by rfl) (pa_cons (pe_cal C3 (hr.mono (by decide)) (by rfl) (pa_cons (pv 0) pa_nil)) (pa_cons (pv 1) pa_nil))))) pss_never pss_nil)), ?_⟩
    refine q_drop (ev_call (ea_cons (ev_var rfl) (ea_cons (ev_var rfl) ea_nil)) (z := .non) fun H3 e4 Q' k E' => ⟨h, a, n, D, r, rfl, hH.mono e4, ex_t e4 ha, hrest.len, h60, k⟩) fun H1 e1 => ?_
    refine s_when (b := false) (et_not (a := true) (et_B fun H2 e2 Q' k => ?_)) (fun z => by cases z) fun _ H2 e2 => q H2 (e1.trans e2)
    refine ⟨.ref h, rfl, h, n, D, rfl, hh, hH.mono (e1.trans e2), fun p H3 rows e3 ho hR => ?_⟩
    exact ⟨_, rfl, p, a, rows, r, n, D, rfl, hh, ho, hR, ex_t ((e1.trans e2).trans e3) ha, hrest, fun H4 e4 => k H4 (e3.trans e4)⟩
theorem ok_isBelow {f : Addr} {fd : FuncData} (F : Fun K "is_below" "is_below" sIsBelow f fd) (B : Blt mg) : FnOk P w K mg base CX0 1 f fd ["one", "other"] (spIsBelow K) := by
  refine F.ok scIsBelow (fun vs H Q E h => ?_) (fun cdv A outer s H vs Q E hr h => ?_)
  · obtain ⟨a, b, r, s, rfl, _⟩ := h
    rfl
  · obtain ⟨a, b, r, st, rfl, ha, hb, hl, hz, hle, q⟩ := h
    have nd := scIsBelow.nd
    refine ⟨_, pss_one (ps_ret (pe_callB (cr_all rfl) (by rfl) B.all (by decide +kernel) (pa_cons (pe_lc (own := [("a", 2), ("b", 3)]) (g := gTup K 2 (gCons (gName 2) (gCons (gName 3) gNil))) (tt := tYes) (te := tOp (rI0 fun i j => .bl (decide (i ≤ j))) (tVar 2) (tVar 3)) rfl nd (pi_zipA (by rfl) B.zip (pa_cons (pv 0) (pa_cons (pv 1) pa_nil)))
      (blkOk_by (own := [("a", 2), ("b", 3)]) (N := ["one", "other", "a", "b"]) (sc := defScope sIsBelow) (by decide +kernel))
      (fun _ _ _ _ _ => pg_tup rfl (pgs_cons (pg_name (i := 2) nd rfl (.inl rfl)) (pgs_cons (pg_name (i := 3) nd rfl (.inl rfl)) pgs_nil))) (fun _ _ _ _ _ => pts_nil) (fun _ _ _ _ _ => pe_cmpR op_le (pv 2) (pv 3) (nomark _))) pa_nil))), ?_⟩
    have e0 := el_Z (K := K) (te := tOp (rI0 fun i j => .bl (decide (i ≤ j))) (tVar 2) (tVar 3)) (l := r) (m := st) (a := a) (b := b) (ta := tCons (tVar 0) (tCons (tVar 1) tNil)) (i1 := 2) (i2 := 3) (vs := [2, 3]) (σ := [some (.ref a), some (.ref b), none, none]) (H := H) (v := fun _ => .bl true)
      (ea_cons (ev_var rfl) (ea_cons (ev_var rfl) ea_nil)) ha hb hl (by omega) (fun _ _ => rfl) (fun i hi H1 e1 => ev_is (ev_op (ev_var rfl) (ev_var rfl) (rv_le _ _)) (by
        congr 1
        refine decide_eq_true ?_
        have := hle i hi
        omega))
    rw [map_bl _ (fun _ => true)] at e0
    exact s_ret (ev_is (ev_allN e0) (by rw [all_true])) q
end
end MxD
namespace MxD
open PySem PySem.Spec PyProof.Rows L2 Evl MxR Mx MxB MxE StX RZ
abbrev sIsLargest : Stmt := topS 27
abbrev sLargestIn : Stmt := topS 26
theorem scIsLargest : FnScope ["rows", "rooms", "some", "room", "other"] ["rows", "rooms", "some"] (defScope sIsLargest) := ⟨rfl, rfl, rfl, by decide +kernel, rfl, by decide +kernel, by decide +kernel⟩
theorem scLargestIn : FnScope ["rows", "rooms", "found", "room", "some", "other"] ["rows", "rooms"] (defScope sLargestIn) := ⟨rfl, rfl, rfl, by decide +kernel, rfl, by decide +kernel, by decide +kernel⟩
structure Short (n : Nat) (rows : List (List Nat)) : Prop where
  len : rows.length = n
  few : ∀ x, x < n → (rows.getD x []).length ≤ 28
def spIsLargest (K : PySem.W.Frag) : Sp := fun vs H Q _ => ∃ (p q t : Addr) (rows : List (List Nat)) (rooms some_ : List Nat) (n : Nat), vs = [.ref p, .ref q, .ref t] ∧ Short n rows ∧ RowsAt K H p rows ∧ SqT K H q (nT rooms) ∧ SqT K H t (nT some_) ∧ (∀ x ∈ rooms, x < n) ∧ rooms.length ≤ 1000 ∧ RetV (.bl (isLargest rows rooms some_)) H Q
def spLargestIn (K : PySem.W.Frag) : Sp := fun vs H Q _ => ∃ (p q : Addr) (rows : List (List Nat)) (rooms : List Nat) (n : Nat), vs = [.ref p, .ref q] ∧ Short n rows ∧ RowsAt K H p rows ∧ SqT K H q (nT rooms) ∧ (∀ x ∈ rooms, x < n) ∧ rooms ≠ [] ∧ rooms.length ≤ 8 ∧
  ∀ r H2 us (ws : List (List Nat)), H r = none → Ex H H2 → H2 r = some (.lst us) → TupsAt K H2 us (ws.map nT) → ws.Perm (largest rows rooms) → Q (.ref r) H2
section
variable {P : Program} {w : World} {K : PySem.W.Frag} {mg : Str → Option Value} {base : Heap}
/-- any([other in some for other in rows[room]]) -/
abbrev tAnyIn (K : PySem.W.Frag) (ir ix is io : Nat) : TE := tCB (rAny K) (tCons (tLc (iList K (tOp (rIxL K) (tVar ir) (tVar ix))) (gName io) tYes (tOp (rIn K false) (tVar io) (tVar is)) [io]) tNil)
theorem ev_anyIn {σ : L2.St} {H : Hp} {ir ix is io : Nat} {p t : Addr} {rows : List (List Nat)} {x : Nat} {some_ : List Nat} (hr : σ[ir]? = some (some (.ref p))) (hx : σ[ix]? = some (some (nI x))) (hs : σ[is]? = some (some (.ref t))) (hio : io < σ.length) (hne : is ≠ io)
    (hR : RowsAt K H p rows) (ht : SqT K H t (nT some_)) (hxl : x < rows.length) (hz : (rows.getD x []).length ≤ 28) : Ev (tAnyIn K ir ix is io) σ H (.bl ((rows.getD x []).any fun o => decide (o ∈ some_))) := by
  obtain ⟨vs, q, hvs, hat, hrow⟩ := rowsAt_get hR hxl
  have e0 := el_L (K := K) (te := tOp (rIn K false) (tVar io) (tVar is)) (t := tYes) (l := rows.getD x []) (c := nI) (f := fun _ => true) (v := fun o => .bl (decide (o ∈ some_))) (a := q) (tl := tOp (rIxL K) (tVar ir) (tVar ix)) (j := io) (vs := [io]) (σ := σ) (H := H)
    (ev_op (ev_var hr) (ev_var hx) (rv_ixL hvs hat)) hrow (by omega) (fun x => by simp [wipe]) (fun _ _ _ _ => et_yes) (fun o ho H1 e1 _ => in_nT (ev_var (by simp [wipe, hio])) (ev_var (by
      simp only [wipe, List.getElem?_set_ne (Ne.symm hne)]
      exact hs)) (ex_t e1 ht))
  rw [filter_true, map_bl] at e0
  refine ev_is (ev_anyN e0) ?_
  rw [List.any_map]
  rfl
theorem ok_isLargest {f : Addr} {fd : FuncData} (F : Fun K "is_largest" "is_largest" sIsLargest f fd) (B : Blt mg) : FnOk P w K mg base CX0 1 f fd ["rows", "rooms", "some"] (spIsLargest K) := by
  refine F.ok scIsLargest (fun vs H Q E h => ?_) (fun cdv A outer s H vs Q E hr h => ?_)
  · obtain ⟨p, q, t, rows, rooms, some_, n, rfl, _⟩ := h
    rfl
  · obtain ⟨p, q, t, rows, rooms, some_, n, rfl, hsh, hR, hq, ht, hlt, hz, k⟩ := h
    have nd := scIsLargest.nd
    refine ⟨_, pss_one (ps_ret (pe_callB (cr_all rfl) (by rfl) B.all (by decide +kernel) (pa_cons (pe_lc (own := [("room", 3)]) (g := gName 3) (tt := tYes) (te := tOrV (tOp (rIn K false) (tVar 3) (tVar 2)) (tAnyIn K 0 3 2 4)) rfl nd (pi_tup (pv 1))
      (blkOk_by (own := [("room", 3)]) (N := ["rows", "rooms", "some", "room", "other"]) (sc := defScope sIsLargest) (by decide +kernel))
      (fun _ _ _ _ _ => pg_name (i := 3) nd rfl (Or.inl rfl)) (fun _ _ _ _ _ => pts_nil)
      (fun _ _ _ _ _ => pe_or (pe_cmpR op_in_seq (pv 3) (pv 2) (by rfl)) (pe_one (pe_callB (r := rAny K) (cr_any rfl) (by rfl) B.any (by decide +kernel) (pa_cons (pe_lc (own := [("other", 4)]) (g := gName 4) (tt := tYes) (te := tOp (rIn K false) (tVar 4) (tVar 2)) rfl nd (pi_list (pe_ix ix_list (pv 0) (pv 3) (fun _ _ => rfl)))
        (blkOk_by (own := [("other", 4)]) (N := ["rows", "rooms", "some", "room", "other"]) (sc := relS _ (defScope sIsLargest)) (by decide +kernel))
        (fun _ _ _ _ _ => pg_name (i := 4) nd rfl (Or.inl rfl)) (fun _ _ _ _ _ => pts_nil) (fun _ _ _ _ _ => pe_cmpR op_in_seq (pv 4) (pv 2) (by rfl))) pa_nil))))) pa_nil))), ?_⟩
    have e0 := el_T (K := K) (te := tOrV (tOp (rIn K false) (tVar 3) (tVar 2)) (tAnyIn K 0 3 2 4)) (t := tYes) (l := rooms) (c := nI) (f := fun _ => true) (v := fun x => .bl (decide (x ∈ some_) || (rows.getD x []).any fun o => decide (o ∈ some_))) (a := q) (tl := tVar 1) (j := 3) (vs := [3]) (σ := [some (.ref p), some (.ref q), some (.ref t), none, none]) (H := H)
      (ev_var rfl) hq (by omega) (fun _ => rfl) (fun _ _ _ _ => et_yes) (fun x hx H1 e1 _ => ev_orV (in_nT (ev_var rfl) (ev_var rfl) (ex_t e1 ht)) fun _ => ev_anyIn (ir := 0) (ix := 3) (is := 2) (io := 4) rfl rfl rfl (show (4 : Nat) < 5 by decide) (by decide) (hR.mono e1) (ex_t e1 ht) (by rw [hsh.len]; exact hlt x hx) (hsh.few x (hlt x hx)))
    rw [filter_true, map_bl] at e0
    refine s_ret (ev_is (ev_allN e0) ?_) k
    rw [List.all_map]
    rfl
end
end MxD
namespace MxD
open PySem PySem.Spec PyProof.Rows L2 Evl MxR Mx MxB MxE StX RZ
/-! ### lists of tuples -/
theorem tups_zip {K : PySem.W.Frag} {H : Hp} : ∀ {vs : List V} {fs : List (List Nat)}, TupsAt K H vs (fs.map nT) → (vs.zip fs).map (·.1) = vs ∧ (vs.zip fs).map (·.2) = fs ∧ ∀ b ∈ vs.zip fs, TupAt K H b.1 (nT b.2)
  | [], [], .nil => ⟨rfl, rfl, by simp⟩
  | v :: vs, f :: fs, .cons h t => by
    obtain ⟨h1, h2, h3⟩ := tups_zip t
    refine ⟨by rw [List.zip_cons_cons, List.map_cons, h1], by rw [List.zip_cons_cons, List.map_cons, h2], fun b hb => ?_⟩
    rw [List.zip_cons_cons] at hb
    rcases List.mem_cons.mp hb with rfl | hb
    · exact h
    · exact h3 b hb
theorem tups_of {K : PySem.W.Frag} {H : Hp} : ∀ {bs : List (V × List Nat)}, (∀ b ∈ bs, TupAt K H b.1 (nT b.2)) → TupsAt K H (bs.map (·.1)) ((bs.map (·.2)).map nT)
  | [], _ => .nil
  | b :: bs, h => .cons (h b List.mem_cons_self) (tups_of fun c hc => h c (List.mem_cons_of_mem _ hc))
theorem founds_mem_len {rows : List (List Nat)} (pre : List Nat) : ∀ b ∈ founds rows pre, b.length ≤ pre.length := by
  suffices h : ∀ (u pre : List Nat), (∀ b ∈ founds rows pre, b.length ≤ pre.length) → ∀ b ∈ founds rows (pre ++ u), b.length ≤ (pre ++ u).length by
    have := h pre [] (by simp [founds])
    rw [List.nil_append] at this
    exact this
  intro u
  induction u with
  | nil => intro pre h; rw [List.append_nil]; exact h
  | cons x u ih =>
    intro pre h
    have e : pre ++ x :: u = (pre ++ [x]) ++ u := by simp
    rw [e]
    refine ih _ fun b hb => ?_
    rw [founds_snoc] at hb
    rw [List.length_append]
    rcases List.mem_append.mp hb with hb | hb
    · have := h b hb
      omega
    · obtain ⟨c, hc, rfl⟩ := List.mem_map.mp hb
      have := h c (List.mem_filter.mp hc).1
      rw [List.length_append]
      exact Nat.add_le_add_right this 1
theorem paired_len {α β : Type} {F : α → β → Prop} {l : List α} {m : List β} (h : Paired F l m) : l.length = m.length := Paired.length h
/-- sorted(xs), a list of tuples of numbers, none empty -/
theorem sort_read {K : PySem.W.Frag} {H1 : Hp} {Q : VK} {p : Addr} {bs : List (V × List Nat)} (h1 : SqL K H1 p (bs.map (·.1))) (hb : ∀ b ∈ bs, b.2 ≠ [] ∧ TupAt K H1 b.1 (nT b.2))
    (q : ∀ r H2 us (ws : List (List Nat)), H1 r = none → Ex H1 H2 → H2 r = some (.lst us) → TupsAt K H2 us (ws.map nT) → ws.Perm (bs.map (·.2)) → Q (.ref r) H2) : rSortedT K [.ref p] H1 Q :=
  ⟨p, bs.map fun b => (b.1, b.2.map Int.ofNat), rfl, by
      rw [List.map_map]
      exact h1, fun b hb' => by
      obtain ⟨c, hc, rfl⟩ := List.mem_map.mp hb'
      obtain ⟨h2, t, h3, h4⟩ := hb c hc
      refine ⟨fun z => h2 ?_, t, h3, ?_⟩
      · exact List.map_eq_nil_iff.mp z
      · show SqT K H1 t ((c.2.map Int.ofNat).map V.int)
        have e : (c.2.map Int.ofNat).map V.int = nT c.2 := by unfold nT; rw [List.map_map]; rfl
        rw [e]
        exact h4, fun bs' r hperm hr => by
      have hmem : ∀ b ∈ bs', ∃ c ∈ bs, b = (c.1, c.2.map Int.ofNat) := fun b hb' => by
        obtain ⟨c, hc, e⟩ := List.mem_map.mp (hperm.mem_iff.mp hb')
        exact ⟨c, hc, e.symm⟩
      have back : ∀ l : List Nat, (l.map Int.ofNat).map Int.toNat = l := fun l => by
        rw [List.map_map]
        have : (Int.toNat ∘ Int.ofNat) = id := by funext x; rfl
        rw [this, List.map_id]
      have := q r (upd H1 r (.lst (bs'.map (·.1)))) ((bs'.map (fun b => (b.1, b.2.map Int.toNat))).map (·.1)) ((bs'.map (fun b => (b.1, b.2.map Int.toNat))).map (·.2)) hr (Ex.new hr) (by
        rw [upd_same, List.map_map]
        rfl) (tups_of fun b hb' => by
          obtain ⟨c, hc, rfl⟩ := List.mem_map.mp hb'
          obtain ⟨d, hd, rfl⟩ := hmem c hc
          show TupAt K _ d.1 (nT ((d.2.map Int.ofNat).map Int.toNat))
          rw [back]
          exact (hb d hd).2.mono (Ex.new hr)) (by
          have h5 := (hperm.map (fun b => (b.1, b.2.map Int.toNat))).map (·.2)
          have e3 : ((bs.map fun b => (b.1, b.2.map Int.ofNat)).map (fun b => (b.1, b.2.map Int.toNat))).map (·.2) = bs.map (·.2) := by
            rw [List.map_map, List.map_map]
            refine List.map_congr_left fun b _ => ?_
            exact back b.2
          rw [e3] at h5
          exact h5)
      exact this⟩
theorem ev_sortT {K : PySem.W.Frag} {σ : L2.St} {H : Hp} {te : TE} {Q : VK} {bs : List (V × List Nat)} (h : EvL te σ H (bs.map (·.1))) (hb : ∀ b ∈ bs, b.2 ≠ [] ∧ TupAt K H b.1 (nT b.2))
    (q : ∀ r H2 us (ws : List (List Nat)), H r = none → Ex H H2 → H2 r = some (.lst us) → TupsAt K H2 us (ws.map nT) → ws.Perm (bs.map (·.2)) → Q (.ref r) H2) : tCB (rSortedT K) (tCons te tNil) σ H Q :=
  h H (Ex.refl H) _ fun p H1 hp e1 h1 => sort_read (sq_of h1) (fun b hb' => ⟨(hb b hb').1, (hb b hb').2.mono e1⟩) fun r H2 us ws hr e2 h2 hT hperm => q r H2 us ws (fresh_back e1 hr) (e1.trans e2) h2 hT hperm
/-- .. of a new list of new tuples -/
theorem ev_sortLT {K : PySem.W.Frag} {σ : L2.St} {H : Hp} {te : TE} {fs : List (List Nat)} {Q : VK} (h : EvLT K te σ H (fs.map nT)) (hne : ∀ f ∈ fs, f ≠ [])
    (q : ∀ r H2 us (ws : List (List Nat)), H r = none → Ex H H2 → H2 r = some (.lst us) → TupsAt K H2 us (ws.map nT) → ws.Perm fs → Q (.ref r) H2) : tCB (rSortedT K) (tCons te tNil) σ H Q :=
  h H (Ex.refl H) _ fun p H1 vs hp e1 h1 hT => by
    obtain ⟨z1, z2, z3⟩ := tups_zip hT
    exact sort_read (bs := vs.zip fs) (by rw [z1]; exact sq_of h1) (fun b hb => ⟨hne b.2 (List.of_mem_zip hb).2, z3 b hb⟩) fun r H2 us ws hr e2 h2 hT2 hperm => q r H2 us ws (fresh_back e1 hr) (e1.trans e2) h2 hT2 (by rw [z2] at hperm; exact hperm)
section
variable {P : Program} {w : World} {K : PySem.W.Frag} {mg : Str → Option Value} {base : Heap}
theorem ok_largestIn {f : Addr} {fd : FuncData} (F : Fun K "largest_in" "largest_in" sLargestIn f fd) (B : Blt mg) (C : Cal P w K mg base 1 "is_largest" ["rows", "rooms", "some"] (spIsLargest K)) : FnOk P w K mg base CX0 2 f fd ["rows", "rooms"] (spLargestIn K) := by
  refine F.ok scLargestIn (fun vs H Q E h => ?_) (fun cdv A outer s H vs Q E hr h => ?_)
  · obtain ⟨p, q, rows, rooms, n, rfl, _⟩ := h
    rfl
  · obtain ⟨p, q, rows, rooms, n, rfl, hsh, hR, hq, hlt, hne, hz, k⟩ := h
    have nd := scLargestIn.nd
    refine ⟨_, pss_cons (ps_set (i := 2) nd rfl (.inl rfl) (pe_lst (pa_cons (pe_tup pa_nil) pa_nil)))
      (pss_cons (ps_for PassesOwn.never rfl (pi_tup (pv 1)) (pg_name (i := 3) nd rfl (.inr rfl))
        (pss_one (ps_expr (pe_bm PySem.F.plainAttrs_list PySem.F.slot_list_extend PySem.F.type_list_extend mt_extend (pv 2) (pa_cons
          (pe_lc (own := [("some", 4)]) (g := gName 4) (tt := tNot (tB (tAnyIn K 0 3 4 5))) (te := tTup (tStar K (tVar 4) (tCons (tVar 3) tNil))) rfl nd (pi_list (pv 2))
            (blkOk_by (own := [("some", 4)]) (N := ["rows", "rooms", "found", "room", "some", "other"]) (sc := defScope sLargestIn) (by decide +kernel))
            (fun _ _ _ _ _ => pg_name (i := 4) nd rfl (Or.inr rfl))
            (fun _ _ _ _ _ => pts_one (pt_not (pt_val (pe_callB (r := rAny K) (cr_any rfl) (by rfl) B.any (by decide +kernel) (pa_cons (pe_lc (own := [("other", 5)]) (g := gName 5) (tt := tYes) (te := tOp (rIn K false) (tVar 5) (tVar 4)) rfl nd (pi_list (pe_ix ix_list (pv 0) (pv 3) (fun _ _ => rfl)))
              (blkOk_by (own := [("other", 5)]) (N := ["rows", "rooms", "found", "room", "some", "other"]) (sc := relS _ (defScope sLargestIn)) (by decide +kernel))
              (fun _ _ _ _ _ => pg_name (i := 5) nd rfl (Or.inl rfl)) (fun _ _ _ _ _ => pts_nil) (fun _ _ _ _ _ => pe_cmpR op_in_seq (pv 5) (pv 4) (by rfl))) pa_nil)))))
            (fun _ _ _ _ _ => pe_tup (pa_star (pv 4) (pa_cons (pv 3) pa_nil)))) pa_nil)))))
      (pss_one (ps_ret (pe_callB (cr_sortedT hr.units) (by rfl) B.sorted (by decide +kernel) (pa_cons
        (pe_lc (own := [("some", 4)]) (g := gName 4) (tt := tB (tCall (spIsLargest K) [] E0 (tCons (tVar 0) (tCons (tVar 1) (tCons (tVar 4) tNil))))) (te := tVar 4) rfl nd (pi_list (pv 2))
          (blkOk_by (own := [("some", 4)]) (N := ["rows", "rooms", "found", "room", "some", "other"]) (sc := defScope sLargestIn) (by decide +kernel))
          (fun _ _ _ _ _ => pg_name (i := 4) nd rfl (Or.inl rfl)) (fun _ _ _ _ _ => pts_one (pt_val (pe_cal C hr (by rfl) (pa_cons (pv 0) (pa_cons (pv 1) (pa_cons (pv 4) pa_nil)))))) (fun _ _ _ _ _ => pv 4)) pa_nil))))), ?_⟩
    have pow : 2 ^ rooms.length ≤ 256 := by
      have : 2 ^ rooms.length ≤ 2 ^ 8 := Nat.pow_le_pow_right (by decide) hz
      omega
    -- found = [()]
    refine q_raw ⟨by rw [sizeLine_eq]; exact Nat.zero_le _, fun z hzn => ⟨by rw [sizeLine_eq]; exact (by decide : 1 ≤ 16777216), fun F0 hF0 => ?_⟩⟩
    have f0 : H F0 = none := fresh_back (Ex.new hzn) hF0
    have e1 : Ex H (upd (upd H z (.tup [])) F0 (.lst [.ref z])) := (Ex.new hzn).trans (Ex.new hF0)
    refine q_forT (xs := nT rooms) (a := q) (ev_var rfl) (ex_t e1 hq) (fun i σ' H' => (∃ y3, σ' = [some (.ref p), some (.ref q), some (.ref F0), y3, none, none]) ∧ Ex H H' ∧ ∃ us, H' F0 = some (.lst us) ∧ TupsAt K H' us ((founds rows (rooms.take i)).map nT))
      (fun H1 e2 => ⟨⟨none, rfl⟩, e1.trans e2, [.ref z], e2 F0 _ upd_same, .cons ⟨z, rfl, st_of (e2 z _ (by rw [upd_ne (ne_of_none upd_same hF0), upd_same]; rfl))⟩ .nil⟩) (fun i σ' H' _ p => ex_t p.2.1 hq) ?_ ?_
    · rintro i x σ' H' hi ⟨⟨y3, rfl⟩, e2, us, hF, hus⟩
      have hil : i < rooms.length := by
        have := (List.getElem?_eq_some_iff.mp hi).1
        rw [nT_len] at this
        exact this
      rw [nT_get hil] at hi
      obtain rfl := (Option.some.inj hi).symm
      have hki : rooms[i]? = some (rooms.mxa i) := by simp [List.mxa, List.getD_eq_getElem?_getD, hil]
      have hxn := hlt _ (List.mem_of_getElem? hki)
      generalize hx : rooms.mxa i = x at hki hxn
      have hfl : (founds rows (rooms.take i)).length ≤ 256 := by
        refine Nat.le_trans (founds_len _) (Nat.le_trans (Nat.pow_le_pow_right (by decide) ?_) pow)
        rw [List.length_take]
        omega
      have hbl8 : ∀ b ∈ founds rows (rooms.take i), b.length ≤ 8 := fun b hb => by
        have h1 := founds_mem_len _ b hb
        rw [List.length_take] at h1
        omega
      generalize hfs : founds rows (rooms.take i) = fs at hus hfl hbl8
      have hul : us.length = fs.length := by rw [paired_len hus, List.length_map]
      have comp := et_L (K := K) (te := tTup (tStar K (tVar 4) (tCons (tVar 3) tNil))) (t := tNot (tB (tAnyIn K 0 3 4 5))) (l := fs) (xs := us) (f := fun some_ => !((rows.getD x []).any fun o => decide (o ∈ some_))) (w := fun some_ => nT (some_ ++ [x])) (a := F0) (tl := tVar 2) (j := 4) (vs := [4])
        (σ := [some (.ref p), some (.ref q), some (.ref F0), some (nI x), none, none]) (H := H') (ev_var rfl) (sq_of hF) hul (by omega) (fun _ => rfl)
        (fun i b y hb hy H1 e3 => by
          obtain ⟨wy, hw, t, rfl, ht⟩ := pget1 hus hy
          rw [List.getElem?_map, hb] at hw
          obtain rfl := (Option.some.inj hw).symm
          exact et_not (et_B (ev_anyIn (ir := 0) (ix := 3) (is := 4) (io := 5) rfl rfl rfl (show (5 : Nat) < 6 by decide) (by decide) (hR.mono (e2.trans e3)) (ex_t e3 ht) (by rw [hsh.len]; exact hxn) (hsh.few x hxn))))
        (fun i b y hb hy H1 e3 _ => by
          obtain ⟨wy, hw, t, rfl, ht⟩ := pget1 hus hy
          rw [List.getElem?_map, hb] at hw
          obtain rfl := (Option.some.inj hw).symm
          have hbl : b.length ≤ 8 := hbl8 b (List.mem_of_getElem? hb)
          have e4 : nT (b ++ [x]) = nT b ++ [nI x] := by unfold nT; rw [List.map_append]; rfl
          rw [e4]
          exact EvS.of (eu_tup (ea_star (EvS.ref (ev_var rfl) (ex_t e3 ht)) (ea_cons (ev_var rfl) ea_nil)) (by simp [nT_len]; omega)))
      refine ⟨.ref F0, rfl, .inl ⟨rfl, us, sq_of hF⟩, comp H' (Ex.refl H') _ fun r H2 zs hr' e3 hzs hT => ?_⟩
      have hzl : zs.length ≤ fs.length := by
        rw [paired_len hT, List.length_map]
        exact List.length_filter_le _ _
      refine ⟨F0, r, us, zs, rfl, rfl, e3 F0 _ hF, hzs, by rw [sizeLine_eq]; omega, ⟨_, rfl⟩, Ex.mut (e2.trans e3) f0, us ++ zs, upd_same, ?_⟩
      have es : founds rows (rooms.take (i + 1)) = fs ++ (fs.filter fun some_ => !((rows.getD x []).any fun o => decide (o ∈ some_))).map fun some_ => some_ ++ [x] := by
        rw [take_snoc hki, founds_snoc, hfs]
        rfl
      rw [es, List.map_append, List.map_map]
      exact Paired.app ((hus.mono e3).wr (e3 F0 _ hF)) (hT.wr (e3 F0 _ hF))
    · rintro σ' H' ⟨⟨y3, rfl⟩, e2, us, hF, hus⟩
      rw [nT_len, List.take_length] at hus
      have hfl : (founds rows rooms).length ≤ 256 := Nat.le_trans (founds_len _) pow
      obtain ⟨z1, z2, z3⟩ := tups_zip hus
      generalize hfs : founds rows rooms = fs at hus hfl z1 z2 z3
      have hul : us.length = fs.length := by rw [paired_len hus, List.length_map]
      have comp := el_L (K := K) (te := tVar 4) (t := tB (tCall (spIsLargest K) [] E0 (tCons (tVar 0) (tCons (tVar 1) (tCons (tVar 4) tNil))))) (l := us.zip fs) (c := (·.1)) (f := fun b => isLargest rows rooms b.2) (v := (·.1)) (a := F0) (tl := tVar 2) (j := 4) (vs := [4])
        (σ := [some (.ref p), some (.ref q), some (.ref F0), y3, none, none]) (H := H') (ev_var rfl) (by rw [z1]; exact sq_of hF) (by rw [List.length_zip]; omega) (fun _ => rfl)
        (fun b hb H1 e3 => by
          obtain ⟨t, et, ht⟩ := z3 b hb
          rw [et]
          exact et_B (ev_call (ea_cons (ev_var rfl) (ea_cons (ev_var rfl) (ea_cons (ev_var rfl) ea_nil))) fun H2 e4 Q' k' E' => ⟨p, q, t, rows, rooms, b.2, n, rfl, hsh, hR.mono ((e2.trans e3).trans e4), ex_t ((e2.trans e3).trans e4) hq, ex_t (e3.trans e4) ht, hlt, by omega, k'⟩))
        (fun b hb H1 e3 _ => ev_var rfl)
      refine s_retRaw (ev_sortT (bs := (us.zip fs).filter fun b => isLargest rows rooms b.2) comp (fun b hb => ?_) fun r H2 vs' ws hrn e3 h3 hT hp => ?_)
      · obtain ⟨hb1, hb2⟩ := List.mem_filter.mp hb
        refine ⟨fun z => ?_, z3 b hb1⟩
        rw [z] at hb2
        cases rooms with
        | nil => exact hne rfl
        | cons a t => simp [isLargest] at hb2
      · refine k r H2 vs' ws (fresh_back e2 hrn) (e2.trans e3) h3 hT ?_
        have e5 : ((us.zip fs).filter fun b => isLargest rows rooms b.2).map (·.2) = largest rows rooms := by
          have h6 := List.filter_map (f := fun b : V × List Nat => b.2) (p := isLargest rows rooms) (l := us.zip fs)
          rw [z2] at h6
          unfold largest
          rw [hfs]
          exact h6.symm
        rw [e5] at hp
        exact hp
end
end MxD
namespace MxD
open PySem PySem.Spec PyProof.Rows L2 Evl MxR Mx MxB MxE StX RZ
abbrev sBelowIn : Stmt := topS 31
theorem scBelowIn : FnScope ["rows", "rooms", "state", "level", "must", "found", "some", "left", "more", "room"] ["rows", "rooms", "state", "level"] (defScope sBelowIn) := ⟨rfl, rfl, rfl, by decide +kernel, rfl, by decide +kernel, by decide +kernel⟩
/-! ### dicts from rooms to numbers -/
def kvP (ps : List (Nat × Nat)) : List (Key × V) := ps.map fun p => (Sum.inl (p.1 : Int), nI p.2)
theorem kvP_keys (ps : List (Nat × Nat)) : (kvP ps).map (·.1) = (ps.map (·.1)).map fun x => (Sum.inl (x : Int) : Key) := by
  unfold kvP
  rw [List.map_map, List.map_map]
  rfl
theorem inl_inj {x y : Nat} : ((Sum.inl (x : Int) : Key) = Sum.inl (y : Int)) ↔ x = y := by
  constructor
  · intro z
    have := Sum.inl.inj z
    omega
  · intro z; rw [z]
theorem kvP_none {ps : List (Nat × Nat)} {x : Nat} (h : x ∉ ps.map (·.1)) : valV (kvP ps) (Sum.inl (x : Int)) = none := by
  induction ps with
  | nil => rfl
  | cons p ps ih =>
    have h1 : x ∉ ps.map (·.1) := fun z => h (List.mem_cons_of_mem _ z)
    have h2 : ¬ x = p.1 := fun z => h (by rw [z]; exact List.mem_cons_self)
    show valV ((Sum.inl (p.1 : Int), nI p.2) :: kvP ps) _ = none
    rw [valV_neg (by
      intro z
      exact h2 (inl_inj.mp z).symm)]
    exact ih h1
theorem kvP_some : ∀ {ps : List (Nat × Nat)} {x v : Nat}, ps.lookup x = some v → valV (kvP ps) (Sum.inl (x : Int)) = some (nI v)
  | [], _, _, h => by simp at h
  | p :: ps, x, v, h => by
    show valV ((Sum.inl (p.1 : Int), nI p.2) :: kvP ps) _ = _
    by_cases e : x = p.1
    · rw [valV_pos (by rw [e])]
      have : (x == p.1) = true := by simpa using e
      simp [List.lookup, this] at h
      rw [h]
    · rw [valV_neg (by
        intro z
        exact e (inl_inj.mp z).symm)]
      have : (x == p.1) = false := by simpa using e
      simp [List.lookup, this] at h
      exact kvP_some h
theorem merge_app : ∀ (b a : List (Nat × Nat)), ((a ++ b).map (·.1)).Nodup → mergeK (kvP a) (kvP b) = kvP (a ++ b)
  | [], a, _ => by rw [List.append_nil]; rfl
  | p :: b, a, h => by
    have e : a ++ p :: b = (a ++ [p]) ++ b := by simp
    have hn : p.1 ∉ a.map (·.1) := fun z => by
      rw [List.map_append, List.nodup_append] at h
      exact h.2.2 p.1 z p.1 (by simp) rfl
    show mergeK (putK (kvP a) (Sum.inl (p.1 : Int)) (nI p.2)) (kvP b) = _
    rw [putK_new _ (kvP_none hn), e]
    have e2 : kvP a ++ [(Sum.inl (p.1 : Int), nI p.2)] = kvP (a ++ [p]) := by unfold kvP; rw [List.map_append]; rfl
    rw [e2]
    rw [e] at h
    exact merge_app b (a ++ [p]) h
def DictAt (H : Hp) (v : V) (ps : List (Nat × Nat)) : Prop := ∃ b, v = .ref b ∧ H b = some (.dK (kvP ps))
def DictsAt (H : Hp) (vs : List V) (pss : List (List (Nat × Nat))) : Prop := Paired (DictAt H) vs pss
theorem DictAt.wr {H : Hp} {v : V} {ps : List (Nat × Nat)} {D : Addr} {ys zs : List V} (hD : H D = some (.lst ys)) (h : DictAt H v ps) : DictAt (upd H D (.lst zs)) v ps := by
  obtain ⟨b, e, hb⟩ := h
  refine ⟨b, e, ?_⟩
  rw [upd_ne (ne_of hb hD (by intro z; cases z))]
  exact hb
theorem DictsAt.mono {H H' : Hp} {vs : List V} {pss : List (List (Nat × Nat))} (e : Ex H H') (h : DictsAt H vs pss) : DictsAt H' vs pss := Paired.mapP h fun _ _ ⟨b, a, c⟩ => ⟨b, a, e b _ c⟩
theorem DictsAt.wr {H : Hp} {vs : List V} {pss : List (List (Nat × Nat))} {D : Addr} {ys zs : List V} (hD : H D = some (.lst ys)) (h : DictsAt H vs pss) : DictsAt (upd H D (.lst zs)) vs pss := Paired.mapP h fun _ _ x => x.wr hD
def spBelowIn (K : PySem.W.Frag) (d : Nat) : Sp := fun vs H Q _ => ∃ (p q a : Addr) (rows : List (List Nat)) (rooms : List Nat) (s : State) (n : Nat) (D : Doors) (level : Nat), vs = [.ref p, .ref q, .ref a, nI level] ∧ House n D ∧ RowsOk n D rows ∧ RowsAt K H p rows ∧ SqT K H q (nT rooms) ∧ SqT K H a (nT s) ∧ s.length = n ∧
  rooms.Nodup ∧ (∀ x ∈ rooms, x < n) ∧ rooms.length ≤ d ∧ ∀ r H2 us pss, H r = none → Ex H H2 → H2 r = some (.lst us) → DictsAt H2 us pss → (∀ ps ∈ pss, Bel D s rooms level ps) → pss.length ≤ lim rooms.length → Q (.ref r) H2
theorem nodup_le {n : Nat} {l : List Nat} (h : l.Nodup) (hl : ∀ x ∈ l, x < n) : l.length ≤ n := by
  have := List.Nodup.length_le_of_subset (l₂ := List.range n) h fun x hx => List.mem_range.mpr (hl x hx)
  rw [List.length_range] at this
  exact this
theorem lim_small {n : Nat} {l : List Nat} (hn : n ≤ 6) (h : l.Nodup) (hl : ∀ x ∈ l, x < n) : lim l.length ≤ 615195 := by
  have h1 := nodup_le h hl
  have h2 := lim_mono (j := l.length) (k := 6) (by omega)
  rw [lim6] at h2
  exact h2
/-- {room: level for room in some} -/
theorem dc_level {K : PySem.W.Frag} {σ : L2.St} {H : Hp} {t : Addr} {some_ : List Nat} {level : Nat} {is il io : Nat} {Q : VK} (hs : σ[is]? = some (some (.ref t))) (hl : σ[il]? = some (some (nI level))) (hio : io < σ.length) (hne : il ≠ io) (ht : SqT K H t (nT some_)) (hn : some_.Nodup) (hz : some_.length ≤ 1000)
    (q : ∀ a H2, H a = none → Ex H H2 → H2 a = some (.dK (kvP (some_.map fun x => (x, level)))) → Q (.ref a) H2) : tDc (iTup K (tVar is)) (gName io) tYes (tVar io) (tVar il) [io] σ H Q :=
  ⟨.ref t, hs, t, rfl, ⟨_, ht⟩, fun Dl hD => dc_tup (xs := nT some_) (fun i H' => Ex H H' ∧ H' Dl = some (.dK (kvP ((some_.take i).map fun x => (x, level))))) ⟨Ex.new hD, upd_same⟩ (fun i H' _ p => ex_t p.1 ht) (fun i y H' hi p => by
      have hil : i < some_.length := by
        have := (List.getElem?_eq_some_iff.mp hi).1
        rw [nT_len] at this
        exact this
      rw [nT_get hil] at hi
      obtain rfl := (Option.some.inj hi).symm
      have hki : some_[i]? = some (some_.mxa i) := by simp [List.mxa, List.getD_eq_getElem?_getD, hil]
      refine ⟨by simp [wipe, gName], ?_⟩
      dsimp only [tYes]
      rw [if_pos rfl]
      have g1 : ((wipe σ [io]).set io (some (nI (some_.mxa i))))[io]? = some (some (nI (some_.mxa i))) := by simp [wipe, hio]
      have g2 : ((wipe σ [io]).set io (some (nI (some_.mxa i))))[il]? = some (some (nI level)) := by
        simp only [wipe, List.getElem?_set_ne (Ne.symm hne)]
        exact hl
      refine ⟨_, g1, _, g2, kvP ((some_.take i).map fun x => (x, level)), Sum.inl (some_.mxa i : Int), rfl, p.2, ?_, Ex.mut p.1 hD, ?_⟩
      · unfold kvP
        rw [List.length_map, List.length_map, List.length_take, sizeLine_eq]
        omega
      · rw [upd_same]
        congr 2
        have hnn : some_.mxa i ∉ ((some_.take i).map fun x => (x, level)).map (·.1) := by
          rw [List.map_map]
          have e0 : ((fun x : Nat × Nat => x.1) ∘ fun x => (x, level)) = id := by funext x; rfl
          rw [e0, List.map_id]
          intro z
          have hn2 : (some_.take (i + 1)).Nodup := hn.sublist (List.take_sublist _ _)
          rw [take_snoc hki, List.nodup_append] at hn2
          exact hn2.2.2 _ z _ (by simp) rfl
        rw [putK_new _ (kvP_none hnn), take_snoc hki, List.map_append]
        unfold kvP
        rw [List.map_append]
        rfl) fun H' p => by
      have p2 := p.2
      rw [nT_len, List.take_length] at p2
      exact q Dl H' hD p.1 p2⟩
end MxD
namespace MxD
open PySem PySem.Spec PyProof.Rows L2 Evl MxR Mx MxB MxE StX RZ
section
variable {P : Program} {w : World} {K : PySem.W.Frag} {mg : Str → Option Value} {base : Heap}
abbrev nBelow : List Str := ["rows", "rooms", "state", "level", "must", "found", "some", "left", "more", "room"]
abbrev CBelow (P : Program) (w : World) (K : PySem.W.Frag) (mg : Str → Option Value) (base : Heap) (d : Nat) : Prop := Cal P w K mg base (3 + d) "below_in" ["rows", "rooms", "state", "level"] (spBelowIn K d)
theorem ev_empty {σ : L2.St} {H : Hp} {q : Addr} {rooms : List Nat} (hs : σ[1]? = some (some (.ref q))) (hq : SqT K H q (nT rooms)) : Ev (tOp (rEqD K) (tVar 1) (tTup tNil)) σ H (.bl (decide (rooms = []))) :=
  ev_eqT (l := rooms) (m := []) (EvS.ref (ev_var hs) hq) (EvS.of (eu_tup ea_nil (Nat.zero_le _)))
theorem ok_below0 {f : Addr} {fd : FuncData} (F : Fun K "below_in" "below_in" sBelowIn f fd) : FnOk P w K mg base CX0 3 f fd ["rows", "rooms", "state", "level"] (spBelowIn K 0) := by
  refine F.ok scBelowIn (fun vs H Q E h => ?_) (fun cdv A outer s H vs Q E hr h => ?_)
  · obtain ⟨p, q, a, rows, rooms, s, n, D, level, rfl, _⟩ := h
    rfl
  · obtain ⟨p, q, a, rows, rooms, st, n, D, level, rfl, hh, ho, hR, hq, ha, hl, hnd, hlt, hz, k⟩ := h
    refine ⟨_, pss_cons (ps_if (pt_cmpR (op_eqD hr.units) (pv 1) (pe_tup pa_nil) (nomark _)) (pss_one (ps_ret (pe_lst (pa_cons pe_dnewK pa_nil)))) pss_nil) pss_never, ?_⟩
    have e0 : rooms = [] := List.length_eq_zero_iff.mp (Nat.le_zero.mp hz)
    subst e0
    refine q_when (b := true) (et_test (ev_empty rfl hq)) (fun _ H1 e1 => ?_) (fun z => by cases z)
    refine s_retRaw fun z hzn => ⟨by rw [sizeLine_eq]; exact (by decide : 1 ≤ 16777216), fun r hrn => ?_⟩
    refine k r _ [.ref z] [[]] (fresh_back (e1.trans (Ex.new hzn)) hrn) ((e1.trans (Ex.new hzn)).trans (Ex.new hrn)) upd_same (.cons ⟨z, rfl, ?_⟩ .nil) (fun ps hps => ?_) (by simp [lim])
    · rw [upd_ne (ne_of_none upd_same hrn), upd_same]
      rfl
    · rw [List.mem_singleton] at hps
      subst hps
      exact Bel.nil
theorem ok_belowS {f : Addr} {fd : FuncData} (F : Fun K "below_in" "below_in" sBelowIn f fd) (B : Blt mg) (C1 : Cal P w K mg base 2 "largest_in" ["rows", "rooms"] (spLargestIn K)) (d : Nat) (C2 : CBelow P w K mg base d) : FnOk P w K mg base CX0 (3 + (d + 1)) f fd ["rows", "rooms", "state", "level"] (spBelowIn K (d + 1)) := by
  refine F.ok scBelowIn (fun vs H Q E h => ?_) (fun cdv A outer s H vs Q E hr h => ?_)
  · obtain ⟨p, q, a, rows, rooms, s, n, D, level, rfl, _⟩ := h
    rfl
  · obtain ⟨p, q, a, rows, rooms, st, n, D, level, rfl, hh, ho, hR, hq, ha, hl, hnd, hlt, hz, k⟩ := h
    have nd := scBelowIn.nd
    have hr : Room (3 + d) _ := hr
    have tp := hh.top
    refine ⟨_, pss_cons (ps_if (pt_cmpR (op_eqD hr.units) (pv 1) (pe_tup pa_nil) (nomark _)) (pss_one (ps_ret (pe_lst (pa_cons pe_dnewK pa_nil)))) pss_nil)
      (pss_cons (ps_setLc (i := 4) (own := [("room", 9)]) (g := gName 9) (tt := tTest (tOp rEq (tOp (rIxT K) (tVar 2) (tVar 9)) (tVar 3))) (te := tVar 9) rfl nd rfl rfl (sw_true rfl rfl rfl (by decide +kernel)) (pi_tup (pv 1))
        (blkOk_by (own := [("room", 9)]) (N := nBelow) (sc := defScope sBelowIn) (by decide +kernel))
        (fun _ _ _ _ _ => pg_name (i := 9) nd rfl (Or.inl rfl)) (fun _ _ _ _ _ => pts_one (pt_cmpR op_eq (pe_ix ix_tup (pv 2) (pv 9) (fun _ _ => rfl)) (pv 3) (nomark _))) (fun _ _ _ _ _ => pv 9))
      (pss_cons (ps_set (i := 5) nd rfl (.inl rfl) (pe_lst pa_nil))
      (pss_cons (ps_for PassesOwn.never rfl (pi_list (pe_cal C1 (hr.mono (by omega)) (by rfl) (pa_cons (pv 0) (pa_cons (pv 1) pa_nil)))) (pg_name (i := 6) nd rfl (.inr rfl))
        (pss_one (ps_if (PW.pt (pw_and
            (pt_val (pe_callB (cr_all rfl) (by rfl) B.all (by decide +kernel) (pa_cons (pe_lc (own := [("room", 9)]) (g := gName 9) (tt := tYes) (te := tOp (rIn K false) (tVar 9) (tVar 6)) rfl nd (pi_list (pv 4))
              (blkOk_by (own := [("room", 9)]) (N := nBelow) (sc := defScope sBelowIn) (by decide +kernel))
              (fun _ _ _ _ _ => pg_name (i := 9) nd rfl (Or.inl rfl)) (fun _ _ _ _ _ => pts_nil) (fun _ _ _ _ _ => pe_cmpR op_in_seq (pv 9) (pv 6) (by rfl))) pa_nil)))
            (pw_and1 (pt_val (pe_callB (cr_all rfl) (by rfl) B.all (by decide +kernel) (pa_cons (pe_lc (own := [("room", 9)]) (g := gName 9) (tt := tYes) (te := tOp (rI0 fun i j => .bl (decide (j ≤ i))) (tOp (rIxT K) (tVar 2) (tVar 9)) (tVar 3)) rfl nd (pi_tup (pv 6))
              (blkOk_by (own := [("room", 9)]) (N := nBelow) (sc := defScope sBelowIn) (by decide +kernel))
              (fun _ _ _ _ _ => pg_name (i := 9) nd rfl (Or.inl rfl)) (fun _ _ _ _ _ => pts_nil) (fun _ _ _ _ _ => pe_cmpR op_ge (pe_ix ix_tup (pv 2) (pv 9) (fun _ _ => rfl)) (pv 3) (nomark _))) pa_nil))))))
          (pss_cons (ps_set (i := 7) nd rfl (.inl rfl) (pe_callTy call_tuple_of (by rfl) B.tuple (by decide +kernel) (pa_cons (pe_lc (own := [("room", 9)]) (g := gName 9) (tt := tTest (tOp (rIn K true) (tVar 9) (tVar 6))) (te := tVar 9) rfl nd (pi_tup (pv 1))
              (blkOk_by (own := [("room", 9)]) (N := nBelow) (sc := defScope sBelowIn) (by decide +kernel))
              (fun _ _ _ _ _ => pg_name (i := 9) nd rfl (Or.inl rfl)) (fun _ _ _ _ _ => pts_one (pt_cmpR op_notIn_seq (pv 9) (pv 6) (by rfl))) (fun _ _ _ _ _ => pv 9)) pa_nil)))
            (pss_one (ps_for PassesOwn.never rfl (pi_list (pe_cal C2 hr (by rfl) (pa_cons (pv 0) (pa_cons (pv 7) (pa_cons (pv 2) (pa_cons (pe_op op_add (pv 3) pe_int) pa_nil)))))) (pg_name (i := 8) nd rfl (.inl rfl))
              (pss_one (ps_expr (pe_bm PySem.F.plainAttrs_list PySem.F.slot_list_append PySem.F.type_list_append mt_append (pv 5) (pa_cons
                (pe_disp2 (pe_dc (own := [("room", 9)]) (g := gName 9) (tt := tYes) (tk := tVar 9) (tv := tVar 3) rfl nd (pi_tup (pv 6))
                  (blkOk_by (own := [("room", 9)]) (N := nBelow) (sc := defScope sBelowIn) (by decide +kernel))
                  (fun _ _ _ _ _ => pg_name (i := 9) nd rfl (Or.inl rfl)) (fun _ _ _ _ _ => pts_nil) (fun _ _ _ _ _ => pv 9) (fun _ _ _ _ _ => pv 3)) (pv 8)) pa_nil)))))))
          pss_nil)))
      (pss_one (ps_ret (pv 5)))))), ?_⟩
    refine q_when (b := decide (rooms = [])) (et_test (ev_empty rfl hq)) (fun hb H1 e1 => ?_) (fun hb H1 e1 => ?_)
    · have e0 : rooms = [] := of_decide_eq_true hb
      subst e0
      refine s_retRaw fun z hzn => ⟨by rw [sizeLine_eq]; exact (by decide : 1 ≤ 16777216), fun r hrn => ?_⟩
      refine k r _ [.ref z] [[]] (fresh_back (e1.trans (Ex.new hzn)) hrn) ((e1.trans (Ex.new hzn)).trans (Ex.new hrn)) upd_same (.cons ⟨z, rfl, ?_⟩ .nil) (fun ps hps => ?_) (by simp [lim])
      · rw [upd_ne (ne_of_none upd_same hrn), upd_same]
        rfl
      · rw [List.mem_singleton] at hps
        subst hps
        exact Bel.nil
    · have hne : rooms ≠ [] := of_decide_eq_false hb
      have hr6 : rooms.length ≤ 6 := Nat.le_trans (nodup_le hnd hlt) tp
      obtain ⟨m, hm⟩ : ∃ m, rooms.length = m + 1 := by
        cases q0 : rooms.length with
        | zero => exact absurd (List.length_eq_zero_iff.mp q0) hne
        | succ m => exact ⟨m, rfl⟩
      have hlim : lim (m + 1) = (2 ^ (m + 1) - 1) * lim m := rfl
      have hlim6 : lim (m + 1) ≤ 615195 := by rw [← hm]; exact lim_small tp hnd hlt
      -- must
      have hrooms : ∀ x ∈ rooms, x < st.length := fun x hx => by rw [hl]; exact hlt x hx
      refine q_asgL (xs := nT (rooms.filter fun x => decide (st.mxa x = level))) ?_ (fun M H2 hM e2 h2 => ?_)
      · exact el_T (K := K) (te := tVar 9) (t := tTest (tOp rEq (tOp (rIxT K) (tVar 2) (tVar 9)) (tVar 3))) (l := rooms) (c := nI) (f := fun x => decide (st.mxa x = level)) (v := nI) (a := q) (tl := tVar 1) (j := 9) (vs := [9]) (ev_var rfl) (ex_t e1 hq) (by omega) (fun _ => rfl)
          (fun x hx H3 e3 => et_test (ev_is (ev_op (ev_op (ev_var rfl) (ev_var rfl) (rv_ixT (ex_t (e1.trans e3) ha) (atI_nT (hrooms x hx)))) (ev_var rfl) (rv_eq rfl)) (by
            congr 1
            have : (nI (st.mxa x) = nI level) ↔ st.mxa x = level := by
              constructor
              · intro z
                have := V.int.inj z
                omega
              · intro z; rw [z]
            exact decide_eq_decide.mpr this))) (fun x hx H3 e3 _ => ev_var rfl)
      -- found = []
      refine q_asgL (el_lst ea_nil (by simp)) (fun F0 H3 hF0 e3 h3 => ?_)
      have h2' : H3 M = some (.lst (nT (rooms.filter fun x => decide (st.mxa x = level)))) := e3 M _ h2
      generalize hmust : rooms.filter (fun x => decide (st.mxa x = level)) = must at h2 h2'
      have e13 : Ex H H3 := (e1.trans e2).trans e3
      have f0 : H F0 = none := fresh_back (e1.trans e2) hF0
      have hMF : M ≠ F0 := ne_of_none h2 hF0
      -- for some in largest_in(rows, rooms)
      refine q_seq (tCall_go (ea_cons (ev_var rfl) (ea_cons (ev_var rfl) ea_nil)) fun H4 e4 => ⟨p, q, rows, rooms, n, rfl, ⟨ho.len, ho.short⟩, hR.mono (e13.trans e4), ex_t (e13.trans e4) hq, hlt, hne, by omega, fun r H5 us ws hrn e5 h5 hT hp => ⟨r, rfl, ⟨us, sq_of h5⟩, ?_⟩⟩)
      have wsl : ws.length ≤ 2 ^ (m + 1) - 1 := by
        have := largest_len (rows := rows) rooms hne
        rw [hp.length_eq]
        rw [hm] at this
        omega
      have wok : ∀ some_ ∈ ws, Lset D rooms some_ := fun some_ hs => largest_ok hh ho hlt (hp.mem_iff.mp hs)
      have usl : us.length = ws.length := by rw [paired_len hT, List.length_map]
      have hrF : r ≠ F0 := (ne_of_none (e4 F0 _ h3) hrn).symm
      -- what holds between two turns
      refine for_list (xs := us) (fun i σ' H' => ∃ (y6 y7 y8 : Option V) (vs : List V) (pss : List (List (Nat × Nat))), σ' = [some (.ref p), some (.ref q), some (.ref a), some (nI level), some (.ref M), some (.ref F0), y6, y7, y8, none] ∧ Ex H H' ∧ H' M = some (.lst (nT must)) ∧ H' r = some (.lst us) ∧ TupsAt K H' us (ws.map nT) ∧
          H' F0 = some (.lst vs) ∧ DictsAt H' vs pss ∧ (∀ ps ∈ pss, Bel D st rooms level ps) ∧ pss.length ≤ i * lim m)
        ⟨none, none, none, [], [], rfl, (e13.trans e4).trans e5, e5 M _ (e4 M _ h2'), h5, hT, e5 F0 _ (e4 F0 _ h3), .nil, by simp, by simp⟩ (fun i σ' H' _ ⟨_, _, _, _, _, _, _, _, hr5, _⟩ => sq_of hr5) ?_ ?_
      · rintro i y σ' H' hi ⟨y6, y7, y8, vs, pss, rfl, eH, hM', hr', hT', hF', hD', hB', hl'⟩
        obtain ⟨wy, hw, t, rfl, ht⟩ := pget1 hT' hi
        rw [List.getElem?_map] at hw
        obtain ⟨some_, hsw, rfl⟩ := Option.map_eq_some_iff.mp hw
        have hL := wok some_ (List.mem_of_getElem? hsw)
        have hil : i < ws.length := (List.getElem?_eq_some_iff.mp hsw).1
        have hsn : some_.Nodup := hL.ind.sub.nodup hnd
        have hsl : some_.length ≤ 6 := Nat.le_trans (hL.ind.sub.length_le) hr6
        have hssub : ∀ x ∈ some_, x ∈ rooms := fun x hx => hL.ind.sub.subset hx
        have hmul : i * lim m + lim m ≤ lim (m + 1) := by
          rw [hlim]
          have : i + 1 ≤ 2 ^ (m + 1) - 1 := by omega
          calc i * lim m + lim m = (i + 1) * lim m := by rw [Nat.add_mul, Nat.one_mul]
            _ ≤ _ := Nat.mul_le_mul_right _ this
        have c1 := el_L (K := K) (te := tOp (rIn K false) (tVar 9) (tVar 6)) (t := tYes) (l := must) (c := nI) (f := fun _ => true) (v := fun x => .bl (decide (x ∈ some_))) (a := M) (tl := tVar 4) (j := 9) (vs := [9]) (σ := [some (.ref p), some (.ref q), some (.ref a), some (nI level), some (.ref M), some (.ref F0), some (.ref t), y7, y8, none]) (H := H')
          (ev_var rfl) (sq_of hM') (by
            rw [← hmust]
            have := List.length_filter_le (fun x => decide (st.mxa x = level)) rooms
            omega) (fun _ => rfl) (fun _ _ _ _ => et_yes) (fun x _ H6 e6 _ => in_nT (ev_var rfl) (ev_var rfl) (ex_t e6 ht))
        rw [filter_true, map_bl] at c1
        have c2 := el_T (K := K) (te := tOp (rI0 fun i j => .bl (decide (j ≤ i))) (tOp (rIxT K) (tVar 2) (tVar 9)) (tVar 3)) (t := tYes) (l := some_) (c := nI) (f := fun _ => true) (v := fun x => .bl (decide ((level : Int) ≤ (st.mxa x : Int)))) (a := t) (tl := tVar 6) (j := 9) (vs := [9]) (σ := [some (.ref p), some (.ref q), some (.ref a), some (nI level), some (.ref M), some (.ref F0), some (.ref t), y7, y8, none]) (H := H')
          (ev_var rfl) ht (by omega) (fun _ => rfl) (fun _ _ _ _ => et_yes) (fun x hx H6 e6 _ => ev_op (ev_op (ev_var rfl) (ev_var rfl) (rv_ixT (ex_t (eH.trans e6) ha) (atI_nT (hrooms x (hssub x hx))))) (ev_var rfl) (rv_I0 (g := fun i j => .bl (decide (j ≤ i)))))
        rw [filter_true, map_bl] at c2
        refine s_when (et_and (et_B (ev_allN c1)) fun _ => et_B (ev_allN c2)) (fun hb2 H6 e6 => ?_) (fun hb2 H6 e6 => ?_)
        · have hge : ∀ x ∈ some_, level ≤ st.mxa x := by
            have h7 := (Bool.and_eq_true_iff.mp hb2).2
            rw [List.all_map, List.all_eq_true] at h7
            intro x hx
            have h8 : decide ((level : Int) ≤ (st.mxa x : Int)) = true := h7 x hx
            have := of_decide_eq_true h8
            omega
          -- left
          refine q_asgU (xs := nT (rooms.filter fun x => decide (x ∉ some_))) ?_ (fun L H7 _ e7 h7 => ?_)
          · refine eu_tupN ?_
            exact el_T (K := K) (te := tVar 9) (t := tTest (tOp (rIn K true) (tVar 9) (tVar 6))) (l := rooms) (c := nI) (f := fun x => decide (x ∉ some_)) (v := nI) (a := q) (tl := tVar 1) (j := 9) (vs := [9]) (ev_var rfl) (ex_t (eH.trans e6) hq) (by omega) (fun _ => rfl)
              (fun x hx H8 e8 => et_test (ev_is (nin_nT (ev_var rfl) (ev_var rfl) (ex_t (e6.trans e8) ht)) (by simp))) (fun x hx H8 e8 _ => ev_var rfl)
          have hleft : (rooms.filter fun x => decide (x ∉ some_)).length ≤ m := by
            have hns := hL.ne hne
            have hle := List.length_filter_le (fun x => decide (x ∉ some_)) rooms
            rcases Nat.lt_or_ge (rooms.filter fun x => decide (x ∉ some_)).length rooms.length with h8 | h8
            · omega
            · exfalso
              have h9 : rooms.filter (fun x => decide (x ∉ some_)) = rooms := (List.filter_sublist (p := fun x => decide (x ∉ some_)) (l := rooms)).eq_of_length_le h8
              cases some_ with
              | nil => exact hns rfl
              | cons z zs =>
                have h10 := hssub z List.mem_cons_self
                rw [← h9] at h10
                simp at h10
          have hlnd : (rooms.filter fun x => decide (x ∉ some_)).Nodup := List.Pairwise.filter _ hnd
          have hllt : ∀ x ∈ rooms.filter (fun x => decide (x ∉ some_)), x < n := fun x hx => hlt x (List.mem_filter.mp hx).1
          have e67 := e6.trans e7
          generalize hlf : rooms.filter (fun x => decide (x ∉ some_)) = left at h7 hleft hlnd hllt
          -- for more in below_in(..)
          refine tCall_go (ea_cons (ev_var rfl) (ea_cons (ev_var rfl) (ea_cons (ev_var rfl) (ea_cons (ev_op (ev_var rfl) ev_c (rv_I0 (g := fun i j => .int (i + j)))) ea_nil)))) fun H8 e8 => ?_
          have e68 := e67.trans e8
          refine ⟨p, L, a, rows, left, st, n, D, level + 1, rfl, hh, ho, hR.mono (eH.trans e68), ex_t e8 (st_of h7), ex_t (eH.trans e68) ha, hl, hlnd, hllt, by omega, fun r2 H9 us2 pss2 hr2 e9 h9 hD2 hB2 hl2 => ⟨r2, rfl, ⟨us2, sq_of h9⟩, ?_⟩⟩
          have e69 := e68.trans e9
          have hr2F : r2 ≠ F0 := (ne_of_none (e68 F0 _ hF') hr2).symm
          have hlm2 : pss2.length ≤ lim m := Nat.le_trans hl2 (lim_mono hleft)
          have us2l : us2.length = pss2.length := paired_len hD2
          have vsl : vs.length = pss.length := paired_len hD'
          refine for_list (xs := us2) (fun j σ' H' => ∃ (y8 : Option V) (vs : List V) (pss : List (List (Nat × Nat))), σ' = [some (.ref p), some (.ref q), some (.ref a), some (nI level), some (.ref M), some (.ref F0), some (.ref t), some (.ref L), y8, none] ∧ Ex H H' ∧ H' M = some (.lst (nT must)) ∧ H' r = some (.lst us) ∧ TupsAt K H' us (ws.map nT) ∧
              SqT K H' t (nT some_) ∧ H' r2 = some (.lst us2) ∧ DictsAt H' us2 pss2 ∧ H' F0 = some (.lst vs) ∧ DictsAt H' vs pss ∧ (∀ ps ∈ pss, Bel D st rooms level ps) ∧ pss.length ≤ i * lim m + j)
            ⟨y8, vs, pss, rfl, eH.trans e69, e69 M _ hM', e69 r _ hr', hT'.mono e69, ex_t e69 ht, h9, hD2, e69 F0 _ hF', hD'.mono e69, hB', hl'⟩ (fun j σ' H' _ ⟨_, _, _, _, _, _, _, _, _, h, _⟩ => sq_of h) ?_ ?_
          · rintro j y σ' H10 hj ⟨y8, vs, pss, rfl, e10, hM10, hr10, hT10, ht10, hu10, hDu10, hF10, hD10, hB10, hl10⟩
            obtain ⟨ps, hps, b, rfl, hb10⟩ := pget1 hDu10 hj
            have hjl : j < pss2.length := (List.getElem?_eq_some_iff.mp hps).1
            have vsl10 : vs.length = pss.length := paired_len hD10
            have hBps := hB2 ps (List.mem_of_getElem? hps)
            rw [← hlf] at hBps
            have hBnew := hBps.step hnd hL hge
            refine ⟨.ref F0, rfl, .inl ⟨rfl, vs, sq_of hF10⟩, fun d hd => ?_⟩
            refine dc_level (K := K) (is := 6) (il := 3) (io := 9) (level := level) rfl rfl (show (9 : Nat) < 10 by decide) (by decide) (ex_t (Ex.new hd) ht10) hsn (by omega) fun a1 H11 ha1 e11 h11 => ?_
            have had : a1 ≠ d := (ne_of_none upd_same ha1).symm
            refine ⟨a1, _, rfl, .inl h11, had, ?_, e11 d _ upd_same, ?_⟩
            · unfold kvP
              rw [List.length_map, List.length_map]
              omega
            have e1011 : Ex H10 H11 := (Ex.new hd).trans e11
            have hbd : b ≠ d := ne_of_none hb10 hd
            have hm0 : mergeK [] (kvP (some_.map fun x => (x, level))) = kvP (some_.map fun x => (x, level)) := by
              have := merge_app (some_.map fun x => (x, level)) [] (by
                rw [List.nil_append, List.map_map]
                have e0 : ((fun x : Nat × Nat => x.1) ∘ fun x => (x, level)) = id := by funext x; rfl
                rw [e0, List.map_id]
                exact hsn)
              rw [List.nil_append] at this
              exact this
            rw [hm0]
            refine ⟨.ref b, rfl, b, kvP ps, rfl, .inl ?_, hbd, ?_, upd_same, ?_⟩
            · rw [upd_ne hbd]
              exact e1011 b _ hb10
            · unfold kvP
              rw [List.length_map]
              have h12 : ps.length ≤ n := by
                have := nodup_le hBps.nd fun x hx => by
                  have := (hBps.keys x).mp hx
                  exact hlt x (List.mem_filter.mp this).1
                rw [List.length_map] at this
                exact this
              omega
            rw [merge_app _ _ hBnew.nd, upd_upd]
            refine ⟨F0, vs, .ref d, rfl, rfl, ?_, ?_, ?_⟩
            · rw [upd_ne (ne_of_none hF10 hd)]
              exact e1011 F0 _ hF10
            · rw [vsl10, sizeLine_eq]
              omega
            -- the turn's end
            have hFd : F0 ≠ d := ne_of_none hF10 hd
            have E12 : Ex H10 (upd H11 d (.dK (kvP (some_.map (fun x => (x, level)) ++ ps)))) := Ex.mut e1011 hd
            have hF12 := E12 F0 _ hF10
            refine ⟨_, vs ++ [.ref d], pss ++ [some_.map (fun x => (x, level)) ++ ps], rfl, Ex.mut (e10.trans E12) f0, ?_, ?_, (hT10.mono E12).wr hF12, sqT_wr hF12 (ex_t E12 ht10), ?_, (hDu10.mono E12).wr hF12, upd_same, ?_, ?_, ?_⟩
            · rw [upd_ne hMF]
              exact E12 M _ hM10
            · rw [upd_ne hrF]
              exact E12 r _ hr10
            · rw [upd_ne hr2F]
              exact E12 r2 _ hu10
            · exact Paired.app ((hD10.mono E12).wr hF12) (.cons (DictAt.wr hF12 ⟨d, rfl, upd_same⟩) .nil)
            · intro ps' hps'
              rcases List.mem_append.mp hps' with h13 | h13
              · exact hB10 ps' h13
              · rw [List.mem_singleton.mp h13]
                exact hBnew
            · rw [List.length_append, List.length_singleton]
              omega
          · rintro σ' H10 ⟨y8, vs, pss, rfl, e10, hM10, hr10, hT10, ht10, hu10, hDu10, hF10, hD10, hB10, hl10⟩
            refine ⟨_, _, _, vs, pss, rfl, e10, hM10, hr10, hT10, hF10, hD10, hB10, ?_⟩
            rw [Nat.add_mul, Nat.one_mul]
            omega
        · refine ⟨_, _, _, vs, pss, rfl, eH.trans e6, e6 M _ hM', e6 r _ hr', hT'.mono e6, e6 F0 _ hF', hD'.mono e6, hB', ?_⟩
          rw [Nat.add_mul, Nat.one_mul]
          omega
      · rintro σ' H' ⟨y6, y7, y8, vs, pss, rfl, eH, hM', hr', hT', hF', hD', hB', hl'⟩
        refine ⟨_, rfl, k F0 H' vs pss f0 eH hF' hD' hB' ?_⟩
        rw [hm, hlim]
        rw [usl] at hl'
        exact Nat.le_trans hl' (Nat.mul_le_mul_right _ wsl)
end
end MxD
namespace MxD
open PySem PySem.Spec PyProof.Rows L2 Evl MxR Mx MxB MxE StX RZ
abbrev sRestsUnder : Stmt := topS 32
abbrev sRestsBelow : Stmt := topS 33
abbrev sNeedBoth : Stmt := topS 34
theorem scRestsUnder : FnScope ["house", "state", "found", "one", "room"] ["house", "state"] (defScope sRestsUnder) := ⟨rfl, rfl, rfl, by decide +kernel, rfl, by decide +kernel, by decide +kernel⟩
theorem scRestsBelow : FnScope ["house", "state"] ["house", "state"] (defScope sRestsBelow) := ⟨rfl, rfl, rfl, by decide +kernel, rfl, by decide +kernel, by decide +kernel⟩
theorem scNeedBoth : FnScope ["house", "state", "rest"] ["house", "state", "rest"] (defScope sNeedBoth) := ⟨rfl, rfl, rfl, by decide +kernel, rfl, by decide +kernel, by decide +kernel⟩
def spRestsUnder (K : PySem.W.Frag) : Sp := fun vs H Q _ => ∃ (h a : Addr) (n : Nat) (D : Doors) (s : State), vs = [.ref h, .ref a] ∧ House n D ∧ HouseAt K H h n D ∧ SqT K H a (nT s) ∧ s.length = n ∧
  ∀ r H2 us (rs : List (List Nat)), H r = none → Ex H H2 → H2 r = some (.lst us) → TupsAt K H2 us (rs.map nT) → (∀ r ∈ rs, Rest n D r ∧ Le n r s) → Q (.ref r) H2
def spRestsBelow (K : PySem.W.Frag) : Sp := fun vs H Q _ => ∃ (h a : Addr) (n : Nat) (D : Doors) (s : State), vs = [.ref h, .ref a] ∧ House n D ∧ HouseAt K H h n D ∧ SqT K H a (nT s) ∧ s.length = n ∧ (∀ x ∈ s, x ≤ 60) ∧ Parted D s ∧
  ∀ r H2 us (rs : List (List Nat)), H r = none → Ex H H2 → H2 r = some (.lst us) → TupsAt K H2 us (rs.map nT) → (∀ r ∈ rs, Rest n D r ∧ Le n r s) → Q (.ref r) H2
/-- what a start, a rest and a house have to be -/
structure Both (n : Nat) (D : Doors) (s r : State) : Prop where
  house : House n D
  len : s.length = n
  small : ∀ x ∈ s, x ≤ 60
  parted : Parted D s
  rest : Rest n D r
  le : Le n r s
def spNeedBoth (K : PySem.W.Frag) : Sp := fun vs H Q _ => ∃ (h a b : Addr) (n : Nat) (D : Doors) (s r : State), vs = [.ref h, .ref a, .ref b] ∧ Both n D s r ∧ HouseAt K H h n D ∧ SqT K H a (nT s) ∧ SqT K H b (nT r) ∧ RetV .non H Q
theorem Both.small_r {n : Nat} {D : Doors} {s r : State} (b : Both n D s r) : ∀ x ∈ r, x ≤ 60 := fun x hx => by
  obtain ⟨i, hi⟩ := List.mem_iff_getElem?.mp hx
  have hil := (List.getElem?_eq_some_iff.mp hi).1
  have hn : i < n := by rw [← b.rest.len]; exact hil
  have h1 := b.le i hn
  have e1 : r.mxa i = x := by simp [List.mxa, List.getD_eq_getElem?_getD, hi]
  have hs : i < s.length := by rw [b.len]; exact hn
  have e2 : s.mxa i = s[i] := by simp [List.mxa, List.getD_eq_getElem?_getD, hs]
  have h2 := b.small s[i] (List.getElem_mem hs)
  omega
section
variable {P : Program} {w : World} {K : PySem.W.Frag} {mg : Str → Option Value} {base : Heap}
theorem told_len (n : Nat) (ps : List (Nat × Nat)) : (told n ps).length = n := by simp [told]
theorem ok_restsUnder {f : Addr} {fd : FuncData} (F : Fun K "rests_under" "rests_under" sRestsUnder f fd) (B : Blt mg) (C1 : Cal P w K mg base 1 "near" ["house"] (spNear K)) (C2 : CBelow P w K mg base 6) : FnOk P w K mg base CX0 10 f fd ["house", "state"] (spRestsUnder K) := by
  refine F.ok scRestsUnder (fun vs H Q E h => ?_) (fun cdv A outer s H vs Q E hr h => ?_)
  · obtain ⟨h, a, n, D, s, rfl, _⟩ := h
    rfl
  · obtain ⟨h, a, n, D, st, rfl, hh, hH, ha, hl, k⟩ := h
    have nd := scRestsUnder.nd
    have tp := hh.top
    obtain ⟨d, hd, hds⟩ := id hH
    refine ⟨_, pss_cons (ps_set (i := 2) nd rfl (.inl rfl) (pe_cal C2 hr (by rfl) (pa_cons (pe_cal C1 (hr.mono (by decide)) (by rfl) (pa_cons (pv 0) pa_nil))
        (pa_cons (pe_tupRg rfl (by rfl) B.tuple (prg_1 (by rfl) B.range (pe_ix ix_tup (pv 0) pe_int (fun _ _ => rfl)))) (pa_cons (pv 1) (pa_cons pe_int pa_nil))))))
      (pss_one (ps_ret (pe_callB (cr_sortedT hr.units) (by rfl) B.sorted (by decide +kernel) (pa_cons
        (pe_lc (own := [("one", 3)]) (g := gName 3) (tt := tYes) (te := tCB (rTupOf K) (tCons (tLc (iRng1 (tCons (tOp (rIxT K) (tVar 0) (tC (.int 0))) tNil)) (gName 4) tYes (tDGet (tVar 3) (tVar 4)) [4]) tNil)) rfl nd (pi_list (pv 2))
          (blkOk_by (own := [("one", 3)]) (N := ["house", "state", "found", "one", "room"]) (sc := defScope sRestsUnder) (by decide +kernel))
          (fun _ _ _ _ _ => pg_name (i := 3) nd rfl (Or.inr rfl)) (fun _ _ _ _ _ => pts_nil)
          (fun _ _ _ _ _ => pe_callTy (r := rTupOf K) call_tuple_of (by rfl) B.tuple (by decide +kernel) (pa_cons (pe_lc (own := [("room", 4)]) (g := gName 4) (tt := tYes) (te := tDGet (tVar 3) (tVar 4)) rfl nd (pi_range1 (by rfl) B.range (pa_cons (pe_ix ix_tup (pv 0) pe_int (fun _ _ => rfl)) pa_nil))
            (blkOk_by (own := [("room", 4)]) (N := ["house", "state", "found", "one", "room"]) (sc := relS _ (defScope sRestsUnder)) (by decide +kernel))
            (fun _ _ _ _ _ => pg_name (i := 4) nd rfl (Or.inl rfl)) (fun _ _ _ _ _ => pts_nil) (fun _ _ _ _ _ => pe_dget (hu_of hr) (pv 3) (pv 4) (fun _ _ => rfl))) pa_nil))) pa_nil)))), ?_⟩
    refine q_raw ⟨.ref h, rfl, h, n, D, rfl, hh, hH, fun p H1 rows e1 ho hR => ?_⟩
    refine ⟨.ref h, rfl, h, _, 0, nI n, rfl, rfl, ex_t e1 hd, rfl, (n : Int), rfl, RgOk.of_le (by decide) (by omega) (by decide) (by omega), fun q hq => ⟨.ref a, rfl, ?_⟩⟩
    have e2 : Ex H (upd H1 q (.tup (rgV 0 n))) := e1.trans (Ex.new hq)
    have erg : rgV 0 (n : Int) = nT (List.range n) := by
      unfold rgV nT
      have : ((n : Int) - 0).toNat = n := by omega
      rw [this]
      refine List.map_congr_left fun i _ => ?_
      show V.int (0 + (i : Int)) = V.int (i : Int)
      rw [Int.zero_add]
    refine ⟨p, q, a, rows, List.range n, st, n, D, 0, rfl, hh, ho, hR.mono (Ex.new hq), st_of (by rw [upd_same, erg]), ex_t e2 ha, hl, List.nodup_range, fun x hx => List.mem_range.mp hx, by rw [List.length_range]; exact tp, fun r H2 us pss hr0 e3 h2 hD hB hln => ?_⟩
    have e4 := e2.trans e3
    have hll : pss.length ≤ 615195 := by
      have := lim_small tp List.nodup_range (l := List.range n) fun x hx => List.mem_range.mp hx
      omega
    have usl : us.length = pss.length := paired_len hD
    have comp := et_L (K := K) (te := tCB (rTupOf K) (tCons (tLc (iRng1 (tCons (tOp (rIxT K) (tVar 0) (tC (.int 0))) tNil)) (gName 4) tYes (tDGet (tVar 3) (tVar 4)) [4]) tNil)) (t := tYes) (l := pss) (xs := us) (f := fun _ => true) (w := fun ps => nT (told n ps)) (a := r) (tl := tVar 2) (j := 3) (vs := [3])
      (σ := [some (.ref h), some (.ref a), some (.ref r), none, none]) (H := H2) (ev_var rfl) (sq_of h2) usl (by omega) (fun _ => rfl) (fun _ _ _ _ _ _ _ => et_yes) (fun i ps y hps hy H3 e5 _ => by
        obtain ⟨ps', hps', b, rfl, hb⟩ := pget1 hD hy
        rw [hps] at hps'
        obtain rfl := Option.some.inj hps'
        have hBel := hB ps (List.mem_of_getElem? hps)
        refine EvS.of (eu_tupN ?_)
        have e0 := el_R (te := tDGet (tVar 3) (tVar 4)) (t := tYes) (ta := tCons (tOp (rIxT K) (tVar 0) (tC (.int 0))) tNil) (n := n) (f := fun _ => true) (v := fun x => nI ((told n ps).mxa x)) (j := 4) (vs := [4]) (σ := [some (.ref h), some (.ref a), some (.ref r), some (.ref b), none]) (H := H3)
          (ea_cons (ev_op (ev_var rfl) ev_c (rv_ixT (ex_t (e4.trans e5) hd) rfl)) ea_nil) (by omega) (fun _ => rfl) (fun _ _ _ _ => et_yes) (fun x hx H4 e6 _ H5 e7 Q' k' => by
            obtain ⟨v, hv, _⟩ := lookup_mem ((hBel.keys x).mpr (List.mem_range.mpr hx))
            have ev : (told n ps).mxa x = v := by rw [told_at hx, hv]; rfl
            refine ⟨.ref b, rfl, nI x, rfl, b, nI v, rfl, ?_, ?_⟩
            · have := DGet.k (H := H5) (a := b) (kvs := kvP ps) (k := Sum.inl (x : Int)) (e7 b _ (e6 b _ (e5 b _ hb)))
              rw [kvP_some hv] at this
              exact this
            · rw [ev] at k'
              exact k' H5 (Ex.refl H5))
        rw [filter_true] at e0
        have e8 : nT (told n ps) = (List.range n).map fun x => nI ((told n ps).mxa x) := by
          refine List.ext_getElem? fun i => ?_
          by_cases hi : i < n
          · rw [nT_get (by rw [told_len]; exact hi), List.getElem?_map, range_get hi]
            rfl
          · rw [List.getElem?_eq_none (by rw [nT_len, told_len]; omega), List.getElem?_eq_none (by rw [List.length_map, List.length_range]; omega)]
        rw [e8]
        exact e0)
    rw [filter_true] at comp
    have em : pss.map (fun ps => nT (told n ps)) = (pss.map (told n)).map nT := by rw [List.map_map]; rfl
    rw [em] at comp
    have pos := hh.pos
    refine s_retRaw (ev_sortLT comp (fun f hf => ?_) fun r2 H3 us2 ws hr2 e5 h5 hT hperm => ?_)
    · obtain ⟨ps, _, rfl⟩ := List.mem_map.mp hf
      intro z
      have := told_len n ps
      rw [z] at this
      simp at this
      omega
    · refine k r2 H3 us2 ws (fresh_back e4 hr2) (e4.trans e5) h5 hT fun r hr => ?_
      obtain ⟨ps, hps, rfl⟩ := List.mem_map.mp (hperm.mem_iff.mp hr)
      exact (hB ps hps).rest hh
theorem ok_restsBelow {f : Addr} {fd : FuncData} (F : Fun K "rests_below" "rests_below" sRestsBelow f fd) (C1 : Cal P w K mg base 6 "need_parted" ["house", "state"] (spNeedParted K)) (C2 : Cal P w K mg base 10 "rests_under" ["house", "state"] (spRestsUnder K)) : FnOk P w K mg base CX0 11 f fd ["house", "state"] (spRestsBelow K) := by
  refine F.ok scRestsBelow (fun vs H Q E h => ?_) (fun cdv A outer s H vs Q E hr h => ?_)
  · obtain ⟨h, a, n, D, s, rfl, _⟩ := h
    rfl
  · obtain ⟨h, a, n, D, st, rfl, hh, hH, ha, hl, h60, hp, k⟩ := h
    refine ⟨_, pss_cons (ps_expr (pe_cal C1 (hr.mono (by decide)) (by rfl) (pa_cons (pv 0) (pa_cons (pv 1) pa_nil)))) (pss_one (ps_ret (pe_cal C2 hr (by rfl) (pa_cons (pv 0) (pa_cons (pv 1) pa_nil))))), ?_⟩
    refine q_drop (ev_call (ea_cons (ev_var rfl) (ea_cons (ev_var rfl) ea_nil)) (z := .non) fun H3 e4 Q' k E' => ⟨h, a, n, D, st, rfl, hh, hH.mono e4, ex_t e4 ha, hl, h60, hp, k⟩) fun H1 e1 => ?_
    exact s_retRaw (tCall_go (ea_cons (ev_var rfl) (ea_cons (ev_var rfl) ea_nil)) fun H2 e2 => ⟨h, a, n, D, st, rfl, hh, hH.mono (e1.trans e2), ex_t (e1.trans e2) ha, hl, fun r H3 us rs hr e3 h3 hT hR => k r H3 us rs (fresh_back (e1.trans e2) hr) ((e1.trans e2).trans e3) h3 hT hR⟩)
theorem ok_needBoth {f : Addr} {fd : FuncData} (F : Fun K "need_both" "need_both" sNeedBoth f fd) (C1 : Cal P w K mg base 6 "need_parted" ["house", "state"] (spNeedParted K)) (C2 : Cal P w K mg base 4 "need_rest" ["house", "rest"] (spNeedRest K)) (C3 : Cal P w K mg base 1 "is_below" ["one", "other"] (spIsBelow K)) : FnOk P w K mg base CX0 7 f fd ["house", "state", "rest"] (spNeedBoth K) := by
  refine F.ok scNeedBoth (fun vs H Q E h => ?_) (fun cdv A outer s H vs Q E hr h => ?_)
  · obtain ⟨h, a, b, n, D, s, r, rfl, _⟩ := h
    rfl
  · obtain ⟨h, a, b, n, D, st, r, rfl, bo, hH, ha, hb, q⟩ := h
    have tp := bo.house.top
    refine ⟨_, pss_cons (ps_expr (pe_cal C1 hr (by rfl) (pa_cons (pv 0) (pa_cons (pv 1) pa_nil)))) (pss_cons (ps_expr (pe_cal C2 (hr.mono (by decide)) (by rfl) (pa_cons (pv 0) (pa_cons (pv 2) pa_nil))))
      (pss_one (ps_if (pt_not (pt_val (pe_cal C3 (hr.mono (by decide)) (by rfl) (pa_cons (pv 2) (pa_cons (pv 1) pa_nil))))) pss_never pss_nil))), ?_⟩
    refine q_drop (ev_call (ea_cons (ev_var rfl) (ea_cons (ev_var rfl) ea_nil)) (z := .non) fun H3 e4 Q' k E' => ⟨h, a, n, D, st, rfl, bo.house, hH.mono e4, ex_t e4 ha, bo.len, bo.small, bo.parted, k⟩) fun H1 e1 => ?_
    refine q_drop (ev_call (ea_cons (ev_var rfl) (ea_cons (ev_var rfl) ea_nil)) (z := .non) fun H3 e4 Q' k E' => ⟨h, b, n, D, r, rfl, bo.house, hH.mono (e1.trans e4), ex_t (e1.trans e4) hb, bo.rest, bo.small_r, k⟩) fun H2 e2 => ?_
    refine s_when (b := false) (et_not (a := true) (et_B (ev_call (ea_cons (ev_var rfl) (ea_cons (ev_var rfl) ea_nil)) fun H3 e4 Q' k E' => ⟨b, a, r, st, rfl, ex_t ((e1.trans e2).trans e4) hb, ex_t ((e1.trans e2).trans e4) ha, by rw [bo.rest.len, bo.len], by rw [bo.rest.len]; omega, by rw [bo.rest.len]; exact bo.le, k⟩))) (fun z => by cases z) fun _ H3 e3 => q H3 ((e1.trans e2).trans e3)
end
end MxD
namespace MxD
open PySem PySem.Spec PyProof.Rows L2 Evl MxR Mx MxB MxE StX RZ
abbrev sCountFrom : Stmt := topS 35
abbrev sCountShortest : Stmt := topS 36
abbrev nCount : List Str := ["rows", "state", "rest", "known", "fit", "x", "room"]
theorem scCountFrom : FnScope nCount ["rows", "state", "rest", "known"] (defScope sCountFrom) := ⟨rfl, rfl, rfl, by decide +kernel, rfl, by decide +kernel, by decide +kernel⟩
theorem scCountShortest : FnScope ["house", "state", "rest"] ["house", "state", "rest"] (defScope sCountShortest) := ⟨rfl, rfl, rfl, by decide +kernel, rfl, by decide +kernel, by decide +kernel⟩
/-! ### what is known -/
def kk (t : State) : List Key := t.map fun (x : Nat) => (Sum.inl (x : Int) : Key)
theorem kk_V (t : State) : (kk t).map kV = nT t := by
  unfold kk nT
  rw [List.map_map]
  rfl
theorem kk_inj {t u : State} (h : kk t = kk u) : t = u := by
  have h2 := congrArg (List.map fun k : Key => match k with | .inl i => i.toNat | .inr _ => 0) h
  unfold kk at h2
  rw [List.map_map, List.map_map] at h2
  have e : ((fun k : Key => match k with | .inl i => i.toNat | .inr _ => 0) ∘ fun x : Nat => Sum.inl (x : Int)) = id := by funext x; rfl
  rw [e, List.map_id, List.map_id] at h2
  exact h2
def KnOk (n : Nat) (D : Doors) (r : State) (kvs : List (List Key × V)) : Prop := ∀ (t : State) (v : V), valV kvs (kk t) = some v → v = nI (cnt n D r t)
theorem KnOk.put {n : Nat} {D : Doors} {r t : State} {kvs : List (List Key × V)} (h : KnOk n D r kvs) : KnOk n D r (putK kvs (kk t) (nI (cnt n D r t))) := fun u v hv => by
  rw [valV_put] at hv
  by_cases e : kk u = kk t
  · rw [if_pos e] at hv
    rw [← Option.some.inj hv, kk_inj e]
  · rw [if_neg e] at hv
    exact h u v hv
def cap : Nat → Nat
  | 0 => 0
  | d + 1 => 1 + 6 * cap d
theorem cap6 : cap 6 = 9331 := by decide
/-- all but the dict at kd is as it was -/
def Kx (kd : Addr) (H H' : Hp) : Prop := ∀ b o, b ≠ kd → H b = some o → H' b = some o
theorem Kx.of {kd : Addr} {H H' : Hp} (e : Ex H H') : Kx kd H H' := fun b o _ h => e b o h
theorem Kx.trans {kd : Addr} {H H1 H2 : Hp} (a : Kx kd H H1) (b : Kx kd H1 H2) : Kx kd H H2 := fun c o n h => b c o n (a c o n h)
theorem Kx.mut {kd p : Addr} {H H' : Hp} {o : HO} (a : Kx kd H H') (h : H p = none) : Kx kd H (upd H' p o) := fun b u n hb => by
  rw [upd_ne (ne_of_none hb h)]
  exact a b u n hb
theorem Kx.dict {kd : Addr} {H H' : Hp} {o : HO} (a : Kx kd H H') : Kx kd H (upd H' kd o) := fun b u n hb => by
  rw [upd_ne n]
  exact a b u n hb
section
variable {K : PySem.W.Frag} {H H' : Hp} {kd : Addr} {kvs : List (List Key × V)}
theorem Kx.l {a : Addr} {xs : List V} (e : Kx kd H H') (hk : H kd = some (.dT kvs)) (h : SqL K H a xs) : SqL K H' a xs := by
  rcases h with (h | ⟨o, h⟩) | h
  · exact .inl (.inl (e _ _ (ne_of h hk (by intro z; cases z)) h))
  · exact .inl (.inr ⟨o, e _ _ (ne_of h hk (by intro z; cases z)) h⟩)
  · exact .inr h
theorem Kx.t {a : Addr} {xs : List V} (e : Kx kd H H') (hk : H kd = some (.dT kvs)) (h : SqT K H a xs) : SqT K H' a xs := by
  rcases h with (h | ⟨o, h⟩) | h
  · exact .inl (.inl (e _ _ (ne_of h hk (by intro z; cases z)) h))
  · exact .inl (.inr ⟨o, e _ _ (ne_of h hk (by intro z; cases z)) h⟩)
  · exact .inr h
theorem Kx.rows {p : Addr} {rows : List (List Nat)} (e : Kx kd H H') (hk : H kd = some (.dT kvs)) (h : RowsAt K H p rows) : RowsAt K H' p rows := by
  obtain ⟨vs, a, b⟩ := h
  exact ⟨vs, e.l hk a, Paired.mapP b fun v row ⟨q, e1, e2⟩ => ⟨q, e1, e.l hk e2⟩⟩
end
def spCount (K : PySem.W.Frag) (d : Nat) : Sp := fun vs H Q _ => ∃ (p a b kd : Addr) (rows : List (List Nat)) (t r : State) (n : Nat) (D : Doors) (kvs : List (List Key × V)), vs = [.ref p, .ref a, .ref b, .ref kd] ∧ House n D ∧ RowsOk n D rows ∧ RowsAt K H p rows ∧ H a = some (.tup (nT t)) ∧ SqT K H b (nT r) ∧
  t.length = n ∧ r.length = n ∧ Le n r t ∧ (changed n r t).length ≤ d ∧ H kd = some (.dT kvs) ∧ KnOk n D r kvs ∧ kvs.length + cap d ≤ 100000 ∧
  ∀ H2 kvs2, Kx kd H H2 → H2 kd = some (.dT kvs2) → KnOk n D r kvs2 → kvs2.length ≤ kvs.length + cap d → Q (nI (cnt n D r t)) H2
def spCountShortest (K : PySem.W.Frag) : Sp := fun vs H Q _ => ∃ (h a b : Addr) (n : Nat) (D : Doors) (s r : State), vs = [.ref h, .ref a, .ref b] ∧ Both n D s r ∧ HouseAt K H h n D ∧ H a = some (.tup (nT s)) ∧ SqT K H b (nT r) ∧ RetV (nI (cnt n D r s)) H Q
section
variable {P : Program} {w : World} {K : PySem.W.Frag} {mg : Str → Option Value} {base : Heap}
abbrev CCount (P : Program) (w : World) (K : PySem.W.Frag) (mg : Str → Option Value) (base : Heap) (d : Nat) : Prop := Cal P w K mg base (3 + d) "count_from" ["rows", "state", "rest", "known"] (spCount K d)
theorem ok_count0 {f : Addr} {fd : FuncData} (F : Fun K "count_from" "count_from" sCountFrom f fd) : FnOk P w K mg base CX0 3 f fd ["rows", "state", "rest", "known"] (spCount K 0) := by
  refine F.ok scCountFrom (fun vs H Q E h => ?_) (fun cdv A outer s H vs Q E hr h => ?_)
  · obtain ⟨p, a, b, kd, rows, t, r, n, D, kvs, rfl, _⟩ := h
    rfl
  · obtain ⟨p, a, b, kd, rows, t, r, n, D, kvs, rfl, hh, ho, hR, ha, hb, hlt, hlr, hle, hd, hk, hok, hcap, q⟩ := h
    refine ⟨_, pss_cons (ps_if (pt_cmpR (op_eqD hr.units) (pv 1) (pv 2) (nomark _)) (pss_one (ps_ret pe_int)) pss_nil) pss_never, ?_⟩
    have e0 : t = r := (changed_nil hlr hlt hle).mp (List.length_eq_zero_iff.mp (Nat.le_zero.mp hd))
    refine q_when (b := true) (et_test (ev_is (ev_eqT (EvS.ref (ev_var rfl) (st_of ha)) (EvS.ref (ev_var rfl) hb)) (by rw [decide_eq_true e0]))) (fun _ H1 e1 => ?_) (fun z => by cases z)
    refine s_ret ev_c fun H2 e2 => ?_
    have := q H2 kvs (Kx.of (e1.trans e2)) (e2 _ _ (e1 _ _ hk)) hok (by omega)
    rw [e0, cnt_eq hlr hlr (fun _ _ => Nat.le_refl _), if_pos rfl] at this
    exact this
theorem ok_countS {f : Addr} {fd : FuncData} (F : Fun K "count_from" "count_from" sCountFrom f fd) (B : Blt mg) (C1 : CFree P w K mg base) (C2 : Cal P w K mg base 2 "key_in" ["rows", "state", "room"] (spKeyIn K)) (d : Nat) (C3 : CCount P w K mg base d) : FnOk P w K mg base CX0 (3 + (d + 1)) f fd ["rows", "state", "rest", "known"] (spCount K (d + 1)) := by
  refine F.ok scCountFrom (fun vs H Q E h => ?_) (fun cdv A outer s H vs Q E hr h => ?_)
  · obtain ⟨p, a, b, kd, rows, t, r, n, D, kvs, rfl, _⟩ := h
    rfl
  · obtain ⟨p, a, b, kd, rows, t, r, n, D, kvs, rfl, hh, ho, hR, ha, hb, hlt, hlr, hle, hd, hk, hok, hcap, q⟩ := h
    have nd := scCountFrom.nd
    have hr : Room (3 + d) _ := hr
    have tp := hh.top
    have hcd : cap (d + 1) = 1 + 6 * cap d := rfl
    refine ⟨_, pss_cons (ps_if (pt_cmpR (op_eqD hr.units) (pv 1) (pv 2) (nomark _)) (pss_one (ps_ret pe_int)) pss_nil)
      (pss_cons (ps_if (pt_cmp (pc_dnotin (hu_of hr) (pv 1) (pv 3)))
        (pss_cons (ps_setLc (i := 4) (own := [("x", 5)]) (g := gName 5) (tt := tAnd (tTest (tOp (rI0 fun i j => .bl (decide (i < j))) (tOp (rIxT K) (tVar 2) (tVar 5)) (tOp (rIxT K) (tVar 1) (tVar 5)))) (tTest (tOp rEq (tCall (spFree K) [] E0 (tCons (tVar 0) (tCons (tVar 1) (tCons (tVar 5) tNil)))) (tOp (rIxT K) (tVar 2) (tVar 5))))) (te := tVar 5) rfl nd rfl rfl (sw_true rfl rfl rfl (by decide +kernel))
            (pi_range1 (by rfl) B.range (pa_cons (pe_callB call_len_seq (by rfl) B.len PySem.boot_len (pa_cons (pv 2) pa_nil)) pa_nil))
            (blkOk_by (own := [("x", 5)]) (N := nCount) (sc := defScope sCountFrom) (by decide +kernel))
            (fun _ _ _ _ _ => pg_name (i := 5) nd rfl (Or.inl rfl)) (fun _ _ _ _ _ => pts_one (PW.pt (pw_and (pt_cmpR op_lt (pe_ix ix_tup (pv 2) (pv 5) (fun _ _ => rfl)) (pe_ix ix_tup (pv 1) (pv 5) (fun _ _ => rfl)) (nomark _))
              (pw_and1 (pt_cmpR op_eq (pe_cal C1 (hr.mono (by omega)) (by rfl) (pa_cons (pv 0) (pa_cons (pv 1) (pa_cons (pv 5) pa_nil)))) (pe_ix ix_tup (pv 2) (pv 5) (fun _ _ => rfl)) (nomark _)))))) (fun _ _ _ _ _ => pv 5))
          (pss_one (ps_dput (hu_of hr) (pv 3) (pv 1) (pe_callB (cr_sum rfl) (by rfl) B.sum (by decide +kernel) (pa_cons (pe_lc (own := [("room", 6)]) (g := gName 6) (tt := tYes)
              (te := tCall (spCount K d) [] E0 (tCons (tVar 0) (tCons (tCall (spKeyIn K) [] E0 (tCons (tVar 0) (tCons (tVar 1) (tCons (tVar 6) tNil)))) (tCons (tVar 2) (tCons (tVar 3) tNil))))) rfl nd (pi_list (pv 4))
            (blkOk_by (own := [("room", 6)]) (N := nCount) (sc := defScope sCountFrom) (by decide +kernel))
            (fun _ _ _ _ _ => pg_name (i := 6) nd rfl (Or.inl rfl)) (fun _ _ _ _ _ => pts_nil)
            (fun _ _ _ _ _ => pe_cal C3 hr (by rfl) (pa_cons (pv 0) (pa_cons (pe_cal C2 (hr.mono (by omega)) (by rfl) (pa_cons (pv 0) (pa_cons (pv 1) (pa_cons (pv 6) pa_nil)))) (pa_cons (pv 2) (pa_cons (pv 3) pa_nil)))))) pa_nil)) rfl))) pss_nil)
      (pss_one (ps_ret (pe_dget (hu_of hr) (pv 3) (pv 1) (fun _ _ => rfl))))), ?_⟩
    refine q_when (b := decide (t = r)) (et_test (ev_eqT (EvS.ref (ev_var rfl) (st_of ha)) (EvS.ref (ev_var rfl) hb))) (fun hb1 H1 e1 => ?_) (fun hb1 H1 e1 => ?_)
    · have e0 : t = r := of_decide_eq_true hb1
      refine s_ret ev_c fun H2 e2 => ?_
      have := q H2 kvs (Kx.of (e1.trans e2)) (e2 _ _ (e1 _ _ hk)) hok (by omega)
      rw [e0, cnt_eq hlr hlr (fun _ _ => Nat.le_refl _), if_pos rfl] at this
      exact this
    · have hne : t ≠ r := of_decide_eq_false hb1
      -- what the last row needs
      have last : ∀ (σ' : L2.St) (H2 : Hp) kvs2, σ'[3]? = some (some (.ref kd)) → σ'[1]? = some (some (.ref a)) → Kx kd H H2 → H2 kd = some (.dT kvs2) → KnOk n D r kvs2 → kvs2.length ≤ kvs.length + cap (d + 1) → valV kvs2 (kk t) = some (nI (cnt n D r t)) →
          tRet (tDGet (tVar 3) (tVar 1)) { nx := fun _ H' => Q .non H', rt := Q } σ' H2 := fun σ' H2 kvs2 s3 s1 ek h2 hok2 hl2 hv => by
        refine ⟨.ref kd, s3, .ref a, s1, kd, nI (cnt n D r t), rfl, ?_, q H2 kvs2 ek h2 hok2 hl2⟩
        have ha2 : H2 a = some (.tup ((kk t).map kV)) := by
          rw [kk_V]
          exact ek a _ (ne_of ha hk (by intro z; cases z)) ha
        have := DGet.t h2 ha2
        rw [hv] at this
        exact this
      have ha1 : H1 a = some (.tup ((kk t).map kV)) := by rw [kk_V]; exact e1 _ _ ha
      refine q_when (b := !(valV kvs (kk t)).isSome) (fun H2 e2 Qt k => ⟨.ref a, rfl, .ref kd, rfl, kd, _, rfl, DGet.t (e2 _ _ (e1 _ _ hk)) (e2 _ _ ha1), _, rfl, k H2 (Ex.refl H2)⟩) (fun hb2 H2 e2 => ?_) (fun hb2 H2 e2 => ?_)
      · have e12 := e1.trans e2
        -- fit
        have hfit : fit n D r t = (List.range n).filter fun x => decide (r.mxa x < t.mxa x) && decide (free n D t x = r.mxa x) := rfl
        refine q_asgL (xs := nT (fit n D r t)) ?_ (fun f4 H3 hf4 e3 h3 => ?_)
        · rw [hfit]
          exact el_R (te := tVar 5) (t := tAnd (tTest (tOp (rI0 fun i j => .bl (decide (i < j))) (tOp (rIxT K) (tVar 2) (tVar 5)) (tOp (rIxT K) (tVar 1) (tVar 5)))) (tTest (tOp rEq (tCall (spFree K) [] E0 (tCons (tVar 0) (tCons (tVar 1) (tCons (tVar 5) tNil)))) (tOp (rIxT K) (tVar 2) (tVar 5))))) (ta := tCons (tCB (rLenS K) (tCons (tVar 2) tNil)) tNil) (n := n)
            (f := fun x => decide (r.mxa x < t.mxa x) && decide (free n D t x = r.mxa x)) (v := nI) (j := 5) (vs := [5]) (ea_cons (ev_cb (ea_cons (ev_var rfl) ea_nil) fun H4 e4 Q' k => ⟨b, nT r, rfl, .inr (ex_t (e12.trans e4) hb), by rw [nT_len, hlr]; exact k H4 (Ex.refl H4)⟩) ea_nil) (by omega) (fun _ => rfl)
            (fun x hx H4 e4 => by
              have e14 := e12.trans e4
              have ix2 : Ev (tOp (rIxT K) (tVar 2) (tVar 5)) [some (.ref p), some (.ref a), some (.ref b), some (.ref kd), none, some (nI x), none] H4 (nI (r.mxa x)) := ev_op (ev_var rfl) (ev_var rfl) (rv_ixT (ex_t e14 hb) (atI_nT (by omega)))
              refine et_and (et_test (ev_is (ev_op ix2 (ev_op (ev_var rfl) (ev_var rfl) (rv_ixT (v := nI (t.mxa x)) (st_of (e14 _ _ ha)) (atI_nT (by omega)))) (rv_I0 (g := fun i j => .bl (decide (i < j))))) (by
                congr 1
                exact decide_eq_decide.mpr (by omega)))) fun _ => et_test (ev_is (ev_op (ev_call (ea_cons (ev_var rfl) (ea_cons (ev_var rfl) (ea_cons (ev_var rfl) ea_nil))) (sv_free hh ho (hR.mono e14) (st_of (e14 _ _ ha)) hlt hx)) ix2 (rv_eq rfl)) (by
                congr 1
                refine decide_eq_decide.mpr ?_
                constructor
                · intro z
                  have := V.int.inj z
                  omega
                · intro z; rw [z]))) (fun x hx H4 e4 _ => ev_var rfl)
        · have hfl : (fit n D r t).length ≤ 6 := by
            unfold fit
            have := List.length_filter_le (fun x => decide (r.mxa x < t.mxa x) && decide (free n D t x = r.mxa x)) (List.range n)
            rw [List.length_range] at this
            omega
          have e13 := e12.trans e3
          have hk3 := e13 _ _ hk
          -- sum([..])
          refine ⟨.ref f4, rfl, f4, rfl, ⟨_, sq_of h3⟩, fun Dl hD => ?_⟩
          have hDk : Dl ≠ kd := (ne_of_none hk3 hD).symm
          refine lc_list (xs := nT (fit n D r t)) (fun i H' => ∃ kvs', Kx kd H3 H' ∧ H' kd = some (.dT kvs') ∧ KnOk n D r kvs' ∧ kvs'.length ≤ kvs.length + i * cap d ∧ H' Dl = some (.lst (nT (((fit n D r t).take i).map fun x => cnt n D r (keyIn n D t x)))))
            ⟨kvs, (Kx.of (Ex.refl H3)).mut hD, by rw [upd_ne hDk.symm]; exact hk3, hok, by omega, by rw [upd_same]; rfl⟩ (fun i H' _ ⟨_, ek, _⟩ => ek.l hk3 (sq_of h3)) (fun i y H' hi pp => ?_) (fun H' pp => ?_)
          · obtain ⟨kvs', ek, hk', hok', hl', hDl⟩ := pp
            have hil : i < (fit n D r t).length := by
              have := (List.getElem?_eq_some_iff.mp hi).1
              rw [nT_len] at this
              exact this
            rw [nT_get hil] at hi
            obtain rfl := (Option.some.inj hi).symm
            have hki : (fit n D r t)[i]? = some ((fit n D r t).mxa i) := by simp [List.mxa, List.getD_eq_getElem?_getD, hil]
            have hmem := List.mem_of_getElem? hki
            generalize (fit n D r t).mxa i = x at hki hmem
            have hxn : x < n := by
              unfold fit at hmem
              exact List.mem_range.mp (List.mem_filter.mp hmem).1
            have hch := changed_key hlt hmem
            have hmul : i * cap d + cap d ≤ 6 * cap d := by
              calc i * cap d + cap d = (i + 1) * cap d := by rw [Nat.add_mul, Nat.one_mul]
                _ ≤ 6 * cap d := Nat.mul_le_mul_right _ (by omega)
            have ekH : Kx kd H H' := (Kx.of e13).trans ek
            have ha' : H' a = some (.tup (nT t)) := ekH a _ (ne_of ha hk (by intro z; cases z)) ha
            refine ⟨rfl, ?_⟩
            dsimp only [tYes]
            rw [if_pos rfl]
            refine ⟨.ref p, rfl, .ref p, rfl, .ref a, rfl, nI x, rfl, p, a, rows, t, x, n, D, rfl, hh, ho, ekH.rows hk hR, st_of ha', hlt, hxn, fun qa H5 e5 h5 => ?_⟩
            refine ⟨.ref b, rfl, .ref kd, rfl, p, qa, b, kd, rows, keyIn n D t x, r, n, D, kvs', rfl, hh, ho, (ekH.rows hk hR).mono e5, h5, ex_t e5 (ekH.t hk hb), by rw [keyIn_len, hlt], hlr, le_key hlt hle hmem, by omega, e5 _ _ hk', hok', by omega, fun H6 kvs6 ek6 h6 hok6 hl6 => ?_⟩
            have hDl6 : H6 Dl = some (.lst (nT (((fit n D r t).take i).map fun x => cnt n D r (keyIn n D t x)))) := ek6 Dl _ hDk (e5 Dl _ hDl)
            refine ⟨_, hDl6, ?_, kvs6, ((ek.trans (Kx.of e5)).trans ek6).mut hD, by rw [upd_ne hDk.symm]; exact h6, hok6, ?_, ?_⟩
            · rw [nT_len, List.length_map, List.length_take, sizeLine_eq]
              omega
            · rw [Nat.add_mul, Nat.one_mul]
              omega
            · rw [upd_same, take_snoc hki, List.map_append]
              unfold nT
              rw [List.map_append]
              rfl
          · obtain ⟨kvs', ek, hk', hok', hl', hDl⟩ := pp
            rw [nT_len] at hl' hDl
            rw [List.take_length] at hDl
            have ekH : Kx kd H H' := (Kx.of e13).trans ek
            have ha' : H' a = some (.tup ((kk t).map kV)) := by
              rw [kk_V]
              exact ekH a _ (ne_of ha hk (by intro z; cases z)) ha
            have hmul : (fit n D r t).length * cap d ≤ 6 * cap d := Nat.mul_le_mul_right _ hfl
            have hsum : ((((fit n D r t).map fun x => cnt n D r (keyIn n D t x)).map Int.ofNat).sum) = ((cnt n D r t : Nat) : Int) := by
              rw [cnt_eq hlr hlt hle, if_neg hne]
              generalize (fit n D r t).map (fun x => cnt n D r (keyIn n D t x)) = l
              induction l with
              | nil => rfl
              | cons c l ih =>
                rw [List.map_cons, List.sum_cons, List.sum_cons, ih]
                show (c : Int) + _ = _
                omega
            refine ⟨Dl, ((fit n D r t).map fun x => cnt n D r (keyIn n D t x)).map Int.ofNat, rfl, ?_, ?_⟩
            · have : (((fit n D r t).map fun x => cnt n D r (keyIn n D t x)).map Int.ofNat).map V.int = nT ((fit n D r t).map fun x => cnt n D r (keyIn n D t x)) := by unfold nT; rw [List.map_map]; rfl
              rw [this]
              exact sq_of hDl
            · rw [hsum]
              refine ⟨.ref kd, rfl, .ref a, rfl, kd, _, rfl, DPut.t hk' ha' (by rw [sizeLine_eq]; omega), ?_⟩
              exact last _ _ _ rfl rfl ekH.dict upd_same hok'.put (Nat.le_trans (length_putK _ _ _) (by omega)) (by rw [valV_put, if_pos rfl])
      · have hsome : ∃ v, valV kvs (kk t) = some v := by
          cases hv : valV kvs (kk t) with
          | none => rw [hv] at hb2; cases hb2
          | some v => exact ⟨v, rfl⟩
        obtain ⟨v, hv⟩ := hsome
        have := hok t v hv
        subst this
        exact last _ H2 kvs rfl rfl (Kx.of (e1.trans e2)) ((e1.trans e2) _ _ hk) hok (by omega) hv
theorem ok_countShortest {f : Addr} {fd : FuncData} (F : Fun K "count_shortest" "count_shortest" sCountShortest f fd) (C1 : Cal P w K mg base 7 "need_both" ["house", "state", "rest"] (spNeedBoth K)) (C2 : CCount P w K mg base 6) (C3 : Cal P w K mg base 1 "near" ["house"] (spNear K)) : FnOk P w K mg base CX0 10 f fd ["house", "state", "rest"] (spCountShortest K) := by
  refine F.ok scCountShortest (fun vs H Q E h => ?_) (fun cdv A outer s H vs Q E hr h => ?_)
  · obtain ⟨h, a, b, n, D, s, r, rfl, _⟩ := h
    rfl
  · obtain ⟨h, a, b, n, D, st, r, rfl, bo, hH, ha, hb, q⟩ := h
    refine ⟨_, pss_cons (ps_expr (pe_cal C1 (hr.mono (by decide)) (by rfl) (pa_cons (pv 0) (pa_cons (pv 1) (pa_cons (pv 2) pa_nil)))))
      (pss_one (ps_ret (pe_cal C2 hr (by rfl) (pa_cons (pe_cal C3 (hr.mono (by decide)) (by rfl) (pa_cons (pv 0) pa_nil)) (pa_cons (pv 1) (pa_cons (pv 2) (pa_cons pe_dnewT pa_nil))))))), ?_⟩
    refine q_drop (ev_call (ea_cons (ev_var rfl) (ea_cons (ev_var rfl) (ea_cons (ev_var rfl) ea_nil))) (z := .non) fun H3 e4 Q' k E' => ⟨h, a, b, n, D, st, r, rfl, bo, hH.mono e4, ex_t e4 (st_of ha), ex_t e4 hb, k⟩) fun H1 e1 => ?_
    refine s_retRaw ⟨.ref h, rfl, h, n, D, rfl, bo.house, hH.mono e1, fun p H2 rows e2 ho hR => ⟨.ref a, rfl, .ref b, rfl, fun kd hkd => ?_⟩⟩
    have e12 := e1.trans e2
    have tp := bo.house.top
    have hcl : (changed n r st).length ≤ 6 := by
      have := nodup_le (n := n) (l := changed n r st) changed_nodup fun x hx => (mem_changed.mp hx).1
      omega
    have kn0 : KnOk n D r [] := fun t v hv => by cases hv
    refine ⟨p, a, b, kd, rows, st, r, n, D, [], rfl, bo.house, ho, hR.mono (Ex.new hkd), Ex.new hkd _ _ (e12 _ _ ha), ex_t (e12.trans (Ex.new hkd)) hb, bo.len, bo.rest.len, bo.le, hcl, upd_same, kn0, by rw [cap6]; decide, fun H3 kvs2 ek h3 _ _ => q H3 fun c o hc => ?_⟩
    have hn : c ≠ kd := ne_of_none (e12 c o hc) hkd
    exact ek c o hn (by rw [upd_ne hn]; exact e12 c o hc)
end
end MxD
namespace MxD
open PySem PySem.Spec PyProof.Rows L2 Evl MxR Mx MxB MxE StX RZ
abbrev sShowsRow : Stmt := topS 37
abbrev nShows : List Str := ["house", "state", "rest", "value", "room", "changed", "x"]
theorem scShowsRow : FnScope nShows ["house", "state", "rest", "value"] (defScope sShowsRow) := ⟨rfl, rfl, rfl, by decide +kernel, rfl, by decide +kernel, by decide +kernel⟩
def spShowsRow (K : PySem.W.Frag) : Sp := fun vs H Q _ => ∃ (h a b v : Addr) (n : Nat) (D : Doors) (s r : State) (o : List Nat), vs = [.ref h, .ref a, .ref b, .ref v] ∧ Both n D s r ∧ HouseAt K H h n D ∧ SqT K H a (nT s) ∧ SqT K H b (nT r) ∧ SqT K H v (nT o) ∧
  o.Perm (changed n r s) ∧ done n D s o = r ∧ RetV (.bl true) H Q
theorem one_order : ∀ {l m : List Int}, l.Perm m → l.Pairwise (· ≤ ·) → m.Pairwise (· ≤ ·) → l = m
  | [], m, hp, _, _ => hp.nil_eq
  | a :: l, [], hp, _, _ => by cases hp.symm.nil_eq
  | a :: l, b :: m, hp, h1, h2 => by
    rw [List.pairwise_cons] at h1 h2
    have e : a = b := by
      have m1 : a ∈ b :: m := hp.mem_iff.mp List.mem_cons_self
      have m2 : b ∈ a :: l := hp.mem_iff.mpr List.mem_cons_self
      rcases List.mem_cons.mp m1 with e | m1
      · exact e
      · rcases List.mem_cons.mp m2 with e | m2
        · exact e.symm
        · have := h1.1 b m2
          have := h2.1 a m1
          omega
    subst e
    rw [one_order hp.cons_inv h1.2 h2.2]
section
variable {P : Program} {w : World} {K : PySem.W.Frag} {mg : Str → Option Value} {base : Heap}
theorem changed_up {n : Nat} {r s : State} : ((changed n r s).map Int.ofNat).Pairwise (· ≤ ·) := by
  rw [List.pairwise_map]
  refine List.Pairwise.filter _ ?_
  exact List.pairwise_lt_range.imp fun {a b} h => Int.ofNat_le.mpr (Nat.le_of_lt h)
theorem el_sortTI {σ : L2.St} {H : Hp} {te : TE} {v : Addr} {o ch : List Nat} (h : Ev te σ H (.ref v)) (hv : SqT K H v (nT o)) (hp : o.Perm ch) (hc : (ch.map Int.ofNat).Pairwise (· ≤ ·)) : EvL (tCB (rSortedTI K) (tCons te tNil)) σ H (nT ch) := fun H1 e Q q =>
  h H1 e _ fun H2 e2 => ⟨v, o.map Int.ofNat, rfl, by
    have := ex_t (e.trans e2) hv
    rw [nT_ofNat] at this
    exact this, fun ns' p h1 h2 h3 => by
    have e3 := one_order (h1.trans (hp.map Int.ofNat)) h2 hc
    subst e3
    rw [← nT_ofNat]
    exact q p _ (fresh_back e2 h3) (e2.trans (Ex.new h3)) upd_same⟩
theorem el_changed {σ : L2.St} {H : Hp} {h a b d : Addr} {n : Nat} {st r : State} {ih ia ib j : Nat} {vs : List Nat} (hd : SqT K H h [nI n, .ref d]) (ha : SqT K H a (nT st)) (hb : SqT K H b (nT r)) (hl : st.length = n) (hr : r.length = n) (tp : n ≤ 6)
    (h0 : σ[ih]? = some (some (.ref h))) (hw : ∀ x, wipe ((wipe σ vs).set j (some x)) vs = wipe σ vs) (h1 : ∀ x, ((wipe σ vs).set j (some x))[ia]? = some (some (.ref a))) (h2 : ∀ x, ((wipe σ vs).set j (some x))[ib]? = some (some (.ref b))) (h3 : ∀ x, ((wipe σ vs).set j (some x))[j]? = some (some x)) :
    EvL (tLc (iRng1 (tCons (tOp (rIxT K) (tVar ih) (tC (.int 0))) tNil)) (gName j) (tTest (tOp (rI0 fun i j => .bl (decide (i < j))) (tOp (rIxT K) (tVar ib) (tVar j)) (tOp (rIxT K) (tVar ia) (tVar j)))) (tVar j) vs) σ H (nT (changed n r st)) := by
  refine el_R (te := tVar j) (t := tTest (tOp (rI0 fun i j => .bl (decide (i < j))) (tOp (rIxT K) (tVar ib) (tVar j)) (tOp (rIxT K) (tVar ia) (tVar j)))) (ta := tCons (tOp (rIxT K) (tVar ih) (tC (.int 0))) tNil) (n := n) (f := fun x => decide (r.mxa x < st.mxa x)) (v := nI) (j := j) (vs := vs)
    (ea_cons (ev_op (ev_var h0) ev_c (rv_ixT hd rfl)) ea_nil) (by omega) hw (fun x hx H1 e1 => ?_) (fun x hx H1 e1 _ => ev_var (h3 _))
  refine et_test (ev_is (ev_op (ev_op (ev_var (h2 _)) (ev_var (h3 _)) (rv_ixT (v := nI (r.mxa x)) (ex_t e1 hb) (atI_nT (by omega)))) (ev_op (ev_var (h1 _)) (ev_var (h3 _)) (rv_ixT (v := nI (st.mxa x)) (ex_t e1 ha) (atI_nT (by omega)))) (rv_I0 (g := fun i j => .bl (decide (i < j))))) ?_)
  congr 1
  exact decide_eq_decide.mpr (by omega)
theorem ok_showsRow {f : Addr} {fd : FuncData} (F : Fun K "shows_row" "shows_row" sShowsRow f fd) (B : Blt mg) (C1 : Cal P w K mg base 7 "need_both" ["house", "state", "rest"] (spNeedBoth K)) (C2 : Cal P w K mg base 2 "key_in" ["rows", "state", "room"] (spKeyIn K)) (C3 : Cal P w K mg base 1 "near" ["house"] (spNear K)) : FnOk P w K mg base CX0 8 f fd ["house", "state", "rest", "value"] (spShowsRow K) := by
  refine F.ok scShowsRow (fun vs H Q E h => ?_) (fun cdv A outer s H vs Q E hr h => ?_)
  · obtain ⟨h, a, b, v, n, D, s, r, o, rfl, _⟩ := h
    rfl
  · obtain ⟨h, a, b, v, n, D, st, r, o, rfl, bo, hH, ha, hb, hv, hp, hdn, q⟩ := h
    have nd := scShowsRow.nd
    have tp := bo.house.top
    obtain ⟨d, hd, hds⟩ := id hH
    refine ⟨_, pss_cons (ps_expr (pe_cal C1 hr (by rfl) (pa_cons (pv 0) (pa_cons (pv 1) (pa_cons (pv 2) pa_nil)))))
      (pss_cons (ps_setLc (i := 5) (own := [("room", 4)]) (g := gName 4) (tt := tTest (tOp (rI0 fun i j => .bl (decide (i < j))) (tOp (rIxT K) (tVar 2) (tVar 4)) (tOp (rIxT K) (tVar 1) (tVar 4)))) (te := tVar 4) rfl nd rfl rfl (sw_true rfl rfl rfl (by decide +kernel))
            (pi_range1 (by rfl) B.range (pa_cons (pe_ix ix_tup (pv 0) pe_int (fun _ _ => rfl)) pa_nil))
            (blkOk_by (own := [("room", 4)]) (N := nShows) (sc := defScope sShowsRow) (by decide +kernel))
            (fun _ _ _ _ _ => pg_name (i := 4) nd rfl (Or.inl rfl)) (fun _ _ _ _ _ => pts_one (pt_cmpR op_lt (pe_ix ix_tup (pv 2) (pv 4) (fun _ _ => rfl)) (pe_ix ix_tup (pv 1) (pv 4) (fun _ _ => rfl)) (nomark _))) (fun _ _ _ _ _ => pv 4))
      (pss_cons (ps_if (PW.pt (pw_or (pt_not (pt_val (pe_callB call_isi (by rfl) B.isi (by decide +kernel) (pa_cons (pv 3) (pa_cons (pe_bltn (v := .ty "tuple") (by rfl) B.tuple (by decide +kernel) rfl) pa_nil)))))
          (pw_or1 (pt_not (pt_val (pe_callB (r := rAll K) (cr_all rfl) (by rfl) B.all (by decide +kernel) (pa_cons (pe_lc (own := [("x", 6)]) (g := gName 6) (tt := tYes) (te := tAndV (tCB (rIsi K) (tCons (tVar 6) (tCons (tC (.ty "int")) tNil))) (tNotV (tCB (rIsi K) (tCons (tVar 6) (tCons (tC (.ty "bool")) tNil))))) rfl nd (pi_tup (pv 3))
              (blkOk_by (own := [("x", 6)]) (N := nShows) (sc := defScope sShowsRow) (by decide +kernel))
              (fun _ _ _ _ _ => pg_name (i := 6) nd rfl (Or.inl rfl)) (fun _ _ _ _ _ => pts_nil) (fun _ _ _ _ _ => pe_and (pe_callB call_isi (by rfl) B.isi (by decide +kernel) (pa_cons (pv 6) (pa_cons (pe_bltn (v := .ty "int") (by rfl) B.int (by decide +kernel) rfl) pa_nil)))
      (pe_one (pe_not (pe_callB call_isi (by rfl) B.isi (by decide +kernel) (pa_cons (pv 6) (pa_cons (pe_bltn (v := .ty "bool") (by rfl) B.bool (by decide +kernel) rfl) pa_nil))))))) pa_nil))))))) pss_never pss_nil)
      (pss_cons (ps_if (pt_cmpR (op_neD hr.units) (pe_callB (r := rSortedTI K) cr_sortedTI (by rfl) B.sorted (by decide +kernel) (pa_cons (pv 3) pa_nil)) (pv 5) (nomark _)) pss_never pss_nil)
      (pss_cons (ps_for PassesOwn.never rfl (pi_tup (pv 3)) (pg_name (i := 4) nd rfl (.inl rfl)) (pss_one (ps_set (i := 1) nd rfl (.inr rfl) (pe_cal C2 (hr.mono (by decide)) (by rfl) (pa_cons (pe_cal C3 (hr.mono (by decide)) (by rfl) (pa_cons (pv 0) pa_nil)) (pa_cons (pv 1) (pa_cons (pv 4) pa_nil)))))))
      (pss_one (ps_ret (pe_cmpR (op_eqD hr.units) (pv 1) (pv 2) (nomark _)))))))), ?_⟩
    refine q_drop (ev_call (ea_cons (ev_var rfl) (ea_cons (ev_var rfl) (ea_cons (ev_var rfl) ea_nil))) (z := .non) fun H3 e4 Q' k E' => ⟨h, a, b, n, D, st, r, rfl, bo, hH.mono e4, ex_t e4 ha, ex_t e4 hb, k⟩) fun H1 e1 => ?_
    refine q_asgL (el_changed (ex_t e1 hd) (ex_t e1 ha) (ex_t e1 hb) bo.len bo.rest.len tp rfl (fun _ => rfl) (fun _ => rfl) (fun _ => rfl) (fun _ => rfl)) fun c H2 hc e2 h2 => ?_
    have e12 := e1.trans e2
    have ol : o.length ≤ 6 := by
      have := nodup_le (n := n) (l := changed n r st) changed_nodup fun x hx => (mem_changed.mp hx).1
      rw [hp.length_eq]
      omega
    refine q_when (b := false) (et_or (a := false) (b := false) (et_not (a := true) (et_B (ev_cb (ea_cons (ev_var rfl) (ea_cons ev_c ea_nil)) (rc_isi (fun H1 e => ty_tup (ex_t (e12.trans e) hv)) (kit_ty (by decide +kernel)))))) fun _ => et_not (a := true) (et_B ?_)) (fun z => by cases z) (fun _ H3 e3 => ?_)
    · have e0 := el_T (K := K) (te := tAndV (tCB (rIsi K) (tCons (tVar 6) (tCons (tC (.ty "int")) tNil))) (tNotV (tCB (rIsi K) (tCons (tVar 6) (tCons (tC (.ty "bool")) tNil))))) (t := tYes) (l := o) (c := nI) (f := fun _ => true) (v := fun _ => .bl true) (a := v) (tl := tVar 3) (j := 6) (vs := [6]) (σ := [some (.ref h), some (.ref a), some (.ref b), some (.ref v), none, some (.ref c), none]) (H := H2)
        (ev_var rfl) (ex_t e12 hv) (by omega) (fun _ => rfl) (fun _ _ _ _ => et_yes) (fun x hx H3 e3 _ => ev_andV (a := true) (b := !false) (ev_cb (ea_cons (ev_var rfl) (ea_cons ev_c ea_nil)) (rc_isi (fun _ _ => ty_int x) (kit_ty (by decide +kernel)))) fun _ =>
        ev_notV (ev_cb (ea_cons (ev_var rfl) (ea_cons ev_c ea_nil)) (rc_isi (fun _ _ => ty_int x) (kit_ty (by decide +kernel)))))
      rw [map_bl _ (fun _ => true), filter_true] at e0
      exact ev_is (ev_allN e0) (by rw [all_true])
    · have e13 := e12.trans e3
      refine q_when (b := false) (et_test (ev_is (ev_neL (el_sortTI (ev_var rfl) (ex_t e13 hv) hp changed_up) (ev_var rfl) (sq_of (e3 _ _ h2))) (by rw [decide_eq_true rfl]; rfl))) (fun z => by cases z) (fun _ H4 e4 => ?_)
      have e14 := e13.trans e4
      refine q_forT (xs := nT o) (a := v) (ev_var rfl) (ex_t e14 hv) (fun i σ' H' => (∃ a' y4, σ' = [some (.ref h), some (.ref a'), some (.ref b), some (.ref v), y4, some (.ref c), none] ∧ SqT K H' a' (nT (done n D st (o.take i)))) ∧ Ex H H') (fun H5 e5 => ⟨⟨a, none, rfl, ex_t (e14.trans e5) ha⟩, e14.trans e5⟩) (fun i σ' H' _ p => ex_t p.2 hv) ?_ ?_
      · rintro i x σ' H' hi ⟨⟨a', y4, rfl, ha'⟩, e5⟩
        have hil : i < o.length := by
          have := (List.getElem?_eq_some_iff.mp hi).1
          rw [nT_len] at this
          exact this
        rw [nT_get hil] at hi
        obtain rfl := (Option.some.inj hi).symm
        have hki : o[i]? = some (o.mxa i) := by simp [List.mxa, List.getD_eq_getElem?_getD, hil]
        have hxn : o.mxa i < n := (mem_changed.mp (hp.mem_iff.mp (List.mem_of_getElem? hki))).1
        refine s_raw ⟨.ref h, rfl, h, n, D, rfl, bo.house, hH.mono e5, fun p H6 rows e6 ho hR => ⟨.ref a', rfl, nI (o.mxa i), rfl, p, a', rows, done n D st (o.take i), o.mxa i, n, D, rfl, bo.house, ho, hR, ex_t e6 ha', by rw [done_len, bo.len], hxn, fun r2 H7 e7 h7 => ⟨⟨r2, _, rfl, ?_⟩, (e5.trans e6).trans e7⟩⟩⟩
        rw [take_snoc hki, done_snoc]
        exact st_of h7
      · rintro σ' H' ⟨⟨a', y4, rfl, ha'⟩, e5⟩
        rw [nT_len, List.take_length, hdn] at ha'
        refine s_ret (ev_is (ev_eqT (EvS.ref (ev_var rfl) ha') (EvS.ref (ev_var rfl) (ex_t e5 hb))) (by rw [decide_eq_true rfl])) fun H6 e6 => q H6 (e5.trans e6)
end
end MxD
namespace MxD
open PySem PySem.Spec PyProof.Rows L2 Evl MxR Mx MxB MxE StX RZ
abbrev sTaken : Stmt := topS 39
abbrev sPick : Stmt := topS 40
abbrev sAlike : Stmt := topS 41
theorem scTaken : FnScope ["_law_row", "_law_many", "_law_found", "_law_cell"] ["_law_row", "_law_many"] (defScope sTaken) := ⟨rfl, rfl, rfl, by decide +kernel, rfl, by decide +kernel, by decide +kernel⟩
theorem scPick : FnScope ["_law_row", "_law_things"] ["_law_row", "_law_things"] (defScope sPick) := ⟨rfl, rfl, rfl, by decide +kernel, rfl, by decide +kernel, by decide +kernel⟩
theorem scAlike : FnScope ["_law_found", "_law_due", "_law_k"] ["_law_found", "_law_due"] (defScope sAlike) := ⟨rfl, rfl, rfl, by decide +kernel, rfl, by decide +kernel, by decide +kernel⟩
/-! ### the row of draws -/
def rowL (S : Addr) (i1 i2 i3 : Int) : List V := [.ref S, .int i1, .int i2, .int i3]
def Drw (K : PySem.W.Frag) (S : Addr) (ns : List Int) (H : Hp) (R : Addr) : Prop := ∃ (i1 i2 i3 : Int), H R = some (.lst (rowL S i1 i2 i3)) ∧ SqL K H S (ns.map V.int) ∧ 0 ≤ i1 ∧ 0 ≤ i2 ∧ i2 < 2147483647 ∧ 0 ≤ i3
theorem ints_row {ns : List Int} {S : Addr} {i1 i2 i3 : Int} : ns.map V.int ≠ rowL S i1 i2 i3 := fun z => by
  cases ns with
  | nil => cases z
  | cons a t => cases z
theorem nT_row {l : List Nat} {S : Addr} {i1 i2 i3 : Int} : nT l ≠ rowL S i1 i2 i3 := by
  rw [nT_ofNat]
  exact ints_row
section
variable {K : PySem.W.Frag} {H H' : Hp} {R S : Addr} {ns : List Int}
theorem Kx.lL {a : Addr} {xs ys : List V} (e : Kx R H H') (hR : H R = some (.lst ys)) (hne : xs ≠ ys) (h : SqL K H a xs) : SqL K H' a xs := by
  rcases h with (h | ⟨o, h⟩) | h
  · exact .inl (.inl (e _ _ (ne_of h hR (by intro z; cases z; exact hne rfl)) h))
  · exact .inl (.inr ⟨o, e _ _ (ne_of h hR (by intro z; cases z)) h⟩)
  · exact .inr h
theorem Kx.tL {a : Addr} {xs ys : List V} (e : Kx R H H') (hR : H R = some (.lst ys)) (h : SqT K H a xs) : SqT K H' a xs := by
  rcases h with (h | ⟨o, h⟩) | h
  · exact .inl (.inl (e _ _ (ne_of h hR (by intro z; cases z)) h))
  · exact .inl (.inr ⟨o, e _ _ (ne_of h hR (by intro z; cases z)) h⟩)
  · exact .inr h
theorem Kx.refl : Kx R H H := fun _ _ _ h => h
theorem Kx.rowsL {p : Addr} {rows : List (List Nat)} (e : Kx R H H') (d : Drw K S ns H R) (h : RowsAt K H p rows) : RowsAt K H' p rows := by
  obtain ⟨i1, i2, i3, hR, _⟩ := d
  obtain ⟨vs, a, b⟩ := h
  have hne : vs ≠ rowL S i1 i2 i3 := fun z => by
    subst z
    obtain ⟨row, _, q, e1, _⟩ := pget1 b (i := 1) (x := .int i1) rfl
    cases e1
  exact ⟨vs, e.lL hR hne a, Paired.mapP b fun v row ⟨q, e1, e2⟩ => ⟨q, e1, e.lL hR nT_row e2⟩⟩
theorem Kx.houseL {h : Addr} {n : Nat} {D : Doors} (e : Kx R H H') (d : Drw K S ns H R) (x : HouseAt K H h n D) : HouseAt K H' h n D := by
  obtain ⟨i1, i2, i3, hR, _⟩ := d
  obtain ⟨a, ha, ds, hds, hp⟩ := x
  exact ⟨a, e.tL hR ha, ds, e.tL hR hds, Paired.mapP hp fun v p ⟨t, e1, e2⟩ => ⟨t, e1, e.tL hR e2⟩⟩
theorem Drw.mono (e : Ex H H') (d : Drw K S ns H R) : Drw K S ns H' R := by
  obtain ⟨i1, i2, i3, hR, hS, h⟩ := d
  exact ⟨i1, i2, i3, e _ _ hR, ex_l e hS, h⟩
end
def spTaken (K : PySem.W.Frag) : Sp := fun vs H Q _ => ∃ (R S : Addr) (ns : List Int) (m : Nat), vs = [.ref R, nI m] ∧ 0 < m ∧ m < 1073741824 ∧ Drw K S ns H R ∧ ∀ (v : Nat) H2, v < m → Kx R H H2 → Drw K S ns H2 R → Q (nI v) H2
def spPick (K : PySem.W.Frag) : Sp := fun vs H Q _ => ∃ (R S T : Addr) (ns : List Int) (l : List Nat), vs = [.ref R, .ref T] ∧ SqL K H T (nT l) ∧ l ≠ [] ∧ l.length ≤ 100000 ∧ Drw K S ns H R ∧ ∀ (v : Nat) H2, v ∈ l → Kx R H H2 → Drw K S ns H2 R → Q (nI v) H2
def spAlike : Sp := fun vs H Q _ => ∃ i : Int, vs = [.int i, .int i] ∧ RetV (.bl true) H Q
def rInt1 : List V → Hp → VK → Prop := fun xs H Q => (∃ i, xs = [.int i] ∧ Q (.int i) H) ∨ ∃ k, xs = [.bl k] ∧ Q (.int (if k then 1 else 0)) H
section
variable {P : Program} {w : World} {K : PySem.W.Frag} {mg : Str → Option Value} {base : Heap}
theorem ev_int1 {te : TE} {σ : L2.St} {H : Hp} {i : Int} (h : Ev te σ H (.int i)) : Ev (tCB (fun xs H Q => (∃ i, xs = [.int i] ∧ Q (.int i) H) ∨ ∃ k, xs = [.bl k] ∧ Q (.int (if k then 1 else 0)) H) (tCons te tNil)) σ H (.int i) :=
  ev_cb (ea_cons h ea_nil) fun H1 _ Q q => .inl ⟨i, rfl, q H1 (Ex.refl H1)⟩
theorem ok_taken {f : Addr} {fd : FuncData} (F : Fun K "_law_taken" "_law_taken" sTaken f fd) (B : Blt mg) : FnOk P w K mg base CX0 1 f fd ["_law_row", "_law_many"] (spTaken K) := by
  refine F.ok scTaken (fun vs H Q E h => ?_) (fun cdv A outer s H vs Q E hr h => ?_)
  · obtain ⟨R, S, ns, m, rfl, _⟩ := h
    rfl
  · obtain ⟨R, S, ns, m, rfl, hm, hm2, ⟨i1, i2, i3, hR, hS, p1, p2, p3, p4⟩, q⟩ := h
    have nd := scTaken.nd
    refine ⟨_, pss_cons (ps_if (pt_cmpR op_gt (pe_ix ix_list (pv 0) pe_int (fun _ _ => rfl)) pe_int (nomark _))
        (pss_cons (ps_set (i := 2) nd rfl (.inl rfl) (pe_op op_mod (pe_callTy call_int1 (by rfl) B.int (by decide +kernel) (pa_cons (pe_ix ix_list (pv 0) pe_int (fun _ _ => rfl)) pa_nil)) (pv 1)))
        (pss_cons (ps_asg (pe_op op_fdiv (pe_ix ix_list (pv 0) pe_int (fun _ _ => rfl)) (pv 1)) (pg_sub (pv 0) pe_int set_list))
        (pss_one (ps_ret (pv 2))))) pss_nil)
      (pss_cons (ps_asg (pe_op op_add (pe_ix ix_list (pv 0) pe_int (fun _ _ => rfl)) pe_int) (pg_sub (pv 0) pe_int set_list))
      (pss_cons (ps_if (pt_cmpR op_gt (pe_ix ix_list (pv 0) pe_int (fun _ _ => rfl)) (pe_callB call_len_seq (by rfl) B.len PySem.boot_len (pa_cons (pe_ix ix_list (pv 0) pe_int (fun _ _ => rfl)) pa_nil)) (nomark _))
        (pss_cons (ps_asg (pe_op op_mod (pe_callTy call_int1 (by rfl) B.int (by decide +kernel) (pa_cons (pe_op op_add (pe_op op_mul (pe_ix ix_list (pv 0) pe_int (fun _ _ => rfl)) pe_int) pe_int) pa_nil)) pe_int) (pg_sub (pv 0) pe_int set_list))
        (pss_one (ps_ret (pe_op op_mod (pe_callTy call_int1 (by rfl) B.int (by decide +kernel) (pa_cons (pe_op op_fdiv (pe_ix ix_list (pv 0) pe_int (fun _ _ => rfl)) pe_int) pa_nil)) (pv 1))))) pss_nil)
      (pss_cons (ps_set (i := 3) nd rfl (.inl rfl) (pe_ix ix_list (pe_ix ix_list (pv 0) pe_int (fun _ _ => rfl)) (pe_op op_sub (pe_ix ix_list (pv 0) pe_int (fun _ _ => rfl)) pe_int) (fun _ _ => rfl)))
      (pss_cons (ps_asg (pe_op op_mod (pe_callTy call_int1 (by rfl) B.int (by decide +kernel) (pa_cons (pe_op op_add (pe_op op_add (pe_op op_mul (pe_ix ix_list (pv 0) pe_int (fun _ _ => rfl)) pe_int) (pv 3)) pe_int) pa_nil)) pe_int) (pg_sub (pv 0) pe_int set_list))
      (pss_cons (ps_if (pt_cmpR op_ge (pv 3) (pe_op op_pow pe_int pe_int) (nomark _)) (pss_one (ps_asg (pe_op op_fdiv (pv 3) (pv 1)) (pg_sub (pv 0) pe_int set_list))) pss_nil)
      (pss_one (ps_ret (pe_op op_mod (pe_callTy call_int1 (by rfl) B.int (by decide +kernel) (pa_cons (pv 3) pa_nil)) (pv 1))))))))), ?_⟩
    have hm' : (0 : Int) < (m : Int) := by omega
    have hd : CDiv i3 (m : Int) := ⟨hm', by omega⟩
    have fin : ∀ (z : Int) H2, Kx R H H2 → Drw K S ns H2 R → Q (.int (z % (m : Int))) H2 := fun z H2 k d => by
      have h1 := Int.emod_nonneg z (b := (m : Int)) (by omega)
      have h2 := Int.emod_lt_of_pos z hm'
      have := q (z % (m : Int)).toNat H2 (by omega) k d
      have e : ((z % (m : Int)).toNat : Int) = z % (m : Int) := Int.toNat_of_nonneg h1
      show Q (V.int (z % (m : Int))) H2
      rw [← e]
      exact this
    have ix : ∀ {H1 : Hp} {σ : L2.St} {v : V} {j1 j2 j3 : Int} {k : Int}, σ[0]? = some (some (.ref R)) → H1 R = some (.lst (rowL S j1 j2 j3)) → atI (rowL S j1 j2 j3) k = some v → Ev (tOp (rIxL K) (tVar 0) (tC (.int k))) σ H1 v := fun hs h1 h2 => ev_op (ev_var hs) ev_c (rv_ixL (sq_of h1) h2)
    have ne : ∀ {H1 : Hp} {j1 j2 j3 : Int}, H1 R = some (.lst (rowL S j1 j2 j3)) → ∀ (o : HO), SqL K H1 S (ns.map V.int) → SqL K (upd H1 R o) S (ns.map V.int) := fun h1 o h2 => (Kx.dict (kd := R) (Kx.refl)).lL h1 ints_row h2
    refine q_when (b := decide (0 < i3)) (et_test (ev_op (ix rfl hR rfl) ev_c (rv_I0 (g := fun i j => .bl (decide (j < i)))))) (fun hb H1 e1 => ?_) (fun hb H1 e1 => ?_)
    · refine q_asg (v := .int (i3 % (m : Int))) (ev_op (ev_int1 (ix rfl (e1 _ _ hR) rfl)) (ev_var rfl) (rv_I (g := fun i j => .int (i % j)) hm')) fun H2 e2 => ?_
      have h2 := e2 _ _ (e1 _ _ hR)
      refine q_setL (v := .int (i3 / (m : Int))) (j := 3) h2 (ev_op (ix rfl h2 rfl) (ev_var rfl) (rv_I (g := fun i j => .int (i / j)) hd)) (ev_var rfl) ev_c (by decide : 3 < 4) fun H3 e3 => ?_
      refine s_ret (ev_var rfl) fun H4 e4 => fin i3 H4 (((Kx.of ((e1.trans e2).trans e3)).dict).trans (Kx.of e4)) ?_
      exact ⟨i1, i2, i3 / (m : Int), e4 _ _ upd_same, ex_l e4 (ne (e3 _ _ h2) _ (ex_l ((e1.trans e2).trans e3) hS)), p1, p2, p3, Int.ediv_nonneg p4 (by omega)⟩
    · have h1 := e1 _ _ hR
      refine q_setL (v := .int (i1 + 1)) (j := 1) h1 (ev_op (ix rfl h1 rfl) ev_c (rv_I0 (g := fun i j => .int (i + j)))) (ev_var rfl) ev_c (by decide : 1 < 4) fun H2 e2 => ?_
      have hS2 := ne (e2 _ _ h1) (.lst (rowL S (i1 + 1) i2 i3)) (ex_l (e1.trans e2) hS)
      have k2 : Kx R H (upd H2 R (.lst (rowL S (i1 + 1) i2 i3))) := (Kx.of (e1.trans e2)).dict
      have h2 : upd H2 R (.lst (rowL S (i1 + 1) i2 i3)) R = some (.lst (rowL S (i1 + 1) i2 i3)) := upd_same
      show tSeq _ _ _ _ (upd H2 R (.lst (rowL S (i1 + 1) i2 i3)))
      generalize upd H2 R (.lst (rowL S (i1 + 1) i2 i3)) = H3 at hS2 k2 h2
      refine q_when (b := decide ((ns.length : Int) < i1 + 1)) (et_test (ev_op (ix rfl h2 rfl) (ev_cb (z := .int (ns.length : Int)) (ea_cons (ix rfl h2 rfl) ea_nil) fun H4 e4 Q' k => ⟨S, ns.map V.int, rfl, .inl (ex_l e4 hS2), by rw [List.length_map]; exact k H4 (Ex.refl H4)⟩) (rv_I0 (g := fun i j => .bl (decide (j < i)))))) (fun hb2 H4 e4 => ?_) (fun hb2 H4 e4 => ?_)
      · have h4 := e4 _ _ h2
        refine q_setL (v := .int ((i2 * 48271 + 11) % 2147483647)) (j := 2) h4 (ev_op (ev_int1 (ev_op (ev_op (ix rfl h4 rfl) ev_c (rv_I (g := fun i j => .int (i * j)) (.inr ⟨by decide, by decide⟩))) ev_c (rv_I0 (g := fun i j => .int (i + j))))) ev_c (rv_I (g := fun i j => .int (i % j)) (by decide))) (ev_var rfl) ev_c (by decide : 2 < 4) fun H5 e5 => ?_
        have h6 : upd H5 R (.lst (rowL S (i1 + 1) ((i2 * 48271 + 11) % 2147483647) i3)) R = some (.lst (rowL S (i1 + 1) ((i2 * 48271 + 11) % 2147483647) i3)) := upd_same
        refine s_ret (ev_op (ev_int1 (ev_op (ix rfl h6 rfl) ev_c (rv_I (g := fun i j => .int (i / j)) ⟨by decide, by decide⟩))) (ev_var rfl) (rv_I (g := fun i j => .int (i % j)) hm')) fun H6 e6 => fin _ H6 ((k2.trans ((Kx.of (e4.trans e5)).dict)).trans (Kx.of e6)) ?_
        exact ⟨i1 + 1, (i2 * 48271 + 11) % 2147483647, i3, e6 _ _ h6, ex_l e6 (ne (e5 _ _ h4) _ (ex_l (e4.trans e5) hS2)), by omega, Int.emod_nonneg _ (by decide), Int.emod_lt_of_pos _ (by decide), p4⟩
      · have h4 := e4 _ _ h2
        have hle : i1 + 1 ≤ (ns.length : Int) := by
          have := of_decide_eq_false hb2
          omega
        obtain ⟨c, hc⟩ : ∃ c, ns[i1.toNat]? = some c := ⟨_, List.getElem?_eq_getElem (by omega)⟩
        have hat : atI (ns.map V.int) (i1 + 1 - 1) = some (.int c) := by
          have e : i1 + 1 - 1 = (i1.toNat : Int) := by omega
          rw [e]
          exact at_of rfl (by rw [List.getElem?_map, hc]; rfl)
        have hS4 := ex_l e4 hS2
        refine q_asg (v := .int c) (ev_op (ix rfl h4 rfl) (ev_op (ix rfl h4 rfl) ev_c (rv_I0 (g := fun i j => .int (i - j)))) (rv_ixL hS4 hat)) fun H5 e5 => ?_
        have h5 := e5 _ _ h4
        refine q_setL (v := .int ((i2 * 48271 + c + 11) % 2147483647)) (j := 2) h5 (ev_op (ev_int1 (ev_op (ev_op (ev_op (ix rfl h5 rfl) ev_c (rv_I (g := fun i j => .int (i * j)) (.inr ⟨by decide, by decide⟩))) (ev_var rfl) (rv_I0 (g := fun i j => .int (i + j)))) ev_c (rv_I0 (g := fun i j => .int (i + j))))) ev_c (rv_I (g := fun i j => .int (i % j)) (by decide))) (ev_var rfl) ev_c (by decide : 2 < 4) fun H6 e6 => ?_
        have hS7 := ne (e6 _ _ h5) (.lst (rowL S (i1 + 1) ((i2 * 48271 + c + 11) % 2147483647) i3)) (ex_l (e5.trans e6) hS4)
        have k7 : Kx R H (upd H6 R (.lst (rowL S (i1 + 1) ((i2 * 48271 + c + 11) % 2147483647) i3))) := k2.trans ((Kx.of ((e4.trans e5).trans e6)).dict)
        have h7 : upd H6 R (.lst (rowL S (i1 + 1) ((i2 * 48271 + c + 11) % 2147483647) i3)) R = some (.lst (rowL S (i1 + 1) ((i2 * 48271 + c + 11) % 2147483647) i3)) := upd_same
        have n0 : 0 ≤ (i2 * 48271 + c + 11) % 2147483647 := Int.emod_nonneg _ (by decide)
        have n1 : (i2 * 48271 + c + 11) % 2147483647 < 2147483647 := Int.emod_lt_of_pos _ (by decide)
        show tSeq _ _ _ _ (upd H6 R (.lst (rowL S (i1 + 1) ((i2 * 48271 + c + 11) % 2147483647) i3)))
        generalize upd H6 R (.lst (rowL S (i1 + 1) ((i2 * 48271 + c + 11) % 2147483647) i3)) = H7 at hS7 k7 h7
        generalize (i2 * 48271 + c + 11) % 2147483647 = i2' at h7 n0 n1
        refine q_when (b := decide ((10 : Int) ^ (18 : Int).toNat ≤ c)) (et_test (ev_op (ev_var rfl) (ev_op ev_c ev_c (rv_I (g := fun i j => .int (i ^ j.toNat)) ⟨by decide, by decide, by decide⟩)) (rv_I0 (g := fun i j => .bl (decide (j ≤ i)))))) (fun hb3 H8 e8 => ?_) (fun hb3 H8 e8 => ?_)
        · have hc0 : 0 ≤ c := by
            have h9 := of_decide_eq_true hb3
            have : (0 : Int) ≤ (10 : Int) ^ (18 : Int).toNat := by decide
            omega
          have h8 := e8 _ _ h7
          refine s_setL (v := .int (c / (m : Int))) (j := 3) h8 (ev_op (ev_var rfl) (ev_var rfl) (rv_I (g := fun i j => .int (i / j)) ⟨hm', by omega⟩)) (ev_var rfl) ev_c (by decide : 3 < 4) fun H9 e9 => ?_
          dsimp only
          refine s_ret (ev_op (ev_int1 (i := c) (ev_var rfl)) (ev_var rfl) (rv_I (g := fun i j => .int (i % j)) hm')) fun Ha ea => fin c Ha ((k7.trans ((Kx.of (e8.trans e9)).dict)).trans (Kx.of ea)) ?_
          exact ⟨i1 + 1, i2', c / (m : Int), ea _ _ upd_same, ex_l ea (ne (e9 _ _ h8) _ (ex_l (e8.trans e9) hS7)), by omega, n0, n1, Int.ediv_nonneg hc0 (by omega)⟩
        · refine s_ret (ev_op (ev_int1 (ev_var rfl)) (ev_var rfl) (rv_I (g := fun i j => .int (i % j)) hm')) fun Ha ea => fin c Ha ((k7.trans (Kx.of e8)).trans (Kx.of ea)) ?_
          exact ⟨i1 + 1, i2', i3, ea _ _ (e8 _ _ h7), ex_l (e8.trans ea) hS7, by omega, n0, n1, p4⟩
abbrev CTaken (P : Program) (w : World) (K : PySem.W.Frag) (mg : Str → Option Value) (base : Heap) : Prop := Cal P w K mg base 1 "_law_taken" ["_law_row", "_law_many"] (spTaken K)
theorem ok_pick {f : Addr} {fd : FuncData} (F : Fun K "_law_pick" "_law_pick" sPick f fd) (B : Blt mg) (C : CTaken P w K mg base) : FnOk P w K mg base CX0 2 f fd ["_law_row", "_law_things"] (spPick K) := by
  refine F.ok scPick (fun vs H Q E h => ?_) (fun cdv A outer s H vs Q E hr h => ?_)
  · obtain ⟨R, S, T, ns, l, rfl, _⟩ := h
    rfl
  · obtain ⟨R, S, T, ns, l, rfl, hT, hne, hz, dr, q⟩ := h
    refine ⟨_, pss_one (ps_ret (pe_ix ix_list (pv 1) (pe_cal C hr (by rfl) (pa_cons (pv 0) (pa_cons (pe_callB call_len_seq (by rfl) B.len PySem.boot_len (pa_cons (pv 1) pa_nil)) pa_nil))) (fun _ _ => rfl))), ?_⟩
    have hl : 0 < l.length := List.length_pos_iff.mpr hne
    obtain ⟨i1, i2, i3, hR, _⟩ := id dr
    refine s_retRaw ⟨.ref T, rfl, .ref R, rfl, .ref T, rfl, T, nT l, rfl, .inl hT, R, S, ns, l.length, by rw [nT_len]; rfl, hl, by omega, dr, fun v H2 hv k d => ⟨T, nT l, (v : Int), nI (l.mxa v), rfl, rfl, k.lL hR nT_row hT, atI_nT hv, q (l.mxa v) H2 ?_ k d⟩⟩
    have : l.mxa v = l[v] := by simp [List.mxa, List.getD_eq_getElem?_getD, hv]
    rw [this]
    exact List.getElem_mem hv
theorem ok_alike {f : Addr} {fd : FuncData} (F : Fun K "_law_alike" "_law_alike" sAlike f fd) (B : Blt mg) : FnOk P w K mg base CX0 1 f fd ["_law_found", "_law_due"] spAlike := by
  refine F.ok scAlike (fun vs H Q E h => ?_) (fun cdv A outer s H vs Q E hr h => ?_)
  · obtain ⟨i, rfl, _⟩ := h
    rfl
  · obtain ⟨i, rfl, q⟩ := h
    refine ⟨_, pss_cons (ps_if (pt_val (pe_callB call_isiT (by rfl) B.isi (by decide +kernel) (pa_cons (pv 1) (pa_cons (pe_tup (pa_cons (pe_bltn (v := .ty "tuple") (by rfl) B.tuple (by decide +kernel) rfl) (pa_cons (pe_bltn (v := .ty "list") (by rfl) B.list (by decide +kernel) rfl) pa_nil))) pa_nil)))) pss_never pss_nil)
      (pss_cons (ps_if (PW.pt (pw_or (pt_cmpR op_isN (pv 1) pe_non (nomark _)) (pw_or1 (pt_val (pe_callB call_isi (by rfl) B.isi (by decide +kernel) (pa_cons (pv 1) (pa_cons (pe_bltn (v := .ty "str") (by rfl) B.str (by decide +kernel) rfl) pa_nil))))))) pss_never pss_nil)
      (pss_one (ps_ret (pe_and (pe_callB call_isi (by rfl) B.isi (by decide +kernel) (pa_cons (pv 0) (pa_cons (pe_bltn (v := .ty "int") (by rfl) B.int (by decide +kernel) rfl) pa_nil)))
        (pe_and (pe_cmpR op_eq (pe_callB call_isi (by rfl) B.isi (by decide +kernel) (pa_cons (pv 0) (pa_cons (pe_bltn (v := .ty "bool") (by rfl) B.bool (by decide +kernel) rfl) pa_nil))) (pe_callB call_isi (by rfl) B.isi (by decide +kernel) (pa_cons (pv 1) (pa_cons (pe_bltn (v := .ty "bool") (by rfl) B.bool (by decide +kernel) rfl) pa_nil))) (nomark _))
        (pe_one (pe_cmpR op_eq (pv 0) (pv 1) (nomark _)))))))), ?_⟩
    refine q_when (b := false) (fun H1 e1 Qt k => ⟨.int i, rfl, by rw [sizeLine_eq]; exact (by decide : 2 ≤ 16777216), fun p hp => ⟨.int i, p, [.ty "tuple", .ty "list"], .type "int", [.type "tuple", .type "list"], false, rfl, upd_same, .cons (.ty _) (.cons (.ty _) .nil), ty_int i, kitAny_cons (b := false) (kit_ty (by decide +kernel)) (fun _ => kitAny_cons (b := false) (kit_ty (by decide +kernel)) (fun _ => kitAny_nil) (fun z => by cases z)) (fun z => by cases z), false, rfl, k _ (Ex.new hp)⟩⟩) (fun z => by cases z) (fun _ H1 e1 => ?_)
    refine q_when (b := false) (et_or (a := false) (b := false) (et_test fun H2 e2 Q' k => ⟨.int i, rfl, rfl, k H2 (Ex.refl H2)⟩) fun _ => et_B (ev_cb (ea_cons (ev_var rfl) (ea_cons ev_c ea_nil)) (rc_isi (fun _ _ => ty_int i) (kit_ty (by decide +kernel))))) (fun z => by cases z) (fun _ H2 e2 => ?_)
    have bl : ∀ {j : Nat} {H3 : Hp}, ([some (.int i), some (.int i), none] : L2.St)[j]? = some (some (.int i)) → Ev (tCB (rIsi K) (tCons (tVar j) (tCons (tC (.ty "bool")) tNil))) [some (.int i), some (.int i), none] H3 (.bl false) := fun h => ev_cb (ea_cons (ev_var h) (ea_cons ev_c ea_nil)) (rc_isi (fun _ _ => ty_int i) (kit_ty (by decide +kernel)))
    refine s_ret (ev_andV (a := true) (b := true) (ev_cb (ea_cons (ev_var rfl) (ea_cons ev_c ea_nil)) (rc_isi (fun _ _ => ty_int i) (kit_ty (by decide +kernel)))) fun _ => ev_andV (a := true) (b := true) (ev_op (bl rfl) (bl rfl) (rv_eq rfl)) fun _ => ev_is (ev_op (ev_var rfl) (ev_var rfl) (rv_eq rfl)) (by rw [decide_eq_true rfl])) fun H3 e3 => q H3 ((e1.trans e2).trans e3)
end
end MxD
namespace MxD
open PySem PySem.Spec PyProof.Rows L2 Evl MxR Mx MxB MxE StX RZ
abbrev sLHouse : Stmt := topS 42
theorem scLHouse : FnScope ["_law_row", "_law_most", "_law_size", "_law_part", "_law_doors", "_law_one", "_law_other"] ["_law_row", "_law_most"] (defScope sLHouse) := ⟨rfl, rfl, rfl, by decide +kernel, rfl, by decide +kernel, by decide +kernel⟩
def spLHouse (K : PySem.W.Frag) : Sp := fun vs H Q _ => ∃ (R S : Addr) (ns : List Int), vs = [.ref R, nI 6] ∧ Drw K S ns H R ∧ ∀ h H2 n D, House n D → HouseAt K H2 h n D → Kx R H H2 → Drw K S ns H2 R → Q (.ref h) H2
/-- the doors that were drawn up to (i, j) -/
structure Drawn (n i j : Nat) (D : Doors) : Prop where
  ok : ∀ p ∈ D, p.1 < p.2 ∧ p.2 < n
  asc : D.Pairwise Mx.lexLt
  before : ∀ p ∈ D, p.1 < i ∨ (p.1 = i ∧ p.2 < i + 1 + j)
  few : D.length ≤ 4 * i + 1 + j
  first : i = 0 → D.length ≤ j
theorem Drawn.skip {n i j : Nat} {D : Doors} (d : Drawn n i j D) : Drawn n i (j + 1) D :=
  ⟨d.ok, d.asc, fun p hp => by have := d.before p hp; omega, by have := d.few; omega, fun h => by have := d.first h; omega⟩
theorem Drawn.more {n i j : Nat} {D : Doors} (d : Drawn n i j D) (h : i + 1 + j < n) : Drawn n i (j + 1) (D ++ [(i, i + 1 + j)]) := by
  refine ⟨fun p hp => ?_, ?_, fun p hp => ?_, ?_, fun h => ?_⟩
  · rcases List.mem_append.mp hp with hp | hp
    · exact d.ok p hp
    · obtain rfl := List.mem_singleton.mp hp
      exact ⟨by show i < i + 1 + j; omega, h⟩
  · rw [List.pairwise_append]
    refine ⟨d.asc, List.pairwise_singleton _ _, fun p hp q hq => ?_⟩
    obtain rfl := List.mem_singleton.mp hq
    rcases d.before p hp with h1 | ⟨h1, h2⟩
    · exact .inl h1
    · exact .inr ⟨h1, h2⟩
  · rcases List.mem_append.mp hp with hp | hp
    · have := d.before p hp
      omega
    · obtain rfl := List.mem_singleton.mp hp
      exact .inr ⟨rfl, by show i + 1 + j < i + 1 + (j + 1); omega⟩
  · have := d.few
    rw [List.length_append]
    show D.length + 1 ≤ _
    omega
  · have := d.first h
    rw [List.length_append]
    show D.length + 1 ≤ _
    omega
theorem Drawn.turn {n i j : Nat} {D : Doors} (d : Drawn n i j D) (hn : n ≤ 6) (hi : i < n) (hj : i + 1 + j = n) : Drawn n (i + 1) 0 D := by
  refine ⟨d.ok, d.asc, fun p hp => ?_, ?_, fun h => by omega⟩
  · have := d.before p hp
    omega
  · have h1 := d.few
    have h2 := d.first
    by_cases h0 : i = 0
    · have := h2 h0
      omega
    · omega
theorem Drawn.nil {n : Nat} : Drawn n 0 0 [] := ⟨by simp, .nil, by simp, by simp, by simp⟩
section
variable {P : Program} {w : World} {K : PySem.W.Frag} {mg : Str → Option Value} {base : Heap}
theorem sql_keep {H H' : Hp} {F S : Addr} {xs : List V} {o : HO} (h0 : SqL K H S xs) (hF : H F = none) (h : SqL K H' S xs) : SqL K (upd H' F o) S xs := by
  have ne : (∃ u, H S = some u) → S ≠ F := fun ⟨u, hu⟩ z => by
    rw [z, hF] at hu
    cases hu
  have go : S ≠ F → SqL K (upd H' F o) S xs := fun z => by
    rcases h with (h | ⟨u, h⟩) | h
    · exact .inl (.inl (by rw [upd_ne z]; exact h))
    · exact .inl (.inr ⟨u, by rw [upd_ne z]; exact h⟩)
    · exact .inr h
  rcases h0 with (h0 | ⟨u, h0⟩) | h0
  · exact go (ne ⟨_, h0⟩)
  · exact go (ne ⟨_, h0⟩)
  · exact .inr h0
theorem Drw.set {H H' : Hp} {F S R : Addr} {ns : List Int} {o : HO} (d0 : Drw K S ns H R) (hF : H F = none) (d : Drw K S ns H' R) : Drw K S ns (upd H' F o) R := by
  obtain ⟨i1, i2, i3, hR, hS, r⟩ := d
  obtain ⟨_, _, _, hR0, hS0, _⟩ := d0
  exact ⟨i1, i2, i3, by rw [upd_ne (ne_of_none hR0 hF)]; exact hR, sql_keep hS0 hF hS, r⟩
/-- where the doors stand while they are drawn -/
structure Dor (K : PySem.W.Frag) (S : Addr) (ns : List Int) (R F : Addr) (n : Nat) (H H' : Hp) (i j : Nat) : Prop where
  kx : Kx R H H'
  dr : Drw K S ns H' R
  at' : ∃ ds D, H' F = some (.lst ds) ∧ Paired (DoorAt K H') ds D ∧ Drawn n i j D
theorem Dor.mono {S R F : Addr} {ns : List Int} {n : Nat} {H H' H2 : Hp} {i j : Nat} (d : Dor K S ns R F n H H' i j) (e : Ex H' H2) : Dor K S ns R F n H H2 i j := by
  obtain ⟨ds, D, h1, h2, h3⟩ := d.at'
  exact ⟨d.kx.trans (Kx.of e), d.dr.mono e, ds, D, e _ _ h1, Paired.mapP h2 fun _ _ x => x.mono e, h3⟩
theorem Dor.kxm {S R F : Addr} {ns : List Int} {n : Nat} {H H' H2 : Hp} {i j : Nat} (d : Dor K S ns R F n H H' i j) (hF : F ≠ R) (e : Kx R H' H2) (d2 : Drw K S ns H2 R) : Dor K S ns R F n H H2 i j := by
  obtain ⟨ds, D, h1, h2, h3⟩ := d.at'
  obtain ⟨i1, i2, i3, hR, _⟩ := d.dr
  exact ⟨d.kx.trans e, d2, ds, D, e _ _ hF h1, Paired.mapP h2 fun v p ⟨t, e1, e2⟩ => ⟨t, e1, e.tL hR e2⟩, h3⟩
theorem Dor.step {S R F : Addr} {ns : List Int} {n : Nat} {H H' : Hp} {i j i2 j2 : Nat} (d : Dor K S ns R F n H H' i j) (f : ∀ D, Drawn n i j D → Drawn n i2 j2 D) : Dor K S ns R F n H H' i2 j2 := by
  obtain ⟨ds, D, h1, h2, h3⟩ := d.at'
  exact ⟨d.kx, d.dr, ds, D, h1, h2, f D h3⟩
theorem ok_lhouse {f : Addr} {fd : FuncData} (F : Fun K "_law_house" "_law_house" sLHouse f fd) (B : Blt mg) (C : CTaken P w K mg base) : FnOk P w K mg base CX0 2 f fd ["_law_row", "_law_most"] (spLHouse K) := by
  refine F.ok scLHouse (fun vs H Q E h => ?_) (fun cdv A outer s H vs Q E hr h => ?_)
  · obtain ⟨R, S, ns, rfl, _⟩ := h
    rfl
  · obtain ⟨R, S, ns, rfl, dr0, q⟩ := h
    have nd := scLHouse.nd
    refine ⟨_, pss_cons (ps_set (i := 2) nd rfl (.inl rfl) (pe_op op_add pe_int (pe_cal C hr (by rfl) (pa_cons (pv 0) (pa_cons (pv 1) pa_nil)))))
      (pss_cons (ps_par (i := 3) (j := 4) rfl nd rfl rfl (by decide) rfl rfl (pa_cons (pe_op op_add pe_int (pe_cal C hr (by rfl) (pa_cons (pv 0) (pa_cons pe_int pa_nil)))) (pa_cons (pe_lst pa_nil) pa_nil)) (by rfl))
      (pss_cons (ps_for PassesOwn.never rfl (pi_range1 (by rfl) B.range (pa_cons (pv 2) pa_nil)) (pg_name (i := 5) nd rfl (.inl rfl))
        (pss_one (ps_for PassesOwn.never rfl (pi_range2 (by rfl) B.range (pa_cons (pe_op op_add (pv 5) pe_int) (pa_cons (pv 2) pa_nil))) (pg_name (i := 6) nd rfl (.inl rfl))
          (pss_one (ps_if (pt_cmpR op_lt (pe_cal C hr (by rfl) (pa_cons (pv 0) (pa_cons pe_int pa_nil))) (pv 3) (nomark _))
            (pss_one (ps_expr (pe_bm PySem.F.plainAttrs_list PySem.F.slot_list_append PySem.F.type_list_append mt_append (pv 4) (pa_cons (pe_tup (pa_cons (pv 5) (pa_cons (pv 6) pa_nil))) pa_nil)))) pss_nil)))))
      (pss_one (ps_ret (pe_tup (pa_cons (pv 2) (pa_cons (pe_callTy (r := rTupOf K) call_tuple_of (by rfl) B.tuple (by decide +kernel) (pa_cons (pv 4) pa_nil)) pa_nil))))))), ?_⟩
    -- the size
    refine q_raw ⟨.ref R, rfl, nI 6, rfl, R, S, ns, 6, rfl, by decide, by decide, dr0, fun n0 H1 hn0 k1 dr1 => ⟨1, (n0 : Int), rfl, rfl, ?_⟩⟩
    have en : V.int (1 + (n0 : Int)) = nI (1 + n0) := by show V.int _ = V.int _; congr 1
    show tSeq _ _ _ [some (.ref R), some (nI 6), some (V.int (1 + (n0 : Int))), none, none, none, none] H1
    rw [en]
    have hn : 1 ≤ 1 + n0 ∧ 1 + n0 ≤ 6 := by omega
    generalize 1 + n0 = n at hn
    -- the part, the doors
    refine q_seq ⟨.ref R, rfl, R, S, ns, 4, rfl, by decide, by decide, dr1, fun m0 H2 hm0 k2 dr2 => ⟨1, (m0 : Int), rfl, rfl, by rw [sizeLine_eq]; exact Nat.zero_le _, fun F hF => ⟨_, _, rfl, ?_⟩⟩⟩
    show tSeq _ _ _ [some (.ref R), some (nI 6), some (nI n), some (.int (1 + (m0 : Int))), some (.ref F), none, none] (upd H2 F (.lst []))
    generalize (1 : Int) + (m0 : Int) = part
    have hFR : F ≠ R := by
      obtain ⟨_, _, _, hR, _⟩ := dr2
      exact (ne_of_none hR hF).symm
    have k12 : Kx R H H2 := k1.trans k2
    have d0 : Dor K S ns R F n H2 (upd H2 F (.lst [])) 0 0 := ⟨Kx.of (Ex.new hF), dr2.mono (Ex.new hF), [], [], upd_same, .nil, Drawn.nil⟩
    refine q_forR1 (n := (n : Int)) (ea_cons (ev_var rfl) ea_nil) ⟨by omega, by omega⟩ (fun i σ' H' => (∃ y5 y6, σ' = [some (.ref R), some (nI 6), some (nI n), some (.int part), some (.ref F), y5, y6]) ∧ Dor K S ns R F n H2 H' i 0)
      (fun H3 e3 => ⟨⟨none, none, rfl⟩, d0.mono e3⟩) ?_ ?_
    · rintro i σ' H' hi ⟨⟨y5, y6, rfl⟩, dd⟩
      have hin : i < n := by omega
      refine s_forR2 (lo := (i : Int) + 1) (n := (n : Int)) (ea_cons (ev_op (ev_var rfl) ev_c (rv_I0 (g := fun i j => .int (i + j)))) (ea_cons (ev_var rfl) ea_nil)) ⟨by omega, by omega, by omega, by omega⟩
        (fun j σ' H' => (∃ y6, σ' = [some (.ref R), some (nI 6), some (nI n), some (.int part), some (.ref F), some (nI i), y6]) ∧ Dor K S ns R F n H2 H' i j) (fun H3 e3 => ⟨⟨y6, rfl⟩, dd.mono e3⟩) ?_ ?_
      · rintro j σ' H' hj ⟨⟨y6, rfl⟩, dd⟩
        have ej : V.int ((i : Int) + 1 + (j : Int)) = nI (i + 1 + j) := by show V.int _ = V.int _; congr 1
        show tIfS _ _ _ _ [some (.ref R), some (nI 6), some (nI n), some (.int part), some (.ref F), some (nI i), some (V.int ((i : Int) + 1 + (j : Int)))] H'
        rw [ej]
        refine ⟨.ref R, rfl, R, S, ns, 5, rfl, by decide, by decide, dd.dr, fun v H3 hv k3 dr3 => ⟨.int part, rfl, (v : Int), part, rfl, rfl, decide ((v : Int) < part), rfl, ?_⟩⟩
        have d3 := dd.kxm hFR k3 dr3
        cases hb : decide ((v : Int) < part) with
        | false => exact ⟨⟨_, rfl⟩, d3.step fun D x => x.skip⟩
        | true =>
          obtain ⟨ds, D, h1, h2, h3⟩ := d3.at'
          have few : D.length ≤ 100 := by have := h3.few; omega
          refine s_appU (xs := ds) (ys := [nI i, nI (i + 1 + j)]) h1 (ev_var rfl) (eu_tup (ea_cons (ev_var rfl) (ea_cons (ev_var rfl) ea_nil)) (show 2 ≤ 100000 by decide)) (by rw [Paired.length h2]; omega) fun t H4 ht e4 h4 => ⟨⟨_, rfl⟩, ?_⟩
          refine ⟨(d3.kx.trans (Kx.of e4)).mut hF, Drw.set dr2 hF (dr3.mono e4), _, _, upd_same, Paired.app (Paired.mapP h2 fun v p ⟨t, e1, e2⟩ => ⟨t, e1, sqT_wr (e4 _ _ h1) (ex_t e4 e2)⟩) (.cons ⟨t, rfl, sqT_wr (e4 _ _ h1) (st_of h4)⟩ .nil), h3.more (by omega)⟩
      · rintro σ' H' ⟨⟨y6, rfl⟩, dd⟩
        have e0 : ((n : Int) - ((i : Int) + 1)).toNat = n - (i + 1) := by omega
        rw [e0] at dd
        exact ⟨⟨_, _, rfl⟩, dd.step fun D x => x.turn hn.2 hin (by omega)⟩
    · rintro σ' H' ⟨⟨y5, y6, rfl⟩, dd⟩
      have e0 : ((n : Int)).toNat = n := by omega
      rw [e0] at dd
      obtain ⟨ds, D, h1, h2, h3⟩ := dd.at'
      refine s_retRaw ⟨nI n, rfl, ?_⟩
      refine eu_tupL (xs := ds) (K := K) (te := tVar 4) (σ := [some (.ref R), some (nI 6), some (nI n), some (.int part), some (.ref F), y5, y6]) (H := H') (a := F) (ev_var rfl) (sq_of h1) H' (Ex.refl H') _ fun d H3 hd e3 hd3 => ?_
      refine ⟨by rw [sizeLine_eq]; exact (by decide : 2 ≤ 16777216), fun h hh => ?_⟩
      have e4 := e3.trans (Ex.new (o := .tup [nI n, .ref d]) hh)
      have few : D.length ≤ 28 := by have := h3.few; omega
      exact q h _ n D ⟨hn.1, hn.2, h3.ok, h3.asc, few⟩ ⟨d, st_of upd_same, ds, st_of (Ex.new hh _ _ hd3), Paired.mapP h2 fun _ _ x => x.mono e4⟩ ((k12.trans dd.kx).trans (Kx.of e4)) (dd.dr.mono e4)
end
end MxD
namespace MxD
open PySem PySem.Spec PyProof.Rows L2 Evl MxR Mx MxB MxE StX RZ
abbrev sLParted : Stmt := topS 47
abbrev nParted : List Str := ["_law_row", "_law_house_here", "_law_top", "_law_rows", "_law_state", "_law_room", "_law_taken_here", "_law_fit", "_law_other", "_law_number"]
theorem scLParted : FnScope nParted ["_law_row", "_law_house_here", "_law_top"] (defScope sLParted) := ⟨rfl, rfl, rfl, by decide +kernel, rfl, by decide +kernel, by decide +kernel⟩
def spLParted (K : PySem.W.Frag) : Sp := fun vs H Q _ => ∃ (R S h : Addr) (ns : List Int) (n : Nat) (D : Doors), vs = [.ref R, .ref h, nI 3] ∧ House n D ∧ HouseAt K H h n D ∧ Drw K S ns H R ∧
  ∀ q H2 s, H2 q = some (.tup (nT s)) → s.length = n → (∀ x ∈ s, x ≤ 60) → Parted D s → Kx R H H2 → Drw K S ns H2 R → Q (.ref q) H2
/-- a state, parted up to room i -/
structure Upto (n : Nat) (D : Doors) (i : Nat) (s : State) : Prop where
  len : s.length = n
  small : ∀ x ∈ s, x ≤ 60
  apart : ∀ p ∈ D, p.2 < i → s.mxa p.1 ≠ s.mxa p.2
def seen (row : List Nat) (i : Nat) (s : State) : List Nat := (row.filter fun o => decide (o < i)).map s.mxa
def fits (row : List Nat) (i : Nat) (s : State) : List Nat := (List.range (3 + 1 + (seen row i s).length)).filter fun k => !decide (k ∈ seen row i s)
theorem seen_len {row : List Nat} {i : Nat} {s : State} : (seen row i s).length ≤ row.length := by
  unfold seen
  rw [List.length_map]
  exact List.length_filter_le _ _
theorem fits_ne (row : List Nat) (i : Nat) (s : State) : fits row i s ≠ [] := fun z => by
  have h := pigeon (3 + 1 + (seen row i s).length) (seen row i s) fun k hk => by
    by_cases c : k ∈ seen row i s
    · exact c
    · have : k ∈ fits row i s := List.mem_filter.mpr ⟨List.mem_range.mpr hk, by simpa using c⟩
      rw [z] at this
      cases this
  omega
theorem Upto.set {n : Nat} {D : Doors} {i v : Nat} {s : State} {rows : List (List Nat)} (hh : House n D) (ho : RowsOk n D rows) (u : Upto n D i s) (hi : i < n) (hv : v ∈ fits (rows.getD i []) i s) : Upto n D (i + 1) (s.set i v) := by
  obtain ⟨h1, h2⟩ := List.mem_filter.mp hv
  have h1 := List.mem_range.mp h1
  have h2 : v ∉ seen (rows.getD i []) i s := by simpa using h2
  have sl := seen_len (row := rows.getD i []) (i := i) (s := s)
  have sh := ho.short i hi
  have il : i < s.length := by rw [u.len]; exact hi
  refine ⟨by rw [List.length_set, u.len], fun x hx => ?_, fun p hp hlt => ?_⟩
  · rcases List.mem_or_eq_of_mem_set hx with hx | rfl
    · exact u.small x hx
    · omega
  · have ok := hh.ok p hp
    rw [at_set il, at_set il]
    have n1 : p.1 ≠ i := by omega
    rw [if_neg n1]
    by_cases e : p.2 = i
    · rw [if_pos e]
      intro z
      refine h2 ?_
      rw [← z]
      refine List.mem_map.mpr ⟨p.1, List.mem_filter.mpr ⟨(ho.mem i hi p.1).mpr ?_, by simp; omega⟩, rfl⟩
      rw [← e]
      exact adj_iff.mpr (.inr hp)
    · rw [if_neg e]
      exact u.apart p hp (by omega)
section
variable {P : Program} {w : World} {K : PySem.W.Frag} {mg : Str → Option Value} {base : Heap}
theorem el_rep {σ : L2.St} {H : Hp} {te : TE} {n : Nat} (h : Ev te σ H (nI n)) (hn : n ≤ 1000) : EvL (tOp rRep (tLst (tCons (tC (.int 0)) tNil)) te) σ H (nT (List.replicate n 0)) := fun H1 e Q q =>
  el_lst (ea_cons (ev_c (v := .int 0)) ea_nil) (by decide : 1 ≤ 100000) H1 (Ex.refl H1) _ fun l H2 hl e2 h2 => h H2 (e.trans e2) _ fun H3 e3 => ⟨l, (n : Int), _, rfl, rfl, e3 _ _ h2, by omega, by omega, by
    rw [sizeLine_eq]
    show 1 * (n : Int).toNat ≤ 16777216
    omega, fun p hp => by
    have e4 : (List.replicate ((n : Int).toNat) [V.int 0]).flatten = nT (List.replicate n 0) := by
      have e5 : (n : Int).toNat = n := by omega
      rw [e5]
      clear e5 hn h q hp e3 h2
      unfold nT
      induction n with
      | zero => rfl
      | succ n ih => rw [List.replicate_succ, List.replicate_succ, List.flatten_cons, ih]; rfl
    rw [e4]
    exact q p _ (fresh_back (e2.trans e3) hp) ((e2.trans e3).trans (Ex.new hp)) upd_same⟩
theorem ok_lparted {f : Addr} {fd : FuncData} (F : Fun K "_law_parted" "_law_parted" sLParted f fd) (B : Blt mg) (C1 : Cal P w K mg base 1 "_law_near" ["_law_house_here"] (spNear K)) (C2 : Cal P w K mg base 2 "_law_pick" ["_law_row", "_law_things"] (spPick K)) : FnOk P w K mg base CX0 3 f fd ["_law_row", "_law_house_here", "_law_top"] (spLParted K) := by
  refine F.ok scLParted (fun vs H Q E h => ?_) (fun cdv A outer s H vs Q E hr h => ?_)
  · obtain ⟨R, S, h, ns, n, D, rfl, _⟩ := h
    rfl
  · obtain ⟨R, S, h, ns, n, D, rfl, hh, hH, dr0, q⟩ := h
    have nd := scLParted.nd
    have tp := hh.top
    obtain ⟨d, hd, hds⟩ := id hH
    refine ⟨_, pss_cons (ps_asg (pe_tup (pa_cons (pe_cal C1 (hr.mono (by decide)) (by rfl) (pa_cons (pv 1) pa_nil)) (pa_cons (pe_op op_rep (pe_lst (pa_cons pe_int pa_nil)) (pe_ix ix_tup (pv 1) pe_int (fun _ _ => rfl))) pa_nil)))
        (pg_tup rfl (pgs_cons (pg_name (i := 3) nd rfl (.inl rfl)) (pgs_cons (pg_name (i := 4) nd rfl (.inr rfl)) pgs_nil))))
      (pss_cons (ps_for PassesOwn.never rfl (pi_range1 (by rfl) B.range (pa_cons (pe_ix ix_tup (pv 1) pe_int (fun _ _ => rfl)) pa_nil)) (pg_name (i := 5) nd rfl (.inr rfl))
        (pss_cons (ps_set (i := 6) nd rfl (.inr rfl) (pe_lc (own := [("_law_other", 8)]) (g := gName 8) (tt := tTest (tOp (rI0 fun i j => .bl (decide (i < j))) (tVar 8) (tVar 5))) (te := tOp (rIxL K) (tVar 4) (tVar 8)) rfl nd (pi_list (pe_ix ix_list (pv 3) (pv 5) (fun _ _ => rfl)))
            (blkOk_by (own := [("_law_other", 8)]) (N := nParted) (sc := defScope sLParted) (by decide +kernel))
            (fun _ _ _ _ _ => pg_name (i := 8) nd rfl (Or.inl rfl)) (fun _ _ _ _ _ => pts_one (pt_cmpR op_lt (pv 8) (pv 5) (nomark _))) (fun _ _ _ _ _ => pe_ix ix_list (pv 4) (pv 8) (fun _ _ => rfl))))
        (pss_cons (ps_setLc (i := 7) (own := [("_law_number", 9)]) (g := gName 9) (tt := tTest (tOp (rIn K true) (tVar 9) (tVar 6))) (te := tVar 9) rfl nd rfl rfl (sw_true rfl rfl rfl (by decide +kernel))
            (pi_range1 (by rfl) B.range (pa_cons (pe_op op_add (pe_op op_add (pv 2) pe_int) (pe_callB call_len_seq (by rfl) B.len PySem.boot_len (pa_cons (pv 6) pa_nil))) pa_nil))
            (blkOk_by (own := [("_law_number", 9)]) (N := nParted) (sc := defScope sLParted) (by decide +kernel))
            (fun _ _ _ _ _ => pg_name (i := 9) nd rfl (Or.inl rfl)) (fun _ _ _ _ _ => pts_one (pt_cmpR op_notIn_seq (pv 9) (pv 6) (by rfl))) (fun _ _ _ _ _ => pv 9))
        (pss_one (ps_asg (pe_cal C2 hr (by rfl) (pa_cons (pv 0) (pa_cons (pv 7) pa_nil))) (pg_sub (pv 4) (pv 5) set_list))))))
      (pss_one (ps_ret (pe_callTy (r := rTupOf K) call_tuple_of (by rfl) B.tuple (by decide +kernel) (pa_cons (pv 4) pa_nil))))), ?_⟩
    refine q_raw ⟨.ref h, rfl, h, n, D, rfl, hh, hH, fun p H2 rows e2 ho hR2 => ?_⟩
    refine el_rep (σ := [some (.ref R), some (.ref h), some (nI 3), none, none, none, none, none, none, none]) (H := H2) (n := n) (ev_op (ev_var rfl) ev_c (rv_ixT (ex_t e2 hd) rfl)) (by omega) H2 (Ex.refl H2) _ fun F H3 hF e3 h3 => ?_
    refine ⟨by rw [sizeLine_eq]; exact (by decide : 2 ≤ 16777216), fun z hz => ⟨z, _, rfl, st_of upd_same, rfl, .ref p, [.ref F], rfl, .ref F, [], rfl, rfl, ?_⟩⟩
    have e4 : Ex H3 (upd H3 z (.tup [.ref p, .ref F])) := Ex.new hz
    have h4 := e4 _ _ h3
    show tSeq _ _ _ [some (.ref R), some (.ref h), some (nI 3), some (.ref p), some (.ref F), none, none, none, none, none] (upd H3 z (.tup [.ref p, .ref F]))
    generalize upd H3 z (.tup [.ref p, .ref F]) = H4 at e4 h4
    have e24 := e3.trans e4
    have dr2 := dr0.mono e2
    have hFR : F ≠ R := by
      obtain ⟨_, _, _, hR, _⟩ := dr2
      exact (ne_of_none hR hF).symm
    have hd2 := ex_t e2 hd
    have hdx : ∀ {H' : Hp}, Kx R H2 H' → SqT K H' h [nI n, .ref d] := fun k => by
      obtain ⟨_, _, _, hR, _⟩ := dr2
      exact k.tL hR hd2
    refine q_forR1 (n := (n : Int)) (ea_cons (ev_op (ev_var rfl) ev_c (rv_ixT (hdx (Kx.of e24)) rfl)) ea_nil) ⟨by omega, by omega⟩
      (fun i σ' H' => (∃ y5 y6 y7, σ' = [some (.ref R), some (.ref h), some (nI 3), some (.ref p), some (.ref F), y5, y6, y7, none, none]) ∧ Kx R H2 H' ∧ Drw K S ns H' R ∧ ∃ s, H' F = some (.lst (nT s)) ∧ Upto n D i s)
      (fun H5 e5 => ⟨⟨none, none, none, rfl⟩, Kx.of (e24.trans e5), dr2.mono (e24.trans e5), List.replicate n 0, e5 _ _ h4, List.length_replicate, fun x hx => by rw [List.eq_of_mem_replicate hx]; exact Nat.zero_le _, fun p _ hp => by omega⟩) ?_ ?_
    · rintro i σ' H' hi ⟨⟨y5, y6, y7, rfl⟩, k, dr, st, hst, up⟩
      have hin : i < n := by omega
      obtain ⟨vs, ra, hvs, hat, hra⟩ := rowsAt_get (k.rowsL dr2 hR2) (show i < rows.length by rw [ho.len]; exact hin)
      have sh := ho.short i hin
      have hrow : ∀ o ∈ rows.getD i [], o < n := fun o hoo => (hh.adj_lt ((ho.mem i hin o).mp hoo)).2.1
      have sl := seen_len (row := rows.getD i []) (i := i) (s := st)
      -- taken here
      refine q_asgL (xs := nT (seen (rows.getD i []) i st)) ?_ fun t H5 ht e5 h5 => ?_
      · have := el_L (K := K) (te := tOp (rIxL K) (tVar 4) (tVar 8)) (t := tTest (tOp (rI0 fun i j => .bl (decide (i < j))) (tVar 8) (tVar 5))) (l := rows.getD i []) (c := nI) (f := fun o => decide (o < i)) (v := fun o => nI (st.mxa o)) (a := ra) (tl := tOp (rIxL K) (tVar 3) (tVar 5)) (j := 8) (vs := [8])
          (σ := [some (.ref R), some (.ref h), some (nI 3), some (.ref p), some (.ref F), some (nI i), y6, y7, none, none]) (H := H') (ev_op (ev_var rfl) (ev_var rfl) (rv_ixL hvs hat)) hra (by omega) (fun _ => rfl)
          (fun x hx H5 e5 => et_test (ev_is (ev_op (ev_var rfl) (ev_var rfl) (rv_I0 (g := fun i j => .bl (decide (i < j))))) (by
            congr 1
            exact decide_eq_decide.mpr (by omega))))
          (fun x hx H5 e5 _ => ev_op (ev_var rfl) (ev_var rfl) (rv_ixL (sq_of (e5 _ _ hst)) (atI_nT (by rw [up.len]; exact hrow x hx))))
        have e6 : nT (seen (rows.getD i []) i st) = ((rows.getD i []).filter fun o => decide (o < i)).map fun o => nI (st.mxa o) := by
          unfold nT seen
          rw [List.map_map]
          rfl
        rw [e6]
        exact this
      -- fit
      refine q_asgL (xs := nT (fits (rows.getD i []) i st)) ?_ fun u H6 hu e6 h6 => ?_
      · exact el_R (te := tVar 9) (t := tTest (tOp (rIn K true) (tVar 9) (tVar 6))) (n := 3 + 1 + (seen (rows.getD i []) i st).length) (f := fun k => !decide (k ∈ seen (rows.getD i []) i st)) (v := nI) (j := 9) (vs := [9])
          (ea_cons (ev_is (ev_op (ev_op (ev_var rfl) ev_c (rv_I0 (g := fun i j => .int (i + j)))) (ev_len (ev_var rfl) (sq_of h5)) (rv_I0 (g := fun i j => .int (i + j)))) (by
            rw [nT_len]
            show V.int _ = V.int _
            congr 1)) ea_nil) (by omega) (fun _ => rfl)
          (fun x hx H7 e7 => et_test (ev_is (ev_op (ev_var rfl) (ev_var rfl) (rv_niL (sq_of (e7 _ _ h5)) rfl (flat_nT _))) (by rw [inV_nT]))) (fun x hx H7 e7 _ => ev_var rfl)
      -- pick
      have e7 := e5.trans e6
      have k7 := k.trans (Kx.of e7)
      refine s_raw ⟨.ref R, rfl, .ref u, rfl, R, S, u, ns, fits (rows.getD i []) i st, rfl, sq_of h6, fits_ne _ _ _, ?_, dr.mono e7, fun v H8 hv k8 dr8 => ?_⟩
      · have := List.length_filter_le (fun k => !decide (k ∈ seen (rows.getD i []) i st)) (List.range (3 + 1 + (seen (rows.getD i []) i st).length))
        rw [List.length_range] at this
        unfold fits
        omega
      · have h8 := k8 _ _ hFR (e7 _ _ hst)
        refine ⟨.ref F, rfl, nI i, rfl, F, nT st, (i : Int), i, rfl, rfl, h8, ixN_nat (by rw [nT_len, up.len]; exact hin), ⟨_, _, _, rfl⟩, (k7.trans k8).mut hF, Drw.set dr2 hF dr8, st.set i v, ?_, up.set hh ho hin hv⟩
        rw [upd_same]
        unfold nT
        rw [List.map_set]
    · rintro σ' H' ⟨⟨y5, y6, y7, rfl⟩, k, dr, st, hst, up⟩
      have e0 : (n : Int).toNat = n := by omega
      rw [e0] at up
      refine s_retU (eu_tupL (ev_var rfl) (sq_of hst)) fun t H5 ht e5 h5 => q t H5 st h5 up.len up.small (fun p hp => up.apart p hp (hh.ok p hp).2) (((Kx.of e2).trans k).trans (Kx.of e5)) (dr.mono e5)
end
end MxD
namespace MxD
open PySem PySem.Spec PyProof.Rows L2 Evl MxR Mx MxB MxE StX RZ
abbrev nLaw : List Str := ["_law_script", "_law_row", "_law_house_here", "_law_rows", "_law_state", "_law_changed", "_law_orders", "_law_turn", "_law_longer", "_law_part", "_law_right", "_law_by_number", "_law_rest", "_law_room", "_law_keys"]
abbrev sLaw : Stmt := topS 48
theorem scLaw : FnScope nLaw ["_law_script"] (defScope sLaw) := ⟨rfl, rfl, rfl, by decide +kernel, rfl, by decide +kernel, by decide +kernel⟩
def sg (S R h p a c O y7 y8 y9 y10 y11 b : Option V) : L2.St := [S, R, h, p, a, c, O, y7, y8, y9, y10, y11, b, none, none]
def step1 (ch q : List Nat) : List (List Nat) := (ch.filter fun x => decide (x ∉ q)).map fun x => q ++ [x]
theorem orders_six {ch : List Nat} {i : Nat} (hl : ch.length ≤ 6) (hi : i ≤ 6) : (orders ch i).length ≤ 46656 := by
  refine Nat.le_trans (orders_count ch i) (Nat.le_trans (Nat.pow_le_pow_left hl i) ?_)
  exact Nat.le_trans (Nat.pow_le_pow_right (by decide) hi) (by decide)
section
variable {K : PySem.W.Frag}
abbrev tLonger (K : PySem.W.Frag) : TE := tLc (iList K (tVar 5)) (gName 13) (tTest (tOp (rIn K true) (tVar 13) (tVar 9))) (tOp (rCatA K) (tVar 9) (tTup (tCons (tVar 13) tNil))) [13]
abbrev tOrders (K : PySem.W.Frag) : TS := tFor (iList K (tVar 5)) (gName 7) (tSeq (tAsg (tLst tNil) (gName 8)) (tSeq (tFor (iList K (tVar 6)) (gName 9) (tAsg (tOp rCat (tVar 8) (tLonger K)) (gName 8))) (tAsg (tVar 8) (gName 6))))
theorem orders_loop {S R h p a y7 y8 y9 y10 y11 b : Option V} {c O : Addr} {ch : List Nat} {us : List V} {H : Hp} {D : Ends} (hc : H c = some (.lst (nT ch))) (hl : ch.length ≤ 6) (hO : H O = some (.lst us)) (hT : TupsAt K H us ((orders ch 0).map nT))
    (k : ∀ O' us' z7 z8 z9 H', Ex H H' → H' O' = some (.lst us') → TupsAt K H' us' ((orders ch ch.length).map nT) → D.nx (sg S R h p a (some (.ref c)) (some (.ref O')) z7 z8 z9 y10 y11 b) H') : tOrders K D (sg S R h p a (some (.ref c)) (some (.ref O)) y7 y8 y9 y10 y11 b) H := by
  refine s_forL (a := c) (xs := nT ch) (ev_var rfl) (sq_of hc) (fun i σ' H' => (∃ O' us' z7 z8 z9, σ' = sg S R h p a (some (.ref c)) (some (.ref O')) z7 z8 z9 y10 y11 b ∧ H' O' = some (.lst us') ∧ TupsAt K H' us' ((orders ch i).map nT)) ∧ Ex H H')
    (fun H1 e1 => ⟨⟨O, us, y7, y8, y9, rfl, e1 _ _ hO, hT.mono e1⟩, e1⟩) (fun i σ' H' _ p => sq_of (p.2 _ _ hc)) ?_ ?_
  · rintro i x σ' H' hi ⟨⟨O', us', z7, z8, z9, rfl, hO', hT'⟩, e1⟩
    have hil : i < ch.length := by
      have := (List.getElem?_eq_some_iff.mp hi).1
      rw [nT_len] at this
      exact this
    have six := orders_six hl (show i ≤ 6 by omega)
    show tSeq _ _ _ (sg S R h p a (some (.ref c)) (some (.ref O')) (some x) z8 z9 y10 y11 b) H'
    refine q_asgL (el_lst ea_nil (by simp)) fun L H2 hL e2 h2 => ?_
    show tSeq _ _ _ (sg S R h p a (some (.ref c)) (some (.ref O')) (some x) (some (.ref L)) z9 y10 y11 b) H2
    have usl : us'.length = (orders ch i).length := by rw [paired_len hT', List.length_map]
    refine q_forL (a := O') (xs := us') (ev_var rfl) (sq_of (e2 _ _ hO')) (fun j σ' H' => (∃ L' ws z9, σ' = sg S R h p a (some (.ref c)) (some (.ref O')) (some x) (some (.ref L')) z9 y10 y11 b ∧ H' L' = some (.lst ws) ∧ TupsAt K H' ws ((((orders ch i).take j).flatMap (step1 ch)).map nT)) ∧ Ex H2 H')
      (fun H3 e3 => ⟨⟨L, [], z9, rfl, e3 _ _ h2, .nil⟩, e3⟩) (fun j σ' H' _ p => sq_of (p.2 _ _ (e2 _ _ hO'))) ?_ ?_
    · rintro j y σ' H3 hj ⟨⟨L', ws, z9, rfl, hL', hws⟩, e3⟩
      obtain ⟨w, hw, t, rfl, ht⟩ := pget1 hT' hj
      rw [List.getElem?_map] at hw
      obtain ⟨q, hq, rfl⟩ := Option.map_eq_some_iff.mp hw
      have ht3 := ex_t (e2.trans e3) ht
      have hc3 := e3 _ _ (e2 _ _ (e1 _ _ hc))
      have ql : q.length ≤ 6 := by
        have := (orders_len ch i q (List.mem_of_getElem? hq)).1
        omega
      show tAsg _ _ _ (sg S R h p a (some (.ref c)) (some (.ref O')) (some x) (some (.ref L')) (some (.ref t)) y10 y11 b) H3
      have comp := et_L (K := K) (te := tOp (rCatA K) (tVar 9) (tTup (tCons (tVar 13) tNil))) (t := tTest (tOp (rIn K true) (tVar 13) (tVar 9))) (l := ch) (xs := nT ch) (f := fun x => !decide (x ∈ q)) (w := fun x => nT q ++ [nI x]) (a := c) (tl := tVar 5) (j := 13) (vs := [13])
        (σ := sg S R h p a (some (.ref c)) (some (.ref O')) (some x) (some (.ref L')) (some (.ref t)) y10 y11 b) (H := H3) (ev_var rfl) (sq_of hc3) (nT_len ch) (by omega) (fun _ => rfl)
        (fun m z y' hz hy' H4 e4 => by
          have : m < ch.length := (List.getElem?_eq_some_iff.mp hz).1
          rw [nT_get this] at hy'
          have ez : ch.mxa m = z := by simp [List.mxa, List.getD_eq_getElem?_getD, hz]
          rw [ez] at hy'
          obtain rfl := Option.some.inj hy'
          exact et_test (nin_nT (ev_var rfl) (ev_var rfl) (ex_t e4 ht3)))
        (fun m z y' hz hy' H4 e4 _ => by
          have : m < ch.length := (List.getElem?_eq_some_iff.mp hz).1
          rw [nT_get this] at hy'
          have ez : ch.mxa m = z := by simp [List.mxa, List.getD_eq_getElem?_getD, hz]
          rw [ez] at hy'
          obtain rfl := Option.some.inj hy'
          exact es_cat (EvS.ref (ev_var rfl) (ex_t e4 ht3)) (EvS.of (eu_tup (ea_cons (ev_var rfl) ea_nil) (show 1 ≤ 100000 by decide))) (by rw [nT_len]; show q.length + 1 ≤ 100000; omega))
      have ef : ((ch.filter fun x => !decide (x ∈ q)).map fun x => nT q ++ [nI x]) = (step1 ch q).map nT := by
        unfold step1
        rw [List.map_map]
        have e5 : (ch.filter fun x => !decide (x ∈ q)) = ch.filter fun x => decide (x ∉ q) := by
          congr 1
          funext x
          by_cases z : x ∈ q <;> simp [z]
        rw [e5]
        refine List.map_congr_left fun x _ => ?_
        show nT q ++ [nI x] = nT (q ++ [x])
        unfold nT
        rw [List.map_append]
        rfl
      rw [ef] at comp
      refine s_raw ⟨.ref L', rfl, comp H3 (Ex.refl _) _ fun r H4 zs hr e4 h4 hT4 => ⟨L', r, ws, zs, rfl, rfl, e4 _ _ hL', h4, ?_, fun M hM => ⟨⟨M, ws ++ zs, some (.ref t), rfl, upd_same, ?_⟩, (e3.trans e4).trans (Ex.new hM)⟩⟩⟩
      · have l1 : ws.length = (((orders ch i).take j).flatMap (step1 ch)).length := by rw [paired_len hws, List.length_map]
        have l2 : zs.length = (step1 ch q).length := by rw [paired_len hT4, List.length_map]
        have st6 : ∀ q, (step1 ch q).length ≤ 6 := fun q => by
          unfold step1
          rw [List.length_map]
          exact Nat.le_trans (List.length_filter_le _ _) hl
        have l3 := flat_le (f := step1 ch) (c := 6) ((orders ch i).take j) fun q _ => st6 q
        rw [List.length_take] at l3
        have l4 := st6 q
        have l5 : min j (orders ch i).length * 6 ≤ 46656 * 6 := Nat.mul_le_mul_right _ (by omega)
        rw [sizeLine_eq]
        omega
      · rw [take_snoc hq, List.flatMap_append, List.map_append]
        refine Paired.app (TupsAt.mono (e4.trans (Ex.new hM)) hws) ?_
        rw [List.flatMap_cons, List.flatMap_nil, List.append_nil]
        exact TupsAt.mono (Ex.new hM) hT4
    · rintro σ' H3 ⟨⟨L', ws, z9, rfl, hL', hws⟩, e3⟩
      refine s_asg (ev_var rfl) fun H4 e4 => ⟨⟨L', ws, some x, some (.ref L'), z9, rfl, e4 _ _ hL', ?_⟩, ((e1.trans e2).trans e3).trans e4⟩
      rw [usl, List.take_length] at hws
      exact TupsAt.mono e4 hws
  · rintro σ' H' ⟨⟨O', us', z7, z8, z9, rfl, hO', hT'⟩, e1⟩
    rw [nT_len] at hT'
    exact k O' us' z7 z8 z9 H' e1 hO' hT'
/-! ### what is kept over the lambda -/
variable {H H' : Hp}
theorem Ex.toN (e : Ex H H') : LamX.ExtN H H' := LamX.ExtN.of e
theorem rowsN {p : Addr} {rows : List (List Nat)} (e : LamX.ExtN H H') (h : RowsAt K H p rows) : RowsAt K H' p rows := let ⟨vs, a, b⟩ := h; ⟨vs, extN_list e a, Paired.mapP b fun _ _ ⟨q, x, y⟩ => ⟨q, x, extN_list e y⟩⟩
theorem houseN {h : Addr} {n : Nat} {D : Doors} (e : LamX.ExtN H H') (x : HouseAt K H h n D) : HouseAt K H' h n D := let ⟨d, a, ds, b, c⟩ := x; ⟨d, extN_tup e a, ds, extN_tup e b, Paired.mapP c fun _ _ ⟨t, y, z⟩ => ⟨t, y, extN_tup e z⟩⟩
theorem tupsN {vs : List V} {ws : List (List V)} (e : LamX.ExtN H H') (h : TupsAt K H vs ws) : TupsAt K H' vs ws := Paired.mapP h fun _ _ ⟨q, x, y⟩ => ⟨q, x, extN_tup e y⟩
theorem dp_tups : ∀ {vs : List V} {ws : List (List Nat)}, TupsAt K H vs (ws.map nT) → DpAll K H vs (ws.map fun w => PyData.tuple (dI w))
  | [], [], .nil => .nil
  | v :: vs, w :: ws, .cons ⟨q, e1, e2⟩ t => by
    subst e1
    exact .cons (dp_T e2) (dp_tups t)
theorem shaped_tups : ∀ ws : List (List Nat), SeqAt.shaped (.list (ws.map fun w => PyData.tuple (dI w))) = true := fun ws => by
  have h1 : ∀ ws : List (List Nat), PyData.canLayAll0 (ws.map fun w => PyData.tuple (dI w)) = true := fun ws => by
    induction ws with
    | nil => rfl
    | cons w ws ih =>
      have := SeqAt.canLay_of_shaped (shaped_dT w)
      rw [List.map_cons]
      simp only [PyData.canLayAll0, this, ih, Bool.and_self]
  have h2 : ∀ ws : List (List Nat), PyData.depthAll (ws.map fun w => PyData.tuple (dI w)) ≤ 2 := fun ws => by
    induction ws with
    | nil => simp [PyData.depthAll]
    | cons w ws ih =>
      have h3 : (PyData.tuple (dI w)).depth ≤ 1 := by
        unfold PyData.depth dI
        rw [PySem.W.depth_ints]
        exact Nat.le_refl _
      rw [List.map_cons]
      simp only [PyData.depthAll]
      omega
  unfold SeqAt.shaped
  rw [Bool.and_eq_true]
  refine ⟨?_, decide_eq_true ?_⟩
  · have := h1 ws
    simpa [PyData.canLay0] using this
  · have := h2 ws
    simp only [PyData.depth]
    omega
end
end MxD
namespace MxD
open PySem PySem.Spec PyProof.Rows L2 Evl MxR Mx MxB MxE StX RZ
def lamQ : Str := ("law" : Str) ++ ".<locals>." ++ "<lambda>"
def spLaw (K : PySem.W.Frag) (T : List (Addr × Str)) : Sp := fun vs H Q _ => ∃ (S : Addr) (ns : List Int), vs = [.ref S] ∧ SqL K H S (ns.map V.int) ∧ LamX.Tabs T H ∧ ∀ H2, Q (.bl true) H2
def rNotTrue : R2 := fun x y H Q => ∃ a b, x = .bl a ∧ y = .bl b ∧ Q (.bl (!decide (a = b))) H
section
variable {P : Program} {w : World} {K : PySem.W.Frag} {mg : Str → Option Value} {base : Heap}
theorem es_done {σ : L2.St} {H : Hp} {p a t : Addr} {rows : List (List Nat)} {st q : List Nat} {n : Nat} {D : Doors} {te1 te2 te3 : TE} (h1 : Ev te1 σ H (.ref p)) (h2 : Ev te2 σ H (.ref a)) (h3 : Ev te3 σ H (.ref t)) (hh : House n D) (ho : RowsOk n D rows) (hR : RowsAt K H p rows) (ha : SqT K H a (nT st)) (hl : st.length = n) (ht : SqT K H t (nT q)) (hq : ∀ k ∈ q, k < n) :
    EvS K (tCall (spLDone K) [] E0 (tCons te1 (tCons te2 (tCons te3 tNil)))) σ H (nT (done n D st q)) := fun H1 e Q k =>
  (ea_cons h1 (ea_cons h2 (ea_cons h3 ea_nil))) H1 e _ fun H2 e2 => ⟨p, a, t, rows, st, q, n, D, rfl, hh, ho, hR.mono (e.trans e2), ex_t (e.trans e2) ha, hl, ex_t (e.trans e2) ht, hq, fun r H3 e3 h3 => k r H3 (e2.trans e3) h3⟩
theorem lam_free : ∀ y ∈ ([(Str.ofString "_law_room", NameKind.local), (Str.ofString "_law_rest", NameKind.free)] : List (Str × NameKind)), y.2 = .free → (defScope sLaw).names.lookup y.1 = some .cell ∨ (defScope sLaw).names.lookup y.1 = some .free := by decide +kernel
theorem ok_law {f c PT : Addr} {oc : Value} {od an : Option Addr} {osl : Array (Option Value)} {kV doc pm ct : Value} (lk : K.lookup f = some ⟨oc, od, .func (PySem.W.fnOf "law" "law" (defArgs sLaw) (defBody sLaw) (defScope sLaw) .none kV doc pm an (.ref c) ct), osl⟩) (hcd : PySem.W.codeIn K (.ref c) "law" = true)
    (TB : LamX.TabB base mg c PT) (B : Blt mg) (CHouse : Cal P w K mg base 2 "_law_house" ["_law_row", "_law_most"] (spLHouse K)) (CNear : Cal P w K mg base 1 "_law_near" ["_law_house_here"] (spNear K)) (CParted : Cal P w K mg base 3 "_law_parted" ["_law_row", "_law_house_here", "_law_top"] (spLParted K))
    (CRests : Cal P w K mg base 11 "rests_below" ["house", "state"] (spRestsBelow K)) (CDone : Cal P w K mg base 3 "_law_done" ["_law_rows", "_law_state", "_law_keys"] (spLDone K)) (CShort : Cal P w K mg base 10 "count_shortest" ["house", "state", "rest"] (spCountShortest K))
    (CAlike : Cal P w K mg base 1 "_law_alike" ["_law_found", "_law_due"] spAlike) (CShows : Cal P w K mg base 8 "shows_row" ["house", "state", "rest", "value"] (spShowsRow K)) :
    FnOk P w K mg base CX0 15 f (PySem.W.fnOf "law" "law" (defArgs sLaw) (defBody sLaw) (defScope sLaw) .none kV doc pm an (.ref c) ct) ["_law_script"] (spLaw K [(PT, lamQ)]) := by
  refine fn_of (k := 14) lk hcd scLaw (fun vs H Q E h => ?_) (fun A outer s H vs Q E hr h => ?_)
  · obtain ⟨S, ns, rfl, _⟩ := h
    rfl
  · obtain ⟨S, ns, rfl, hS, tabs, q⟩ := h
    have nd := scLaw.nd
    have hr : Room 14 (A.deeper (envOfC "law" (defScope sLaw) s.heap.objs.size f (.ref c))) := hr
    have hu65 : (A.deeper (envOfC "law" (defScope sLaw) s.heap.objs.size f (.ref c))).units + 65 < cLine := by have := hr.un; omega
    suffices hsuff : ∃ t, PSs (cxOf CX0 P w K mg base nLaw "law" (defScope sLaw) f (.ref c) A outer s H E).nox (defBody sLaw) t ∧ t { nx := fun _ H' => Q .non H', rt := Q } (L2.start nLaw [.ref S]) H by
      obtain ⟨t, h1, h2⟩ := hsuff
      exact ⟨t, h1.nox, h2⟩
    refine ⟨_, pss_cons (ps_set (i := 1) nd rfl (.inl rfl) (pe_lst (pa_cons (pv 0) (pa_cons pe_int (pa_cons pe_int (pa_cons pe_int pa_nil))))))
      (pss_cons (ps_set (i := 2) nd rfl (.inl rfl) (pe_cal CHouse (hr.mono (by decide)) (by rfl) (pa_cons (pv 1) (pa_cons pe_int pa_nil))))
      (pss_cons (ps_asg (pe_tup (pa_cons (pe_cal CNear (hr.mono (by decide)) (by rfl) (pa_cons (pv 2) pa_nil)) (pa_cons (pe_cal CParted (hr.mono (by decide)) (by rfl) (pa_cons (pv 1) (pa_cons (pv 2) (pa_cons pe_int pa_nil)))) pa_nil)))
        (pg_tup rfl (pgs_cons (pg_name (i := 3) nd rfl (.inr rfl)) (pgs_cons (pg_name (i := 4) nd rfl (.inr rfl)) pgs_nil))))
      (pss_cons (ps_for PassesOwn.never rfl (pi_list (pe_slice sl_list (pe_cal CRests (hr.mono (by decide)) (by rfl) (pa_cons (pv 2) (pa_cons (pv 4) pa_nil))) po_none (po_some pe_int))) (pg_name (i := 12) nd rfl (.inr rfl))
        (pss_cons (ps_setLc (i := 5) (own := [("_law_room", 13)]) (g := gName 13) (tt := tTest (tOp (rI0 fun i j => .bl (decide (i < j))) (tOp (rIxT K) (tVar 12) (tVar 13)) (tOp (rIxT K) (tVar 4) (tVar 13)))) (te := tVar 13) rfl nd rfl rfl (sw_true rfl rfl rfl (by decide +kernel))
            (pi_range1 (by rfl) B.range (pa_cons (pe_ix ix_tup (pv 2) pe_int (fun _ _ => rfl)) pa_nil))
            (blkOk_by (own := [("_law_room", 13)]) (N := nLaw) (sc := defScope sLaw) (by decide +kernel))
            (fun _ _ _ _ _ => pg_name (i := 13) nd rfl (Or.inl rfl)) (fun _ _ _ _ _ => pts_one (pt_cmpR op_lt (pe_ix ix_tup (pv 12) (pv 13) (fun _ _ => rfl)) (pe_ix ix_tup (pv 4) (pv 13) (fun _ _ => rfl)) (nomark _))) (fun _ _ _ _ _ => pv 13))
        (pss_cons (ps_set (i := 6) nd rfl (.inl rfl) (pe_lst (pa_cons (pe_tup pa_nil) pa_nil)))
        (pss_cons (ps_for PassesOwn.never rfl (pi_list (pv 5)) (pg_name (i := 7) nd rfl (.inl rfl))
          (pss_cons (ps_set (i := 8) nd rfl (.inl rfl) (pe_lst pa_nil))
          (pss_cons (ps_for PassesOwn.never rfl (pi_list (pv 6)) (pg_name (i := 9) nd rfl (.inr rfl)) (pss_one (ps_set (i := 8) nd rfl (.inl rfl) (pe_op op_cat (pv 8)
            (pe_lc (own := [("_law_room", 13)]) (g := gName 13) (tt := tTest (tOp (rIn K true) (tVar 13) (tVar 9))) (te := tOp (rCatA K) (tVar 9) (tTup (tCons (tVar 13) tNil))) rfl nd (pi_list (pv 5))
              (blkOk_by (own := [("_law_room", 13)]) (N := nLaw) (sc := defScope sLaw) (by decide +kernel))
              (fun _ _ _ _ _ => pg_name (i := 13) nd rfl (Or.inl rfl)) (fun _ _ _ _ _ => pts_one (pt_cmpR op_notIn_seq (pv 13) (pv 9) (by rfl))) (fun _ _ _ _ _ => pe_op op_catA (pv 9) (pe_tup (pa_cons (pv 13) pa_nil))))))))
          (pss_one (ps_set (i := 6) nd rfl (.inl rfl) (pv 8))))))
        (pss_cons (ps_setLc (i := 10) (own := [("_law_keys", 14)]) (g := gName 14) (tt := tTest (tOp (rEqD K) (tCall (spLDone K) [] E0 (tCons (tVar 3) (tCons (tVar 4) (tCons (tVar 14) tNil)))) (tVar 12))) (te := tVar 14) rfl nd rfl rfl (sw_true rfl rfl rfl (by decide +kernel))
            (pi_list (pv 6))
            (blkOk_by (own := [("_law_keys", 14)]) (N := nLaw) (sc := defScope sLaw) (by decide +kernel))
            (fun _ _ _ _ _ => pg_name (i := 14) nd rfl (Or.inl rfl)) (fun _ _ _ _ _ => pts_one (pt_cmpR (op_eqD hr.units) (pe_cal CDone (hr.mono (by decide)) (by rfl) (pa_cons (pv 3) (pa_cons (pv 4) (pa_cons (pv 14) pa_nil)))) (pv 12) (nomark _))) (fun _ _ _ _ _ => pv 14))
        (pss_cons (ps_if (pt_not (pt_val (pe_cal CAlike (hr.mono (by decide)) (by rfl) (pa_cons (pe_cal CShort (hr.mono (by decide)) (by rfl) (pa_cons (pv 2) (pa_cons (pv 4) (pa_cons (pv 12) pa_nil)))) (pa_cons (pe_callB call_len_seq (by rfl) B.len PySem.boot_len (pa_cons (pv 10) pa_nil)) pa_nil))))) pss_never pss_nil)
        (pss_cons (ps_set (i := 11) nd rfl (.inl rfl) (pe_callTy (r := rTupOf K) call_tuple_of (by rfl) B.tuple (by decide +kernel) (pa_cons (pe_sortLam (T := [(PT, lamQ)]) (j := 12) (x := "_law_room") (r := "_law_rest") (k := 11)
            ⟨⟨_, _, _, _, _, _, rfl⟩, rfl, rfl, rfl, by decide +kernel, rfl, rfl, lam_free, by decide, by decide, by decide, fun _ => rfl, fun _ _ _ _ _ _ => rfl⟩ hr TB rfl (List.mem_singleton.mpr rfl) (fun p hp _ => by rw [List.mem_singleton.mp hp]; rfl) rfl rfl (by rfl) B.sorted (pv 5)) pa_nil)))
        (pss_one (ps_if (PW.pt (pw_or (pt_cmpR (op_notInD hu65) (pv 11) (pv 10) (by rfl)) (pw_or1 (pt_cmpR (r := rNotTrue) op_isnot_bl (pe_cal CShows (hr.mono (by decide)) (by rfl) (pa_cons (pv 2) (pa_cons (pv 4) (pa_cons (pv 12) (pa_cons (pv 11) pa_nil))))) pe_bl (nomark _))))) pss_never pss_nil)))))))))
      (pss_one (ps_ret pe_bl))))), ?_⟩
    have tabsK : ∀ {H' : Hp}, Ex H H' → LamX.Tabs [(PT, lamQ)] H' := fun e => tabs.ext e
    -- the row of draws
    refine q_asgL (xs := rowL S 0 6022 0) (el_lst (ea_cons (ev_var rfl) (ea_cons ev_c (ea_cons ev_c (ea_cons ev_c ea_nil)))) (show 4 ≤ 100000 by decide)) fun R H1 hR0 e1 h1 => ?_
    have kex : ∀ {H' : Hp}, Kx R H1 H' → Ex H H' := fun k b o hb => k b o (ne_of_none hb hR0) (e1 b o hb)
    have dr1 : Drw K S ns H1 R := ⟨0, 6022, 0, h1, ex_l e1 hS, by decide, by decide, by decide, by decide⟩
    -- the house
    refine q_raw ⟨.ref R, rfl, R, S, ns, rfl, dr1, fun h H2 n D hh hH k2 dr2 => ?_⟩
    -- rows, state
    refine q_raw ⟨.ref h, rfl, h, n, D, rfl, hh, hH, fun p H3 rows e3 ho hR3 => ⟨.ref R, rfl, .ref h, rfl, R, S, h, ns, n, D, rfl, hh, hH.mono e3, dr2.mono e3, fun a H4 st ha4 hl h60 hpt k4 dr4 => ⟨by rw [sizeLine_eq]; exact (by decide : 2 ≤ 16777216), fun z hz => ⟨z, _, rfl, st_of upd_same, rfl, .ref p, [.ref a], rfl, .ref a, [], rfl, rfl, ?_⟩⟩⟩⟩
    have e5 : Ex H4 (upd H4 z (.tup [.ref p, .ref a])) := Ex.new hz
    show tSeq _ _ _ (sg (some (.ref S)) (some (.ref R)) (some (.ref h)) (some (.ref p)) (some (.ref a)) none none none none none none none none) (upd H4 z (.tup [.ref p, .ref a]))
    generalize upd H4 z (.tup [.ref p, .ref a]) = H5 at e5
    have tp := hh.top
    have hH5 : HouseAt K H5 h n D := (k4.houseL (dr2.mono e3) (hH.mono e3)).mono e5
    have hR5 : RowsAt K H5 p rows := (k4.rowsL (dr2.mono e3) hR3).mono e5
    have ha5 : H5 a = some (.tup (nT st)) := e5 _ _ ha4
    have ex5 : Ex H H5 := (kex ((k2.trans (Kx.of e3)).trans k4)).trans e5
    -- the rests
    refine q_seq ⟨.ref h, rfl, .ref a, rfl, h, a, n, D, st, rfl, hh, hH5, st_of ha5, hl, h60, hpt, fun r0 H6 us rs hr0 e6 h6 hT hrs => ⟨6, rfl, r0, us, rfl, sq_of h6, fun L hL => ⟨L, rfl, ⟨_, sq_of upd_same⟩, ?_⟩⟩⟩
    have e7 : Ex H6 (upd H6 L (.lst (cutV us none (some 6)))) := Ex.new hL
    have h7 : upd H6 L (.lst (cutV us none (some 6))) L = some (.lst (cutV us none (some 6))) := upd_same
    generalize upd H6 L (.lst (cutV us none (some 6))) = H7 at e7 h7
    have e57 := e6.trans e7
    have hcut : ∀ x ∈ cutV us none (some 6), x ∈ us := fun x hx => List.mem_of_mem_drop (List.mem_of_mem_take hx)
    refine for_list (xs := cutV us none (some 6)) (fun i σ' H' => (∃ c O y7 y8 y9 y10 y11 b, σ' = sg (some (.ref S)) (some (.ref R)) (some (.ref h)) (some (.ref p)) (some (.ref a)) c O y7 y8 y9 y10 y11 b) ∧ LamX.ExtN H7 H' ∧ LamX.Tabs [(PT, lamQ)] H')
      ⟨⟨_, _, _, _, _, _, _, _, rfl⟩, LamX.ExtN.refl _, tabsK (ex5.trans e57)⟩ (fun i σ' H' _ p => extN_list p.2.1 (sq_of h7)) ?_ ?_
    · rintro i x σ' H' hi ⟨⟨c5, O6, y7, y8, y9, y10, y11, b12, rfl⟩, eN, tb⟩
      obtain ⟨m, hm⟩ := List.mem_iff_getElem?.mp (hcut x (List.mem_of_getElem? hi))
      obtain ⟨w0, hw0, b, rfl, hb6⟩ := pget1 hT hm
      rw [List.getElem?_map] at hw0
      obtain ⟨r, hr2, rfl⟩ := Option.map_eq_some_iff.mp hw0
      obtain ⟨hrest, hle⟩ := hrs r (List.mem_of_getElem? hr2)
      have bo : Both n D st r := ⟨hh, hl, h60, hpt, hrest, hle⟩
      have hH' : HouseAt K H' h n D := houseN eN (hH5.mono e57)
      have hR' : RowsAt K H' p rows := rowsN eN (hR5.mono e57)
      have ha' : H' a = some (.tup (nT st)) := eN _ _ (e57 _ _ ha5) fun ps z => by cases z
      have hb' : SqT K H' b (nT r) := extN_tup eN (ex_t e7 hb6)
      obtain ⟨d, hd', hds'⟩ := id hH'
      show tSeq _ _ _ (sg (some (.ref S)) (some (.ref R)) (some (.ref h)) (some (.ref p)) (some (.ref a)) c5 O6 y7 y8 y9 y10 y11 (some (.ref b))) H'
      -- changed
      refine q_asgL (el_changed hd' (st_of ha') hb' hl hrest.len tp rfl (fun _ => rfl) (fun _ => rfl) (fun _ => rfl) (fun _ => rfl)) fun ch H8 hch e8 h8 => ?_
      have chl : (changed n r st).length ≤ 6 := by
        have := nodup_le (n := n) (l := changed n r st) changed_nodup fun x hx => (mem_changed.mp hx).1
        omega
      have chm : ∀ x ∈ changed n r st, x < n := fun x hx => (mem_changed.mp hx).1
      -- orders
      refine q_raw ⟨by rw [sizeLine_eq]; exact Nat.zero_le _, fun z0 hz0 => ⟨by rw [sizeLine_eq]; exact (by decide : 1 ≤ 16777216), fun O0 hO0 => ?_⟩⟩
      have e9 : Ex H8 (upd (upd H8 z0 (.tup [])) O0 (.lst [.ref z0])) := (Ex.new hz0).trans (Ex.new hO0)
      have hz9 : upd (upd H8 z0 (.tup [])) O0 (.lst [.ref z0]) z0 = some (.tup []) := by rw [upd_ne (ne_of_none upd_same hO0), upd_same]
      have hO9 : upd (upd H8 z0 (.tup [])) O0 (.lst [.ref z0]) O0 = some (.lst [.ref z0]) := upd_same
      show tSeq _ _ _ (sg (some (.ref S)) (some (.ref R)) (some (.ref h)) (some (.ref p)) (some (.ref a)) (some (.ref ch)) (some (.ref O0)) y7 y8 y9 y10 y11 (some (.ref b))) (upd (upd H8 z0 (.tup [])) O0 (.lst [.ref z0]))
      generalize upd (upd H8 z0 (.tup [])) O0 (.lst [.ref z0]) = H9 at e9 hz9 hO9
      refine q_seq (orders_loop (e9 _ _ h8) chl hO9 (.cons ⟨z0, rfl, st_of hz9⟩ .nil) fun O ou z7 z8 z9 Ha ea hO hOT => ?_)
      have e8a := (e8.trans e9).trans ea
      dsimp only
      -- right
      have osix := orders_six chl (show (changed n r st).length ≤ 6 from chl)
      have omem := orders_len (changed n r st) (changed n r st).length
      have ocnt := count_orders (D := D) hrest.len hl hle
      have oin := fun o => order_in (n := n) (r := r) (s := st) (o := o)
      generalize hors : orders (changed n r st) (changed n r st).length = ors at hOT osix omem ocnt oin
      obtain ⟨x1, x2, x3⟩ := tups_zip hOT
      have oul : ou.length = ors.length := by rw [paired_len hOT, List.length_map]
      refine q_asgL (xs := ((ou.zip ors).filter fun b => decide (done n D st b.2 = r)).map (·.1)) ?_ fun Z Hb hZ eb hZb => ?_
      · exact el_L (K := K) (te := tVar 14) (t := tTest (tOp (rEqD K) (tCall (spLDone K) [] E0 (tCons (tVar 3) (tCons (tVar 4) (tCons (tVar 14) tNil)))) (tVar 12))) (l := ou.zip ors) (c := (·.1)) (f := fun b => decide (done n D st b.2 = r)) (v := (·.1)) (a := O) (tl := tVar 6) (j := 14) (vs := [14])
          (ev_var rfl) (by rw [x1]; exact sq_of hO) (by rw [List.length_zip]; omega) (fun _ => rfl)
          (fun b1 hb1 H1 e1 => by
            obtain ⟨t, et, ht⟩ := x3 b1 hb1
            rw [et]
            refine et_test (ev_eqT (es_done (ev_var rfl) (ev_var rfl) (ev_var rfl) hh ho (hR'.mono (e8a.trans e1)) (st_of (e1 _ _ (e8a _ _ ha'))) hl (ex_t e1 ht) fun k hk => chm k ((omem b1.2 (List.of_mem_zip hb1).2).2 k hk)) (EvS.ref (ev_var rfl) (ex_t (e8a.trans e1) hb'))))
          (fun b1 hb1 H1 e1 _ => ev_var rfl)
      have e8b := e8a.trans eb
      have ezs : ((ou.zip ors).filter fun b => decide (done n D st b.2 = r)).map (·.2) = ors.filter fun q => decide (done n D st q = r) := by
        have h6 := List.filter_map (f := fun b : V × List Nat => b.2) (p := fun q => decide (done n D st q = r)) (l := ou.zip ors)
        rw [x2] at h6
        exact h6.symm
      have hZT : TupsAt K Hb (((ou.zip ors).filter fun b => decide (done n D st b.2 = r)).map (·.1)) ((ors.filter fun q => decide (done n D st q = r)).map nT) := by
        rw [← ezs]
        exact tups_of fun b1 hb1 => (x3 b1 (List.mem_filter.mp hb1).1).mono eb
      generalize ((ou.zip ors).filter fun b => decide (done n D st b.2 = r)).map (·.1) = zs at hZb hZT
      have zl : zs.length = cnt n D r st := by rw [paired_len hZT, List.length_map, ocnt]
      show tSeq _ _ _ (sg (some (.ref S)) (some (.ref R)) (some (.ref h)) (some (.ref p)) (some (.ref a)) (some (.ref ch)) (some (.ref O)) z7 z8 z9 (some (.ref Z)) y11 (some (.ref b))) Hb
      -- alike
      refine q_when (b := false) (et_not (a := true) (et_B (ev_call (vs := [nI (cnt n D r st), nI (cnt n D r st)]) (ea_cons (ev_call (z := nI (cnt n D r st)) (ea_cons (ev_var rfl) (ea_cons (ev_var rfl) (ea_cons (ev_var rfl) ea_nil))) fun Hc ec Q' k E' => ⟨h, a, b, n, D, st, r, rfl, bo, hH'.mono (e8b.trans ec), ec _ _ (e8b _ _ ha'), ex_t (e8b.trans ec) hb', k⟩)
        (ea_cons (ev_is (ev_len (ev_var rfl) (sq_of hZb)) (by rw [zl])) ea_nil)) fun Hc ec Q' k E' => ⟨_, rfl, k⟩))) (fun z => by cases z) fun _ Hc ec => ?_
      have e8c := e8b.trans ec
      -- by number
      refine q_raw ⟨.ref ch, rfl, ch, changed n r st, b, r, rfl, sq_of (e9.trans (ea.trans (eb.trans ec)) _ _ h8), rfl, ex_t e8c hb', fun y hy => by rw [hrest.len]; exact chm y hy, tb.ext e8c, fun Hd o qd eNd tbd hperm hpw hqd => ⟨qd, nT o, rfl, .inl ⟨sq_of upd_same, fun l hl2 => ?_⟩⟩⟩
      have ed : Ex Hd (upd (upd Hd qd (.lst (o.map MxR.nI))) l (.tup (nT o))) := (Ex.new hqd).trans (Ex.new hl2)
      have hld : upd (upd Hd qd (.lst (o.map MxR.nI))) l (.tup (nT o)) l = some (.tup (nT o)) := upd_same
      show tIfS _ _ _ _ (sg (some (.ref S)) (some (.ref R)) (some (.ref h)) (some (.ref p)) (some (.ref a)) (some (.ref ch)) (some (.ref O)) z7 z8 z9 (some (.ref Z)) (some (.ref l)) (some (.ref b))) (upd (upd Hd qd (.lst (o.map MxR.nI))) l (.tup (nT o)))
      generalize upd (upd Hd qd (.lst (o.map MxR.nI))) l (.tup (nT o)) = He at ed hld
      have eN8 : LamX.ExtN H' He := (Ex.toN e8c).trans (eNd.trans (Ex.toN ed))
      have eNc : LamX.ExtN Hb He := (Ex.toN ec).trans (eNd.trans (Ex.toN ed))
      have hdn : done n D st o = r := order_ok hh hrest hl hle hperm hpw
      have hin : o ∈ ors.filter fun q => decide (done n D st q = r) := List.mem_filter.mpr ⟨oin o hperm, decide_eq_true hdn⟩
      have hany : (((ors.filter fun q => decide (done n D st q = r)).map fun w => PyData.tuple (dI w)).any fun z => PyData.eqv z (PyData.tuple (dI o))) = true := by
        refine List.any_eq_true.mpr ⟨_, List.mem_map.mpr ⟨o, hin, rfl⟩, ?_⟩
        rw [eqv_dT, decide_eq_true rfl]
      refine s_when (b := false) (et_or (a := false) (b := false) (et_test (ev_op (ev_var rfl) (ev_var rfl) fun Hf ef Q' k => ⟨_, _, dp_T (ex_t ef (st_of hld)), .lst (ex_l ef (extN_list eNc (sq_of hZb))) (dp_tups (TupsAt.mono ef (tupsN eNc hZT))), shaped_dT o, shaped_tups _, by rw [hany]; exact k Hf (Ex.refl Hf)⟩)) fun _ =>
        et_test (ev_op (ev_call (z := .bl true) (ea_cons (ev_var rfl) (ea_cons (ev_var rfl) (ea_cons (ev_var rfl) (ea_cons (ev_var rfl) ea_nil)))) fun Hf ef Q' k E' => ⟨h, a, b, l, n, D, st, r, o, rfl, bo, (houseN eN8 hH').mono ef, ex_t ef (extN_tup eN8 (st_of ha')), ex_t ef (extN_tup eN8 hb'), ex_t ef (st_of hld), hperm, hdn, k⟩) ev_c fun Hf ef Q' k => ⟨true, true, rfl, rfl, k Hf (Ex.refl Hf)⟩))
        (fun z => by cases z) fun _ Hf ef => ⟨⟨_, _, _, _, _, _, _, _, rfl⟩, (eN.trans eN8).trans (Ex.toN ef), (tbd.ext ed).ext ef⟩
    · rintro σ' H' _
      dsimp only
      exact s_ret ev_c fun H2 _ => q H2
end
end MxD
namespace MxD
open PySem PySem.Spec PyProof.Rows L2 Evl MxR Mx MxB MxE StX RZ
/-- a def as the top has left it -/
structure Ent (K : PySem.W.Frag) (x : Str) (st : Stmt) : Prop where
  ex : ∃ (f : Addr) (oc : Value) (od an : Option Addr) (osl : Array (Option Value)) (kV doc pm cdv ct : Value), PySem.W.nsIn K mainGlobals x = some (some (.ref f)) ∧
    K.lookup f = some ⟨oc, od, .func (PySem.W.fnOf x x (defArgs st) (defBody st) (defScope st) .none kV doc pm an cdv ct), osl⟩ ∧ PySem.W.codeIn K cdv x = true ∧ PySem.W.keepIn K (.ref f) = true
theorem Ent.mk' {K : PySem.W.Frag} {x : Str} {st : Stmt} {f : Addr} {oc : Value} {od an : Option Addr} {osl : Array (Option Value)} {kV doc pm cdv ct : Value} (a : PySem.W.nsIn K mainGlobals x = some (some (.ref f)))
    (l : K.lookup f = some ⟨oc, od, .func (PySem.W.fnOf x x (defArgs st) (defBody st) (defScope st) .none kV doc pm an cdv ct), osl⟩) (c : PySem.W.codeIn K cdv x = true) (k : PySem.W.keepIn K (.ref f) = true) : Ent K x st := ⟨f, oc, od, an, osl, kV, doc, pm, cdv, ct, a, l, c, k⟩
section
variable {P : Program} {w : World} {K : PySem.W.Frag} {mg : Str → Option Value} {base h : Heap}
theorem Ent.cal {x : Str} {st : Stmt} {ps : List Str} {k : Nat} {sp : Sp} (E : Ent K x st) (X : K.In h) (G : h.Ns mainGlobals mg) (ok : ∀ f fd, Fun K x x st f fd → FnOk P w K mg base CX0 k f fd ps sp)
    (hb : ∀ (kV doc pm : Value) (an : Option Addr) (cdv ct : Value) (us : List Value), us.length = ps.length → bindArgs (PySem.W.fnOf x x (defArgs st) (defBody st) (defScope st) .none kV doc pm an cdv ct) ⟨us, []⟩ = pure (ps.zip us)) : Cal P w K mg base k x ps sp := by
  obtain ⟨f, oc, od, an, osl, kV, doc, pm, cdv, ct, a, l, c, kp⟩ := E.ex
  have F := fun_mk (st := st) l c kp
  exact ⟨f, _, ok f _ F, PySem.W.mg_of X G a, kp, F.binds hb⟩
/-- all defs but the law -/
structure Ents (K : PySem.W.Frag) : Prop where
  e8 : Ent K "is_integer" (topS 8)
  e9 : Ent K "is_in" (topS 9)
  e10 : Ent K "is_list" (topS 10)
  e13 : Ent K "need_doors" (topS 13)
  e14 : Ent K "need_house" (topS 14)
  e15 : Ent K "near" (topS 15)
  e18 : Ent K "need_numbers" (topS 18)
  e19 : Ent K "need_state" (topS 19)
  e20 : Ent K "free_number" (topS 20)
  e21 : Ent K "key_in" (topS 21)
  e22 : Ent K "like_in" (topS 22)
  e23 : Ent K "need_parted" (topS 23)
  e24 : Ent K "rests_in" (topS 24)
  e26 : Ent K "largest_in" (topS 26)
  e27 : Ent K "is_largest" (topS 27)
  e28 : Ent K "need_rest" (topS 28)
  e30 : Ent K "is_below" (topS 30)
  e31 : Ent K "below_in" (topS 31)
  e32 : Ent K "rests_under" (topS 32)
  e33 : Ent K "rests_below" (topS 33)
  e34 : Ent K "need_both" (topS 34)
  e35 : Ent K "count_from" (topS 35)
  e36 : Ent K "count_shortest" (topS 36)
  e37 : Ent K "shows_row" (topS 37)
  e39 : Ent K "_law_taken" (topS 39)
  e40 : Ent K "_law_pick" (topS 40)
  e41 : Ent K "_law_alike" (topS 41)
  e42 : Ent K "_law_house" (topS 42)
  e43 : Ent K "_law_near" (topS 43)
  e44 : Ent K "_law_free" (topS 44)
  e45 : Ent K "_law_key" (topS 45)
  e46 : Ent K "_law_done" (topS 46)
  e47 : Ent K "_law_parted" (topS 47)
theorem law_fn (Es : Ents K) (X : K.In h) (G : h.Ns mainGlobals mg) (B : Blt mg) {f c PT : Addr} {oc : Value} {od an : Option Addr} {osl : Array (Option Value)} {kV doc pm ct : Value}
    (lk : K.lookup f = some ⟨oc, od, .func (PySem.W.fnOf "law" "law" (defArgs sLaw) (defBody sLaw) (defScope sLaw) .none kV doc pm an (.ref c) ct), osl⟩) (hcd : PySem.W.codeIn K (.ref c) "law" = true) (TB : LamX.TabB base mg c PT) :
    FnOk P w K mg base CX0 15 f (PySem.W.fnOf "law" "law" (defArgs sLaw) (defBody sLaw) (defScope sLaw) .none kV doc pm an (.ref c) ct) ["_law_script"] (spLaw K [(PT, lamQ)]) := by
  have c8 : Cal P w K mg base 1 "is_integer" ["value"] spIsInteger := Es.e8.cal X G (fun f fd F => ok_isInteger F B) fun _ _ _ _ _ _ us hl => match us, hl with | [_], _ => rfl
  have c9 : CIsIn P w K mg base := Es.e9.cal X G (fun f fd F => ok_isIn F c8) fun _ _ _ _ _ _ us hl => match us, hl with | [_, _, _], _ => rfl
  have c10 : CIsList P w K mg base := Es.e10.cal X G (fun f fd F => ok_isList F B) fun _ _ _ _ _ _ us hl => match us, hl with | [_, _, _], _ => rfl
  have c13 : Cal P w K mg base 3 "need_doors" ["size", "doors"] (spNeedDoors K) := Es.e13.cal X G (fun f fd F => ok_needDoors F B c9 c10) fun _ _ _ _ _ _ us hl => match us, hl with | [_, _], _ => rfl
  have c14 : Cal P w K mg base 4 "need_house" ["house"] (spNeedHouse K) := Es.e14.cal X G (fun f fd F => ok_needHouse F B c9 c10 c13) fun _ _ _ _ _ _ us hl => match us, hl with | [_], _ => rfl
  have c15 : Cal P w K mg base 1 "near" ["house"] (spNear K) := Es.e15.cal X G (fun f fd F => ok_near F B) fun _ _ _ _ _ _ us hl => match us, hl with | [_], _ => rfl
  have c18 : Cal P w K mg base 3 "need_numbers" ["house", "state"] (spNeedNumbers K) := Es.e18.cal X G (fun f fd F => ok_needNumbers F B c9 c10) fun _ _ _ _ _ _ us hl => match us, hl with | [_, _], _ => rfl
  have c19 : Cal P w K mg base 5 "need_state" ["house", "state"] (spNeedState K) := Es.e19.cal X G (fun f fd F => ok_needState F c14 c18) fun _ _ _ _ _ _ us hl => match us, hl with | [_, _], _ => rfl
  have c20 : CFree P w K mg base := Es.e20.cal X G (fun f fd F => ok_free F) fun _ _ _ _ _ _ us hl => match us, hl with | [_, _, _], _ => rfl
  have c21 : Cal P w K mg base 2 "key_in" ["rows", "state", "room"] (spKeyIn K) := Es.e21.cal X G (fun f fd F => ok_keyIn F c20) fun _ _ _ _ _ _ us hl => match us, hl with | [_, _, _], _ => rfl
  have c22 : Cal P w K mg base 1 "like_in" ["house", "state"] (spLikeIn K) := Es.e22.cal X G (fun f fd F => ok_likeIn F B) fun _ _ _ _ _ _ us hl => match us, hl with | [_, _], _ => rfl
  have c23 : Cal P w K mg base 6 "need_parted" ["house", "state"] (spNeedParted K) := Es.e23.cal X G (fun f fd F => ok_needParted F c19 c22) fun _ _ _ _ _ _ us hl => match us, hl with | [_, _], _ => rfl
  have c24 : Cal P w K mg base 2 "rests_in" ["rows", "state"] (spRestsIn K) := Es.e24.cal X G (fun f fd F => ok_restsIn F B c20) fun _ _ _ _ _ _ us hl => match us, hl with | [_, _], _ => rfl
  have c27 : Cal P w K mg base 1 "is_largest" ["rows", "rooms", "some"] (spIsLargest K) := Es.e27.cal X G (fun f fd F => ok_isLargest F B) fun _ _ _ _ _ _ us hl => match us, hl with | [_, _, _], _ => rfl
  have c26 : Cal P w K mg base 2 "largest_in" ["rows", "rooms"] (spLargestIn K) := Es.e26.cal X G (fun f fd F => ok_largestIn F B c27) fun _ _ _ _ _ _ us hl => match us, hl with | [_, _], _ => rfl
  have c28 : Cal P w K mg base 4 "need_rest" ["house", "rest"] (spNeedRest K) := Es.e28.cal X G (fun f fd F => ok_needRest F c18 c24 c15) fun _ _ _ _ _ _ us hl => match us, hl with | [_, _], _ => rfl
  have c30 : Cal P w K mg base 1 "is_below" ["one", "other"] (spIsBelow K) := Es.e30.cal X G (fun f fd F => ok_isBelow F B) fun _ _ _ _ _ _ us hl => match us, hl with | [_, _], _ => rfl
  have c31 : ∀ d, CBelow P w K mg base d := fun d => by
    induction d with
    | zero => exact Es.e31.cal X G (fun f fd F => ok_below0 F) fun _ _ _ _ _ _ us hl => match us, hl with | [_, _, _, _], _ => rfl
    | succ d ih => exact Es.e31.cal X G (fun f fd F => ok_belowS F B c26 d ih) fun _ _ _ _ _ _ us hl => match us, hl with | [_, _, _, _], _ => rfl
  have c32 : Cal P w K mg base 10 "rests_under" ["house", "state"] (spRestsUnder K) := Es.e32.cal X G (fun f fd F => ok_restsUnder F B c15 (c31 6)) fun _ _ _ _ _ _ us hl => match us, hl with | [_, _], _ => rfl
  have c33 : Cal P w K mg base 11 "rests_below" ["house", "state"] (spRestsBelow K) := Es.e33.cal X G (fun f fd F => ok_restsBelow F c23 c32) fun _ _ _ _ _ _ us hl => match us, hl with | [_, _], _ => rfl
  have c34 : Cal P w K mg base 7 "need_both" ["house", "state", "rest"] (spNeedBoth K) := Es.e34.cal X G (fun f fd F => ok_needBoth F c23 c28 c30) fun _ _ _ _ _ _ us hl => match us, hl with | [_, _, _], _ => rfl
  have c35 : ∀ d, CCount P w K mg base d := fun d => by
    induction d with
    | zero => exact Es.e35.cal X G (fun f fd F => ok_count0 F) fun _ _ _ _ _ _ us hl => match us, hl with | [_, _, _, _], _ => rfl
    | succ d ih => exact Es.e35.cal X G (fun f fd F => ok_countS F B c20 c21 d ih) fun _ _ _ _ _ _ us hl => match us, hl with | [_, _, _, _], _ => rfl
  have c36 : Cal P w K mg base 10 "count_shortest" ["house", "state", "rest"] (spCountShortest K) := Es.e36.cal X G (fun f fd F => ok_countShortest F c34 (c35 6) c15) fun _ _ _ _ _ _ us hl => match us, hl with | [_, _, _], _ => rfl
  have c37 : Cal P w K mg base 8 "shows_row" ["house", "state", "rest", "value"] (spShowsRow K) := Es.e37.cal X G (fun f fd F => ok_showsRow F B c34 c21 c15) fun _ _ _ _ _ _ us hl => match us, hl with | [_, _, _, _], _ => rfl
  have c39 : CTaken P w K mg base := Es.e39.cal X G (fun f fd F => ok_taken F B) fun _ _ _ _ _ _ us hl => match us, hl with | [_, _], _ => rfl
  have c40 : Cal P w K mg base 2 "_law_pick" ["_law_row", "_law_things"] (spPick K) := Es.e40.cal X G (fun f fd F => ok_pick F B c39) fun _ _ _ _ _ _ us hl => match us, hl with | [_, _], _ => rfl
  have c41 : Cal P w K mg base 1 "_law_alike" ["_law_found", "_law_due"] spAlike := Es.e41.cal X G (fun f fd F => ok_alike F B) fun _ _ _ _ _ _ us hl => match us, hl with | [_, _], _ => rfl
  have c42 : Cal P w K mg base 2 "_law_house" ["_law_row", "_law_most"] (spLHouse K) := Es.e42.cal X G (fun f fd F => ok_lhouse F B c39) fun _ _ _ _ _ _ us hl => match us, hl with | [_, _], _ => rfl
  have c43 : Cal P w K mg base 1 "_law_near" ["_law_house_here"] (spNear K) := Es.e43.cal X G (fun f fd F => ok_lnear F B) fun _ _ _ _ _ _ us hl => match us, hl with | [_], _ => rfl
  have c44 : CLFree P w K mg base := Es.e44.cal X G (fun f fd F => ok_lfree F B) fun _ _ _ _ _ _ us hl => match us, hl with | [_, _, _], _ => rfl
  have c45 : Cal P w K mg base 2 "_law_key" ["_law_rows", "_law_state", "_law_room"] (spLKey K) := Es.e45.cal X G (fun f fd F => ok_lkey F c44) fun _ _ _ _ _ _ us hl => match us, hl with | [_, _, _], _ => rfl
  have c46 : Cal P w K mg base 3 "_law_done" ["_law_rows", "_law_state", "_law_keys"] (spLDone K) := Es.e46.cal X G (fun f fd F => ok_ldone F c45) fun _ _ _ _ _ _ us hl => match us, hl with | [_, _, _], _ => rfl
  have c47 : Cal P w K mg base 3 "_law_parted" ["_law_row", "_law_house_here", "_law_top"] (spLParted K) := Es.e47.cal X G (fun f fd F => ok_lparted F B c43 c40) fun _ _ _ _ _ _ us hl => match us, hl with | [_, _, _], _ => rfl
  exact ok_law lk hcd TB B c42 c43 c47 c33 c46 c36 c41 c37
/-- the built-ins and the two numbers -/
theorem blt_mk (X : K.In h) (G : h.Ns mainGlobals mg) {t8 t60 : Tok} (a1 : PySem.W.nsIn K mainGlobals "isinstance" = some none) (a2 : PySem.W.nsIn K mainGlobals "int" = some none) (a3 : PySem.W.nsIn K mainGlobals "bool" = some none) (a4 : PySem.W.nsIn K mainGlobals "tuple" = some none)
    (a5 : PySem.W.nsIn K mainGlobals "list" = some none) (a6 : PySem.W.nsIn K mainGlobals "str" = some none) (a7 : PySem.W.nsIn K mainGlobals "len" = some none) (a8 : PySem.W.nsIn K mainGlobals "enumerate" = some none) (a9 : PySem.W.nsIn K mainGlobals "all" = some none) (a10 : PySem.W.nsIn K mainGlobals "any" = some none)
    (a11 : PySem.W.nsIn K mainGlobals "range" = some none) (a12 : PySem.W.nsIn K mainGlobals "sorted" = some none) (a13 : PySem.W.nsIn K mainGlobals "zip" = some none) (a14 : PySem.W.nsIn K mainGlobals "sum" = some none)
    (a15 : PySem.W.nsIn K mainGlobals "MOST_ROOMS" = some (some (.int 8 t8))) (a16 : PySem.W.nsIn K mainGlobals "MOST_NUMBER" = some (some (.int 60 t60))) : Blt mg :=
  ⟨PySem.W.mg_none_of X G a1, PySem.W.mg_none_of X G a2, PySem.W.mg_none_of X G a3, PySem.W.mg_none_of X G a4, PySem.W.mg_none_of X G a5, PySem.W.mg_none_of X G a6, PySem.W.mg_none_of X G a7, PySem.W.mg_none_of X G a8, PySem.W.mg_none_of X G a9, PySem.W.mg_none_of X G a10,
    PySem.W.mg_none_of X G a11, PySem.W.mg_none_of X G a12, PySem.W.mg_none_of X G a13, PySem.W.mg_none_of X G a14, ⟨_, PySem.W.mg_of X G a15⟩, ⟨_, PySem.W.mg_of X G a16⟩⟩
/-- all that the end asks -/
theorem law_at {l : PySem.W.OpenLaw} {fa : Addr} (Es : Ents K) (X : K.In h) (G : h.Ns mainGlobals mg) (B : Blt mg) (hfa : mg "law" = some (.ref fa)) {f c PT : Addr} {oc : Value} {od an od2 : Option Addr} {osl sl2 : Array (Option Value)} {kV doc pm ct : Value} {vs : Array Value} {file : Str} {tf tg tt : Tok} {flags text : Int} {inF : Bool}
    (a : PySem.W.nsIn K mainGlobals "law" = some (some (.ref f))) (lk : K.lookup f = some ⟨oc, od, .func (PySem.W.fnOf "law" "law" (defArgs sLaw) (defBody sLaw) (defScope sLaw) .none kV doc pm an (.ref c) ct), osl⟩) (hcd : PySem.W.codeIn K (.ref c) "law" = true)
    (lc : K.lookup c = some ⟨.type "code", od2, .fields vs, sl2⟩) (v11 : vs[11]? = some (.ref PT)) (v18 : vs.getD 18 .none = .str file tf) (v7 : vs.getD 7 .none = .int flags tg) (v9 : vs.getD 9 .none = .bool inF) (v10 : vs.getD 10 .none = .int text tt)
    (hP : h.get? PT = some { cls := .none, data := .fields #[] }) (nP : K.lookup PT = none) : LamX.LawAtS l w K CX0 15 63 "_law_script" mg fa h := by
  have e := hfa.symm.trans (PySem.W.mg_of X G a)
  cases e
  have hv11 : vs.getD 11 .none = .ref PT := by
    rw [Array.getD_eq_getD_getElem?, v11]
    rfl
  have hne : c ≠ PT := fun z => by
    rw [z, nP] at lc
    cases lc
  refine ⟨_, [(c, PT)], spLaw K [(PT, lamQ)], fun p hp => ?_, fun p hp => ?_, fun p hp => ?_, fun s u => .of_eq rfl, fun H a ns _ _ hH hS => ?_, fun base KB GB TB => law_fn Es X G B lk hcd (TB _ (List.mem_singleton.mpr rfl))⟩
  · rw [List.mem_singleton.mp hp]
    exact hP
  · rw [List.mem_singleton.mp hp]
    exact nP
  · rw [List.mem_singleton.mp hp]
    exact ⟨_, vs, file, tf, flags, tg, inF, text, tt, X _ _ lc, rfl, rfl, v11, hv11, v18, v7, v9, v10, hne⟩
  · exact ⟨a, ns, rfl, hS, fun p hp => by
      rw [List.mem_singleton.mp hp]
      exact LamX.TabS.nil (hH _ (List.mem_singleton.mpr rfl)), fun _ => rfl⟩
end
end MxD
open PySem PySem.W PyProof.Rows
set_option maxRecDepth 100000 in
set_option maxHeartbeats 0 in
theorem PySem.Challenge.cw_mexrooms_k22_whole_counts_of_rows_holds : PySem.Challenge.rw_mexrooms_k22_whole_counts_of_rows.Holds := by
  w_on; o_law; k_head; (case hw => w_witness2)
  k_fill
  refine LamX.walk_ofTs (n := 63) (k := 15) (CX := fun _ => L2.CX0) (x := "_law_script") rfl (by decide) rfl ⟨rfl, by decide, by decide⟩ (fun w h Y => PySem.W.km_in_of Y) ?F (fun _ _ _ _ _ z => z)
  case F =>
    intro w mg fa h Y KX G hmg
    refine' MxD.law_at ⟨MxD.Ent.mk' ?a8 ?l8 ?c8 ?k8, MxD.Ent.mk' ?a9 ?l9 ?c9 ?k9, MxD.Ent.mk' ?a10 ?l10 ?c10 ?k10, MxD.Ent.mk' ?a13 ?l13 ?c13 ?k13, MxD.Ent.mk' ?a14 ?l14 ?c14 ?k14, MxD.Ent.mk' ?a15 ?l15 ?c15 ?k15, MxD.Ent.mk' ?a18 ?l18 ?c18 ?k18, MxD.Ent.mk' ?a19 ?l19 ?c19 ?k19, MxD.Ent.mk' ?a20 ?l20 ?c20 ?k20, MxD.Ent.mk' ?a21 ?l21 ?c21 ?k21, MxD.Ent.mk' ?a22 ?l22 ?c22 ?k22, MxD.Ent.mk' ?a23 ?l23 ?c23 ?k23, MxD.Ent.mk' ?a24 ?l24 ?c24 ?k24, MxD.Ent.mk' ?a26 ?l26 ?c26 ?k26, MxD.Ent.mk' ?a27 ?l27 ?c27 ?k27, MxD.Ent.mk' ?a28 ?l28 ?c28 ?k28, MxD.Ent.mk' ?a30 ?l30 ?c30 ?k30, MxD.Ent.mk' ?a31 ?l31 ?c31 ?k31, MxD.Ent.mk' ?a32 ?l32 ?c32 ?k32, MxD.Ent.mk' ?a33 ?l33 ?c33 ?k33, MxD.Ent.mk' ?a34 ?l34 ?c34 ?k34, MxD.Ent.mk' ?a35 ?l35 ?c35 ?k35, MxD.Ent.mk' ?a36 ?l36 ?c36 ?k36, MxD.Ent.mk' ?a37 ?l37 ?c37 ?k37, MxD.Ent.mk' ?a39 ?l39 ?c39 ?k39, MxD.Ent.mk' ?a40 ?l40 ?c40 ?k40, MxD.Ent.mk' ?a41 ?l41 ?c41 ?k41, MxD.Ent.mk' ?a42 ?l42 ?c42 ?k42, MxD.Ent.mk' ?a43 ?l43 ?c43 ?k43, MxD.Ent.mk' ?a44 ?l44 ?c44 ?k44, MxD.Ent.mk' ?a45 ?l45 ?c45 ?k45, MxD.Ent.mk' ?a46 ?l46 ?c46 ?k46, MxD.Ent.mk' ?a47 ?l47 ?c47 ?k47⟩ KX G (MxD.blt_mk KX G ?b1 ?b2 ?b3 ?b4 ?b5 ?b6 ?b7 ?b8 ?b9 ?b10 ?b11 ?b12 ?b13 ?b14 ?b15 ?b16) hmg ?a ?lk ?hcd ?lc ?v11 ?v18 ?v7 ?v9 ?v10 (PySem.W.km_tabs_of Y _ ?mem) ?nP
    (case a8 => k_is); (case l8 => k_is); (case c8 => k_is); (case k8 => k_is)
    (case a9 => k_is); (case l9 => k_is); (case c9 => k_is); (case k9 => k_is)
    (case a10 => k_is); (case l10 => k_is); (case c10 => k_is); (case k10 => k_is)
    (case a13 => k_is); (case l13 => k_is); (case c13 => k_is); (case k13 => k_is)
    (case a14 => k_is); (case l14 => k_is); (case c14 => k_is); (case k14 => k_is)
    (case a15 => k_is); (case l15 => k_is); (case c15 => k_is); (case k15 => k_is)
    (case a18 => k_is); (case l18 => k_is); (case c18 => k_is); (case k18 => k_is)
    (case a19 => k_is); (case l19 => k_is); (case c19 => k_is); (case k19 => k_is)
    (case a20 => k_is); (case l20 => k_is); (case c20 => k_is); (case k20 => k_is)
    (case a21 => k_is); (case l21 => k_is); (case c21 => k_is); (case k21 => k_is)
    (case a22 => k_is); (case l22 => k_is); (case c22 => k_is); (case k22 => k_is)
    (case a23 => k_is); (case l23 => k_is); (case c23 => k_is); (case k23 => k_is)
    (case a24 => k_is); (case l24 => k_is); (case c24 => k_is); (case k24 => k_is)
    (case a26 => k_is); (case l26 => k_is); (case c26 => k_is); (case k26 => k_is)
    (case a27 => k_is); (case l27 => k_is); (case c27 => k_is); (case k27 => k_is)
    (case a28 => k_is); (case l28 => k_is); (case c28 => k_is); (case k28 => k_is)
    (case a30 => k_is); (case l30 => k_is); (case c30 => k_is); (case k30 => k_is)
    (case a31 => k_is); (case l31 => k_is); (case c31 => k_is); (case k31 => k_is)
    (case a32 => k_is); (case l32 => k_is); (case c32 => k_is); (case k32 => k_is)
    (case a33 => k_is); (case l33 => k_is); (case c33 => k_is); (case k33 => k_is)
    (case a34 => k_is); (case l34 => k_is); (case c34 => k_is); (case k34 => k_is)
    (case a35 => k_is); (case l35 => k_is); (case c35 => k_is); (case k35 => k_is)
    (case a36 => k_is); (case l36 => k_is); (case c36 => k_is); (case k36 => k_is)
    (case a37 => k_is); (case l37 => k_is); (case c37 => k_is); (case k37 => k_is)
    (case a39 => k_is); (case l39 => k_is); (case c39 => k_is); (case k39 => k_is)
    (case a40 => k_is); (case l40 => k_is); (case c40 => k_is); (case k40 => k_is)
    (case a41 => k_is); (case l41 => k_is); (case c41 => k_is); (case k41 => k_is)
    (case a42 => k_is); (case l42 => k_is); (case c42 => k_is); (case k42 => k_is)
    (case a43 => k_is); (case l43 => k_is); (case c43 => k_is); (case k43 => k_is)
    (case a44 => k_is); (case l44 => k_is); (case c44 => k_is); (case k44 => k_is)
    (case a45 => k_is); (case l45 => k_is); (case c45 => k_is); (case k45 => k_is)
    (case a46 => k_is); (case l46 => k_is); (case c46 => k_is); (case k46 => k_is)
    (case a47 => k_is); (case l47 => k_is); (case c47 => k_is); (case k47 => k_is)
    (case b1 => k_is); (case b2 => k_is); (case b3 => k_is); (case b4 => k_is); (case b5 => k_is); (case b6 => k_is); (case b7 => k_is); (case b8 => k_is); (case b9 => k_is); (case b10 => k_is); (case b11 => k_is); (case b12 => k_is); (case b13 => k_is); (case b14 => k_is); (case b15 => k_is); (case b16 => k_is)
    (case a => k_is); (case lk => k_is); (case hcd => k_is); (case lc => k_is)
    (case v11 => rfl); (case v18 => rfl); (case v7 => rfl); (case v9 => rfl); (case v10 => rfl)
    (case mem => decide); (case nP => rfl)

import PyProof.Rows.All
import Wide.All
import OpenK.AllK
import Wide.FinOn
import HandS.ForMost
import HandS.Walk
import HandS.Zip
import HandS.Conv
import HandS.TupAny
import HandS.TupLe
import HandS.SortInts
import HandS.SortKw
import HandS.Lambda
import HandS.Nested
import HandS.EndTab
import HandS.IsInst
import HandS.Style
import HandS.Flow
import KE.GoesNew
import KE.GoesNewDict
import KE.GoesEnum
import KE.SortKeyHeap
import KE.LtData
import PySem.Challenge.RW_shoporders_k20_whole_unlike_machines
import KE.KDictDisplayH
import HandS.Star
set_option Elab.async false
set_option maxRecDepth 100000
set_option maxHeartbeats 4000000
/-! Plain mathematics of the law: no program in sight. -/
namespace K20

/-! ### sums with falling weights -/
def wsum : List Int → Int
  | [] => 0
  | x :: r => x * ((r.length : Int) + 1) + wsum r

/-- the list that a comprehension over a list of times makes -/
def wl (l : List Int) : List Int := (List.range l.length).map fun i => l.getD i 0 * ((l.length : Int) - (i : Int))

theorem wl_length (l : List Int) : (wl l).length = l.length := by simp [wl]
theorem wl_at {l : List Int} {i : Nat} (h : i < l.length) : (wl l)[i]? = some (l.getD i 0 * ((l.length : Int) - (i : Int))) := by
  simp [wl, h]
theorem wl_cons (x : Int) (r : List Int) : wl (x :: r) = x * ((r.length : Int) + 1) :: wl r := by
  unfold wl
  rw [List.length_cons, List.range_succ_eq_map, List.map_cons, List.map_map]
  congr 1
  apply List.map_congr_left
  intro i _
  simp only [Function.comp, List.getD_cons_succ]
  congr 1
  push_cast
  omega
theorem wl_sum (l : List Int) : (wl l).sum = wsum l := by
  induction l with
  | nil => rfl
  | cons x r ih => rw [wl_cons, List.sum_cons, ih]; rfl

/-- the ends one by one -/
def el (l : List Int) : List Int := (List.range l.length).map fun i => (l.take (i + 1)).sum
theorem el_length (l : List Int) : (el l).length = l.length := by simp [el]
theorem el_at {l : List Int} {i : Nat} (h : i < l.length) : (el l)[i]? = some (l.take (i + 1)).sum := by
  simp [el, h]
theorem map_add_sum (x : Int) (l : List Nat) (f : Nat → Int) : (l.map fun i => x + f i).sum = x * (l.length : Int) + (l.map f).sum := by
  induction l with
  | nil => simp
  | cons a r ih =>
    rw [List.map_cons, List.sum_cons, ih, List.map_cons, List.sum_cons, List.length_cons]
    push_cast
    rw [Int.mul_add]
    omega
theorem el_sum (l : List Int) : (el l).sum = wsum l := by
  induction l with
  | nil => rfl
  | cons x r ih =>
    have e : el (x :: r) = x :: (List.range r.length).map fun i => x + (r.take (i + 1)).sum := by
      unfold el
      rw [List.length_cons, List.range_succ_eq_map, List.map_cons, List.map_map]
      congr 1
      simp
    rw [e, List.sum_cons, map_add_sum, List.length_range]
    show x + (x * (r.length : Int) + (el r).sum) = x * ((r.length : Int) + 1) + wsum r
    rw [ih, Int.mul_add]
    omega

/-! ### sorting -/
def srt (l : List Int) : List Int := l.mergeSort fun a b => decide (a ≤ b)
theorem srt_perm (l : List Int) : (srt l).Perm l := List.mergeSort_perm l _
theorem srt_up (l : List Int) : (srt l).Pairwise (· ≤ ·) := by
  have h := List.pairwise_mergeSort (le := fun a b : Int => decide (a ≤ b)) (fun a b c h1 h2 => by simp only [decide_eq_true_eq] at *; omega) (fun a b => by simp only [Bool.or_eq_true, decide_eq_true_eq]; omega) l
  exact h.imp fun h => by simpa using h
theorem up_uniq : ∀ {l m : List Int}, l.Perm m → l.Pairwise (· ≤ ·) → m.Pairwise (· ≤ ·) → l = m
  | [], m, p, _, _ => (List.nil_perm.mp p).symm
  | a :: l, [], p, _, _ => absurd p (by simp)
  | a :: l, b :: m, p, h1, h2 => by
    have hab : a = b := by
      have ha : a ∈ b :: m := p.mem_iff.mp (List.mem_cons_self ..)
      have hb : b ∈ a :: l := p.mem_iff.mpr (List.mem_cons_self ..)
      rw [List.pairwise_cons] at h1 h2
      rcases List.mem_cons.mp ha with e | ha
      · exact e
      rcases List.mem_cons.mp hb with e | hb
      · exact e.symm
      have := h1.1 b hb
      have := h2.1 a ha
      omega
    subst hab
    rw [up_uniq (List.Perm.cons_inv p) (List.pairwise_cons.mp h1).2 (List.pairwise_cons.mp h2).2]
theorem srt_of {l m : List Int} (p : m.Perm l) (h : m.Pairwise (· ≤ ·)) : srt l = m := up_uniq ((srt_perm l).trans p.symm) (srt_up l) h

/-! ### jobs chosen out of the first n -/
def sel (n : Nat) (p : Nat → Bool) : List Nat := (List.range n).filter p
theorem mem_sel {n : Nat} {p : Nat → Bool} {j : Nat} : j ∈ sel n p ↔ j < n ∧ p j = true := by simp [sel]
theorem sel_lt (n : Nat) (p : Nat → Bool) : (sel n p).Pairwise (· < ·) := List.pairwise_lt_range.filter _
theorem sel_nodup (n : Nat) (p : Nat → Bool) : (sel n p).Nodup := (sel_lt n p).imp Nat.ne_of_lt
theorem lt_uniq : ∀ {l m : List Nat}, (∀ x, x ∈ l ↔ x ∈ m) → l.Pairwise (· < ·) → m.Pairwise (· < ·) → l = m
  | [], [], _, _, _ => rfl
  | [], b :: m, h, _, _ => absurd ((h b).mpr (List.mem_cons_self ..)) (by simp)
  | a :: l, [], h, _, _ => absurd ((h a).mp (List.mem_cons_self ..)) (by simp)
  | a :: l, b :: m, h, h1, h2 => by
    rw [List.pairwise_cons] at h1 h2
    have hab : a = b := by
      rcases List.mem_cons.mp ((h a).mp (List.mem_cons_self ..)) with e | ha
      · exact e
      rcases List.mem_cons.mp ((h b).mpr (List.mem_cons_self ..)) with e | hb
      · exact e.symm
      have := h1.1 b hb
      have := h2.1 a ha
      omega
    subst hab
    rw [lt_uniq (fun x => ?_) h1.2 h2.2]
    constructor
    · intro hx
      rcases List.mem_cons.mp ((h x).mp (List.mem_cons_of_mem _ hx)) with e | q
      · have := h1.1 x hx; omega
      · exact q
    · intro hx
      rcases List.mem_cons.mp ((h x).mpr (List.mem_cons_of_mem _ hx)) with e | q
      · have := h2.1 x hx; omega
      · exact q
theorem sel_congr {n : Nat} {p q : Nat → Bool} (h : ∀ j, j < n → p j = q j) : sel n p = sel n q :=
  List.filter_congr fun j hj => h j (List.mem_range.mp hj)
theorem sel_all {n : Nat} {p : Nat → Bool} (h : ∀ j, j < n → p j = true) : sel n p = List.range n := by
  unfold sel
  rw [List.filter_eq_self]
  exact fun j hj => h j (List.mem_range.mp hj)

/-- jn of jobs -/
def jn (l : List Nat) : List Int := l.map fun j : Nat => (j : Int)
theorem ints_up {l : List Nat} (h : l.Pairwise (· < ·)) : (jn l).Pairwise (· ≤ ·) := by
  unfold jn
  rw [List.pairwise_map]
  exact h.imp fun h => by omega
theorem ints_inj {l m : List Nat} (h : jn l = jn m) : l = m :=
  (List.map_inj_right fun a b e => by omega).mp h
theorem perm_ext {l m : List Nat} (h1 : l.Nodup) (h2 : m.Nodup) (h : ∀ x, x ∈ l ↔ x ∈ m) : l.Perm m := (List.perm_ext_iff_of_nodup h1 h2).mpr h

/-! ### costs -/
def at0 (row : List Int) (j : Nat) : Int := row.getD j 0
def cost (row : List Int) (S : List Nat) : Int := wsum (srt (S.map (at0 row)))
/-- the jobs of machine m, of the machines below m -/
def own (n : Nat) (f : Nat → Nat) (m : Nat) : List Nat := sel n fun j => decide (f j = m)
def don (n : Nat) (f : Nat → Nat) (m : Nat) : List Nat := sel n fun j => decide (f j < m)
def tot (T : List (List Int)) (n : Nat) (f : Nat → Nat) : Nat → Int
  | 0 => 0
  | m + 1 => tot T n f m + cost (T.getD m []) (own n f m)
theorem tot_congr {T : List (List Int)} {n : Nat} {f g : Nat → Nat} : ∀ {k : Nat}, (∀ m, m < k → own n f m = own n g m) → tot T n f k = tot T n g k
  | 0, _ => rfl
  | k + 1, h => by
    unfold tot
    rw [tot_congr (k := k) fun m hm => h m (by omega), h k (by omega)]
theorem own_congr {n : Nat} {f g : Nat → Nat} (h : ∀ j, j < n → f j = g j) (m : Nat) : own n f m = own n g m :=
  sel_congr fun j hj => by rw [h j hj]

/-- what the law asks of a number -/
structure Best (T : List (List Int)) (n : Nat) (b : Int) : Prop where
  hit : ∃ f : Nat → Nat, (∀ j, j < n → f j < T.length) ∧ tot T n f T.length = b
  low : ∀ f : Nat → Nat, (∀ j, j < n → f j < T.length) → b ≤ tot T n f T.length
theorem Best.uniq {T : List (List Int)} {n : Nat} {a b : Int} (h : Best T n a) (h' : Best T n b) : a = b := by
  obtain ⟨f, hf, e⟩ := h.hit
  obtain ⟨g, hg, e'⟩ := h'.hit
  have := h.low g hg
  have := h'.low f hf
  omega

/-! ### all parts of a list -/
def prt (l : List Nat) : List (List Nat) := l.foldl (fun P x => P ++ P.map (· ++ [x])) [[]]
theorem prt_snoc (l : List Nat) (x : Nat) : prt (l ++ [x]) = prt l ++ (prt l).map (· ++ [x]) := by
  unfold prt
  rw [List.foldl_append]
  rfl
theorem rev_ind {P : List Nat → Prop} (h0 : P []) (hs : ∀ l x, P l → P (l ++ [x])) : ∀ l, P l := by
  intro l
  have h : ∀ r : List Nat, P r.reverse := by
    intro r
    induction r with
    | nil => exact h0
    | cons a r ih => rw [List.reverse_cons]; exact hs _ _ ih
  have := h l.reverse
  rwa [List.reverse_reverse] at this
theorem mem_prt : ∀ {l s : List Nat}, s ∈ prt l ↔ s.Sublist l := by
  intro l
  induction l using rev_ind with
  | h0 => intro s; simp [prt]
  | hs l x ih =>
    intro s
    rw [prt_snoc, List.mem_append, List.mem_map, ih]
    constructor
    · rintro (h | ⟨t, ht, rfl⟩)
      · exact h.trans (List.sublist_append_left _ _)
      · exact (ih.mp ht).append (List.Sublist.refl _)
    · intro h
      obtain ⟨s1, s2, rfl, h1, h2⟩ := List.sublist_append_iff.mp h
      rcases List.sublist_cons_iff.mp h2 with h3 | ⟨r, rfl, h3⟩
      · have e := List.sublist_nil.mp h3
        subst e
        rw [List.append_nil]
        exact .inl h1
      · have e := List.sublist_nil.mp h3
        subst e
        exact .inr ⟨s1, ih.mpr h1, rfl⟩
theorem prt_length : ∀ l : List Nat, (prt l).length = 2 ^ l.length := by
  intro l
  induction l using rev_ind with
  | h0 => rfl
  | hs l x ih => rw [prt_snoc, List.length_append, List.length_map, ih, List.length_append, List.length_singleton, Nat.pow_succ]; omega

/-! ### one row of the table more -/
/-- an entry (done, total, lists) behind k rows: it comes from an assignment -/
def Vld (T : List (List Int)) (n k : Nat) (done : List Nat) (t : Int) (L : List (List Nat)) : Prop :=
  ∃ f : Nat → Nat, done = don n f k ∧ t = tot T n f k ∧ L.length = k ∧ ∀ m, m < k → (L.getD m []).Perm (own n f m) ∧ wsum ((L.getD m []).map (at0 (T.getD m []))) = cost (T.getD m []) (own n f m)

theorem vld0 (T : List (List Int)) (n : Nat) : Vld T n 0 [] 0 [] := by
  refine ⟨fun _ => 0, ?_, rfl, rfl, fun m hm => absurd hm (by omega)⟩
  symm
  rw [List.eq_nil_iff_forall_not_mem]
  intro j hj
  have := (mem_sel.mp hj).2
  simp at this

/-- the jobs that are left -/
def lft (n : Nat) (done : List Nat) : List Nat := sel n fun j => decide (¬ j ∈ done)

theorem getD_snoc_lt {α : Type} {L : List α} {x d : α} {m : Nat} (h : m < L.length) : (L ++ [x]).getD m d = L.getD m d := by
  simp [List.getD_eq_getElem?_getD, List.getElem?_append_left h]
theorem getD_snoc_eq {α : Type} {L : List α} {x d : α} {m : Nat} (h : m = L.length) : (L ++ [x]).getD m d = x := by
  subst h
  simp [List.getD_eq_getElem?_getD]

theorem cost_of {row : List Int} {S order : List Nat} (p : order.Perm S) (h : (order.map (at0 row)).Pairwise (· ≤ ·)) : wsum (order.map (at0 row)) = cost row S := by
  unfold cost
  rw [srt_of (p.map _) h]

theorem vld_step {T : List (List Int)} {n k : Nat} {done key part order : List Nat} {t : Int} {L : List (List Nat)} (v : Vld T n k done t L) (hp : part.Sublist (lft n done)) (ho : order.Perm part) (hs : (order.map (at0 (T.getD k []))).Pairwise (· ≤ ·))
    (hk : key.Perm (done ++ part)) (hu : (jn key).Pairwise (· ≤ ·)) : Vld T n (k + 1) key (t + wsum (order.map (at0 (T.getD k [])))) (L ++ [order]) := by
  obtain ⟨f, hd, ht, hL, hm⟩ := v
  have hpm : ∀ j, j ∈ part → j < n ∧ ¬ j ∈ done := fun j hj => by
    have := mem_sel.mp (hp.subset hj)
    simpa using this
  have hpl : part.Pairwise (· < ·) := (sel_lt n _).sublist hp
  have hdn : ∀ j, j ∈ done ↔ j < n ∧ f j < k := fun j => by
    rw [hd]
    unfold don
    rw [mem_sel]
    simp
  let g : Nat → Nat := fun j => if j ∈ part then k else if f j < k then f j else k + 1
  have gk : ∀ j, j < n → (g j = k ↔ j ∈ part) := fun j hj => by
    show (if j ∈ part then k else if f j < k then f j else k + 1) = k ↔ j ∈ part
    split
    · rename_i h; exact ⟨fun _ => h, fun _ => rfl⟩
    · rename_i h
      split
      · rename_i h2; exact ⟨fun e => by omega, fun z => absurd z h⟩
      · exact ⟨fun e => by omega, fun z => absurd z h⟩
  have gm : ∀ m, m < k → ∀ j, j < n → (g j = m ↔ f j = m) := fun m hmk j hj => by
    show (if j ∈ part then k else if f j < k then f j else k + 1) = m ↔ f j = m
    split
    · rename_i h
      constructor
      · intro e; omega
      · intro e
        exact absurd ((hdn j).mpr ⟨hj, by omega⟩) (hpm j h).2
    · split
      · exact Iff.rfl
      · constructor <;> intro e <;> omega
  have ownm : ∀ m, m < k → own n g m = own n f m := fun m hmk => sel_congr fun j hj => by
    by_cases e : f j = m
    · rw [decide_eq_true ((gm m hmk j hj).mpr e), decide_eq_true e]
    · rw [decide_eq_false (fun z => e ((gm m hmk j hj).mp z)), decide_eq_false e]
  have ownk : own n g k = part := by
    refine lt_uniq (fun x => ?_) (sel_lt n _) hpl
    unfold own
    rw [mem_sel]
    constructor
    · rintro ⟨h1, h2⟩
      exact (gk x h1).mp (by simpa using h2)
    · intro h
      have h1 := (hpm x h).1
      exact ⟨h1, by simpa using (gk x h1).mpr h⟩
  have hdl : done.Nodup := by rw [hd]; exact sel_nodup n _
  have nd : (done ++ part).Nodup := by
    rw [List.nodup_append]
    refine ⟨hdl, hpl.imp Nat.ne_of_lt, fun a ha b hb e => ?_⟩
    subst e
    exact (hpm a hb).2 ha
  have hkey : key = don n g (k + 1) := by
    have p : (don n g (k + 1)).Perm (done ++ part) := by
      refine perm_ext (sel_nodup n _) nd fun x => ?_
      unfold don
      rw [mem_sel, List.mem_append, hdn]
      constructor
      · rintro ⟨h1, h2⟩
        have h2 : g x < k + 1 := by simpa using h2
        by_cases e : g x = k
        · exact .inr ((gk x h1).mp e)
        · have e2 := (gm (g x) (by omega) x h1).mp rfl
          exact .inl ⟨h1, by omega⟩
      · rintro (⟨h1, h2⟩ | h)
        · have := (gm (f x) h2 x h1).mpr rfl
          exact ⟨h1, by simp; omega⟩
        · have h1 := (hpm x h).1
          have := (gk x h1).mpr h
          exact ⟨h1, by simp; omega⟩
    exact ints_inj (up_uniq ((hk.trans p.symm).map fun j : Nat => (j : Int)) hu (ints_up (sel_lt n _)))
  refine ⟨g, hkey, ?_, by rw [List.length_append, hL, List.length_singleton], fun m hm' => ?_⟩
  · unfold tot
    rw [tot_congr (f := g) (g := f) (k := k) ownm, ← ht, ownk, cost_of ho hs]
  · by_cases e : m = k
    · subst e
      rw [getD_snoc_eq hL.symm, ownk]
      exact ⟨ho, cost_of ho hs⟩
    · have hlt : m < k := by omega
      rw [getD_snoc_lt (by omega), ownm m hlt]
      exact hm m hlt

/-- every assignment's way is among the parts -/
theorem own_part (n : Nat) (f : Nat → Nat) (k : Nat) : own n f k ∈ prt (lft n (don n f k)) := by
  rw [mem_prt]
  have e : own n f k = (lft n (don n f k)).filter fun j => decide (f j = k) := by
    refine lt_uniq (fun x => ?_) (sel_lt n _) ((sel_lt n _).filter _)
    unfold own lft
    rw [List.mem_filter, mem_sel, mem_sel]
    constructor
    · rintro ⟨h1, h2⟩
      refine ⟨⟨h1, ?_⟩, h2⟩
      simp only [decide_eq_true_eq] at h2 ⊢
      intro h3
      have := (mem_sel.mp h3).2
      simp at this
      omega
    · rintro ⟨⟨h1, _⟩, h2⟩
      exact ⟨h1, h2⟩
  rw [e]
  exact List.filter_sublist
theorem don_split (n k : Nat) (f : Nat → Nat) : (don n f (k + 1)).Perm (don n f k ++ own n f k) := by
  refine perm_ext (sel_nodup n _) ?_ fun x => ?_
  · rw [List.nodup_append]
    refine ⟨sel_nodup n _, sel_nodup n _, fun a ha b hb e => ?_⟩
    subst e
    have h1 := (mem_sel.mp ha).2
    have h2 := (mem_sel.mp hb).2
    simp only [decide_eq_true_eq] at h1 h2
    omega
  · unfold don own
    rw [List.mem_append, mem_sel, mem_sel, mem_sel]
    simp only [decide_eq_true_eq]
    constructor
    · rintro ⟨h1, h2⟩
      by_cases e : f x = k
      · exact .inr ⟨h1, e⟩
      · exact .inl ⟨h1, by omega⟩
    · rintro (⟨h1, h2⟩ | ⟨h1, h2⟩) <;> exact ⟨h1, by omega⟩
/-- the key that it makes -/
theorem don_key {n k : Nat} {f : Nat → Nat} {key : List Nat} (hk : key.Perm (don n f k ++ own n f k)) (hu : (jn key).Pairwise (· ≤ ·)) : key = don n f (k + 1) :=
  ints_inj (up_uniq ((hk.trans (don_split n k f).symm).map fun j : Nat => (j : Int)) hu (ints_up (sel_lt n _)))

theorem don_all {n k : Nat} {f : Nat → Nat} (h : ∀ j, j < n → f j < k) : don n f k = List.range n := sel_all fun j hj => by simpa using h j hj
theorem don_zero (n : Nat) (f : Nat → Nat) : don n f 0 = [] := by
  rw [List.eq_nil_iff_forall_not_mem]
  intro j hj
  have := (mem_sel.mp hj).2
  simp at this
theorem don_range {n k : Nat} {f : Nat → Nat} (h : List.range n = don n f k) : ∀ j, j < n → f j < k := fun j hj => by
  have : j ∈ don n f k := by rw [← h]; exact List.mem_range.mpr hj
  simpa using (mem_sel.mp this).2

/-! ### the sum of lists -/
def lsum (T : List (List Int)) (L : List (List Nat)) : Int := ((T.zip L).map fun p => wsum (p.2.map (at0 p.1))).sum

theorem lsum_snoc (T : List (List Int)) (L : List (List Nat)) (o : List Nat) (h : L.length < T.length) : lsum T (L ++ [o]) = lsum T L + wsum (o.map (at0 (T.getD L.length []))) := by
  unfold lsum
  induction T generalizing L with
  | nil => simp at h
  | cons r T ih =>
    cases L with
    | nil => simp
    | cons x L =>
      have h' : L.length < T.length := by simpa using h
      have := ih L h'
      simp only [List.cons_append, List.zip_cons_cons, List.map_cons, List.sum_cons, List.length_cons, List.getD_cons_succ] at this ⊢
      rw [this]
      omega
theorem snoc_of {α : Type} {L : List α} {k : Nat} (h : L.length = k + 1) : ∃ (L' : List α) (o : α), L = L' ++ [o] := by
  have ne : L ≠ [] := by intro e; rw [e] at h; cases h
  exact ⟨L.dropLast, L.getLast ne, (List.dropLast_concat_getLast ne).symm⟩
theorem lsum_vld : ∀ {k : Nat} {T : List (List Int)} {n : Nat} {f : Nat → Nat} {L : List (List Nat)}, k ≤ T.length → L.length = k →
    (∀ m, m < k → wsum ((L.getD m []).map (at0 (T.getD m []))) = cost (T.getD m []) (own n f m)) → lsum T L = tot T n f k
  | 0, T, n, f, L, _, hL, _ => by
    rw [List.length_eq_zero_iff.mp hL]
    simp [lsum, tot]
  | k + 1, T, n, f, L, hk, hL, h => by
    obtain ⟨L', o, rfl⟩ := snoc_of hL
    have hL' : L'.length = k := by simpa using hL
    rw [lsum_snoc _ _ _ (by omega), hL', lsum_vld (k := k) (n := n) (f := f) (by omega) hL' fun m hm => ?_]
    · have := h k (by omega)
      rw [getD_snoc_eq hL'.symm] at this
      rw [this]
      rfl
    · have := h m (by omega)
      rwa [getD_snoc_lt (by omega)] at this
theorem flat_perm : ∀ {k n : Nat} {f : Nat → Nat} {L : List (List Nat)}, L.length = k → (∀ m, m < k → (L.getD m []).Perm (own n f m)) → L.flatten.Perm (don n f k)
  | 0, n, f, L, hL, _ => by
    rw [List.length_eq_zero_iff.mp hL, don_zero]
    exact List.Perm.refl _
  | k + 1, n, f, L, hL, h => by
    obtain ⟨L', o, rfl⟩ := snoc_of hL
    have hL' : L'.length = k := by simpa using hL
    have p1 : L'.flatten.Perm (don n f k) := flat_perm (k := k) hL' fun m hm => by
      have := h m (by omega)
      rwa [getD_snoc_lt (by omega)] at this
    have p2 : o.Perm (own n f k) := by
      have := h k (by omega)
      rwa [getD_snoc_eq hL'.symm] at this
    rw [List.flatten_append, List.flatten_cons, List.flatten_nil, List.append_nil]
    exact (p1.append p2).trans (don_split n k f).symm

/-- what the entry of all jobs says at the end -/
theorem vld_end {T : List (List Int)} {n : Nat} {t : Int} {L : List (List Nat)} (v : Vld T n T.length (List.range n) t L) :
    (∃ f : Nat → Nat, (∀ j, j < n → f j < T.length) ∧ tot T n f T.length = t) ∧ L.length = T.length ∧ L.flatten.Perm (List.range n) ∧ lsum T L = t := by
  obtain ⟨f, hd, ht, hL, hm⟩ := v
  refine ⟨⟨f, don_range hd, ht.symm⟩, hL, ?_, ?_⟩
  · have := flat_perm hL fun m h => (hm m h).1
    rwa [← hd] at this
  · rw [ht]
    exact lsum_vld (Nat.le_refl _) hL fun m h => (hm m h).2

/-! ### all assignments, as lists -/
def prod (many : Nat) : Nat → List (List Nat)
  | 0 => [[]]
  | k + 1 => (prod many k).flatMap fun p => (List.range many).map fun a => p ++ [a]
theorem mem_prod {many : Nat} : ∀ {k : Nat} {p : List Nat}, p ∈ prod many k ↔ p.length = k ∧ ∀ x, x ∈ p → x < many
  | 0, p => by
    simp only [prod, List.mem_singleton]
    constructor
    · rintro rfl; simp
    · rintro ⟨h, _⟩; exact List.length_eq_zero_iff.mp h
  | k + 1, p => by
    simp only [prod, List.mem_flatMap, List.mem_map, List.mem_range]
    constructor
    · rintro ⟨q, hq, a, ha, rfl⟩
      obtain ⟨h1, h2⟩ := mem_prod.mp hq
      refine ⟨by simp [h1], fun x hx => ?_⟩
      rcases List.mem_append.mp hx with h | h
      · exact h2 x h
      · rw [List.mem_singleton.mp h]; exact ha
    · rintro ⟨h1, h2⟩
      obtain ⟨q, a, rfl⟩ := snoc_of h1
      exact ⟨q, mem_prod.mpr ⟨by simpa using h1, fun x hx => h2 x (List.mem_append_left _ hx)⟩, a, h2 a (by simp), rfl⟩
theorem prod_length (many : Nat) : ∀ k, (prod many k).length = many ^ k
  | 0 => rfl
  | k + 1 => by
    have h : ∀ P : List (List Nat), (P.flatMap fun p => (List.range many).map fun a => p ++ [a]).length = P.length * many := by
      intro P
      induction P with
      | nil => simp
      | cons p P ih => rw [List.flatMap_cons, List.length_append, ih, List.length_map, List.length_range, List.length_cons, Nat.succ_mul]; omega
    show ((prod many k).flatMap _).length = _
    rw [h, prod_length many k, Nat.pow_succ]
/-- the assignment that a list tells -/
def asg (p : List Nat) : Nat → Nat := fun j => p.getD j 0
theorem asg_lt {many : Nat} {k : Nat} {p : List Nat} (h : p ∈ prod many k) : ∀ j, j < k → asg p j < many := fun j hj => by
  obtain ⟨h1, h2⟩ := mem_prod.mp h
  unfold asg
  have e : p.getD j 0 = p[j]'(by omega) := by simp [List.getD_eq_getElem?_getD, List.getElem?_eq_getElem (show j < p.length by omega)]
  rw [e]
  exact h2 _ (List.getElem_mem _)
theorem asg_of (n : Nat) (f : Nat → Nat) : ∀ j, j < n → f j = asg ((List.range n).map f) j := fun j hj => by
  simp [asg, List.getD_eq_getElem?_getD, hj]
/-- the least of all their totals -/
theorem best_of {T : List (List Int)} {n : Nat} {b : Int} (h1 : ∃ p, p ∈ prod T.length n ∧ tot T n (asg p) T.length = b) (h2 : ∀ p, p ∈ prod T.length n → b ≤ tot T n (asg p) T.length) : Best T n b := by
  refine ⟨?_, fun f hf => ?_⟩
  · obtain ⟨p, hp, e⟩ := h1
    exact ⟨asg p, asg_lt hp, e⟩
  · have hp : (List.range n).map f ∈ prod T.length n := mem_prod.mpr ⟨by simp, fun x hx => by
      obtain ⟨j, hj, rfl⟩ := List.mem_map.mp hx
      exact hf j (List.mem_range.mp hj)⟩
    have := h2 _ hp
    rwa [tot_congr fun m _ => own_congr (f := asg ((List.range n).map f)) (g := f) (fun j hj => (asg_of n f j hj).symm) m] at this

/-! ### jobs dealt out -/
theorem deal_perm : ∀ (L : List (List Nat)) (a x : Nat), a < L.length → (L.set a (L.getD a [] ++ [x])).flatten.Perm (x :: L.flatten)
  | [], a, x, h => absurd h (by simp)
  | l :: L, 0, x, _ => by
    simp only [List.set_cons_zero, List.getD_cons_zero, List.flatten_cons, List.append_assoc]
    exact List.perm_middle
  | l :: L, a + 1, x, h => by
    simp only [List.set_cons_succ, List.getD_cons_succ, List.flatten_cons]
    refine ((deal_perm L a x (by simpa using h)).append_left l).trans ?_
    exact List.perm_middle

/-! ### lists one behind another -/
theorem flat_take_le {α : Type} (L : List (List α)) (i : Nat) : (L.take i).flatten.length ≤ L.flatten.length := by
  have e : L.flatten = (L.take i).flatten ++ (L.drop i).flatten := by rw [← List.flatten_append, List.take_append_drop]
  rw [e, List.length_append]
  omega
theorem flat_snoc {α : Type} {L : List (List α)} {i : Nat} {l : List α} (h : L[i]? = some l) : (L.take (i + 1)).flatten = (L.take i).flatten ++ l := by
  rw [List.take_add_one, h]
  simp
/-- the weighted times, list by list -/
def wls (T : List (List Int)) (L : List (List Nat)) : List (List Int) := (T.zip L).map fun p => wl (p.2.map (at0 p.1))
theorem wls_at {T : List (List Int)} {L : List (List Nat)} {i : Nat} {row : List Int} {l : List Nat} (h1 : T[i]? = some row) (h2 : L[i]? = some l) : (wls T L)[i]? = some (wl (l.map (at0 row))) := by
  unfold wls
  rw [List.getElem?_map, (List.getElem?_zip_eq_some (z := (row, l))).mpr ⟨h1, h2⟩]
  rfl
theorem sum_app (l m : List Int) : (l ++ m).sum = l.sum + m.sum := by
  induction l with
  | nil => simp
  | cons x r ih => rw [List.cons_append, List.sum_cons, ih, List.sum_cons]; omega
theorem wls_sum (T : List (List Int)) (L : List (List Nat)) : (wls T L).flatten.sum = lsum T L := by
  unfold wls lsum
  induction T.zip L with
  | nil => rfl
  | cons p r ih => rw [List.map_cons, List.flatten_cons, sum_app, ih, List.map_cons, List.sum_cons, wl_sum]
theorem wls_len : ∀ (T : List (List Int)) (L : List (List Nat)), (wls T L).flatten.length ≤ L.flatten.length
  | [], L => by simp [wls]
  | _ :: _, [] => by simp [wls]
  | row :: T, l :: L => by
    have h := wls_len T L
    unfold wls at *
    simp only [List.zip_cons_cons, List.map_cons, List.flatten_cons, List.length_append, wl_length, List.length_map]
    omega

end K20

namespace K20
open PySem L2
/-! ### the text by places -/
def top (i : Nat) : Stmt := PySem.Challenge.pw_shoporders_k20_whole_unlike_machines.main.body.getD i (.Pass ⟨0, 0, 0, 0⟩)
abbrev sInteger : Stmt := top 1
abbrev sIn : Stmt := top 2
abbrev sList : Stmt := top 3
abbrev sNeed : Stmt := top 11
abbrev sUnlike : Stmt := top 12
abbrev sParts : Stmt := top 13
abbrev sOf : Stmt := top 14
abbrev sTaken : Stmt := top 16
abbrev sPick : Stmt := top 17
abbrev sAlike : Stmt := top 18
abbrev sOrder : Stmt := top 19
abbrev sLaw : Stmt := top 20
/-- the built-in names that the text leaves alone -/
structure Blt (mg : Str → Option Value) : Prop where
  isinstance : mg "isinstance" = none
  int : mg "int" = none
  bool : mg "bool" = none
  tuple : mg "tuple" = none
  list : mg "list" = none
  str : mg "str" = none
  len : mg "len" = none
  all : mg "all" = none
  enumerate : mg "enumerate" = none
  range : mg "range" = none
  sorted : mg "sorted" = none
  sum : mg "sum" = none
  zip : mg "zip" = none
  min : mg "min" = none
theorem boot_isi : bootBuiltins "isinstance" = some (.builtin "isinstance") := by decide +kernel
theorem boot_int : bootBuiltins "int" = some (.type "int") := by decide +kernel
theorem boot_bool : bootBuiltins "bool" = some (.type "bool") := by decide +kernel
theorem boot_tuple : bootBuiltins "tuple" = some (.type "tuple") := by decide +kernel
theorem boot_list : bootBuiltins "list" = some (.type "list") := by decide +kernel
theorem boot_str : bootBuiltins "str" = some (.type "str") := by decide +kernel
theorem boot_all : bootBuiltins "all" = some (.builtin "all") := by decide +kernel
theorem boot_sum : bootBuiltins "sum" = some (.builtin "sum") := by decide +kernel
theorem boot_sorted : bootBuiltins "sorted" = some (.builtin "sorted") := by decide +kernel
theorem boot_min : bootBuiltins "min" = some (.builtin "min") := by decide +kernel
theorem kit_int_int {K : PySem.W.Frag} : PySem.W.kitOne K (.type "int") (.type "int") = some true := kit_ty (by decide +kernel)
theorem kit_int_bool {K : PySem.W.Frag} : PySem.W.kitOne K (.type "int") (.type "bool") = some false := kit_ty (by decide +kernel)
theorem kit_tup_tup {K : PySem.W.Frag} : PySem.W.kitOne K (.type "tuple") (.type "tuple") = some true := kit_ty (by decide +kernel)
/-! ### whole numbers, ranges, lengths -/
def spInteger : Sp := fun vs H Q _ => ∃ i : Int, vs = [.int i] ∧ Q (.bl true) H
def spIn : Sp := fun vs H Q _ => ∃ i a b : Int, vs = [.int i, .int a, .int b] ∧ Q (.bl (decide (a ≤ i ∧ i ≤ b))) H
def spList : Sp := fun vs H Q _ => ∃ (t : Addr) (xs : List V) (a b : Int), vs = [.ref t, .int a, .int b] ∧ H t = some (.tup xs) ∧ Q (.bl (decide (a ≤ (xs.length : Int) ∧ (xs.length : Int) ≤ b))) H
section
variable {P : Program} {w : World} {K : PySem.W.Frag} {mg : Str → Option Value} {base : Heap}
theorem scInteger : FnScope ["value"] ["value"] (defScope sInteger) := ⟨rfl, rfl, rfl, by decide +kernel, rfl, by decide +kernel, by decide +kernel⟩
theorem ok_integer {f : Addr} {fd : FuncData} (F : Fun K "is_integer" "is_integer" sInteger f fd) (B : Blt mg) : FnOk P w K mg base CX0 1 f fd ["value"] spInteger := by
  refine F.ok scInteger (fun vs H Q E h => ?_) (fun cdv A outer s H vs Q E hr h => ?_)
  · obtain ⟨i, rfl, _⟩ := h
    rfl
  · obtain ⟨i, rfl, q⟩ := h
    refine ⟨_, pss_one (ps_ret (pe_and
      (pe_callB call_isi (by rfl) B.isinstance boot_isi (pa_cons (pv 0) (pa_cons (pe_bltn (v := .ty "int") (by rfl) B.int boot_int rfl) pa_nil)))
      (pe_one (pe_not (pe_callB call_isi (by rfl) B.isinstance boot_isi (pa_cons (pv 0) (pa_cons (pe_bltn (v := .ty "bool") (by rfl) B.bool boot_bool rfl) pa_nil))))))), ?_⟩
    refine ⟨_, rfl, .int i, .ty "int", .type "int", .type "int", true, rfl, .ty "int", .base (.int i), kit_int_int, true, rfl, iteT ?_⟩
    exact ⟨_, rfl, .int i, .ty "bool", .type "int", .type "bool", false, rfl, .ty "bool", .base (.int i), kit_int_bool, false, rfl, q⟩
theorem scIn : FnScope ["value", "least", "most"] ["value", "least", "most"] (defScope sIn) := ⟨rfl, rfl, rfl, by decide +kernel, rfl, by decide +kernel, by decide +kernel⟩
theorem ok_in {f g : Addr} {fd gd : FuncData} (F : Fun K "is_in" "is_in" sIn f fd) (G : Fun K "is_integer" "is_integer" sInteger g gd) (bG : Binds K gd ["value"] []) (mG : mg "is_integer" = some (.ref g)) (B : Blt mg) :
    FnOk P w K mg base CX0 2 f fd ["value", "least", "most"] spIn := by
  have OG : FnOk P w K mg base CX0 1 g gd ["value"] spInteger := ok_integer G B
  refine F.ok scIn (fun vs H Q E h => ?_) (fun cdv A outer s H vs Q E hr h => ?_)
  · obtain ⟨i, a, b, rfl, _⟩ := h
    rfl
  · obtain ⟨i, a, b, rfl, q⟩ := h
    refine ⟨_, pss_one (ps_ret (pe_and (pe_call OG hr (by rfl) mG G.kp bG .nil pass0 (pa_cons (pv 0) pa_nil)) (pe_one (pe_chain op_le op_le (pv 1) (pv 0) (pv 2))))), ?_⟩
    refine ⟨_, rfl, i, rfl, true, rfl, iteT ?_⟩
    refine ⟨_, rfl, _, rfl, a, i, rfl, rfl, _, rfl, ite2 (fun h1 => ?_) (fun h1 => ?_)⟩
    · refine ⟨_, rfl, i, b, rfl, rfl, ?_⟩
      have e : decide (a ≤ i ∧ i ≤ b) = decide (i ≤ b) := by
        have : a ≤ i := by simpa using h1
        simp [this]
      rw [e] at q
      exact q
    · have e : decide (a ≤ i ∧ i ≤ b) = false := by
        have : ¬ a ≤ i := by simpa using h1
        simp [this]
      rw [e] at q
      exact q
theorem scList : FnScope ["value", "least", "most"] ["value", "least", "most"] (defScope sList) := ⟨rfl, rfl, rfl, by decide +kernel, rfl, by decide +kernel, by decide +kernel⟩
theorem ok_list {f : Addr} {fd : FuncData} (F : Fun K "is_list" "is_list" sList f fd) (B : Blt mg) : FnOk P w K mg base CX0 1 f fd ["value", "least", "most"] spList := by
  refine F.ok scList (fun vs H Q E h => ?_) (fun cdv A outer s H vs Q E hr h => ?_)
  · obtain ⟨t, xs, a, b, rfl, _⟩ := h
    rfl
  · obtain ⟨t, xs, a, b, rfl, ht, q⟩ := h
    refine ⟨_, pss_one (ps_ret (pe_and (pe_callB call_isi (by rfl) B.isinstance boot_isi (pa_cons (pv 0) (pa_cons (pe_bltn (v := .ty "tuple") (by rfl) B.tuple boot_tuple rfl) pa_nil)))
      (pe_one (pe_chain op_le op_le (pv 1) (pe_callB call_len_seq (by rfl) B.len PySem.boot_len (pa_cons (pv 0) pa_nil)) (pv 2))))), ?_⟩
    refine ⟨_, rfl, .ref t, .ty "tuple", .type "tuple", .type "tuple", true, rfl, .ty "tuple", .base (.tup ht), kit_tup_tup, true, rfl, iteT ?_⟩
    refine ⟨_, rfl, _, rfl, t, xs, rfl, .inr (SqT.of ht), a, _, rfl, rfl, _, rfl, ite2 (fun h1 => ?_) (fun h1 => ?_)⟩
    · refine ⟨_, rfl, _, b, rfl, rfl, ?_⟩
      have e : decide (a ≤ (xs.length : Int) ∧ (xs.length : Int) ≤ b) = decide ((xs.length : Int) ≤ b) := by
        have : a ≤ (xs.length : Int) := by simpa using h1
        simp [this]
      rw [e] at q
      exact q
    · have e : decide (a ≤ (xs.length : Int) ∧ (xs.length : Int) ≤ b) = false := by
        have : ¬ a ≤ (xs.length : Int) := by simpa using h1
        simp [this]
      rw [e] at q
      exact q
end
end K20

namespace K20
open PySem L2
/-! ### enumerate(a tuple), items() of a dict with tuple keys: what a loop draws from them -/
/-- n pairs; G: what stands while they are drawn -/
def ItP (n : Nat) (G : Hp → Prop) (p q : Nat → Option V) : It :=
  ⟨fun i H => i < n ∧ G H, fun i H v H2 => ∃ T x y, v = .ref T ∧ H T = none ∧ H2 = upd H T (.tup [x, y]) ∧ p i = some x ∧ q i = some y, fun i H => i = n ∧ G H⟩
theorem walk_P {n : Nat} {G : Hp → Prop} {p q : Nat → Option V} : Walk (ItP n G p q) n G (YPair p q) :=
  ⟨fun _ _ hi g => ⟨hi, g⟩, fun _ g => ⟨rfl, g⟩, fun _ _ _ _ _ _ y => y⟩
theorem turn_P {P : Program} {w : World} {K : PySem.W.Frag} {elts : List Expr} {kk : Nat} {tpos : Pos} {it : Addr} {fp fpN wr : List Addr} {n : Nat} {G : Hp → Prop} {p q : Nat → Option V} {Y : Array Value → Nat → Heap → Value → Heap → Prop} {St : Array Value → Nat → Heap → Prop} {tn : Nat → Heap → Prop}
    (hmem : it ∈ fp) (hwr : ∀ b ∈ wr, b ∈ fp) (hobj : ∀ i h, tn i h → ∀ b ∈ fp, ∃ o, h.get? b = some o ∧ ∀ v, o.data ≠ .cell v) (hkeep : ∀ i h h2, tn i h → (∀ b ∈ fp, ∀ o, h.get? b = some o → h2.get? b = some o) → tn i h2)
    (W : ∀ (c : Array Value) (A : Around), c.size = n → A.handled = none → GoesN P w A (.Tuple elts kk tpos) it fpN wr n (Y c) (St c))
    (hst : ∀ (X : Cx) (i : Nat) (pins : List (Addr × Obj)) (s : Shared) (σ : L2.St) (H : Hp), X.prog = P → X.w = w → X.K = K → Inv X pins σ H s → G H → tn i s.heap → ∃ c : Array Value, c.size = n ∧ St c i s.heap) (hnx : ∀ c i h, St c i h → tn i h)
    (hY : ∀ (X : Cx) (c : Array Value) (i : Nat) (pins : List (Addr × Obj)) (s : Shared) (σ : L2.St) (H : Hp) (v : Value) (h2 : Heap), X.prog = P → X.w = w → X.K = K → Inv X pins σ H s → G H → i < n → c.size = n → St c i s.heap → Y c i s.heap v h2 →
      ∃ T u1 u2 x y, v = .ref T ∧ s.heap.objs.size ≤ T ∧ h2.IsTuple T #[u1, u2] ∧ p i = some x ∧ q i = some y ∧ RelV x u1 ∧ RelV y u2)
    (hself : ∀ (A : Around) (i : Nat) (s : Shared) (Q : Value → Shared → Prop) (E : Value → Shared → Prop), tn i s.heap → Q (.ref it) s → wpAny (model P w) A (pyIter (.ref it)) Q E s) :
    Turn P w K (.Tuple elts kk tpos) (ItP n G p q) fp it tn where
  mem := hmem
  obj := hobj
  keep := hkeep
  self := hself
  item := by
    intro X eP ew eK calm i pins s σ H E I free now go
    subst eP ew eK
    obtain ⟨hi, g⟩ := go
    obtain ⟨c, hc, st⟩ := hst X i pins s σ H rfl rfl rfl I g now
    refine (W c X.A hc (I.ok.hd calm)).goes i s _ E hi st fun v h2 tk y st2 old _ => ?_
    obtain ⟨T, u1, u2, x, z, rfl, hT, ht, ex, ez, r1, r2⟩ := hY X c i pins s σ H v h2 rfl rfl rfl I g hi hc st y
    have new : ObjOk X.prog X.w (upd H T (.tup [x, z])) h2 T (.tup [x, z]) := ⟨by show 2 ≤ sizeLine; decide, [u1, u2], .cons r1 (.cons r2 .nil), ht⟩
    have I2 : Inv X pins σ (upd H T (.tup [x, z])) { s with heap := h2, toks := tk } := I.turnedNew (ch := wr) old (fun b hb => free b (hwr b hb)) hT new
    refine ⟨.ref T, _, I2, rfl, ⟨T, x, z, rfl, I.hok.fresh hT, rfl, ex, ez⟩, hnx _ _ _ st2, fun b hb => ?_⟩
    obtain ⟨o, ho, _⟩ := hobj i s.heap now b hb
    have hlt : b < T := Nat.lt_of_lt_of_le (Heap.lt_size ho) hT
    rw [upd_ne (Nat.ne_of_lt hlt)]
    exact (free b hb).1
  done := by
    intro X eP ew eK calm i pins s σ H E I free now stop
    subst eP ew eK
    obtain ⟨hi, g⟩ := stop
    subst hi
    obtain ⟨c, hc, st⟩ := hst X i pins s σ H rfl rfl rfl I g now
    exact (W c X.A hc (I.ok.hd calm)).stops s _ E st fun h2 tk old _ => I.turnedL (ch := wr) old fun b hb => free b (hwr b hb)
/-- the text's order of places -/
def numV (i : Nat) : Option V := some (.int (i : Int))
theorem meets_enumT (l : Addr) (items : Array Value) (n : Nat) (dct : Option Addr) (sl : Array (Option Value)) :
    Meets (Builtin.«enumerate.__new__» ⟨[.type "enumerate", .ref l], []⟩) (fun _ R s => s.heap.get? l = some { cls := .type "tuple", dict := dct, data := .seq items n, slots := sl } ∧
      R (.ok (.ret (.ref (s.heap.push { cls := .type "tuple_iterator", data := .fields #[.ref l, .int 0 0] }).objs.size)))
        { s with heap := (s.heap.push { cls := .type "tuple_iterator", data := .fields #[.ref l, .int 0 0] }).push { cls := .type "enumerate", data := .fields #[.none, .bool false, .ref s.heap.objs.size, rawInt 0, .none, .none] } }) :=
  .of_wp fun prog w A R s hyp => by
    obtain ⟨hp, g, d, tk, os⟩ := s
    obtain ⟨at_l, fin⟩ := hyp
    have sub := sub_enumerate
    have tup : Heap.IsTuple (Shared.heap ⟨hp, g, d, tk, os⟩) l items := ⟨_, at_l, rfl, n, rfl⟩
    wp_walk using AutoSeq1.wpAny_loadPart' at_l
    refine wpAny_stack_any fun st => wpAny_pure ?_
    split
    · rename_i c _ _ _ _ _
      cases (c == Value.type "enumerate")
      · wp_walk using AutoSeq1.wpAny_loadPart' at_l, wpAny_pyIter_tuple tup
        exact ⟨_, rfl, fin⟩
      · wp_walk using AutoSeq1.wpAny_loadPart' at_l, wpAny_pyIter_tuple tup
        exact ⟨_, rfl, fin⟩
    · wp_walk using AutoSeq1.wpAny_loadPart' at_l, wpAny_pyIter_tuple tup
      exact ⟨_, rfl, fin⟩
end K20

namespace K20
open PySem L2
section
variable {prog : Program} {w : World} {A : Around} {E : Value → Shared → Prop} {s : Shared}
theorem call_enumT {l : Addr} {items : Array Value} {Q : Value → Shared → Prop} (ht : s.heap.IsTuple l items)
    (fin : ∀ h2, IsEnum h2 (s.heap.objs.size + 1) s.heap.objs.size 0 .none → h2.IsTupleIter s.heap.objs.size l 0 → (∀ b o, s.heap.get? b = some o → h2.get? b = some o) → Q (.ref (s.heap.objs.size + 1)) { s with heap := h2 }) :
    wpAny (model prog w) A (call (.type "enumerate") [.ref l]) Q E s := by
  obtain ⟨⟨c, dct, dt, sl⟩, at_l, hc, n, hd⟩ := ht
  replace hc : c = .type "tuple" := hc
  replace hd : dt = .seq items n := hd
  subst hc hd
  refine callType_new F.called_enumerate (by decide) (F.typeCall_enumerate_1 _) (F.newCall_enumerate_1 _) (fun obj => F.args_object_init_2 obj _) F.entry_enumerate_new (meets_enumT l items n dct sl) ⟨at_l, ?_⟩
  have sz : (s.heap.push { cls := .type "tuple_iterator", data := .fields #[.ref l, .int 0 0] }).objs.size = s.heap.objs.size + 1 := Heap.size_push ..
  show _ ∧ _
  rw [sz]
  have en : IsEnum ((s.heap.push { cls := .type "tuple_iterator", data := .fields #[.ref l, .int 0 0] }).push { cls := .type "enumerate", data := .fields #[.none, .bool false, .ref s.heap.objs.size, rawInt 0, .none, .none] })
      (s.heap.objs.size + 1) s.heap.objs.size 0 .none := by
    have got := Heap.get?_push_size (s.heap.push { cls := .type "tuple_iterator", data := .fields #[.ref l, .int 0 0] }) (o := { cls := .type "enumerate", data := .fields #[.none, .bool false, .ref s.heap.objs.size, rawInt 0, .none, .none] }) rfl
    rw [sz] at got
    exact got
  exact ⟨⟨_, en, rfl⟩, fin _ en ⟨_, Heap.get?_push_of_some _ (Heap.get?_push_size _ rfl), rfl, rfl⟩ fun b o q => Heap.get?_push_of_some _ (Heap.get?_push_of_some _ q)⟩
end
theorem tup_one {h : Heap} {a : Addr} {c d : Array Value} (h1 : h.IsTuple a c) (h2 : h.IsTuple a d) : c = d := by
  obtain ⟨o, e, _, n, k⟩ := h1
  obtain ⟨o2, e2, _, n2, k2⟩ := h2
  rw [e] at e2
  cases e2
  rw [k] at k2
  injection k2
theorem vals_back : ∀ {xs : List V} {us : List Value} {i : Nat} {u : Value}, Vals xs us → us[i]? = some u → ∃ x, xs[i]? = some x ∧ RelV x u
  | _, _, _, _, .nil, e => by simp at e
  | _, _, 0, _, .cons r _, e => by simp at e; subst e; exact ⟨_, rfl, r⟩
  | _, _, i + 1, _, .cons _ t, e => by
    obtain ⟨x, h1, h2⟩ := vals_back t (by simpa using e)
    exact ⟨x, by simpa using h1, h2⟩
/-- for i, x in enumerate(t), t a tuple -/
def iEnumT (K : PySem.W.Frag) (ta : TA) : TI := fun σ H R => ta σ H fun vs H1 => ∃ a xs, vs = [.ref a] ∧ SqT K H1 a xs ∧ R (ItP xs.length (fun H => SqT K H a xs) numV (fun i => xs[i]?)) H1
theorem pi_enumT {X : Cx} {e : Expr} {ta : TA} {p pos tpos : Pos} {elts : List Expr} {kk : Nat} (hg : Gl X "enumerate") (hm : X.mg "enumerate" = none) (ha : PA X [e] ta) (hs : starEach [e] X.env = [(false, eval e X.env)] := by rfl) :
    PI X (.Tuple elts kk tpos) (.Call (.Name "enumerate" p) [e] [] pos) (iEnumT X.K ta) := by
  refine ⟨fun pins s σ H R I h => ?_⟩
  refine PyProof.Rows.Call_ (ld_blt I hg hm PyProof.Rows.boot_enumerate (PyProof.Rows.callWith_type1 (thn (ha.run pos pins s σ H _ I h) fun us s1 ⟨vs, H1, I1, r1, a, xs, ex, hq, q⟩ => ?_) hs rfl))
  subst ex
  obtain ⟨u1, rfl, ru⟩ := vals1 r1
  obtain rfl : u1 = Value.ref a := ru
  obtain ⟨its, rv, tup, _⟩ := I1.tuple hq
  have hl : its.length = xs.length := rv.length.symm
  have alt : a < s1.heap.objs.size := by
    obtain ⟨o, ho, _⟩ := tup
    exact Heap.lt_size ho
  refine call_enumT (show s1.heap.IsTuple a its.toArray from tup) fun h2 en ti old => wpAny_pyIter_enum en ?_
  have I2 : Inv X pins σ H1 { s1 with heap := h2 } := I1.kept (t' := s1.toks) old
  have ne1 : s1.heap.objs.size + 1 ≠ s1.heap.objs.size := Nat.succ_ne_self _
  refine ⟨s1.heap.objs.size + 1, [s1.heap.objs.size + 1, s1.heap.objs.size], fun i h => (∃ o, IsEnum h (s1.heap.objs.size + 1) s1.heap.objs.size ((i : Nat) : Int) o) ∧ h.IsTupleIter s1.heap.objs.size a i, _, H1, rfl, I2, ?_, ⟨⟨_, en⟩, ti⟩, fun b hb => ?_, q⟩
  · refine turn_P (fpN := [s1.heap.objs.size + 1, s1.heap.objs.size, a]) (wr := [s1.heap.objs.size + 1, s1.heap.objs.size])
      (St := fun c i h => (∃ o, IsEnum h (s1.heap.objs.size + 1) s1.heap.objs.size (0 + ((i : Nat) : Int)) o) ∧ (h.IsTupleIter s1.heap.objs.size a i ∧ h.IsTuple a c))
      (Y := fun c i h0 v h => ∃ T t x, v = .ref T ∧ h0.objs.size ≤ T ∧ c[i]? = some x ∧ h.IsTuple T #[.int (0 + (i : Int)) t, x])
      (by simp) (fun b hb => hb) ?_ ?_ (fun c A hz hA => ?_) ?_ ?_ ?_ ?_
    · rintro i h ⟨⟨o, h1⟩, o2, h2, _, d2⟩ b hb
      rcases List.mem_cons.mp hb with rfl | hb
      · exact ⟨_, h1, fun v z => nomatch z⟩
      · rw [List.mem_singleton.mp hb]
        exact ⟨o2, h2, fun v z => by rw [d2] at z; cases z⟩
    · rintro i h h3 ⟨⟨o, h1⟩, o2, h2, c2, d2⟩ keep
      exact ⟨⟨o, keep _ (by simp) _ h1⟩, o2, keep _ (by simp) _ h2, c2, d2⟩
    · rw [← hz]
      exact GoesN.enumFrom 0 (Draws.tuple (A := A.in1) hA s1.heap.objs.size a (Nat.ne_of_lt alt) c) (s1.heap.objs.size + 1) ne1 (by
        intro z
        rcases List.mem_cons.mp z with z | z
        · exact ne1 z
        · have z2 := List.mem_singleton.mp z
          exact absurd alt (by rw [← z2]; exact Nat.not_lt.mpr (Nat.le_add_right _ _))) (by simp)
    · rintro X2 i pins2 s2 σ2 H2 _ _ eK I3 g ⟨⟨o, h1⟩, h2⟩
      rw [← eK] at g
      obtain ⟨its2, rv2, tup2, _⟩ := I3.tuple g
      exact ⟨its2.toArray, by rw [List.size_toArray]; exact rv2.length.symm, ⟨o, by rw [Int.zero_add]; exact h1⟩, h2, tup2⟩
    · rintro c i h ⟨⟨o, h1⟩, h2, _⟩
      exact ⟨⟨o, by rw [Int.zero_add] at h1; exact h1⟩, h2⟩
    · rintro X2 c i pins2 s2 σ2 H2 v h3 _ _ eK I3 g hi hc ⟨_, _, tc⟩ ⟨T, t, x, rfl, hT, hx, htu⟩
      rw [← eK] at g
      obtain ⟨its2, rv2, tup2, _⟩ := I3.tuple g
      have ec : c = its2.toArray := tup_one tc tup2
      have hx2 : its2[i]? = some x := by rw [ec] at hx; simpa using hx
      obtain ⟨y, hy, ry⟩ := vals_back rv2 hx2
      exact ⟨T, _, x, .int (i : Int), y, rfl, hT, htu, rfl, hy, ⟨t, by rw [Int.zero_add]⟩, ry⟩
    · rintro A i s Q E ⟨⟨o, h1⟩, _⟩ h
      exact wpAny_pyIter_enum h1 h
  · have hle : s1.heap.objs.size ≤ b := by
      rcases List.mem_cons.mp hb with z | z
      · rw [z]; exact Nat.le_add_right _ _
      · rw [List.mem_singleton.mp z]; exact Nat.le_refl _
    exact I1.fpOk hle (I1.hok.fresh hle)
/-- for k, x in d.items(), d locked, its keys tuples -/
def iItemsT (td : TE) : TI := fun σ H R => td σ H fun x H1 => ∃ d o kvs, x = .ref d ∧ H1 d = some (.frz o (.dT kvs)) ∧ ∀ qs : List Addr, qs.length = kvs.length → (∀ (i : Nat) (k : List L2.Key) (v : V) (q : Addr), kvs[i]? = some (k, v) → qs[i]? = some q → H1 q = some (.tup (k.map kV))) →
  R (ItP kvs.length (fun H => H d = some (.frz o (.dT kvs))) (fun i => qs[i]?.map V.ref) (fun i => kvs[i]?.map Prod.snd)) H1
theorem pi_itemsT {X : Cx} {e : Expr} {td : TE} {apos cpos tpos : Pos} {elts : List Expr} {kk : Nat} (he : PE X e td) (hbase : attributeBase e "items" X.env (eval e X.env) = eval e X.env := by rfl) (hline : (apos.endLine == cpos.line) = true := by rfl) :
    PI X (.Tuple elts kk tpos) (.Call (.Attribute e "items" apos) [] [] cpos) (iItemsT td) := by
  refine ⟨fun pins s σ H R I h => ?_⟩
  refine wpAny_Call_method (T := "dict") (id := "dict.items") hbase rfl hline F.plainAttrs_dict F.slot_dict_items F.type_dict_items (thn (he.run pins s σ H _ I h) fun u s1 ⟨x, H1, I1, rx, d, o, kvs, ex, hd, q⟩ => ?_)
  subst ex
  obtain rfl : u = Value.ref d := rx
  obtain ⟨hat, _, hsys, xs, pr, o2, es, ep, ho, exact_, hdt, hes, _⟩ := I1.hok d _ hd
  rw [hat] at ho
  cases ho
  have raw : s1.heap.DictRaw d es ep := ⟨o, hat, exact_, hdt⟩
  have lxs : xs.length = kvs.length := (Paired.length pr).symm
  have les : es.size = kvs.length := by rw [PySem.size_of_entries hes, lxs]
  have ent : ∀ (i : Nat) (k : List L2.Key) (v : V), kvs[i]? = some (k, v) → ∃ (en : DictEntry) (b : Addr), es[i]? = some en ∧ (xs.map fun y => y.2.1)[i]? = some b ∧ en.key = .ref b ∧ H1 b = some (.tup (k.map kV)) ∧ RelV v en.val := fun i k v ei => by
    obtain ⟨y, hy, e1, e2, e3⟩ := paired_get pr ei
    have z := PySem.entry_at hes i
    rw [hy] at z
    exact ⟨_, y.2.1, z, by rw [List.getElem?_map, hy]; rfl, rfl, e2, e3⟩
  refine ⟨raw.typeIs, fun b z => ?_, ?_⟩
  · cases z
    exact ⟨o, hat, exact_.2.1⟩
  have I2 : Inv X pins σ H1 { s1 with heap := s1.heap.push { cls := .type "dict_items", data := .fields #[.ref d] } } := I1.kept (t' := s1.toks) fun b ob z => Heap.get?_push_of_some _ z
  have q2 := q (xs.map fun y => y.2.1) (by rw [List.length_map, lxs]) fun i k v b ek eb => by
    obtain ⟨en, b2, _, h2, _, h3, _⟩ := ent i k v ek
    rw [eb] at h2
    cases h2
    exact h3
  have sz : (s1.heap.push { cls := .type "dict_items", data := .fields #[.ref d] }).objs.size = s1.heap.objs.size + 1 := Heap.size_push ..
  have dlt : d < s1.heap.objs.size := Heap.lt_size hat
  have fin : wpAny (model X.prog X.w) X.A (pyIter (.ref s1.heap.objs.size)) (PIE X pins σ (.Tuple elts kk tpos) R) X.xe { s1 with heap := s1.heap.push { cls := .type "dict_items", data := .fields #[.ref d] } } := by
    refine wpAny_pyIter_items_raw (d := d) (es := es) (ep := ep) ⟨_, Heap.get?_push_size _ rfl, rfl, rfl⟩ (raw.at fun ob z => Heap.get?_push_of_some _ z) ?_
    refine pi_one (tk := s1.toks) I2 _ (tn := fun i h => ∃ ok ov, IsItemIter h (s1.heap.push { cls := .type "dict_items", data := .fields #[.ref d] }).objs.size d i es.size ep ok ov) ?_ ⟨.none, .none, Heap.get?_push_size _ rfl⟩ q2
    rw [sz]
    refine turn_P (fpN := [s1.heap.objs.size + 1, d]) (wr := [s1.heap.objs.size + 1])
      (St := fun _ i h => (∃ ok ov, IsItemIter h (s1.heap.objs.size + 1) d i es.size ep ok ov) ∧ h.DictRaw d es ep)
      (Y := fun _ i h0 v h => ∃ T, ∃ hi : i < es.size, v = .ref T ∧ h0.objs.size ≤ T ∧ h.IsTuple T #[es[i].key, es[i].val])
      (by simp) (fun b hb => hb) ?_ ?_ (fun c A hz hA => ?_) ?_ ?_ ?_ ?_
    · rintro i h ⟨ok, ov, h1⟩ b hb
      rw [List.mem_singleton.mp hb]
      exact ⟨_, h1, fun v z => nomatch z⟩
    · rintro i h h3 ⟨ok, ov, h1⟩ keep
      exact ⟨ok, ov, keep _ (by simp) _ h1⟩
    · rw [← les]
      exact GoesN.rawItems hA (s1.heap.objs.size + 1) d (Nat.ne_of_lt (Nat.lt_succ_of_lt dlt)) es ep
    · rintro X2 i pins2 s2 σ2 H2 _ _ _ I3 g h1
      refine ⟨Array.replicate kvs.length .none, by simp, h1, o, ?_, exact_, hdt⟩
      exact (I3.hok d _ g).1
    · rintro c i h ⟨h1, _⟩
      exact h1
    · rintro X2 c i pins2 s2 σ2 H2 v h3 _ _ _ I3 g hi hc _ ⟨T, hi2, rfl, hT, htu⟩
      obtain ⟨en, b2, e1, e2, e3, _, e5⟩ := ent i kvs[i].1 kvs[i].2 (List.getElem?_eq_getElem hi)
      have ee : es[i] = en := by
        rw [Array.getElem?_eq_getElem hi2] at e1
        exact Option.some.inj e1
      rw [ee] at htu
      exact ⟨T, en.key, en.val, .ref b2, kvs[i].2, rfl, hT, htu, by rw [e2]; rfl, by rw [List.getElem?_eq_getElem hi]; rfl, e3, e5⟩
    · rintro A i s Q E ⟨ok, ov, h1⟩ h
      exact PySem.W.kcp_self h1 h
  show wpAny _ _ (callWith cpos (.builtin "dict.items") [.ref d] [] []) _ X.xe s1
  exact method_meetsIn F.slot_dict_items F.entry_dict_items rfl (PySem.evalArgs_none ⟨rfl, raw.typeIs, F.args_dict_items_1 _, _, meets_dict_items_raw d hsys, ⟨⟨es, ep, raw⟩, fin⟩⟩)
end K20

namespace K20
open PySem L2
/-- {k: v}, one pair, k a tuple of ints and texts -/
def tDispT (tk tv : TE) : TE := fun σ H Q => ∀ p, H p = none → tk σ (upd H p (.dT [])) fun x H1 => tv σ H1 fun y H2 => ∃ (k : List L2.Key) (a : Addr), x = .ref a ∧ H2 a = some (.tup (k.map kV)) ∧ H2 p = some (.dT []) ∧ Q (.ref p) (upd H2 p (.dT [(k, y)]))
theorem pe_dispT {X : Cx} {pos : Pos} {k v : Expr} {tk tv : TE} (hu : X.A.units < cLine) (hk : PE X k tk) (hv : PE X v tv) : PE X (.Dict [some k] [v] pos) (tDispT tk tv) := by
  refine ⟨fun pins s σ H Q I q => ?_⟩
  have hn := I.hok.fresh (Nat.le_refl s.heap.objs.size)
  have I1 := I.laid (a := s.heap.objs.size) (o := .dT []) (h' := s.heap.push { cls := .type "dict", data := .dict #[] }) (t' := s.toks) (fun _ _ z => Heap.get?_push_of_some _ z) (Nat.le_refl _) (dt_empty s.heap I.big)
  have shp : (evalEachOpt [some k] X.env).zip ((evalEach [v] X.env).map fun c => do let c2 ← c; standAt pos; pure c2) = (pairTrees [some k] [v] X.env pos).map fun c => (some c.1, c.2) := zip_pairTrees [some k] [v] X.env pos rfl rfl
  have few : (pairTrees [some k] [v] X.env pos).length ≤ 15 := by
    show 1 ≤ 15
    omega
  rw [arm_eval_Dict, shp, dictDisplay_pairs (pairTrees [some k] [v] X.env pos) (fun z => nomatch z) (by omega)]
  refine wpAny_bind (wpAny_standAt (wpAny_bind (wpAny_subDictH (knd := tupleKind (mixKind X.prog X.w)) hu few ?_)))
  refine pairTrees_cons_walk (thn (hk.run pins _ σ _ _ I1 (q _ hn)) fun u1 s2 ⟨x, H2, I2, rx, q2⟩ => thn (hv.run pins s2 σ H2 _ I2 q2) fun u2 s3 ⟨y, H3, I3, ry, ks, a, ex, ha, hp, q3⟩ => pairTrees_nil_walk ?_)
  subst ex
  obtain rfl : u1 = Value.ref a := rx
  obtain ⟨z, hd, xs0, r0, dd⟩ := dt_of I3.hok hp
  cases r0
  refine ⟨[(ks, a, u2)], ⟨rfl, rfl, key_of I3.hok ha, True.intro⟩, dd, fun h2 tk2 dk sb => wpAny_pure ⟨.ref s.heap.objs.size, upd H3 s.heap.objs.size (.dT [(ks, y)]), ?_, rfl, q3⟩⟩
  have e1 : storedAllH [] [(ks, a, u2)] = [(ks, a, u2)] := by simp [storedAllH, storedH, atKey]
  rw [e1] at dk
  obtain ⟨o2, es, ep, ho, h3, h4, h5, _, h6⟩ := dk
  have nap : a ≠ s.heap.objs.size := ne_of ha hp (fun z => nomatch z)
  refine d_write I3 (by rw [hp]; exact True.intro) sb ⟨o2, ho⟩ ⟨by rw [sizeLine_eq]; show 1 ≤ _; omega, hd, [(ks, a, u2)], .cons ⟨rfl, ?_, ry⟩ .nil, o2, es, ep, ho, h3, h4, h5, h6⟩
  show upd H3 s.heap.objs.size _ a = _
  rw [upd_ne nap]
  exact ha
end K20

namespace K20
open PySem L2
/-! ### a tuple of tuples of ints -/
def Rows2 (H : Hp) (rs : List Addr) (L : List (List Int)) : Prop := Paired (fun (r : Addr) (l : List Int) => H r = some (.tup (l.map V.int))) rs L
def Tup2 (H : Hp) (a : Addr) (L : List (List Int)) : Prop := ∃ rs : List Addr, H a = some (.tup (rs.map V.ref)) ∧ Rows2 H rs L
theorem Rows2.same {H H2 : Hp} {rs : List Addr} {L : List (List Int)} (t : Rows2 H rs L) (s : ∀ b xs, H b = some (.tup xs) → H2 b = some (.tup xs)) : Rows2 H2 rs L := Paired.mapP t fun _ _ e => s _ _ e
theorem Tup2.same {H H2 : Hp} {a : Addr} {L : List (List Int)} (t : Tup2 H a L) (s : ∀ b xs, H b = some (.tup xs) → H2 b = some (.tup xs)) : Tup2 H2 a L := by
  obtain ⟨rs, h1, h2⟩ := t
  exact ⟨rs, s _ _ h1, h2.same s⟩
def dat2 (L : List (List Int)) : PyData := .tuple (L.map fun l => .tuple (l.map .int))
section
variable {P : Program} {w : World} {H : Hp} {h : Heap}
theorem readsAll_ints : ∀ {l : List Int} {us : List Value}, Vals (l.map V.int) us → ReadsAll h us (l.map PyData.int) []
  | [], _, .nil => .nil
  | i :: l, _, .cons r t => by
    obtain ⟨tk, rfl⟩ := r
    exact .cons (.int i tk) (readsAll_ints t)
theorem reads_row (ok : HOk P w H h) {r : Addr} {l : List Int} (e : H r = some (.tup (l.map V.int))) : Reads h (.ref r) (.tuple (l.map .int)) [] := by
  obtain ⟨_, its, rv, o, h1, h2, n, h3⟩ := (show ObjOk P w H h r (.tup (l.map V.int)) from ok r _ e)
  exact .tuple h1 h2 h3 (by simpa using readsAll_ints rv)
theorem readsAll_rows (ok : HOk P w H h) : ∀ {rs : List Addr} {L : List (List Int)} {us : List Value}, Rows2 H rs L → Vals (rs.map V.ref) us → ReadsAll h us (L.map fun l => .tuple (l.map .int)) []
  | _, _, _, .nil, .nil => .nil
  | _, _, _, .cons e t, .cons r rr => by
    cases r
    exact .cons (reads_row ok e) (readsAll_rows ok t rr)
theorem reads_tup2 (ok : HOk P w H h) {a : Addr} {L : List (List Int)} (t : Tup2 H a L) : Reads h (.ref a) (dat2 L) [] := by
  obtain ⟨rs, e, t⟩ := t
  obtain ⟨_, its, rv, o, h1, h2, n, h3⟩ := (show ObjOk P w H h a (.tup (rs.map V.ref)) from ok a _ e)
  exact .tuple h1 h2 h3 (by simpa using readsAll_rows ok t rv)
/-- (total, lists) -/
def Told (H : Hp) (q : Addr) (t : Int) (L : List (List Int)) : Prop := ∃ a, H q = some (.tup [.int t, .ref a]) ∧ Tup2 H a L
theorem Told.same {H H2 : Hp} {q : Addr} {t : Int} {L : List (List Int)} (z : Told H q t L) (s : ∀ b xs, H b = some (.tup xs) → H2 b = some (.tup xs)) : Told H2 q t L := by
  obtain ⟨a, e, y⟩ := z
  exact ⟨a, s _ _ e, y.same s⟩
theorem reads_told (ok : HOk P w H h) {q : Addr} {t : Int} {L : List (List Int)} (z : Told H q t L) : Reads h (.ref q) (.tuple [.int t, dat2 L]) [] := by
  obtain ⟨a, e, y⟩ := z
  obtain ⟨_, its, rv, o, h1, h2, n, h3⟩ := (show ObjOk P w H h q (.tup [.int t, .ref a]) from ok q _ e)
  obtain ⟨u1, u2, rfl, r1, r2⟩ := vals2 rv
  obtain ⟨tk, rfl⟩ := r1
  cases r2
  exact .tuple h1 h2 h3 (by simpa using ReadsAll.cons (as := []) (bs := []) (.int t tk) (.cons (as := []) (bs := []) (reads_tup2 ok y) .nil))
end
theorem alike_rows : ∀ L M : List (List Int), PySem.W.alikeAll (L.map fun l => .tuple (l.map .int)) (M.map fun l => .tuple (l.map .int)) = true
  | [], _ => by simp [PySem.W.alikeAll]
  | _ :: _, [] => by simp [PySem.W.alikeAll]
  | l :: L, m :: M => by
    rw [List.map_cons, List.map_cons, PySem.W.alikeAll, alike_rows L M]
    simp [PySem.W.alike, PySem.W.alike_ints]
theorem alike_dat2 (L M : List (List Int)) : PySem.W.alike (dat2 L) (dat2 M) = true := by
  unfold dat2
  rw [PySem.W.alike]
  exact alike_rows L M
theorem alike_told (t u : Int) (L M : List (List Int)) : PySem.W.alike (.tuple [.int t, dat2 L]) (.tuple [.int u, dat2 M]) = true := by
  rw [PySem.W.alike, PySem.W.alikeAll, PySem.W.alikeAll, PySem.W.alikeAll, alike_dat2]
  simp [PySem.W.alike]
theorem eqv_refl_list (l : List Int) : PyData.eqv (.list (l.map .int)) (.list (l.map .int)) = true := by
  refine PySem.W.eqv_refl_alike _ ?_
  rw [PySem.W.alike]
  exact PySem.W.alike_ints _ _
theorem depth_rows : ∀ L : List (List Int), PyData.depthAll (L.map fun l => .tuple (l.map .int)) ≤ 1
  | [] => by simp [PyData.depthAll]
  | l :: L => by
    have h1 := depth_rows L
    rw [List.map_cons, PyData.depthAll, PyData.depth, PySem.W.depth_ints]
    omega
theorem depth_told (t : Int) (L : List (List Int)) : (PyData.tuple [.int t, dat2 L]).depth ≤ 3 := by
  have h1 := depth_rows L
  unfold dat2
  simp only [PyData.depth, PyData.depthAll]
  omega
theorem lt_told (t u : Int) (L M : List (List Int)) : (PySem.W.dataLt (.tuple [.int t, dat2 L]) (.tuple [.int u, dat2 M]) = true → t ≤ u) ∧ (PySem.W.dataLt (.tuple [.int t, dat2 L]) (.tuple [.int u, dat2 M]) = false → u ≤ t) := by
  rw [PySem.W.dataLt_pair (by simp [PySem.W.alike]) (alike_dat2 L M), PySem.W.dataLt_int]
  simp only [PyData.eqv, beq_iff_eq]
  by_cases e : t = u
  · subst e
    exact ⟨fun _ => Int.le_refl _, fun _ => Int.le_refl _⟩
  · rw [if_neg e]
    exact ⟨fun h => by have := of_decide_eq_true h; omega, fun h => by have := of_decide_eq_false h; omega⟩
/-- told < told: which way is all that is asked -/
def rLtTold : R2 := fun x y H Q => ∃ (a b : Addr) (t u : Int) (L M : List (List Int)), x = .ref a ∧ y = .ref b ∧ Told H a t L ∧ Told H b u M ∧ ∀ k : Bool, (k = true → t ≤ u) → (k = false → u ≤ t) → Q (.bl k) H
theorem op_ltTold {X : Cx} (hu : X.A.units + 64 < cLine) : OpR X (compareOp .Lt) rLtTold := by
  intro pins s σ H x y v u Q I rx ry h
  obtain ⟨a, b, t, c, L, M, rfl, rfl, ha, hb, q⟩ := h
  cases rx
  cases ry
  have d1 := depth_told t L
  have R := PySem.W.rcLt_alike (.tuple [.int t, dat2 L]) (.tuple [.int c, dat2 M]) X.A s (.ref a) (.ref b) [] [] (reads_told I.hok ha) (reads_told I.hok hb) (alike_told t c L M) (fun z => nomatch z) (by omega)
  have z : wpAny (model X.prog X.w) X.A (compareOp .Lt (.ref a) (.ref b)) (EP X pins σ Q) X.xe s :=
    R X.prog X.w X.xe (EP X pins σ Q) ⟨.bl _, H, I, rfl, q _ (lt_told t c L M).1 (lt_told t c L M).2⟩
  exact z
end K20

namespace K20
open PySem L2
section
variable {prog : Program} {w : World} {A : Around} {E : Value → Shared → Prop} {s : Shared}
/-- one call of lambda j: (r[j], j), r captured -/
theorem key_call {f ra cr c2 : Addr} {q r j : Str} {params : Arguments} {scope : Scope} {cl : List (Str × Addr)} {pm ctv : Value} {p1 p2 p3 p4 p5 : Pos} {kk : Nat} {its : Array Value} {x : Nat} {y : Int} {tk ty : Tok}
    (room : A.depth < recursionLimit) (hf : s.heap.get? f = some (PySem.W.kla_obj "<lambda>" q params (.Tuple [.Subscript (.Name r p1) (.Name j p2) p3, .Name j p4] kk p5) scope cl pm c2 ctv)) (hc : s.heap.CodeRec (.ref c2) q) (lim : s.heap.NoLimit)
    (hk : scope.kind = .function) (hco : scope.isCoroutine = false) (hgen : scope.isGenerator = false) (hcell : ∀ z ∈ scope.names, z.2 ≠ .cell) (hj : scope.names.lookup j = some .local) (hr : scope.names.lookup r = some .free)
    (hbind : bindArgs (PySem.W.kla_fn "<lambda>" q params (.Tuple [.Subscript (.Name r p1) (.Name j p2) p3, .Name j p4] kk p5) scope cl pm (.ref c2) ctv) ⟨[.int (x : Int) tk], []⟩ = pure [(j, .int (x : Int) tk)])
    (hcl : cl.lookup r = some cr) (hcr : s.heap.IsCell cr (some (.ref ra))) (hra : PyProof.Rows.IsTup s.heap ra its) (hx : its[x]? = some (.int y ty)) (hz : its.size ≤ sizeLine)
    (d1 : (r == ("__debug__" : Str)) = false) (d2 : (j == ("__debug__" : Str)) = false) (d3 : (r == ("__classdict__" : Str)) = false) :
    wpAny (model prog w) A (call (.ref f) [.int (x : Int) tk]) (PySem.W.KeyPure (.tuple [.int y, .int (x : Int)]) s) (fun _ _ => False) s := by
  refine wpAny_call (PySem.W.kla_callFunE room hf rfl hco hgen rfl hc ?_)
  rw [hbind]
  have hl : ∀ b ∈ [(j, Value.int (x : Int) tk)], scope.names.lookup b.1 = some .local := fun b hb => by
    rw [List.mem_singleton.mp hb]
    exact hj
  refine wpAny_pure (wpAny_newFunctionEnv hcell hl (fun h1 hns sb => ⟨lim.fresh _ sb, ?_⟩) hk)
  show codeAny _ _ (.expr _ (PySem.W.envX q scope s.heap.objs.size f (.ref c2) cl)) _ _
  have old : ∀ b o, s.heap.get? b = some o → h1.get? b = some o := fun b o e => sb.extBut b o (Nat.ne_of_lt (Heap.lt_size e)) (Heap.get?_push_of_some _ e)
  refine PySem.W.kla_codeExpr ?_
  have kj : (PySem.W.envX q scope s.heap.objs.size f (.ref c2) cl).kindOf j = some .local := hj
  have kr : (PySem.W.envX q scope s.heap.objs.size f (.ref c2) cl).kindOf r = some .free := hr
  have vj : ([(j, Value.int (x : Int) tk)] : List (Str × Value)).reverse.lookup j = some (.int (x : Int) tk) := by simp
  have cellr : h1.IsCell cr (some (.ref ra)) := by
    obtain ⟨o, ho, hd⟩ := hcr
    exact ⟨o, old _ _ ho, hd⟩
  have tup : PyProof.Rows.IsTup h1 ra its := by
    obtain ⟨o, ho, hd⟩ := hra
    exact ⟨o, old _ _ ho, hd⟩
  have hlt : x < its.size := (Array.getElem?_eq_some_iff.mp hx).1
  have small : its.size ≤ 16777216 := by rw [sizeLine_eq] at hz; exact hz
  refine wpAny_Tuple_spliced ?_
  show wpAny _ _ (spliced ((false, eval (.Subscript (.Name r p1) (.Name j p2) p3) _) :: (false, eval (.Name j p4) _) :: [])) _ _ _
  refine Calls.spliced_cons (PyProof.Rows.Subscript_ (wpAny_Name (wpAny_loadName_free hk kr hcl cellr ?_ d3) d1))
  refine wpAny_Name (wpAny_loadName_local hk kj hns vj ?_) d2
  refine PyProof.Rows.subscriptTail_builtinR (x := .int y ty) tup.typeIs F.slot_tuple_getitem.lookup (PyProof.Rows.getItem_tuple (j := x) tup (by omega) (by omega) ?_ hx ⟨rfl, ?_⟩)
  · simp only [seqIndex?]
    rw [if_neg (show ¬ ((x : Int) < 0) by omega)]
    simp
    exact hlt
  refine Calls.spliced_cons (wpAny_Name (wpAny_loadName_local hk kj hns vj (Calls.spliced_nil ⟨by show 2 ≤ sizeLine; decide, ?_⟩)) d2)
  refine ⟨_, _, rfl, fun b o e => Heap.get?_push_of_some _ (old b o e), ?_⟩
  exact .tuple (vs := [Value.int y ty, .int (x : Int) tk].toArray) (Heap.get?_push_size _ rfl) rfl rfl (.cons (as := []) (bs := []) (.int y ty) (.cons (as := []) (bs := []) (.int _ tk) .nil))
/-- sorted(t, ..) of a tuple is list.sort(..) on a new list of its items -/
theorem sorted_tup {l : Addr} {vs : List Value} {kw : List (Str × Value)} {Q : Value → Shared → Prop} (ht : PyProof.Rows.IsTup s.heap l vs.toArray) (hL : vs.length ≤ sizeLine) (ha1 : argsOk "sorted" ⟨[.ref l], kw⟩) (ha2 : ∀ x, argsOk "list.sort" ⟨[.ref x], kw⟩)
    (body : ∀ (E2 : Value → Shared → Prop) (h1 : Heap), (∀ b o, s.heap.get? b = some o → h1.get? b = some o) →
      wpAny (model prog w) A.in1.in1 (Builtin.«list.sort» ⟨[.ref h1.objs.size], kw⟩) (fun f s2 => f = .done (.ret .none) ∧ Q (.ref h1.objs.size) s2) E2 { s with heap := h1.push (PyProof.Rows.seqObj "list" vs.toArray 0) }) :
    wpAny (model prog w) A (call (.builtin "sorted") [.ref l] kw) Q E s := by
  obtain ⟨o, ho, hc, n, hd⟩ := ht
  refine PyProof.Rows.call_function_entry_kw PyProof.Rows.kind_sorted PyProof.Rows.plain_sorted PyProof.Rows.entry_sorted ha1 ?_
  unfold Builtin.«sorted»
  refine wpAny_bind (m := checkCount "sorted" 1 1 _) (wpAny_pure ?_)
  refine wpAny_bind (wpAny_collect_seq l (.inr rfl) ho hc hd (fun h1 old => ?_) (by rw [List.size_toArray]; exact hL))
  rw [List.toList_toArray]
  refine wpAny_bind (wpAny_newList ?_ hL)
  refine wpAny_bind (wpAny_holding (PyProof.Rows.wpAny_call_entry_kw PyProof.Rows.slot_list_sort ⟨_, Heap.get?_push_size _ rfl, rfl⟩ PyProof.Rows.entry_list_sort ?_ (ha2 _)))
  refine wpAny_mono (body _ h1 old) (fun f s2 hf => ?_) fun _ _ e => e
  obtain ⟨rfl, hq⟩ := hf
  exact ⟨_, rfl, wpAny_pure ⟨_, rfl, hq⟩⟩
end
end K20

namespace K20
open PySem L2
abbrev isJob (v : Value) (x : Nat) : Prop := ∃ tk, v = .int (x : Int) tk
theorem each_jobs : ∀ {part : List Nat} {us : List Value}, Vals ((jn part).map V.int) us → PySem.W.EachIs isJob us part
  | [], _, .nil => .nil
  | _ :: _, _, .cons r t => .cons r (each_jobs t)
theorem jobs_each : ∀ {part : List Nat} {us : List Value}, PySem.W.EachIs isJob us part → Vals ((jn part).map V.int) us
  | [], _, .nil => .nil
  | _ :: _, _, .cons r t => .cons r (jobs_each t)
/-- the key of a job -/
def jobKey (row : List Int) (x : Nat) : PyData := .tuple [.int (at0 row x), .int (x : Int)]
theorem order_up (row : List Int) (part : List Nat) : ((part.mergeSort (PySem.W.dataLe false (jobKey row))).map (at0 row)).Pairwise (· ≤ ·) := by
  have e : PySem.W.dataLe false (jobKey row) = fun a b : Nat => decide (at0 row a < at0 row b ∨ (at0 row a = at0 row b ∧ (a : Int) ≤ (b : Int))) := PySem.W.dataLe_ii (at0 row) (fun x : Nat => (x : Int))
  rw [e, List.pairwise_map]
  have h := List.pairwise_mergeSort (le := fun a b : Nat => decide (at0 row a < at0 row b ∨ (at0 row a = at0 row b ∧ (a : Int) ≤ (b : Int))))
    (fun a b c h1 h2 => by simp only [decide_eq_true_eq] at *; omega) (fun a b => by simp only [Bool.or_eq_true, decide_eq_true_eq]; omega) part
  exact h.imp fun h => by simp only [decide_eq_true_eq] at h; omega
/-- sorted(t, key=lambda j: (r[j], j)) -/
def tSortLam (T : List (Addr × Str)) (i : Nat) (te : TE) : TE := fun σ H Q => te σ H fun v H1 => ∃ (t : Addr) (part : List Nat) (ra : Addr) (row : List Int), v = .ref t ∧ H1 t = some (.tup ((jn part).map V.int)) ∧ (∀ x ∈ part, x < row.length) ∧
  σ[i]? = some (some (.ref ra)) ∧ H1 ra = some (.tup (row.map V.int)) ∧ LamX.Tabs T H1 ∧
  ∀ (order : List Nat) (Hf : Hp) (p : Addr), order.Perm part → (order.map (at0 row)).Pairwise (· ≤ ·) → LamX.ExtN H1 Hf → LamX.Tabs T Hf → Hf p = some (.lst ((jn order).map V.int)) → Q (.ref p) Hf
theorem pe_sortLam {X : Cx} {T : List (Addr × Str)} {c P : Addr} {i : Nat} {r j : Str} {e : Expr} {te : TE} {params : Arguments} {scope : Scope} {p pos lpos kpos p1 p2 p3 p4 p5 : Pos} {kk : Nat}
    (hg : Gl X "sorted") (hm : X.mg "sorted" = none) (he : PE X e te) (TB : LamX.TabB X.base X.mg c P) (hcode : X.env.code = .ref c) (hmT : (P, X.env.qual ++ "<lambda>") ∈ T) (hu : ∀ z ∈ T, z.1 = P → z.2 = X.env.qual ++ "<lambda>") (hr2 : Room 2 X.A)
    (hdef : defaultsOf params X.env = ([], [])) (hN : X.N[i]? = some r) (hrc : X.env.scope.names.lookup r = some .cell)
    (hk : scope.kind = .function) (hco : scope.isCoroutine = false) (hgen : scope.isGenerator = false) (hcell : ∀ z ∈ scope.names, z.2 ≠ .cell) (hfr : ∀ z ∈ scope.names, z.2 = .free → z.1 = r) (hj : scope.names.lookup j = some .local) (hr : scope.names.lookup r = some .free)
    (hbind : ∀ (q : Str) (cl : List (Str × Addr)) (pm cv ctv v : Value), bindArgs (PySem.W.kla_fn "<lambda>" q params (.Tuple [.Subscript (.Name r p1) (.Name j p2) p3, .Name j p4] kk p5) scope cl pm cv ctv) ⟨[v], []⟩ = pure [(j, v)])
    (d1 : (r == ("__debug__" : Str)) = false) (d2 : (j == ("__debug__" : Str)) = false) (d3 : (r == ("__classdict__" : Str)) = false)
    (hs1 : starEach [e] X.env = (false, eval e X.env) :: starEach [] X.env := by rfl) :
    PE X (.Call (.Name "sorted" p) [e] [⟨some (Str.ofString "key"), .Lambda params (.Tuple [.Subscript (.Name r p1) (.Name j p2) p3, .Name j p4] kk p5) scope lpos, kpos⟩] pos) (tSortLam T i te) := by
  refine ⟨fun pins s σ H Q I h => ?_⟩
  refine wpAny_Call_Name_kw (ld_blt I hg hm boot_sorted ?_)
  have sp : backTo pos (starEach [e] X.env) = (false, eval e X.env) :: backTo pos (starEach [] X.env) := by rw [hs1]; rfl
  refine PyProof.Rows.callWith_kw ?_ sp (by rw [sp]; rfl) (by rfl) (by rfl)
  rw [sp]
  show wpAny _ _ (spliced ((false, eval e X.env) :: [])) _ _ s
  refine Calls.spliced_cons (thn (he.run pins s σ H _ I h) fun u s1 ⟨v, H1, I1, ru, t, part, ra, row, ev, ht, hlt, hi, hra, hT, fin⟩ => Calls.spliced_nil ?_)
  subst ev
  obtain rfl : u = Value.ref t := ru
  show wpAny _ _ (evalAll ((do let v ← eval (.Lambda params _ scope lpos) X.env; standAt pos; pure v) :: [])) _ _ s1
  have free : ∀ z ∈ scope.names, z.2 = .free → ∃ c, X.env.cells.lookup z.1 = some c := fun z hz ez => by
    rw [hfr z hz ez]
    exact I1.ok.has _ (.inl hrc)
  refine wpAny_evalAll_cons (wpAny_bind (LamX.lam_make2 I1 TB hcode hmT hu hT hdef free fun f c2 pm ctv H2 s2 I2 eN T2 hf hfn hfrs hco2 => ?_))
  refine wpAny_bind (wpAny_standAt (wpAny_pure (wpAny_evalAll_nil ?_)))
  show wpAny _ _ (call (.builtin "sorted") [.ref t] [(Str.ofString "key", .ref f)]) _ _ s2
  -- what the lambda finds
  have ht2 : H2 t = some (.tup ((jn part).map V.int)) := eN _ _ ht (fun ps z => nomatch z)
  have hra2 : H2 ra = some (.tup (row.map V.int)) := eN _ _ hra (fun ps z => nomatch z)
  obtain ⟨its, rv, tup, hz⟩ := I2.tuple (SqT.of ht2)
  obtain ⟨rits, rrv, rtup, rz⟩ := I2.tuple (SqT.of hra2)
  obtain ⟨cr, ecr, ecell⟩ : ∃ cr, X.env.cells.lookup r = some cr ∧ s2.heap.IsCell cr (some (.ref ra)) := by
    obtain ⟨m, _, hl⟩ := I2.loc
    obtain ⟨u2, r2, l2⟩ := hl i r (.ref ra) hN hi (.inr (.inl hrc))
    obtain rfl : u2 = Value.ref ra := r2
    rcases l2 with ⟨k2, _⟩ | ⟨_, cr, e1, e2⟩
    · have k3 : X.env.scope.names.lookup r = some .local := k2
      rw [hrc] at k3
      cases k3
    · exact ⟨cr, e1, e2⟩
  have hcl : (cloFrom X.env.cells scope.names []).lookup r = some cr := NdefX.clo_has free (PySem.mem_of_lookup hr) ecr
  have rec2 := NdefX.codeO_at I2.hok hco2
  have hlen : its.length = part.length := by
    have z := rv.length
    rw [List.length_map] at z
    unfold jn at z
    rw [List.length_map] at z
    exact z.symm
  have hL : its.length ≤ sizeLine := by
    have z := rv.length
    omega
  have rm := hr2.in1.in1
  refine sorted_tup tup hL (PyProof.Rows.ksk_s1 _ _) (fun _ => PyProof.Rows.ksk_l1 _ _) fun E2 h1 old => ?_
  rw [PyProof.Rows.ksk_t1]
  have I3 := I2.kept (h' := h1) (t' := s2.toks) old
  have eachP : PySem.W.EachIs isJob its part := each_jobs rv
  have up : ∀ {g : Heap}, PySem.W.KeepsBut h1.objs.size (h1.push (PyProof.Rows.seqObj "list" its.toArray 0)) g → ∀ b o, h1.get? b = some o → g.get? b = some o := fun {g} kp b o q => kp b o (Nat.ne_of_lt (Heap.lt_size q)) (Heap.get?_push_of_some _ q)
  refine PySem.W.keyH_tree (kz := part.map (jobKey row)) (s := { s2 with heap := h1.push (PyProof.Rows.seqObj "list" its.toArray 0) }) (Heap.get?_push_size _ rfl) (by rw [List.length_map]; exact hlen.symm) hL
    (PySem.W.AllAlike.of fun b b2 => by simp [jobKey, PySem.W.alike, PySem.W.alikeAll]) (PySem.W.Sortable.tuples fun b => ⟨_, _, rfl⟩) (fun d hd => ?_) (PySem.W.keyH_turns (s := { s2 with heap := h1.push (PyProof.Rows.seqObj "list" its.toArray 0) }) eachP fun v x hv hx hp tk kp => ?_) fun h3 tk out cc kp hD ko => ⟨rfl, ?_⟩
  · obtain ⟨x, _, rfl⟩ := List.mem_map.mp hd
    have z := hr2.units
    simp only [jobKey, PyData.depth, PyData.depthAll]
    omega
  · obtain ⟨tk0, rfl⟩ := hv
    have all : ∀ b o, s2.heap.get? b = some o → hp.get? b = some o := fun b o q => up kp b o (old b o q)
    have hxl := hlt x hx
    obtain ⟨u3, e3, r3⟩ := rrv.get (i := x) (x := .int (at0 row x)) (by
      rw [List.getElem?_map, List.getElem?_eq_getElem hxl]
      simp [at0, List.getD_eq_getElem?_getD, List.getElem?_eq_getElem hxl])
    obtain ⟨ty, rfl⟩ := r3
    refine key_call (s := { s2 with heap := hp, toks := tk }) (ra := ra) (cr := cr) (its := rits.toArray) (ty := ty) rm.depth (all _ _ hf) (rec2.keeps all) (I2.nolimit.keeps all) hk hco hgen hcell hj hr (hbind _ _ _ _ _ _) hcl ?_ ?_ (by simpa using e3) (by rw [List.size_toArray]; have z := rrv.length; omega) d1 d2 d3
    · obtain ⟨o, ho, hd⟩ := ecell
      exact ⟨o, all _ _ ho, hd⟩
    · obtain ⟨o, ho, hd⟩ := rtup
      exact ⟨o, all _ _ ho, hd⟩
  · have eo : PySem.W.EachIs isJob out (part.mergeSort (PySem.W.dataLe false (jobKey row))) := PySem.W.keyedOut_each (jobKey row) ko eachP
    have vo := jobs_each eo
    have pm : (part.mergeSort (PySem.W.dataLe false (jobKey row))).Perm part := List.mergeSort_perm _ _
    have nl : H2 h1.objs.size = none := I3.hok.fresh (Nat.le_refl _)
    have lenO : ((jn (part.mergeSort (PySem.W.dataLe false (jobKey row)))).map V.int).length ≤ sizeLine := by
      unfold jn
      rw [List.length_map, List.length_map, pm.length_eq, ← hlen]
      exact hL
    have I4 : Inv X pins σ (upd H2 h1.objs.size (.lst ((jn (part.mergeSort (PySem.W.dataLe false (jobKey row)))).map V.int))) { s2 with heap := h3, toks := tk } :=
      I3.laid (h' := h3) (t' := tk) (fun b o q => up kp b o q) (Nat.le_refl _) ⟨lenO, out, cc, vo, hD⟩
    refine ⟨.ref h1.objs.size, _, I4, rfl, fin _ _ _ pm (order_up row part) (fun b o q nt => ?_) (T2.ext fun b o q => ?_) upd_same⟩
    · have q2 := eN b o q nt
      rw [upd_ne (ne_of_none q2 nl)]
      exact q2
    · rw [upd_ne (ne_of_none q nl)]
      exact q
end K20

namespace K20
open PySem L2
/-! ### heaps that grow -/
theorem same_upd {H : Hp} {p : Addr} {o : HO} (h : H p = none) : Same H (upd H p o) := fun b u e => by
  rw [upd_ne (ne_of_none e h)]
  exact e
theorem Same.tups {H H2 : Hp} (s : Same H H2) : ∀ b xs, H b = some (.tup xs) → H2 b = some (.tup xs) := fun b xs e => s b _ e
theorem same_set {H H2 : Hp} {D : Addr} {o : HO} (s : Same H H2) (h : H D = none) : Same H (upd H2 D o) := fun b u e => by
  rw [upd_ne (ne_of_none e h)]
  exact s b u e
/-- a list that a comprehension fills, all else kept -/
def Grow (H1 : Hp) (D : Addr) (R : Nat → List V) (i : Nat) (H : Hp) : Prop := Same H1 H ∧ H D = some (.lst (R i))
theorem Grow.start {H1 : Hp} {D : Addr} {R : Nat → List V} (n : H1 D = none) (e : R 0 = []) : Grow H1 D R 0 (upd H1 D (.lst [])) := ⟨same_upd n, by rw [upd_same, e]⟩
theorem Grow.turn {H1 H H4 : Hp} {D : Addr} {R : Nat → List V} {i : Nat} {y : V} (g : Grow H1 D R i H) (s : Same H H4) (n : H1 D = none) (e : R (i + 1) = R i ++ [y]) (l : (R i).length < sizeLine) :
    ∃ acc, H4 D = some (.lst acc) ∧ acc.length < sizeLine ∧ Grow H1 D R (i + 1) (upd H4 D (.lst (acc ++ [y]))) :=
  ⟨R i, s _ _ g.2, l, same_set (g.1.trans s) n, by rw [upd_same, e]⟩
theorem Grow.skip {H1 H H3 : Hp} {D : Addr} {R : Nat → List V} {i : Nat} (g : Grow H1 D R i H) (s : Same H H3) (e : R (i + 1) = R i) : Grow H1 D R (i + 1) H3 := ⟨g.1.trans s, by rw [e]; exact s _ _ g.2⟩
theorem Grow.fin {H1 H : Hp} {D : Addr} {R : Nat → List V} {i : Nat} (g : Grow H1 D R i H) {xs : List V} (e : R i = xs) : H D = some (.lst xs) := by rw [← e]; exact g.2
theorem Grow.pass {H1 H : Hp} {D : Addr} {R R' : Nat → List V} {i j : Nat} (g : Grow H1 D R i H) (e : R i = R' j) : Grow H1 D R' j H := ⟨g.1, g.fin e⟩
theorem small100 {n : Nat} (h : n ≤ 100000) : n < sizeLine := by rw [sizeLine_eq]; omega
theorem small100e {n : Nat} (h : n ≤ 100000) : n ≤ sizeLine := by rw [sizeLine_eq]; omega
/-- the first i of a list: one more -/
theorem take_snoc {α : Type} {l : List α} {i : Nat} {x : α} (h : l[i]? = some x) : l.take (i + 1) = l.take i ++ [x] := by
  rw [List.take_add_one, h]
  rfl
theorem rg_jn (n : Nat) : rgV 0 (n : Int) = (jn (List.range n)).map V.int := by
  unfold rgV jn
  rw [List.map_map, Int.sub_zero, Int.toNat_natCast]
  apply List.map_congr_left
  intro i _
  simp
/-! ### tables -/
structure Good (T : List (List Int)) (n : Nat) : Prop where
  l1 : 1 ≤ T.length
  l3 : T.length ≤ 3
  n1 : 1 ≤ n
  n5 : n ≤ 5
  len : ∀ row ∈ T, row.length = n
  rng : ∀ row ∈ T, ∀ x ∈ row, 1 ≤ x ∧ x ≤ 60
def spNeed : Sp := fun vs H Q _ => ∃ (t : Addr) (T : List (List Int)) (n : Nat), vs = [.ref t] ∧ Tup2 H t T ∧ Good T n ∧ ∀ H2, Same H H2 → Q .non H2
theorem rows_at {H : Hp} : ∀ {rs : List Addr} {L : List (List Int)} {i : Nat} {r : Addr}, Rows2 H rs L → rs[i]? = some r → ∃ l, L[i]? = some l ∧ H r = some (.tup (l.map V.int))
  | _, _, _, _, .nil, e => by simp at e
  | _, _, 0, _, .cons h _, e => by
    simp at e
    subst e
    exact ⟨_, rfl, h⟩
  | _, _, i + 1, _, .cons _ t, e => by
    obtain ⟨l, h1, h2⟩ := rows_at t (i := i) (by simpa using e)
    exact ⟨l, by simpa using h1, h2⟩
theorem rows_len {H : Hp} {rs : List Addr} {L : List (List Int)} (t : Rows2 H rs L) : rs.length = L.length := Paired.length t
theorem map_at {α β : Type} {f : α → β} {l : List α} {i : Nat} {y : β} (h : (l.map f)[i]? = some y) : ∃ x, l[i]? = some x ∧ y = f x := by
  rw [List.getElem?_map] at h
  cases e : l[i]? with
  | none => rw [e] at h; cases h
  | some x =>
    rw [e] at h
    exact ⟨x, rfl, (Option.some.inj h).symm⟩
section
variable {P : Program} {w : World} {K : PySem.W.Frag} {mg : Str → Option Value} {base : Heap}
abbrev nNeed : List Str := ["table", "index", "row", "time"]
theorem scNeed : FnScope nNeed ["table"] (defScope sNeed) := ⟨rfl, rfl, rfl, by decide +kernel, rfl, by decide +kernel, by decide +kernel⟩
theorem ok_need {f gL gI : Addr} {fd fdL fdI : FuncData} {tk1 tk2 : Tok} (F : Fun K "need_table" "need_table" sNeed f fd) (B : Blt mg) (OL : FnOk P w K mg base CX0 1 gL fdL ["value", "least", "most"] spList) (kL : PySem.W.keepIn K (.ref gL) = true) (bL : Binds K fdL ["value", "least", "most"] []) (mL : mg "is_list" = some (.ref gL))
    (OI : FnOk P w K mg base CX0 2 gI fdI ["value", "least", "most"] spIn) (kI : PySem.W.keepIn K (.ref gI) = true) (bI : Binds K fdI ["value", "least", "most"] []) (mI : mg "is_in" = some (.ref gI)) (mB : mg "MOST_BENCHES" = some (.int 6 tk1)) (mT : mg "MOST_TIME" = some (.int 60 tk2)) :
    FnOk P w K mg base CX0 3 f fd ["table"] spNeed := by
  refine F.ok scNeed (fun vs H Q E h => ?_) (fun cdv A outer s H vs Q E hr h => ?_)
  · obtain ⟨t, T, n, rfl, _⟩ := h
    rfl
  · obtain ⟨t, T, n, rfl, hT, G, q⟩ := h
    obtain ⟨rs, ht, hrs⟩ := hT
    have hr1 : Room 1 _ := hr.mono (by decide)
    have hrl := rows_len hrs
    refine ⟨_, (pss_cons (ps_if (pt_not (pt_val (pe_call OL hr1 (by rfl) mL kL bL .nil pass0 (pa_cons (pv 0) (pa_cons pe_int (pa_cons (pe_glob (v := .int 6) (by rfl) mB ⟨_, rfl⟩) pa_nil)))))) pss_never pss_nil) (pss_one (ps_for PassesOwn.never rfl (pi_enumT (by rfl) B.enumerate (pa_cons (pv 0) pa_nil)) (pg_tup rfl (pgs_cons (pg_name (i := 1) scNeed.nd rfl (Or.inl rfl)) (pgs_cons (pg_name (i := 2) scNeed.nd rfl (Or.inl rfl)) pgs_nil))) (pss_one (ps_if (PW.pt (pw_or (pt_not (pt_val (pe_call OL hr1 (by rfl) mL kL bL .nil pass0 (pa_cons (pv 2) (pa_cons pe_int (pa_cons pe_int pa_nil)))))) (pw_or (pt_cmpR op_ne (pe_callB call_len_seq (by rfl) B.len PySem.boot_len (pa_cons (pv 2) pa_nil)) (pe_callB call_len_seq (by rfl) B.len PySem.boot_len (pa_cons (pe_ix ix_tup (pv 0) pe_int (fun _ _ => rfl)) pa_nil)) (nomark _)) (pw_or1 (pt_not (pt_val (pe_callB (cr_all rfl) (by rfl) B.all boot_all (pa_cons (pe_lc (own := [("time", 3)]) (g := gName 3) (tt := tYes) rfl scNeed.nd (pi_tup (pv 2)) (blkOk_by (N := nNeed) (sc := defScope sNeed) (by decide +kernel)) (fun _ _ _ _ _ => pg_name (i := 3) scNeed.nd rfl (Or.inl rfl)) (fun _ _ _ _ _ => pts_nil) (fun _ _ _ _ _ => (pe_call OI hr (by rfl) mI kI bI .nil pass0 (pa_cons (pv 3) (pa_cons pe_int (pa_cons (pe_glob (v := .int 60) (by rfl) mT ⟨_, rfl⟩) pa_nil)))))) pa_nil)))))))) pss_never pss_nil))))), ?_⟩
    refine ⟨_, rfl, t, rs.map V.ref, 1, 6, rfl, ht, _, rfl, iteNS ?_ ?_⟩
    · rw [List.length_map, hrl]
      have := G.l1
      have := G.l3
      omega
    -- for index, row in enumerate(table)
    refine ⟨_, rfl, t, rs.map V.ref, rfl, SqT.of ht, for_it walk_P (fun i σ H2 => Same H H2 ∧ ∃ v1 v2, σ = [some (.ref t), v1, v2, none]) ⟨Same.refl H, none, none, rfl⟩ (fun i σ H2 _ ⟨s1, _⟩ => SqT.of (s1 _ _ ht)) ?_ ?_⟩
    · rintro i v σ H2 H3 hi ⟨s1, v1, v2, rfl⟩ ⟨T1, x, y, rfl, nT, rfl, ex, ey⟩
      obtain ⟨r, er, rfl⟩ := map_at ey
      obtain ⟨row, erow, hrow⟩ := rows_at hrs er
      have mrow : row ∈ T := List.mem_of_getElem? erow
      have lrow := G.len row mrow
      obtain ⟨r0, row0, er0, erow0, hrow0⟩ : ∃ r0 row0, rs[0]? = some r0 ∧ T[0]? = some row0 ∧ H r0 = some (.tup (row0.map V.int)) := by
        have h0 : 0 < rs.length := by have := G.l1; omega
        obtain ⟨l, h1, h2⟩ := rows_at hrs (List.getElem?_eq_getElem h0)
        exact ⟨_, l, List.getElem?_eq_getElem h0, h1, h2⟩
      have lrow0 := G.len row0 (List.mem_of_getElem? erow0)
      have s2 : Same H (upd H2 T1 (.tup [x, .ref r])) := s1.trans (same_upd nT)
      have hn := G.n1
      have hn5 := G.n5
      refine ⟨T1, [x, .ref r], rfl, SqT.of upd_same, rfl, x, [.ref r], rfl, .ref r, [], rfl, rfl, ?_⟩
      refine ⟨_, rfl, r, row.map V.int, 1, 8, rfl, s2 _ _ hrow, _, rfl, iteNS (by rw [List.length_map, lrow]; omega) ?_⟩
      refine ⟨_, rfl, r, row.map V.int, rfl, .inr (SqT.of (s2 _ _ hrow)), _, rfl, t, rs.map V.ref, 0, .ref r0, rfl, rfl, SqT.of (s2 _ _ ht), atI_nat (j := 0) (by rw [List.getElem?_map, er0]; rfl), r0, row0.map V.int, rfl, .inr (SqT.of (s2 _ _ hrow0)), rfl, _, rfl, iteNS (by rw [List.length_map, List.length_map, lrow, lrow0]) ?_⟩
      refine ⟨_, rfl, r, rfl, ⟨_, SqT.of (s2 _ _ hrow)⟩, fun D nD => lc_it (walk_tup (xs := row.map V.int)) (Grow (upd H2 T1 (.tup [x, .ref r])) D fun i => List.replicate i (V.bl true)) (Grow.start nD rfl) (fun i H4 _ g => SqT.of (g.1 _ _ (s2 _ _ hrow))) ?_ ?_⟩
      · rintro j z H4 H5 hj g ⟨rfl, ez⟩
        obtain ⟨k, ek, rfl⟩ := map_at ez
        have hk := G.rng row mrow k (List.mem_of_getElem? ek)
        have hj2 : j < row.length := by rw [List.length_map] at hj; exact hj
        refine ⟨rfl, _, rfl, k, 1, 60, rfl, ?_⟩
        rw [decide_eq_true hk]
        exact g.turn (Same.refl _) nD List.replicate_succ' (by rw [List.length_replicate]; exact small100 (by omega))
      · rintro H4 ⟨s4, hD⟩
        refine ⟨D, List.replicate (row.map V.int).length true, rfl, SqL.of (by rw [List.map_replicate]; exact hD), _, rfl, ?_⟩
        have e : (List.replicate (row.map V.int).length true).all id = true := by simp
        rw [e]
        exact iteF ⟨s2.trans s4, _, _, rfl⟩
    · rintro σ H2 ⟨s1, _⟩
      exact q H2 s1
end
end K20

namespace K20
open PySem L2
theorem rows_app {H : Hp} {rs qs : List Addr} {L M : List (List Int)} (a : Rows2 H rs L) (b : Rows2 H qs M) : Rows2 H (rs ++ qs) (L ++ M) := by
  unfold Rows2 at *
  induction a with
  | nil => exact b
  | cons h _ ih => exact .cons h ih
theorem rows_one {H : Hp} {r : Addr} {l : List Int} (h : H r = some (.tup (l.map V.int))) : Rows2 H [r] [l] := .cons h .nil
theorem jn_snoc (s : List Nat) (x : Nat) : jn (s ++ [x]) = jn s ++ [(x : Int)] := by simp [jn]
theorem jn_at {l : List Nat} {i : Nat} {y : V} (h : ((jn l).map V.int)[i]? = some y) : ∃ x, l[i]? = some x ∧ y = .int (x : Int) := by
  obtain ⟨z, h1, rfl⟩ := map_at h
  obtain ⟨x, h2, rfl⟩ := map_at h1
  exact ⟨x, h2, rfl⟩
theorem jn_length (l : List Nat) : (jn l).length = l.length := by simp [jn]
/-- all parts of a list of jobs -/
def spParts (K : PySem.W.Frag) : Sp := fun vs H Q _ => ∃ (a : Addr) (left : List Nat), vs = [.ref a] ∧ SqL K H a ((jn left).map V.int) ∧ left.length ≤ 5 ∧
  ∀ (p : Addr) (rs : List Addr) (H2 : Hp), Same H H2 → H2 p = some (.lst (rs.map V.ref)) → Rows2 H2 rs ((prt left).map jn) → Q (.ref p) H2
section
variable {P : Program} {w : World} {K : PySem.W.Frag} {mg : Str → Option Value} {base : Heap}
abbrev nParts : List Str := ["some", "found", "one", "part"]
theorem scParts : FnScope nParts ["some"] (defScope sParts) := ⟨rfl, rfl, rfl, by decide +kernel, rfl, by decide +kernel, by decide +kernel⟩
theorem ok_parts {f : Addr} {fd : FuncData} (F : Fun K "parts_of" "parts_of" sParts f fd) : FnOk P w K mg base CX0 1 f fd ["some"] (spParts K) := by
  refine F.ok scParts (fun vs H Q E h => ?_) (fun cdv A outer s H vs Q E hr h => ?_)
  · obtain ⟨a, left, rfl, _⟩ := h
    rfl
  · obtain ⟨a, left, rfl, ha, l5, q⟩ := h
    have big : ∀ i, (prt (left.take i)).length ≤ 32 := fun i => by
      rw [prt_length]
      have h1 : (left.take i).length ≤ 5 := Nat.le_trans (by rw [List.length_take]; omega) l5
      have h2 : 2 ^ (left.take i).length ≤ 2 ^ 5 := Nat.pow_le_pow_right (by decide) h1
      exact h2
    refine ⟨_, (pss_cons (ps_set (i := 1) scParts.nd rfl (Or.inl rfl) (pe_lst (pa_cons (pe_tup pa_nil) pa_nil))) (pss_cons (ps_for PassesOwn.never rfl (pi_list (pv 0)) (pg_name (i := 2) scParts.nd rfl (Or.inr rfl)) (pss_one (ps_expr (pe_bm PySem.F.plainAttrs_list PySem.F.slot_list_extend PySem.F.type_list_extend mt_extend (pv 1) (pa_cons (pe_lc (own := [("part", 3)]) (g := gName 3) (tt := tYes) (te := tTup (StX.tStar K (tVar 3) (tCons (tVar 2) tNil))) rfl scParts.nd (pi_list (pv 1)) (blkOk_by (N := nParts) (sc := defScope sParts) (by decide +kernel)) (fun _ _ _ _ _ => pg_name (i := 3) scParts.nd rfl (Or.inl rfl)) (fun _ _ _ _ _ => pts_nil) (fun _ _ _ _ _ => (pe_tup (StX.pa_star (pv 3) (pa_cons (pv 2) pa_nil))))) pa_nil))))) (pss_one (ps_ret (pv 1))))), ?_⟩
    -- found = [()]
    refine ⟨small100e (by show 0 ≤ _; omega), fun p0 n0 => ⟨small100e (by show 1 ≤ _; omega), fun p np => ?_⟩⟩
    have s0 : Same H (upd H p0 (.tup [])) := same_upd n0
    have nph : H p = none := s0.free np
    have s1 : Same H (upd (upd H p0 (.tup [])) p (.lst [.ref p0])) := s0.trans (same_upd np)
    have h0 : upd (upd H p0 (.tup [])) p (.lst [.ref p0]) p0 = some (.tup []) := by
      rw [upd_ne (ne_of_none upd_same np), upd_same]
    -- for one in some
    refine ⟨_, rfl, a, rfl, ⟨_, s1.seq ha⟩, for_list (K := K) (a := a) (xs := (jn left).map V.int) (fun i σ H2 => Same H H2 ∧ ∃ (rs : List Addr) (v2 : Option V), σ = [some (.ref a), some (.ref p), v2, none] ∧ H2 p = some (.lst (rs.map V.ref)) ∧ Rows2 H2 rs ((prt (left.take i)).map jn))
      ⟨s1, [p0], none, rfl, upd_same, rows_one (l := []) h0⟩ (fun i σ H2 _ z => z.1.seq ha) ?_ ?_⟩
    · rintro i y σ H2 hi ⟨s2, rs, v2, rfl, hp, hrs⟩
      obtain ⟨x, ex, rfl⟩ := jn_at hi
      have lrs := rows_len hrs
      rw [List.length_map] at lrs
      have b1 := big i
      refine ⟨_, rfl, .inl ⟨rfl, _, SqL.of hp⟩, _, rfl, p, rfl, ⟨_, SqL.of hp⟩, fun D nD => ?_⟩
      refine lc_it (walk_list (xs := rs.map V.ref)) (fun j H4 => Same H2 H4 ∧ ∃ qs : List Addr, H4 D = some (.lst (qs.map V.ref)) ∧ Rows2 H4 qs ((((prt (left.take i)).take j).map (· ++ [x])).map jn))
        ⟨same_upd nD, [], upd_same, .nil⟩ (fun j H4 _ z => SqL.of (z.1 _ _ hp)) ?_ ?_
      · rintro j z H4 H5 hj ⟨s4, qs, hD, hqs⟩ ⟨rfl, ez⟩
        obtain ⟨r, er, rfl⟩ := map_at ez
        obtain ⟨l, el, hl⟩ := rows_at hrs er
        obtain ⟨pt, ept, rfl⟩ := map_at el
        refine ⟨rfl, _, rfl, r, _, rfl, .inl (SqT.of (s4 _ _ hl)), _, rfl, ?_, fun T1 nT => ?_⟩
        · have h1 : pt.length ≤ 5 := Nat.le_trans (mem_prt.mp (List.mem_of_getElem? ept)).length_le (by rw [List.length_take]; omega)
          rw [List.length_append, List.length_map, jn_length]
          exact small100e (by show pt.length + 1 ≤ _; omega)
        have lq := rows_len hqs
        refine ⟨qs.map V.ref, (same_upd nT) _ _ hD, ?_, ?_⟩
        · rw [List.length_map, lq, List.length_map, List.length_map, List.length_take]
          exact small100 (by omega)
        have nTD : T1 ≠ D := fun e => by rw [e, hD] at nT; cases nT
        have s5 : Same H5 (upd H5 T1 (.tup ((jn pt).map V.int ++ [V.int (x : Int)]))) := same_upd nT
        refine ⟨same_set (s4.trans s5) nD, qs ++ [T1], by rw [upd_same, List.map_append]; rfl, ?_⟩
        rw [take_snoc ept, List.map_append, List.map_append]
        refine rows_app ((hqs.same fun b xs e => ?_)) (rows_one ?_)
        · have nb : b ≠ D := ne_of e hD (fun z => nomatch z)
          rw [upd_ne nb]
          exact s5 _ _ e
        · rw [upd_ne nTD, upd_same, jn_snoc, List.map_append]
          rfl
      · rintro H4 ⟨s4, qs, hD, hqs⟩
        have lq := rows_len hqs
        rw [List.length_map, List.length_map, List.length_map, lrs, List.take_of_length_le (Nat.le_refl _)] at lq
        refine ⟨p, D, _, _, rfl, rfl, s4 _ _ hp, hD, ?_, ?_⟩
        · rw [List.length_map, List.length_map, lrs, lq]
          exact small100e (by omega)
        refine ⟨same_set (s2.trans s4) nph, rs ++ qs, _, rfl, by rw [upd_same, List.map_append], ?_⟩
        rw [take_snoc ex, prt_snoc, List.map_append]
        have e2 : (prt (left.take i)).take (rs.map V.ref).length = prt (left.take i) := List.take_of_length_le (by rw [List.length_map, lrs]; exact Nat.le_refl _)
        rw [e2] at hqs
        have keep : ∀ b xs, H4 b = some (.tup xs) → upd H4 p (.lst (rs.map V.ref ++ qs.map V.ref)) b = some (.tup xs) := fun b xs e => by
          rw [upd_ne (ne_of e (s4 _ _ hp) (fun z => nomatch z))]
          exact e
        exact rows_app ((hrs.same fun b xs e => keep b xs (s4 _ _ e))) (hqs.same keep)
    · rintro σ H2 ⟨s2, rs, v2, rfl, hp, hrs⟩
      refine ⟨_, rfl, q p rs H2 s2 hp ?_⟩
      have e : left.take ((jn left).map V.int).length = left := List.take_of_length_le (by rw [List.length_map, jn_length]; exact Nat.le_refl _)
      rw [e] at hrs
      exact hrs
end
end K20

namespace K20
open PySem L2
/-! ### heaps between which the law's own table may grow -/
def Kp (TT : List (Addr × Str)) (H0 H : Hp) : Prop := LamX.ExtN H0 H ∧ LamX.Tabs TT H
def New (H : Hp) (d : Addr) : Prop := ∀ u, H d = some u → ∃ ps, u = .tbl ps
/-- tuples stand -/
def Tp (H H2 : Hp) : Prop := ∀ b xs, H b = some (.tup xs) → H2 b = some (.tup xs)
section
variable {TT : List (Addr × Str)} {H0 H H2 : Hp} {d : Addr}
theorem Kp.refl (t : LamX.Tabs TT H) : Kp TT H H := ⟨LamX.ExtN.refl H, t⟩
theorem Kp.same (k : Kp TT H0 H) (s : Same H H2) : Kp TT H0 H2 := ⟨k.1.trans (LamX.ExtN.of s), k.2.ext s⟩
theorem Kp.lam (k : Kp TT H0 H) (e : LamX.ExtN H H2) (t : LamX.Tabs TT H2) : Kp TT H0 H2 := ⟨k.1.trans e, t⟩
theorem Kp.tup (k : Kp TT H0 H) : Tp H0 H := fun b xs e => k.1 b _ e fun _ z => nomatch z
theorem Kp.new (k : Kp TT H0 H) (n : H d = none) : New H0 d := fun u e => by
  cases u with
  | tbl ps => exact ⟨ps, rfl⟩
  | _ =>
    have z := k.1 d _ e (fun _ z => nomatch z)
    rw [n] at z
    cases z
theorem Tp.refl : Tp H H := fun _ _ e => e
theorem Tp.of (s : Same H H2) : Tp H H2 := fun b _ e => s b _ e
theorem Tp.trans {H3 : Hp} (a : Tp H H2) (b : Tp H2 H3) : Tp H H3 := fun c xs e => b c xs (a c xs e)
theorem Tp.put {u o : HO} (e : H d = some u) (h : ∀ xs, u ≠ .tup xs) : Tp H (upd H d o) := fun b xs z => by
  rw [upd_ne (ne_of z e fun y => h xs y.symm)]
  exact z
theorem tabs_put {u o : HO} (t : LamX.Tabs TT H) (e : H d = some u) (h1 : ∀ ps, u ≠ .tbl ps) (h2 : ∀ f, u ≠ .ext f) : LamX.Tabs TT (upd H d o) := fun p hp => by
  obtain ⟨ps, a, b, f⟩ := t p hp
  refine ⟨ps, by rw [upd_ne (ne_of a e fun y => h1 ps y.symm)]; exact a, b, fun pos cv hc => ?_⟩
  obtain ⟨c, e1, e2⟩ := f pos cv hc
  refine ⟨c, e1, ?_⟩
  rw [upd_ne (ne_of e2 e fun y => h2 _ y.symm)]
  exact e2
theorem Kp.put {u o : HO} (k : Kp TT H0 H) (n : New H0 d) (e : H d = some u) (h1 : ∀ ps, u ≠ .tbl ps) (h2 : ∀ f, u ≠ .ext f) : Kp TT H0 (upd H d o) :=
  ⟨fun b x hb nt => by
    rw [upd_ne fun z => by
      rw [z] at hb
      obtain ⟨ps, ez⟩ := n _ hb
      exact nt ps ez]
    exact k.1 b x hb nt, tabs_put k.2 e h1 h2⟩
end
/-! ### the rows of the search -/
/-- a key -/
def kj (l : List Nat) : List L2.Key := l.map fun j : Nat => .inl (j : Int)
theorem kj_val (l : List Nat) : (kj l).map kV = (jn l).map V.int := by
  unfold kj jn
  rw [List.map_map, List.map_map]
  rfl
theorem kj_inj {l m : List Nat} (h : kj l = kj m) : l = m := (List.map_inj_right fun a b e => by
  have := Sum.inl.inj e
  omega).mp h
abbrev Kvs := List (List L2.Key × V)
theorem val_mem : ∀ {kvs : Kvs} {k : List L2.Key} {v : V}, valV kvs k = some v → (k, v) ∈ kvs
  | [], _, _, h => by cases h
  | p :: r, k, v, h => by
    by_cases e : p.1 = k
    · rw [valV_pos e] at h
      cases h
      subst e
      exact List.mem_cons_self ..
    · rw [valV_neg e] at h
      exact List.mem_cons_of_mem _ (val_mem h)
theorem put_mem {kvs : Kvs} {k : List L2.Key} {v : V} {p : List L2.Key × V} (h : p ∈ putK kvs k v) : p = (k, v) ∨ p ∈ kvs := by
  unfold putK at h
  split at h
  · obtain ⟨x, hx, rfl⟩ := List.mem_map.mp h
    by_cases e : x.1 = k
    · rw [if_pos e, e]
      exact .inl rfl
    · rw [if_neg e]
      exact .inr hx
  · rcases List.mem_append.mp h with h | h
    · exact .inr h
    · exact .inl (List.mem_singleton.mp h)
/-- every entry comes from an assignment -/
def Ent (T : List (List Int)) (n : Nat) (H : Hp) (kvs : Kvs) (k : Nat) : Prop := ∀ x ∈ kvs, ∃ (done : List Nat) (q : Addr) (t : Int) (L : List (List Nat)), x = (kj done, .ref q) ∧ Told H q t (L.map jn) ∧ Vld T n k done t L
/-- an entry no dearer than f -/
def Low (T : List (List Int)) (n : Nat) (H : Hp) (kvs : Kvs) (f : Nat → Nat) (k : Nat) : Prop := ∃ (q : Addr) (t : Int) (L : List (List Int)), valV kvs (kj (don n f k)) = some (.ref q) ∧ Told H q t L ∧ t ≤ tot T n f k
section
variable {T : List (List Int)} {n k : Nat} {H H2 : Hp} {kvs : Kvs} {f : Nat → Nat}
theorem Ent.tp (e : Ent T n H kvs k) (s : Tp H H2) : Ent T n H2 kvs k := fun x hx => by
  obtain ⟨done, q, t, L, h1, h2, h3⟩ := e x hx
  exact ⟨done, q, t, L, h1, h2.same s, h3⟩
theorem Low.tp (e : Low T n H kvs f k) (s : Tp H H2) : Low T n H2 kvs f k := by
  obtain ⟨q, t, L, h1, h2, h3⟩ := e
  exact ⟨q, t, L, h1, h2.same s, h3⟩
theorem Ent.put {done : List Nat} {q : Addr} {t : Int} {L : List (List Nat)} (e : Ent T n H kvs k) (h : Told H q t (L.map jn)) (v : Vld T n k done t L) : Ent T n H (putK kvs (kj done) (.ref q)) k := fun x hx => by
  rcases put_mem hx with rfl | hx
  · exact ⟨done, q, t, L, rfl, h, v⟩
  · exact e x hx
theorem told_one {q : Addr} {t u : Int} {L M : List (List Int)} (a : Told H q t L) (b : Told H q u M) : t = u := by
  obtain ⟨x, h1, _⟩ := a
  obtain ⟨y, h2, _⟩ := b
  rw [h1] at h2
  cases h2
  rfl
/-- stored: what stood there was no cheaper -/
theorem Low.put {key : List Nat} {q : Addr} {t : Int} {L : List (List Int)} (e : Low T n H kvs f k) (h : Told H q t L) (hle : ∀ q2, valV kvs (kj key) = some (.ref q2) → ∃ u M, Told H q2 u M ∧ t ≤ u) : Low T n H (putK kvs (kj key) (.ref q)) f k := by
  obtain ⟨q2, u, M, h1, h2, h3⟩ := e
  by_cases ek : don n f k = key
  · rw [ek] at h1
    obtain ⟨u2, M2, h4, h5⟩ := hle q2 h1
    have := told_one h2 h4
    exact ⟨q, t, L, by rw [valV_put, if_pos (by rw [ek])], h, by omega⟩
  · refine ⟨q2, u, M, ?_, h2, h3⟩
    rw [valV_put, if_neg fun z => ek (kj_inj z)]
    exact h1
theorem Low.made {key : List Nat} {q : Addr} {t : Int} {L : List (List Int)} (ek : key = don n f k) (h : Told H q t L) (hle : t ≤ tot T n f k) : Low T n H (putK kvs (kj key) (.ref q)) f k :=
  ⟨q, t, L, by rw [valV_put, if_pos (by rw [ek])], h, hle⟩
theorem Low.idx (e : Low T n H kvs f k) : ∃ (j : Nat) (q : Addr) (t : Int) (L : List (List Int)), j < kvs.length ∧ kvs[j]? = some (kj (don n f k), .ref q) ∧ Told H q t L ∧ t ≤ tot T n f k := by
  obtain ⟨q, t, L, h1, h2, h3⟩ := e
  obtain ⟨j, hj, ej⟩ := List.getElem_of_mem (val_mem h1)
  exact ⟨j, q, t, L, hj, by rw [List.getElem?_eq_getElem hj, ej], h2, h3⟩
end
/-- the end -/
theorem ends {T : List (List Int)} {n : Nat} {H : Hp} {kvs : Kvs} (g : 1 ≤ T.length) (e : Ent T n H kvs T.length) (low : ∀ f, Low T n H kvs f T.length) :
    ∃ (q : Addr) (t : Int) (L : List (List Nat)), valV kvs (kj (List.range n)) = some (.ref q) ∧ Told H q t (L.map jn) ∧ Best T n t ∧ L.length = T.length ∧ L.flatten.Perm (List.range n) ∧ lsum T L = t := by
  have all : ∀ f : Nat → Nat, (∀ j, j < n → f j < T.length) → ∃ (q : Addr) (t : Int) (L : List (List Int)), valV kvs (kj (List.range n)) = some (.ref q) ∧ Told H q t L ∧ t ≤ tot T n f T.length := fun f hf => by
    obtain ⟨q, t, L, h1, h2, h3⟩ := low f
    rw [don_all hf] at h1
    exact ⟨q, t, L, h1, h2, h3⟩
  obtain ⟨q, t0, L0, h1, h2, _⟩ := all (fun _ => 0) fun _ _ => g
  obtain ⟨done, q2, t, L, ex, h3, v⟩ := e _ (val_mem h1)
  have e1 : kj (List.range n) = kj done := congrArg Prod.fst ex
  have e2 : V.ref q = V.ref q2 := congrArg Prod.snd ex
  have e3 := kj_inj e1
  subst e3
  cases e2
  obtain ⟨hit, hL, hp, hs⟩ := vld_end v
  refine ⟨q, t, L, h1, h3, ⟨hit, fun f hf => ?_⟩, hL, hp, hs⟩
  obtain ⟨q3, u, M, k1, k2, k3⟩ := all f hf
  rw [h1] at k1
  cases k1
  have := told_one h3 k2
  omega
theorem in_jn (x : Nat) : ∀ l : List Nat, inV (.int (x : Int)) ((jn l).map V.int) = decide (x ∈ l)
  | [] => by simp [inV, jn]
  | y :: l => by
    have h := in_jn x l
    unfold inV jn at h ⊢
    rw [List.map_cons, List.map_cons, List.any_cons, h]
    by_cases e : x = y
    · subst e
      simp [eqV]
    · have : ¬ y = x := fun z => e z.symm
      have e2 : eqV (.int (y : Int)) (.int (x : Int)) = false := by simp [eqV]; omega
      rw [e2]
      simp [e]
theorem flat_jn (l : List Nat) : ((jn l).map V.int).all flatV = true := by
  unfold jn
  rw [List.map_map, List.all_map]
  simp [flatV]
theorem sel_succ (p : Nat → Bool) (i : Nat) : sel (i + 1) p = if p i = true then sel i p ++ [i] else sel i p := by
  unfold sel
  rw [List.range_succ, List.filter_append]
  by_cases h : p i = true
  · rw [if_pos h]
    simp [h]
  · rw [if_neg h]
    simp [h]
theorem sel_len (p : Nat → Bool) (i : Nat) : (sel i p).length ≤ i := by
  have h := List.length_filter_le p (List.range i)
  rwa [List.length_range] at h
end K20

namespace K20
open PySem L2
/-- a walk within a reading: B is what a turn asks -/
theorem walk_any {J : It} {n : Nat} {G : Hp → Prop} {Y : Nat → Hp → V → Hp → Prop} (w : Walk J n G Y) {Qd : Hp → Prop} {H0 : Hp} {B : (Hp → Prop) → V → Hp → Prop} (Pv : Nat → Hp → Prop) (h0 : Pv 0 H0) (hG : ∀ i H, i ≤ n → Pv i H → G H)
    (hs : ∀ i x H H2, i < n → Pv i H → Y i H x H2 → B (Pv (i + 1)) x H2) (hd : ∀ H, Pv n H → Qd H) :
    ∃ W : Nat → Nat → Hp → Prop, (∃ m, W 0 m H0) ∧ ∀ i m H, W i m H → (J.stop i H ∧ Qd H) ∨ (J.go i H ∧ ∃ Nx : Hp → Prop, (∀ H2, Nx H2 → ∃ m2, m2 < m ∧ W (i + 1) m2 H2) ∧ ∀ x H2, J.yld i H x H2 → B Nx x H2) := by
  refine ⟨fun i m H => m = n - i ∧ i ≤ n ∧ Pv i H, ⟨n, by simp, Nat.zero_le _, h0⟩, ?_⟩
  rintro i m H ⟨rfl, hi, p⟩
  have q := hG i H hi p
  rcases Nat.lt_or_ge i n with lt | ge
  · exact .inr ⟨w.goes i H lt q, Pv (i + 1), fun H2 p2 => ⟨n - (i + 1), by omega, rfl, lt, p2⟩, fun x H2 y => hs i x H H2 lt p (w.yields i H x H2 lt q y)⟩
  · have e : i = n := Nat.le_antisymm hi ge
    subst e
    exact .inl ⟨w.stops H q, hd H p⟩
theorem walk_zipT {K : PySem.W.Frag} {a b : Addr} {xs ys : List V} (hl : xs.length = ys.length) : Walk (RZ.ItzT K a b) xs.length (fun H => SqT K H a xs ∧ SqT K H b ys) (YPair (fun i => xs[i]?) (fun i => ys[i]?)) := by
  refine ⟨fun i H hi g => ⟨xs, ys, xs[i], ys[i]'(by omega), g.1, g.2, List.getElem?_eq_getElem hi, List.getElem?_eq_getElem _⟩, fun H g => ⟨xs, ys, g.1, g.2, .inl (Nat.le_refl _)⟩, fun i H v H2 hi g y => ?_⟩
  obtain ⟨T, x, y, h1, h2, h3, h4, h5⟩ := y
  exact ⟨T, x, y, h1, h2, h3, h4 xs g.1, h5 ys g.2⟩
/-- the sum of the ends of lists of jobs -/
def spOf : Sp := fun vs H Q _ => ∃ (t ls : Addr) (T : List (List Int)) (n : Nat) (L : List (List Nat)), vs = [.ref t, .ref ls] ∧ Tup2 H t T ∧ Good T n ∧ Tup2 H ls (L.map jn) ∧ L.length = T.length ∧ L.flatten.Perm (List.range n) ∧
  ∀ H2, Same H H2 → Q (.int (lsum T L)) H2
section
variable {P : Program} {w : World} {K : PySem.W.Frag} {mg : Str → Option Value} {base : Heap}
abbrev nOf : List Str := ["table", "lists", "jobs", "every", "part", "job", "row", "at"]
theorem dps_ints {H : Hp} : ∀ l : List Int, DpAll K H (l.map V.int) (l.map PyData.int)
  | [] => .nil
  | x :: l => .cons (.int x) (dps_ints l)
theorem scOf : FnScope nOf ["table", "lists"] (defScope sOf) := ⟨rfl, rfl, rfl, by decide +kernel, rfl, by decide +kernel, by decide +kernel⟩
theorem ok_of {f gL gI gN : Addr} {fd fdL fdI fdN : FuncData} (F : Fun K "unlike_sum_of" "unlike_sum_of" sOf f fd) (B : Blt mg) (OL : FnOk P w K mg base CX0 1 gL fdL ["value", "least", "most"] spList) (kL : PySem.W.keepIn K (.ref gL) = true) (bL : Binds K fdL ["value", "least", "most"] []) (mL : mg "is_list" = some (.ref gL))
    (OI : FnOk P w K mg base CX0 2 gI fdI ["value", "least", "most"] spIn) (kI : PySem.W.keepIn K (.ref gI) = true) (bI : Binds K fdI ["value", "least", "most"] []) (mI : mg "is_in" = some (.ref gI))
    (ON : FnOk P w K mg base CX0 3 gN fdN ["table"] spNeed) (kN : PySem.W.keepIn K (.ref gN) = true) (bN : Binds K fdN ["table"] []) (mN : mg "need_table" = some (.ref gN)) :
    FnOk P w K mg base CX0 4 f fd ["table", "lists"] spOf := by
  refine F.ok scOf (fun vs H Q E h => ?_) (fun cdv A outer s H vs Q E hr h => ?_)
  · obtain ⟨t, ls, T, n, L, rfl, _⟩ := h
    rfl
  · obtain ⟨t, ls, T, n, L, rfl, hT, G, hL, lL, pL, q⟩ := h
    have hr1 : Room 1 _ := hr.mono (by decide)
    have hr2 : Room 2 _ := hr.mono (by decide)
    obtain ⟨rs, ht, hrs⟩ := hT
    obtain ⟨ps, hl, hps⟩ := hL
    have hrl := rows_len hrs
    have hpl := rows_len hps
    rw [List.length_map] at hpl
    have g1 := G.l1
    have g3 := G.l3
    have gn1 := G.n1
    have gn5 := G.n5
    have lfl : L.flatten.length = n := by rw [pL.length_eq, List.length_range]
    obtain ⟨r0, row0, er0, erow0, hrow0⟩ : ∃ r0 row0, rs[0]? = some r0 ∧ T[0]? = some row0 ∧ H r0 = some (.tup (row0.map V.int)) := by
      obtain ⟨l, h1, h2⟩ := rows_at hrs (List.getElem?_eq_getElem (show 0 < rs.length by omega))
      exact ⟨_, l, List.getElem?_eq_getElem _, h1, h2⟩
    have lrow0 := G.len row0 (List.mem_of_getElem? erow0)
    refine ⟨_, (pss_cons (ps_expr (pe_call ON hr (by rfl) mN kN bN .nil pass0 (pa_cons (pv 0) pa_nil))) (pss_cons (ps_set (i := 2) scOf.nd rfl (Or.inr rfl) (pe_callB call_len_seq (by rfl) B.len PySem.boot_len (pa_cons (pe_ix ix_tup (pv 0) pe_int (fun _ _ => rfl)) pa_nil))) (pss_cons (ps_if (PW.pt (pw_or (pt_not (pt_val (pe_call OL hr1 (by rfl) mL kL bL .nil pass0 (pa_cons (pv 1) (pa_cons (pe_callB call_len_seq (by rfl) B.len PySem.boot_len (pa_cons (pv 0) pa_nil)) (pa_cons (pe_callB call_len_seq (by rfl) B.len PySem.boot_len (pa_cons (pv 0) pa_nil)) pa_nil)))))) (pw_or1 (pt_not (pt_val (pe_callB (cr_all rfl) (by rfl) B.all boot_all (pa_cons (pe_lc (own := [("part", 4)]) (g := gName 4) (tt := tYes) (te := tCB (rIsi K) (tCons (tVar 4) (tCons (tC (.ty "tuple")) tNil))) rfl scOf.nd (pi_tup (pv 1)) (blkOk_by (N := nOf) (sc := defScope sOf) (by decide +kernel)) (fun _ _ _ _ _ => pg_name (i := 4) scOf.nd rfl (Or.inl rfl)) (fun _ _ _ _ _ => pts_nil) (fun _ _ _ _ _ => (pe_callB call_isi (by rfl) B.isinstance boot_isi (pa_cons (pv 4) (pa_cons (pe_bltn (v := .ty "tuple") (by rfl) B.tuple boot_tuple rfl) pa_nil))))) pa_nil))))))) pss_never pss_nil) (pss_cons (ps_setLc2 (i := 3) (own := [("part", 4), ("job", 5)]) (vs1 := [5]) (wi1 := iTup K (tVar 4)) (g := gName 4) (g1 := gName 5) (tt := tYes) (tt1 := tYes) (te := tVar 5) rfl scOf.nd rfl rfl (sw_true rfl rfl rfl (by decide +kernel)) (pi_tup (pv 1)) (blkOk_by (N := nOf) (sc := defScope sOf) (by decide +kernel)) (by decide) (fun _ _ _ _ _ => pg_name (i := 4) scOf.nd rfl (Or.inl rfl)) (fun _ _ _ _ _ => pts_nil) (fun _ _ _ _ _ => pi_tup (pv 4)) (fun _ _ _ _ _ => pg_name (i := 5) scOf.nd rfl (Or.inl rfl)) (fun _ _ _ _ _ => pts_nil) (fun _ _ _ _ _ => pv 5)) (pss_cons (ps_if (PW.pt (pw_or (pt_not (pt_val (pe_callB (cr_all rfl) (by rfl) B.all boot_all (pa_cons (pe_lc (own := [("job", 5)]) (g := gName 5) (tt := tYes) rfl scOf.nd (pi_list (pv 3)) (blkOk_by (N := nOf) (sc := defScope sOf) (by decide +kernel)) (fun _ _ _ _ _ => pg_name (i := 5) scOf.nd rfl (Or.inl rfl)) (fun _ _ _ _ _ => pts_nil) (fun _ _ _ _ _ => (pe_call OI hr2 (by rfl) mI kI bI .nil pass0 (pa_cons (pv 5) (pa_cons pe_int (pa_cons (pe_op op_sub (pv 2) pe_int) pa_nil)))))) pa_nil)))) (pw_or1 (pt_cmpR (op_neD hr.units) (pe_callB cr_sortedI (by rfl) B.sorted boot_sorted (pa_cons (pv 3) pa_nil)) (pe_listRg rfl (by rfl) B.list (prg_1 (by rfl) B.range (pv 2))) (nomark _))))) pss_never pss_nil) (pss_one (ps_ret (pe_callB (cr_sum rfl) (by rfl) B.sum boot_sum (pa_cons (pe_lc2 (own := [("row", 6), ("part", 4), ("at", 7), ("job", 5)]) (vs1 := [7, 5]) (wi1 := iEnumT K (tCons (tVar 4) tNil)) (g := gTup K 2 (gCons (gName 6) (gCons (gName 4) gNil))) (g1 := gTup K 2 (gCons (gName 7) (gCons (gName 5) gNil))) (tt := tYes) (tt1 := tYes) (te := tOp (rI CMul fun i j => .int (i * j)) (tOp (rIxT K) (tVar 6) (tVar 5)) (tOp (rI0 fun i j => .int (i - j)) (tCB (fun xs H Q => ∃ p ys, xs = [V.ref p] ∧ (SqL K H p ys ∨ SqT K H p ys) ∧ Q (.int (ys.length : Int)) H) (tCons (tVar 4) tNil)) (tVar 7))) rfl scOf.nd (RZ.pi_zipA (by rfl) B.zip (pa_cons (pv 0) (pa_cons (pv 1) pa_nil))) (blkOk_by (N := nOf) (sc := defScope sOf) (by decide +kernel)) (by decide) (fun _ _ _ _ _ => pg_tup rfl (pgs_cons (pg_name (i := 6) scOf.nd rfl (Or.inl rfl)) (pgs_cons (pg_name (i := 4) scOf.nd rfl (Or.inl rfl)) pgs_nil))) (fun _ _ _ _ _ => pts_nil) (fun _ _ _ _ _ => pi_enumT (by rfl) B.enumerate (pa_cons (pv 4) pa_nil)) (fun _ _ _ _ _ => pg_tup rfl (pgs_cons (pg_name (i := 7) scOf.nd rfl (Or.inl rfl)) (pgs_cons (pg_name (i := 5) scOf.nd rfl (Or.inl rfl)) pgs_nil))) (fun _ _ _ _ _ => pts_nil) (fun _ _ _ _ _ => (pe_op op_mul (pe_ix ix_tup (pv 6) (pv 5) (fun _ _ => rfl)) (pe_op op_sub (pe_callB call_len_seq (by rfl) B.len PySem.boot_len (pa_cons (pv 4) pa_nil)) (pv 7))))) pa_nil))))))))), ?_⟩
    -- need_table(table)
    refine ⟨_, rfl, t, T, n, rfl, ⟨rs, ht, hrs⟩, G, fun H1 s1 => ?_⟩
    -- jobs = len(table[0])
    refine ⟨_, rfl, t, rs.map V.ref, 0, .ref r0, rfl, rfl, SqT.of (s1 _ _ ht), atI_nat (j := 0) (by rw [List.getElem?_map, er0]; rfl), r0, row0.map V.int, rfl, .inr (SqT.of (s1 _ _ hrow0)), ?_⟩
    rw [List.length_map, lrow0]
    -- is_list(lists, len(table), len(table)), all isinstance
    refine ⟨_, rfl, _, rfl, t, rs.map V.ref, rfl, .inr (SqT.of (s1 _ _ ht)), _, rfl, t, rs.map V.ref, rfl, .inr (SqT.of (s1 _ _ ht)), ls, ps.map V.ref, _, _, rfl, s1 _ _ hl, _, rfl, iteNS (by rw [List.length_map, List.length_map]; omega) ?_⟩
    refine ⟨_, rfl, ls, rfl, ⟨_, SqT.of (s1 _ _ hl)⟩, fun D nD => lc_it (walk_tup (xs := ps.map V.ref)) (Grow H1 D fun i => List.replicate i (V.bl true)) (Grow.start nD rfl) (fun i H4 _ g => SqT.of (g.1 _ _ (s1 _ _ hl))) ?_ ?_⟩
    · rintro j z H4 H5 hj g ⟨rfl, ez⟩
      obtain ⟨k, ek, rfl⟩ := map_at ez
      obtain ⟨l, _, hk⟩ := rows_at hps ek
      refine ⟨rfl, _, rfl, .ref k, .ty "tuple", .type "tuple", .type "tuple", true, rfl, .ty "tuple", .base (.tup (g.1 _ _ (s1 _ _ hk))), kit_tup_tup, ?_⟩
      rw [List.length_map] at hj
      exact g.turn (Same.refl _) nD List.replicate_succ' (by rw [List.length_replicate]; exact small100 (by omega))
    rintro H2 ⟨s2, hD⟩
    refine ⟨D, List.replicate (ps.map V.ref).length true, rfl, SqL.of (by rw [List.map_replicate]; exact hD), _, rfl, ?_⟩
    have e : (List.replicate (ps.map V.ref).length true).all id = true := by simp
    rw [e]
    refine iteF ?_
    clear e hD nD
    have s02 : Same H H2 := s1.trans s2
    clear s2 s1 D
    -- every = [job for part in lists for job in part]
    refine ⟨_, rfl, ls, rfl, ⟨_, SqT.of (s02 _ _ hl)⟩, fun D nD => walk_any (walk_tup (xs := ps.map V.ref)) (Grow H2 D fun i => (jn (L.take i).flatten).map V.int) (Grow.start nD rfl) (fun i H4 _ g => SqT.of (g.1 _ _ (s02 _ _ hl))) ?_ ?_⟩
    · rintro i z H4 H5 hi g ⟨rfl, ez⟩
      obtain ⟨k, ek, rfl⟩ := map_at ez
      obtain ⟨l', el', hk⟩ := rows_at hps ek
      obtain ⟨l, ell, rfl⟩ := map_at el'
      have hk4 := g.1 _ _ (s02 _ _ hk)
      refine ⟨rfl, _, rfl, k, rfl, ⟨_, SqT.of hk4⟩, walk_any (walk_tup (xs := (jn l).map V.int)) (Grow H2 D fun j => (jn ((L.take i).flatten ++ l.take j)).map V.int) (g.pass (by show _ = (jn ((L.take i).flatten ++ l.take 0)).map V.int; rw [List.take_zero, List.append_nil])) (fun j H6 _ g6 => SqT.of (g6.1 _ _ (s02 _ _ hk))) ?_ ?_⟩
      · rintro j z H6 H7 hj g6 ⟨rfl, ez⟩
        obtain ⟨x, ex, rfl⟩ := jn_at ez
        refine ⟨rfl, _, rfl, g6.turn (Same.refl _) nD ?_ ?_⟩
        · rw [take_snoc ex, ← List.append_assoc, jn_snoc, List.map_append]
          rfl
        · rw [List.length_map, jn_length, List.length_append]
          have h1 := flat_take_le L i
          have h2 : (L.take (i + 1)).flatten.length ≤ L.flatten.length := flat_take_le L (i + 1)
          rw [flat_snoc ell, List.length_append] at h2
          have h3 : (l.take j).length ≤ l.length := by rw [List.length_take]; omega
          exact small100 (by omega)
      · intro H6 g6
        refine g6.pass ?_
        show (jn ((L.take i).flatten ++ l.take ((jn l).map V.int).length)).map V.int = (jn (L.take (i + 1)).flatten).map V.int
        rw [flat_snoc ell, List.length_map, jn_length, List.take_of_length_le (Nat.le_refl _)]
    intro H3 g3'
    have s3 := g3'.1
    have hD : H3 D = some (.lst ((jn L.flatten).map V.int)) := g3'.fin (by
      show (jn (L.take (ps.map V.ref).length).flatten).map V.int = _
      rw [List.length_map, hpl, List.take_of_length_le (Nat.le_refl _)])
    have s03 : Same H H3 := s02.trans s3
    have hlen : (L.flatten).length ≤ 5 := by omega
    -- all is_in, sorted(every) != list(range(jobs))
    refine ⟨_, rfl, D, rfl, ⟨_, SqL.of hD⟩, fun D2 nD2 => lc_it (walk_list (xs := (jn L.flatten).map V.int)) (Grow H3 D2 fun i => List.replicate i (V.bl true)) (Grow.start nD2 rfl) (fun i H4 _ g => SqL.of (g.1 _ _ hD)) ?_ ?_⟩
    · rintro j z H4 H5 hj g ⟨rfl, ez⟩
      obtain ⟨x, ex, rfl⟩ := jn_at ez
      have mx : x < n := List.mem_range.mp (pL.mem_iff.mp (List.mem_of_getElem? ex))
      refine ⟨rfl, _, rfl, _, rfl, (n : Int), 1, rfl, rfl, (x : Int), 0, _, rfl, ?_⟩
      rw [decide_eq_true (by omega)]
      rw [List.length_map, jn_length] at hj
      exact g.turn (Same.refl _) nD2 List.replicate_succ' (by rw [List.length_replicate]; exact small100 (by omega))
    rintro H4 ⟨s4, hD2⟩
    refine ⟨D2, List.replicate ((jn L.flatten).map V.int).length true, rfl, SqL.of (by rw [List.map_replicate]; exact hD2), _, rfl, ?_⟩
    have e : (List.replicate ((jn L.flatten).map V.int).length true).all id = true := by simp
    rw [e]
    refine iteF ?_
    refine ⟨_, rfl, D, jn L.flatten, rfl, SqL.of (s4 _ _ hD), fun ns' p pm up np => ?_⟩
    have ens : ns' = jn (List.range n) := up_uniq (pm.trans (pL.map _)) up (ints_up List.pairwise_lt_range)
    subst ens
    refine ⟨_, rfl, (n : Int), rfl, RgOk.of_le (by omega) (by omega) (by omega) (by omega), fun q2 nq => ?_⟩
    rw [rg_jn]
    have nq3 : H3 q2 = none := (s4.trans (same_upd np)).free nq
    have hp5 : upd (upd H4 p (.lst ((jn (List.range n)).map V.int))) q2 (.lst ((jn (List.range n)).map V.int)) p = some (.lst ((jn (List.range n)).map V.int)) := by
      rw [upd_ne (ne_of_none upd_same nq), upd_same]
    refine ⟨_, _, .lst (SqL.of hp5) (dps_ints _), .lst (SqL.of upd_same) (dps_ints _), PySem.W.ke_shaped_ints _, PySem.W.ke_shaped_ints _, _, rfl, ?_⟩
    rw [eqv_refl_list]
    refine iteF ?_
    have s05 : Same H (upd (upd H4 p (.lst ((jn (List.range n)).map V.int))) q2 (.lst ((jn (List.range n)).map V.int))) := (s03.trans s4).trans ((same_upd np).trans (same_upd nq))
    generalize upd (upd H4 p (.lst ((jn (List.range n)).map V.int))) q2 (.lst ((jn (List.range n)).map V.int)) = H5 at s05 ⊢
    clear hp5 nq3 nq np up pm nD2 hD2 s4 e g3' s3 s03 s02 hD nD
    -- the sum
    have lz : (rs.map V.ref).length = (ps.map V.ref).length := by rw [List.length_map, List.length_map]; omega
    refine ⟨_, rfl, _, rfl, t, ls, rs.map V.ref, ps.map V.ref, rfl, .inr ⟨SqT.of (s05 _ _ ht), SqT.of (s05 _ _ hl), fun D3 nD3 => walk_any (walk_zipT lz) (Grow H5 D3 fun i => ((wls T L).take i).flatten.map V.int) (Grow.start nD3 rfl) (fun i H6 _ g => ⟨SqT.of (g.1 _ _ (s05 _ _ ht)), SqT.of (g.1 _ _ (s05 _ _ hl))⟩) ?_ ?_⟩⟩
    · rintro i z H6 H7 hi g ⟨T1, x, y, rfl, nT, rfl, ex, ey⟩
      obtain ⟨r, er, rfl⟩ := map_at ex
      obtain ⟨k, ek, rfl⟩ := map_at ey
      obtain ⟨row, erow, hrow⟩ := rows_at hrs er
      obtain ⟨l', el', hk⟩ := rows_at hps ek
      obtain ⟨l, ell, rfl⟩ := map_at el'
      have mrow : row ∈ T := List.mem_of_getElem? erow
      have lrow := G.len row mrow
      have s6 : Same H5 (upd H6 T1 (.tup [.ref r, .ref k])) := g.1.trans (same_upd nT)
      have ew : (wls T L)[i]? = some (wl (l.map (at0 row))) := wls_at erow ell
      have big := wls_len T L
      have big1 := flat_take_le (wls T L) (i + 1)
      rw [flat_snoc ew, List.length_append, wl_length, List.length_map] at big1
      have nTD : T1 ≠ D3 := fun e => by rw [e, g.2] at nT; cases nT
      have hD6 : upd H6 T1 (.tup [.ref r, .ref k]) D3 = some (.lst (((wls T L).take i).flatten.map V.int)) := by
        rw [upd_ne (Ne.symm nTD)]
        exact g.2
      refine ⟨T1, [.ref r, .ref k], rfl, SqT.of upd_same, rfl, .ref r, [.ref k], rfl, .ref k, [], rfl, rfl, rfl, _, rfl, k, (jn l).map V.int, rfl, SqT.of (s6 _ _ (s05 _ _ hk)), ?_⟩
      refine walk_any walk_P (Grow H5 D3 fun j => (((wls T L).take i).flatten ++ (wl (l.map (at0 row))).take j).map V.int) ⟨s6, by rw [hD6]; show _ = some (HO.lst ((((wls T L).take i).flatten ++ (wl (l.map (at0 row))).take 0).map V.int)); rw [List.take_zero, List.append_nil]⟩ (fun j H7 _ g7 => SqT.of (g7.1 _ _ (s05 _ _ hk))) ?_ ?_
      · rintro j z H7 H8 hj g7 ⟨T2, x, y, rfl, nT2, rfl, ex, ey⟩
        obtain ⟨job, ejob, rfl⟩ := jn_at ey
        obtain rfl : V.int (j : Int) = x := Option.some.inj ex
        rw [List.length_map, jn_length] at hj
        have mjob : job < row.length := by
          rw [lrow]
          exact List.mem_range.mp (pL.mem_iff.mp (List.mem_flatten.mpr ⟨l, List.mem_of_getElem? ell, List.mem_of_getElem? ejob⟩))
        have s8 : Same H7 (upd H7 T2 (.tup [.int (j : Int), .int (job : Int)])) := same_upd nT2
        have hr8 := s8 _ _ (g7.1 _ _ (s05 _ _ hrow))
        have hk8 := s8 _ _ (g7.1 _ _ (s05 _ _ hk))
        have eat : row[job]? = some (at0 row job) := by
          rw [List.getElem?_eq_getElem mjob]
          simp [at0, List.getD_eq_getElem?_getD, List.getElem?_eq_getElem mjob]
        have hb := G.rng row mrow _ (List.mem_of_getElem? eat)
        refine ⟨T2, [.int (j : Int), .int (job : Int)], rfl, SqT.of upd_same, rfl, .int (j : Int), [.int (job : Int)], rfl, .int (job : Int), [], rfl, rfl, rfl, ?_⟩
        refine ⟨_, rfl, _, rfl, r, row.map V.int, (job : Int), .int (at0 row job), rfl, rfl, SqT.of hr8, atI_nat (by rw [List.getElem?_map, eat]; rfl), _, rfl, k, (jn l).map V.int, rfl, .inr (SqT.of hk8), _, rfl, _, _, rfl, rfl, _, _, rfl, rfl, .inl ⟨by omega, by omega⟩, ?_⟩
        rw [List.length_map, jn_length]
        refine g7.turn s8 nD3 ?_ ?_
        · have hjl : j < (l.map (at0 row)).length := by rw [List.length_map]; exact hj
          rw [take_snoc (wl_at hjl), ← List.append_assoc, List.map_append, List.length_map]
          have e3 : (l.map (at0 row)).getD j 0 = at0 row job := by
            simp [List.getD_eq_getElem?_getD, ejob]
          rw [e3]
          rfl
        · rw [List.length_map, List.length_append]
          have h3 : ((wl (l.map (at0 row))).take j).length ≤ l.length := by rw [List.length_take, wl_length, List.length_map]; omega
          exact small100 (by omega)
      · intro H7 g7
        refine g7.pass ?_
        show (((wls T L).take i).flatten ++ (wl (l.map (at0 row))).take ((jn l).map V.int).length).map V.int = (((wls T L).take (i + 1)).flatten).map V.int
        have e4 : (wl (l.map (at0 row))).take ((jn l).map V.int).length = wl (l.map (at0 row)) := List.take_of_length_le (by rw [wl_length, List.length_map, List.length_map, jn_length]; exact Nat.le_refl _)
        rw [flat_snoc ew, e4]
    intro H6 g6
    refine ⟨D3, (wls T L).flatten, rfl, SqL.of (g6.fin ?_), ?_⟩
    · show (((wls T L).take (rs.map V.ref).length).flatten).map V.int = _
      rw [List.length_map, hrl, List.take_of_length_le]
      unfold wls
      rw [List.length_map, List.length_zip]
      omega
    rw [wls_sum]
    exact q _ (s05.trans g6.1)
end
end K20

namespace K20
open PySem L2
/-- a def whose code object's place is named -/
structure FunC (K : PySem.W.Frag) (x qual : Str) (st : Stmt) (f : Addr) (fd : FuncData) (c : Addr) : Prop where
  ex : ∃ (oc : Value) (od : Option Addr) (kV doc pm : Value) (an : Option Addr) (ct : Value) (osl : Array (Option Value)),
    fd = PySem.W.fnOf x qual (defArgs st) (defBody st) (defScope st) .none kV doc pm an (.ref c) ct ∧ K.lookup f = some ⟨oc, od, .func fd, osl⟩ ∧ PySem.W.codeIn K (.ref c) qual = true
  kp : PySem.W.keepIn K (.ref f) = true
abbrev lamQ : Str := (PyProof.Rows.envOfC "unlike_sum" (defScope sUnlike) 0 0 .none).qual ++ "<lambda>"
def spSum (PA : Addr) : Sp := fun vs H Q _ => ∃ (t : Addr) (T : List (List Int)) (n : Nat), vs = [.ref t] ∧ Tup2 H t T ∧ Good T n ∧ LamX.Tabs [(PA, lamQ)] H ∧
  ∀ (q : Addr) (b : Int) (L : List (List Nat)) (H2 : Hp), Kp [(PA, lamQ)] H H2 → Told H2 q b (L.map jn) → Best T n b → L.length = T.length → L.flatten.Perm (List.range n) → lsum T L = b → Q (.ref q) H2
theorem jn_perm {ks : List Int} {l : List Nat} (h : ks.Perm (jn l)) : ∃ key : List Nat, ks = jn key ∧ key.Perm l := by
  refine ⟨ks.map Int.toNat, ?_, ?_⟩
  · unfold jn
    rw [List.map_map]
    symm
    refine (List.map_congr_left fun x hx => ?_).trans (List.map_id ks)
    obtain ⟨y, _, rfl⟩ := List.mem_map.mp (h.mem_iff.mp hx)
    simp
  · have z := h.map Int.toNat
    unfold jn at z
    rw [List.map_map] at z
    have e : l.map (Int.toNat ∘ fun j : Nat => (j : Int)) = l := (List.map_congr_left fun x _ => by simp).trans (List.map_id l)
    rw [e] at z
    exact z
/-- behind i rows -/
def Out (PA : Addr) (T : List (List Int)) (n : Nat) (t : Addr) (H0 : Hp) (i : Nat) (σ : L2.St) (H : Hp) : Prop := Kp [(PA, lamQ)] H0 H ∧ ∃ (d : Addr) (kvs : Kvs) (v3 v4 v5 v6 v7 v8 v9 v10 v11 v12 : Option V),
  σ = [some (.ref t), some (.int (n : Int)), some (.ref d), v3, v4, v5, v6, v7, v8, v9, v10, v11, v12, none, none] ∧ New H0 d ∧ H d = some (.dT kvs) ∧ kvs.length ≤ 32 ^ i ∧ Ent T n H kvs i ∧ ∀ f, Low T n H kvs f i
/-- f goes by one of the first j entries -/
def By (T : List (List Int)) (n : Nat) (H : Hp) (kvs : Kvs) (i : Nat) (f : Nat → Nat) (j : Nat) : Prop := ∃ (j2 : Nat) (q : Addr) (u : Int) (L : List (List Int)), j2 < j ∧ kvs[j2]? = some (kj (don n f i), .ref q) ∧ Told H q u L ∧ u ≤ tot T n f i
/-- within row i, behind j entries -/
def Mid (PA : Addr) (T : List (List Int)) (n : Nat) (t d m r : Addr) (od : Obj) (kvs : Kvs) (i : Nat) (H0 Hb : Hp) (j : Nat) (σ : L2.St) (H : Hp) : Prop := Kp [(PA, lamQ)] H0 H ∧ H d = some (.frz od (.dT kvs)) ∧ Tp Hb H ∧ ∃ (kvm : Kvs) (v4 v5 v6 v7 v8 v9 v10 v11 : Option V),
  σ = [some (.ref t), some (.int (n : Int)), some (.ref d), some (.ref m), v4, v5, v6, v7, v8, v9, v10, v11, some (.ref r), none, none] ∧ H m = some (.dT kvm) ∧ kvm.length ≤ 32 * j ∧ Ent T n H kvm (i + 1) ∧ ∀ f, By T n Hb kvs i f j → Low T n H kvm f (i + 1)
/-- within an entry, behind p parts -/
def Inn (PA : Addr) (T : List (List Int)) (n : Nat) (t d m r qd la D pl : Addr) (u : Int) (done : List Nat) (rs : List Addr) (od : Obj) (kvs : Kvs) (i j : Nat) (H0 Hb Hc : Hp) (p : Nat) (σ : L2.St) (H : Hp) : Prop := Kp [(PA, lamQ)] H0 H ∧ H d = some (.frz od (.dT kvs)) ∧ H pl = some (.lst (rs.map V.ref)) ∧ Tp Hc H ∧ ∃ (kvm : Kvs) (v8 v9 v10 v11 : Option V),
  σ = [some (.ref t), some (.int (n : Int)), some (.ref d), some (.ref m), some (.ref qd), some (.int u), some (.ref la), some (.ref D), v8, v9, v10, v11, some (.ref r), none, none] ∧ H m = some (.dT kvm) ∧ kvm.length ≤ 32 * j + p ∧ Ent T n H kvm (i + 1) ∧
  (∀ f, By T n Hb kvs i f j → Low T n H kvm f (i + 1)) ∧ ∀ f, don n f i = done → u ≤ tot T n f i → own n f i ∈ (prt (lft n done)).take p → Low T n H kvm f (i + 1)
section
variable {P : Program} {w : World} {K : PySem.W.Frag} {mg : Str → Option Value} {base : Heap}
abbrev nSum : List Str := ["table", "jobs", "rows", "more", "done", "total", "lists", "left", "part", "order", "key", "told", "row", "job", "at"]
theorem scSum : FnScope nSum ["table"] (defScope sUnlike) := ⟨rfl, rfl, rfl, by decide +kernel, rfl, by decide +kernel, by decide +kernel⟩
theorem ok_sum {f gP gN c PA : Addr} {fd fdP fdN : FuncData} (F : FunC K "unlike_sum" "unlike_sum" sUnlike f fd c) (B : Blt mg) (TB : LamX.TabB base mg c PA)
    (OP : FnOk P w K mg base CX0 1 gP fdP ["some"] (spParts K)) (kP : PySem.W.keepIn K (.ref gP) = true) (bP : Binds K fdP ["some"] []) (mP : mg "parts_of" = some (.ref gP))
    (ON : FnOk P w K mg base CX0 3 gN fdN ["table"] spNeed) (kN : PySem.W.keepIn K (.ref gN) = true) (bN : Binds K fdN ["table"] []) (mN : mg "need_table" = some (.ref gN)) :
    FnOk P w K mg base CX0 4 f fd ["table"] (spSum PA) := by
  obtain ⟨oc, od, kV, doc, pm, an, ct, osl, rfl, lk, hcd⟩ := F.ex
  refine fn_of lk hcd scSum (fun vs H Q E h => ?_) fun A outer s H vs Q E hr hsp => ?_
  · obtain ⟨t, T, n, rfl, _⟩ := h
    rfl
  · obtain ⟨t, T, n, rfl, hT, G, tabs, q⟩ := hsp
    have hr1 : Room 1 _ := hr.mono (by decide)
    have hr2 : Room 2 _ := hr.mono (by decide)
    have hu64 := hu_of hr
    have hu1 : (A.deeper (PyProof.Rows.envOfC "unlike_sum" (defScope sUnlike) s.heap.objs.size f (.ref c))).units < cLine := by omega
    have hmT : (PA, lamQ) ∈ [(PA, lamQ)] := List.mem_singleton.mpr rfl
    have huT : ∀ z ∈ [(PA, lamQ)], z.1 = PA → z.2 = lamQ := fun z hz _ => by rw [List.mem_singleton.mp hz]
    suffices h : ∃ t', PSs (cxOf CX0 P w K mg base nSum "unlike_sum" (defScope sUnlike) f (.ref c) A outer s H E).nox (defBody sUnlike) t' ∧ t' { nx := fun _ H' => Q .non H', rt := Q } (L2.start nSum [.ref t]) H by
      obtain ⟨t', h1, h2⟩ := h
      exact ⟨t', h1.nox, h2⟩
    obtain ⟨rs, ht, hrs⟩ := hT
    have hrl := rows_len hrs
    have g1 := G.l1
    have g3 := G.l3
    have gn1 := G.n1
    have gn5 := G.n5
    obtain ⟨r0, row0, er0, erow0, hrow0⟩ : ∃ r0 row0, rs[0]? = some r0 ∧ T[0]? = some row0 ∧ H r0 = some (.tup (row0.map V.int)) := by
      obtain ⟨l, h1, h2⟩ := rows_at hrs (List.getElem?_eq_getElem (show 0 < rs.length by omega))
      exact ⟨_, l, List.getElem?_eq_getElem _, h1, h2⟩
    have lrow0 := G.len row0 (List.mem_of_getElem? erow0)
    refine ⟨_, (pss_cons (ps_expr (pe_call ON hr (by rfl) mN kN bN .nil pass0 (pa_cons (pv 0) pa_nil))) (pss_cons (ps_set (i := 1) scSum.nd rfl (Or.inl rfl) (pe_callB call_len_seq (by rfl) B.len PySem.boot_len (pa_cons (pe_ix ix_tup (pv 0) pe_int (fun _ _ => rfl)) pa_nil))) (pss_cons (ps_set (i := 2) scSum.nd rfl (Or.inl rfl) (pe_dispT hu1 (pe_tup pa_nil) (pe_tup (pa_cons pe_int (pa_cons (pe_tup pa_nil) pa_nil))))) (pss_cons (ps_for PassesOwn.never rfl (pi_tup (pv 0)) (pg_name (i := 12) scSum.nd rfl (Or.inr rfl)) (pss_cons (ps_set (i := 3) scSum.nd rfl (Or.inl rfl) pe_dnewT) (pss_cons (ps_lock (ps_for PassesOwn.never rfl (pi_itemsT (pv 2)) (pg_tup rfl (pgs_cons (pg_name (i := 4) scSum.nd rfl (Or.inr rfl)) (pgs_cons (pg_tup rfl (pgs_cons (pg_name (i := 5) scSum.nd rfl (Or.inl rfl)) (pgs_cons (pg_name (i := 6) scSum.nd rfl (Or.inl rfl)) pgs_nil))) pgs_nil))) (pss_cons (ps_setLc (i := 7) (own := [("job", 13)]) (g := gName 13) (tt := tTest (tOp (rIn K true) (tVar 13) (tVar 4))) (te := tVar 13) rfl scSum.nd rfl rfl (sw_true rfl rfl rfl (by decide +kernel)) (pi_range1 (by rfl) B.range (pa_cons (pv 1) pa_nil)) (blkOk_by (N := nSum) (sc := defScope sUnlike) (by decide +kernel)) (fun _ _ _ _ _ => pg_name (i := 13) scSum.nd rfl (Or.inl rfl)) (fun _ _ _ _ _ => pts_one (pt_cmpR op_notIn_seq (pv 13) (pv 4) (by rfl))) (fun _ _ _ _ _ => pv 13)) (pss_one (ps_for PassesOwn.never rfl (pi_list (pe_call OP hr1 (by rfl) mP kP bP .nil pass0 (pa_cons (pv 7) pa_nil))) (pg_name (i := 8) scSum.nd rfl (Or.inl rfl)) (pss_cons (ps_set (i := 9) scSum.nd rfl (Or.inr rfl) (pe_callTy call_tuple_of (by rfl) B.tuple boot_tuple (pa_cons (pe_sortLam (i := 12) (by rfl) B.sorted (pv 8) TB rfl hmT huT hr2 rfl rfl rfl rfl rfl rfl (by decide +kernel) (by decide +kernel) rfl rfl (fun _ _ _ _ _ _ => rfl) (by decide) (by decide) (by decide)) pa_nil))) (pss_cons (ps_set (i := 10) scSum.nd rfl (Or.inl rfl) (pe_callTy call_tuple_of (by rfl) B.tuple boot_tuple (pa_cons (pe_callB cr_sortedI (by rfl) B.sorted boot_sorted (pa_cons (pe_lst (StX.pa_star (pv 4) (StX.pa_star (pv 8) pa_nil))) pa_nil)) pa_nil))) (pss_cons (ps_set (i := 11) scSum.nd rfl (Or.inl rfl) (pe_tup (pa_cons (pe_op op_add (pv 5) (pe_callB (cr_sum rfl) (by rfl) B.sum boot_sum (pa_cons (pe_lc (own := [("at", 14), ("job", 13)]) (g := gTup K 2 (gCons (gName 14) (gCons (gName 13) gNil))) (tt := tYes) (te := tOp (rI CMul fun i j => .int (i * j)) (tOp (rIxT K) (tVar 12) (tVar 13)) (tOp (rI0 fun i j => .int (i - j)) (tCB (fun xs H Q => ∃ p ys, xs = [V.ref p] ∧ (SqL K H p ys ∨ SqT K H p ys) ∧ Q (.int (ys.length : Int)) H) (tCons (tVar 9) tNil)) (tVar 14))) rfl scSum.nd (pi_enumT (by rfl) B.enumerate (pa_cons (pv 9) pa_nil)) (blkOk_by (N := nSum) (sc := defScope sUnlike) (by decide +kernel)) (fun _ _ _ _ _ => pg_tup rfl (pgs_cons (pg_name (i := 14) scSum.nd rfl (Or.inl rfl)) (pgs_cons (pg_name (i := 13) scSum.nd rfl (Or.inl rfl)) pgs_nil))) (fun _ _ _ _ _ => pts_nil) (fun _ _ _ _ _ => (pe_op op_mul (pe_ix ix_tup (pv 12) (pv 13) (fun _ _ => rfl)) (pe_op op_sub (pe_callB call_len_seq (by rfl) B.len PySem.boot_len (pa_cons (pv 9) pa_nil)) (pv 14))))) pa_nil))) (pa_cons (pe_tup (StX.pa_star (pv 6) (pa_cons (pv 9) pa_nil))) pa_nil)))) (pss_one (ps_if (PW.pt (pw_or (pt_cmp (pc_dnotin hu64 (pv 10) (pv 3))) (pw_or1 (pt_cmpR (op_ltTold hr.units) (pv 11) (pe_dget hu64 (pv 3) (pv 10) (fun _ _ => rfl)) (nomark _))))) (pss_one (ps_dput hu64 (pv 3) (pv 10) (pv 11) rfl)) pss_nil)))))))))) (pss_one (ps_set (i := 2) scSum.nd rfl (Or.inl rfl) (pv 3)))))) (pss_one (ps_ret (pe_dget hu64 (pv 2) (pe_tupRg rfl (by rfl) B.tuple (prg_1 (by rfl) B.range (pv 1))) (fun _ _ => rfl)))))))), ?_⟩
    -- need_table(table); jobs = len(table[0])
    refine ⟨_, rfl, t, T, n, rfl, ⟨rs, ht, hrs⟩, G, fun H1 s1 => ?_⟩
    refine ⟨_, rfl, t, rs.map V.ref, 0, .ref r0, rfl, rfl, SqT.of (s1 _ _ ht), atI_nat (j := 0) (by rw [List.getElem?_map, er0]; rfl), r0, row0.map V.int, rfl, .inr (SqT.of (s1 _ _ hrow0)), ?_⟩
    rw [List.length_map, lrow0]
    -- rows = {(): (0, ())}
    refine fun d nd => ⟨small100e (by show 0 ≤ _; omega), fun a na => ⟨small100e (by show 0 ≤ _; omega), fun b nb => ⟨small100e (by show 2 ≤ _; omega), fun e ne => ⟨[], a, rfl, ?_, ?_, ?_⟩⟩⟩⟩
    · exact (same_upd ne) _ _ ((same_upd nb) _ _ upd_same)
    · exact (same_upd ne) _ _ ((same_upd nb) _ _ ((same_upd na) _ _ upd_same))
    have nd0 : H d = none := s1.free nd
    have sz : Same H (upd (upd (upd (upd (upd H1 d (.dT [])) a (.tup [])) b (.tup [])) e (.tup [.int 0, .ref b])) d (.dT [([], .ref e)])) :=
      same_set (s1.trans ((same_upd nd).trans ((same_upd na).trans ((same_upd nb).trans (same_upd ne))))) nd0
    have hd0 : upd (upd (upd (upd H1 d (.dT [])) a (.tup [])) b (.tup [])) e (.tup [.int 0, .ref b]) d = some (.dT []) := (same_upd ne) _ _ ((same_upd nb) _ _ ((same_upd na) _ _ upd_same))
    have tp0 : Tp (upd (upd (upd (upd H1 d (.dT [])) a (.tup [])) b (.tup [])) e (.tup [.int 0, .ref b])) (upd (upd (upd (upd (upd H1 d (.dT [])) a (.tup [])) b (.tup [])) e (.tup [.int 0, .ref b])) d (.dT [([], .ref e)])) := Tp.put hd0 fun _ z => nomatch z
    have tl0 : Told (upd (upd (upd (upd (upd H1 d (.dT [])) a (.tup [])) b (.tup [])) e (.tup [.int 0, .ref b])) d (.dT [([], .ref e)])) e 0 [] :=
      ⟨b, tp0 _ _ upd_same, [], tp0 _ _ ((same_upd ne) _ _ upd_same), .nil⟩
    have hdz : upd (upd (upd (upd (upd H1 d (.dT [])) a (.tup [])) b (.tup [])) e (.tup [.int 0, .ref b])) d (.dT [([], .ref e)]) d = some (.dT [([], .ref e)]) := upd_same
    generalize upd (upd (upd (upd (upd H1 d (.dT [])) a (.tup [])) b (.tup [])) e (.tup [.int 0, .ref b])) d (.dT [([], .ref e)]) = Hz at sz tl0 hdz ⊢
    have nw : New H d := fun u z => by
      rw [nd0] at z
      cases z
    have out0 : Out PA T n t H 0 [some (.ref t), some (.int (n : Int)), some (.ref d), none, none, none, none, none, none, none, none, none, none, none, none] Hz := by
      refine ⟨(Kp.refl tabs).same sz, d, [([], .ref e)], none, none, none, none, none, none, none, none, none, none, rfl, nw, hdz, Nat.le_refl _, fun x hx => ?_, fun f => ?_⟩
      · rw [List.mem_singleton.mp hx]
        exact ⟨[], e, 0, [], rfl, tl0, vld0 T n⟩
      · refine ⟨e, 0, [], ?_, tl0, Int.le_refl _⟩
        rw [don_zero]
        rfl
    clear hdz tl0 sz nd ne nb na s1
    -- for row in table
    refine ⟨_, rfl, t, rfl, ⟨_, SqT.of (out0.1.tup _ _ ht)⟩, for_it (walk_tup (xs := rs.map V.ref)) (Out PA T n t H) out0 (fun i σ H2 _ z => SqT.of (z.1.tup _ _ ht)) ?_ ?_⟩
    · rintro i z σ H9 H2 hi ⟨k2, d, kvs, v3, v4, v5, v6, v7, v8, v9, v10, v11, v12, rfl, nwd, hd, lkv, ent, low⟩ ⟨rfl, ez⟩
      obtain ⟨r, er, rfl⟩ := map_at ez
      obtain ⟨row, erow, hrow⟩ := rows_at hrs er
      have mrow : row ∈ T := List.mem_of_getElem? erow
      have lrow := G.len row mrow
      -- more = {}; for .. in rows.items()
      refine fun m nm => ?_
      refine ⟨d, .dT kvs, (same_upd nm) _ _ hd, trivial, fun od => ?_⟩
      refine ⟨_, rfl, d, od, kvs, rfl, upd_same, fun qs lqs hqs => ?_⟩
      have ha : upd H2 m (.dT []) d = some (.dT kvs) := (same_upd nm) _ _ hd
      have nwm : New H m := k2.new nm
      have mid0 : Kp [(PA, lamQ)] H (upd (upd H2 m (.dT [])) d (.frz od (.dT kvs))) := (k2.same (same_upd nm)).put nwd ha (fun _ z => nomatch z) (fun _ z => nomatch z)
      have tpb : Tp H2 (upd (upd H2 m (.dT [])) d (.frz od (.dT kvs))) := (Tp.of (same_upd nm)).trans (Tp.put ha fun _ z => nomatch z)
      have hdb : upd (upd H2 m (.dT [])) d (.frz od (.dT kvs)) d = some (.frz od (.dT kvs)) := upd_same
      have nmd : m ≠ d := Ne.symm (ne_of_none hd nm)
      have hmb : upd (upd H2 m (.dT [])) d (.frz od (.dT kvs)) m = some (.dT []) := by rw [upd_ne nmd, upd_same]
      generalize upd (upd H2 m (.dT [])) d (.frz od (.dT kvs)) = Hb at hqs mid0 tpb hdb hmb ⊢
      have entb : Ent T n Hb kvs i := ent.tp tpb
      have lowb : ∀ f, Low T n Hb kvs f i := fun f => (low f).tp tpb
      clear ha nm tpb ent low hd k2
      refine for_it walk_P (Mid PA T n t d m r od kvs i H Hb) ?_ (fun j σ H4 _ z => z.2.1) ?_ ?_
      · exact ⟨mid0, hdb, Tp.refl, [], _, _, _, _, _, _, _, _, rfl, hmb, Nat.zero_le _, (fun x (hx : x ∈ []) => absurd hx (by simp)), fun f (h : By T n Hb kvs i f 0) => absurd h (by rintro ⟨j2, q, u, L, hj, _⟩; exact absurd hj (Nat.not_lt_zero _))⟩
      · rintro j z σ H4 H5 hj ⟨k4, hd4, tp4, kvm, v4, v5, v6, v7, v8, v9, v10, v11, rfl, hm4, lm4, ent4, low4⟩ ⟨T1, x, y, rfl, nT, rfl, ex, ey⟩
        -- done, (total, lists)
        obtain ⟨qd, eqd, rfl⟩ : ∃ qd, qs[j]? = some qd ∧ x = .ref qd := by
          have hjq : j < qs.length := by omega
          refine ⟨qs[j], List.getElem?_eq_getElem hjq, ?_⟩
          have ex2 : qs[j]?.map V.ref = some x := ex
          rw [List.getElem?_eq_getElem hjq] at ex2
          exact (Option.some.inj ex2).symm
        have ekv : kvs[j]? = some kvs[j] := List.getElem?_eq_getElem hj
        obtain ⟨done, qe, u, L, ek, tl, vld⟩ := entb kvs[j] (List.getElem_mem hj)
        have ey2 : kvs[j]?.map Prod.snd = some y := ey
        rw [ekv, ek] at ey2
        obtain rfl : V.ref qe = y := Option.some.inj ey2
        have ekv2 : kvs[j]? = some (kj done, .ref qe) := by rw [ekv, ek]
        have hqd := hqs j _ _ _ ekv2 eqd
        rw [kj_val] at hqd
        obtain ⟨la, he, hla⟩ := tl
        have s5 : Same H4 (upd H4 T1 (.tup [.ref qd, .ref qe])) := same_upd nT
        have tp5 : Tp Hb (upd H4 T1 (.tup [.ref qd, .ref qe])) := tp4.trans (Tp.of s5)
        have hT5 : upd H4 T1 (.tup [.ref qd, .ref qe]) T1 = some (.tup [.ref qd, .ref qe]) := upd_same
        have k5 := k4.same s5
        have hd5 := s5 _ _ hd4
        have hm5 := s5 _ _ hm4
        have ent5 := ent4.tp (Tp.of s5)
        have low5 := fun f h => (low4 f h).tp (Tp.of s5)
        generalize upd H4 T1 (.tup [.ref qd, .ref qe]) = H5 at s5 tp5 hT5 k5 hd5 hm5 ent5 low5 ⊢
        refine ⟨T1, [.ref qd, .ref qe], rfl, SqT.of hT5, rfl, .ref qd, [.ref qe], rfl, .ref qe, [], rfl, ⟨qe, [.int u, .ref la], rfl, SqT.of (tp5 _ _ he), rfl, .int u, [.ref la], rfl, .ref la, [], rfl, rfl, rfl, ?_⟩⟩
        -- left
        refine ⟨_, rfl, (n : Int), rfl, by omega, by omega, fun D nD => lc_it (walk_range (lo := 0) (n := n)) (Grow H5 D fun p => (jn (sel p fun x => decide (¬ x ∈ done))).map V.int) (Grow.start nD rfl) (fun _ _ _ _ => trivial) ?_ ?_⟩
        · rintro p z H6 H7 hp g ⟨rfl, ez⟩
          have ez : z = V.int (p : Int) := by
            rw [ez]
            show V.int (0 + (p : Int)) = _
            rw [Int.zero_add]
          subst ez
          refine ⟨rfl, _, rfl, _, rfl, qd, (jn done).map V.int, rfl, .inr (SqT.of (g.1 _ _ (tp5 _ _ hqd))), rfl, flat_jn _, _, rfl, ?_⟩
          have es : sel (p + 1) (fun x => decide (¬ x ∈ done)) = if decide (¬ p ∈ done) = true then sel p (fun x => decide (¬ x ∈ done)) ++ [p] else sel p (fun x => decide (¬ x ∈ done)) := sel_succ _ _
          show if (!inV (.int (p : Int)) ((jn done).map V.int)) = true then _ else _
          rw [in_jn]
          by_cases hin : p ∈ done
          · rw [decide_eq_true hin]
            refine iteF (g.skip (Same.refl _) ?_)
            rw [es]
            simp [hin]
          · rw [decide_eq_false hin]
            refine ⟨_, rfl, ?_⟩
            refine g.turn (Same.refl _) nD ?_ ?_
            · rw [es]
              simp [hin, jn]
            · rw [List.length_map, jn_length]
              have := sel_len (fun x => decide (¬ x ∈ done)) p
              exact small100 (by omega)
        intro H6 g6
        have hD6 : H6 D = some (.lst ((jn (lft n done)).map V.int)) := g6.2
        have s6 := g6.1
        have l5 : (lft n done).length ≤ n := sel_len _ n
        clear g6 nD hT5
        -- for part in parts_of(left)
        refine ⟨_, rfl, D, lft n done, rfl, SqL.of hD6, by omega, fun pl rs2 H7 s7 hpl hrs2 => ⟨pl, rfl, ⟨_, SqL.of hpl⟩, ?_⟩⟩
        have s57 : Same H5 H7 := s6.trans s7
        have tp7 : Tp Hb H7 := tp5.trans (Tp.of s57)
        have lrs2 := rows_len hrs2
        rw [List.length_map] at lrs2
        have b32 : (prt (lft n done)).length ≤ 32 := by
          rw [prt_length]
          exact Nat.pow_le_pow_right (n := 2) (by decide) (Nat.le_trans l5 gn5)
        refine for_it (walk_list (xs := rs2.map V.ref)) (Inn PA T n t d m r qd la D pl u done rs2 od kvs i j H Hb H7) ?_ (fun p σ H8 _ z => SqL.of z.2.2.1) ?_ ?_
        · exact ⟨k5.same s57, s57 _ _ hd5, hpl, Tp.refl, kvm, _, _, _, _, rfl, s57 _ _ hm5, by omega, ent5.tp (Tp.of s57), fun f h => (low5 f h).tp (Tp.of s57), fun f _ _ h => absurd h (by simp)⟩
        · rintro p z σ H9 H8 hp ⟨k8, hd8, hpl8, tp8, kvm8, v8, v9, v10, v11, rfl, hm8, lm8, ent8, lowA, lowB⟩ ⟨rfl, ez⟩
          obtain ⟨k, ek2, rfl⟩ := map_at ez
          obtain ⟨l', el', hk7⟩ := rows_at hrs2 ek2
          obtain ⟨part, epart, rfl⟩ := map_at el'
          have hk8 := tp8 _ _ hk7
          have msub : part.Sublist (lft n done) := mem_prt.mp (List.mem_of_getElem? epart)
          have hrow8 := k8.tup _ _ hrow
          have plt : ∀ x ∈ part, x < row.length := fun x hx => by
            rw [lrow]
            exact (mem_sel.mp (msub.subset hx)).1
          have lpart : part.length ≤ 5 := Nat.le_trans msub.length_le (by omega)
          have ldone : done.length ≤ n := by
            obtain ⟨f, e, _⟩ := vld
            rw [e]
            exact sel_len _ n
          -- order
          refine ⟨_, rfl, k, part, r, row, rfl, hk8, plt, rfl, hrow8, k8.2, fun order Hf pa pm up eN tf hpa => ⟨pa, (jn order).map V.int, rfl, .inl ⟨SqL.of hpa, fun od2 nod => ?_⟩⟩⟩
          have k9 : Kp [(PA, lamQ)] H8 (upd Hf od2 (.tup ((jn order).map V.int))) := (Kp.lam (Kp.refl k8.2) eN tf).same (same_upd nod)
          have ho9 : upd Hf od2 (.tup ((jn order).map V.int)) od2 = some (.tup ((jn order).map V.int)) := upd_same
          generalize upd Hf od2 (.tup ((jn order).map V.int)) = H9 at k9 ho9 ⊢
          clear nod hpa tf eN
          have lorder : order.length ≤ 5 := by rw [pm.length_eq]; exact lpart
          -- key
          refine ⟨_, rfl, qd, (jn done).map V.int, rfl, .inl (SqT.of (k9.tup _ _ (tp8 _ _ (tp7 _ _ hqd)))), _, rfl, k, (jn part).map V.int, rfl, .inl (SqT.of (k9.tup _ _ hk8)), small100e ?_, fun l1 nl1 => ?_⟩
          · rw [List.length_append, List.length_append, List.length_map, List.length_map, jn_length, jn_length]
            show done.length + (part.length + 0) ≤ _
            omega
          have ejn : (jn done).map V.int ++ ((jn part).map V.int ++ []) = (jn (done ++ part)).map V.int := by
            rw [List.append_nil, ← List.map_append]
            unfold jn
            rw [← List.map_append]
          rw [ejn]
          refine ⟨l1, jn (done ++ part), rfl, SqL.of upd_same, fun ks p2 pmk upk np2 => ⟨p2, ks.map V.int, rfl, .inl ⟨SqL.of upd_same, fun ka nka => ?_⟩⟩⟩
          have s10 : Same H9 (upd (upd (upd H9 l1 (.lst ((jn (done ++ part)).map V.int))) p2 (.lst (ks.map V.int))) ka (.tup (ks.map V.int))) := (same_upd nl1).trans ((same_upd np2).trans (same_upd nka))
          have hka10 : upd (upd (upd H9 l1 (.lst ((jn (done ++ part)).map V.int))) p2 (.lst (ks.map V.int))) ka (.tup (ks.map V.int)) ka = some (.tup (ks.map V.int)) := upd_same
          generalize upd (upd (upd H9 l1 (.lst ((jn (done ++ part)).map V.int))) p2 (.lst (ks.map V.int))) ka (.tup (ks.map V.int)) = H10 at s10 hka10 ⊢
          obtain ⟨key, rfl, pkey⟩ := jn_perm pmk
          clear pmk nka np2 nl1 ejn
          have k10 := k9.same s10
          have ho10 := s10 _ _ ho9
          have hrow10 := k10.tup _ _ hrow8
          -- told
          have etk : ∀ {x : Nat}, x ∈ order → row[x]? = some (at0 row x) := fun {x} hx => by
            have h := plt x (pm.mem_iff.mp hx)
            rw [List.getElem?_eq_getElem h]
            simp [at0, List.getD_eq_getElem?_getD, List.getElem?_eq_getElem h]
          refine ⟨_, rfl, _, rfl, od2, (jn order).map V.int, rfl, SqT.of ho10, fun D2 nD2 => lc_it walk_P (Grow H10 D2 fun x => ((wl (order.map (at0 row))).take x).map V.int) (Grow.start nD2 rfl) (fun x H11 _ g => SqT.of (g.1 _ _ ho10)) ?_ ?_⟩
          · rintro x z H11 H12 hx g ⟨T2, y1, y2, rfl, nT2, rfl, ex1, ex2⟩
            obtain ⟨job, ejob, rfl⟩ := jn_at ex2
            obtain rfl : V.int (x : Int) = y1 := Option.some.inj ex1
            rw [List.length_map, jn_length] at hx
            have eat := etk (List.mem_of_getElem? ejob)
            have hb := G.rng row mrow _ (List.mem_of_getElem? eat)
            have s12 : Same H11 (upd H11 T2 (.tup [.int (x : Int), .int (job : Int)])) := same_upd nT2
            have hr12 := s12 _ _ (g.1 _ _ hrow10)
            have ho12 := s12 _ _ (g.1 _ _ ho10)
            refine ⟨T2, [.int (x : Int), .int (job : Int)], rfl, SqT.of upd_same, rfl, .int (x : Int), [.int (job : Int)], rfl, .int (job : Int), [], rfl, rfl, rfl, ?_⟩
            refine ⟨_, rfl, _, rfl, r, row.map V.int, (job : Int), .int (at0 row job), rfl, rfl, SqT.of hr12, atI_nat (by rw [List.getElem?_map, eat]; rfl), _, rfl, od2, (jn order).map V.int, rfl, .inr (SqT.of ho12), _, rfl, _, _, rfl, rfl, _, _, rfl, rfl, .inl ⟨by omega, by omega⟩, ?_⟩
            rw [List.length_map, jn_length]
            have hjl : x < (order.map (at0 row)).length := by rw [List.length_map]; exact hx
            refine g.turn s12 nD2 ?_ ?_
            · rw [take_snoc (wl_at hjl), List.map_append, List.length_map]
              have e3 : (order.map (at0 row)).getD x 0 = at0 row job := by
                simp [List.getD_eq_getElem?_getD, ejob]
              rw [e3]
              rfl
            · rw [List.length_map, List.length_take]
              exact small100 (by omega)
          intro H11 g11
          obtain ⟨ls, hla1, hla2⟩ := hla
          have tp11 : Tp Hb H11 := tp7.trans (tp8.trans (k10.tup.trans (Tp.of g11.1)))
          have lls := rows_len hla2
          rw [List.length_map] at lls
          have lL : L.length ≤ 3 := by
            obtain ⟨_, _, _, e, _⟩ := vld
            rw [List.length_map] at hi
            omega
          refine ⟨D2, wl (order.map (at0 row)), rfl, SqL.of (g11.fin ?_), u, _, rfl, rfl, _, rfl, la, ls.map V.ref, rfl, .inl (SqT.of (tp11 _ _ hla1)), _, rfl, small100e ?_, fun lo nlo => ⟨small100e (by show 2 ≤ _; omega), fun to nto => ?_⟩⟩
          · show ((wl (order.map (at0 row))).take ((jn order).map V.int).length).map V.int = _
            rw [List.take_of_length_le (by rw [wl_length, List.length_map, List.length_map, jn_length]; exact Nat.le_refl _)]
          · rw [List.length_append, List.length_map]
            show ls.length + 1 ≤ _
            omega
          rw [wl_sum]
          have s12 : Same H11 (upd (upd H11 lo (.tup (ls.map V.ref ++ [.ref od2]))) to (.tup [.int (u + wsum (order.map (at0 row))), .ref lo])) := (same_upd nlo).trans (same_upd nto)
          have hlo : upd (upd H11 lo (.tup (ls.map V.ref ++ [.ref od2]))) to (.tup [.int (u + wsum (order.map (at0 row))), .ref lo]) lo = some (.tup ((ls ++ [od2]).map V.ref)) := by
            rw [List.map_append]
            exact (same_upd nto) _ _ upd_same
          have hto : upd (upd H11 lo (.tup (ls.map V.ref ++ [.ref od2]))) to (.tup [.int (u + wsum (order.map (at0 row))), .ref lo]) to = some (.tup [.int (u + wsum (order.map (at0 row))), .ref lo]) := upd_same
          have k12 := (k10.same g11.1).same s12
          have tp12 := tp11.trans (Tp.of s12)
          have ho12 := s12 _ _ (g11.1 _ _ ho10)
          have hka12 := s12 _ _ (g11.1 _ _ hka10)
          generalize upd (upd H11 lo (.tup (ls.map V.ref ++ [.ref od2]))) to (.tup [.int (u + wsum (order.map (at0 row))), .ref lo]) = H12 at s12 hlo hto k12 tp12 ho12 hka12 ⊢
          have tln : Told H12 to (u + wsum (order.map (at0 row))) ((L ++ [order]).map jn) := by
            refine ⟨lo, hto, ls ++ [od2], hlo, ?_⟩
            rw [List.map_append]
            exact rows_app (hla2.same tp12) (rows_one ho12)
          clear hto hlo nto nlo
          have egr : T.getD i [] = row := by simp [List.getD_eq_getElem?_getD, erow]
          have vldn : Vld T n (i + 1) key (u + wsum (order.map (at0 row))) (L ++ [order]) := by
            have z := vld_step vld msub pm (by rw [egr]; exact up) pkey upk
            rwa [egr] at z
          have best : ∀ f, don n f i = done → u ≤ tot T n f i → own n f i = part → key = don n f (i + 1) ∧ u + wsum (order.map (at0 row)) ≤ tot T n f (i + 1) := fun f e1 e2 e3 => by
            subst e1 e3
            refine ⟨don_key pkey upk, ?_⟩
            rw [cost_of pm up]
            unfold tot
            rw [egr]
            omega
          have hd12 := k12.1 _ _ hd8 (fun _ z => nomatch z)
          have hpl12 := k12.1 _ _ hpl8 (fun _ z => nomatch z)
          have hm12 := k12.1 _ _ hm8 (fun _ z => nomatch z)
          have k012 : Kp [(PA, lamQ)] H H12 := ⟨k8.1.trans k12.1, k12.2⟩
          have ent12 := ent8.tp k12.tup
          have tp812 := tp8.trans k12.tup
          have lowA12 := fun f h => (lowA f h).tp k12.tup
          have lowB12 := fun f h1 h2 h3 => (lowB f h1 h2 h3).tp k12.tup
          have hkd : H12 ka = some (.tup ((kj key).map L2.kV)) := by rw [kj_val]; exact hka12
          have lkm : kvm8.length < sizeLine := by
            rw [List.length_map, lrs2] at hp
            have h1 : j < 32 ^ i := Nat.lt_of_lt_of_le hj lkv
            have h2 : 32 ^ i ≤ 32 ^ 2 := Nat.pow_le_pow_right (by decide) (by rw [List.length_map] at hi; omega)
            have h3 : (32 : Nat) ^ 2 = 1024 := by decide
            exact small100 (by omega)
          have put : (∀ q2, valV kvm8 (kj key) = some (.ref q2) → ∃ u2 M, Told H12 q2 u2 M ∧ u + wsum (order.map (at0 row)) ≤ u2) →
              Inn PA T n t d m r qd la D pl u done rs2 od kvs i j H Hb H7 (p + 1) [some (.ref t), some (.int (n : Int)), some (.ref d), some (.ref m), some (.ref qd), some (.int u), some (.ref la), some (.ref D), some (.ref k), some (.ref od2), some (.ref ka), some (.ref to), some (.ref r), none, none] (upd H12 m (.dT (putK kvm8 (kj key) (.ref to)))) := fun hle => by
            have tpm : Tp H12 (upd H12 m (.dT (putK kvm8 (kj key) (.ref to)))) := Tp.put hm12 fun _ z => nomatch z
            refine ⟨k012.put nwm hm12 (fun _ z => nomatch z) (fun _ z => nomatch z), ?_, ?_, tp812.trans tpm, putK kvm8 (kj key) (.ref to), _, _, _, _, rfl, upd_same, ?_, (ent12.put tln vldn).tp tpm, fun f h => ((lowA12 f h).put tln hle).tp tpm, fun f h1 h2 h3 => ?_⟩
            · rw [upd_ne (Ne.symm nmd)]
              exact hd12
            · rw [upd_ne (ne_of hpl12 hm12 fun z => nomatch z)]
              exact hpl12
            · have := length_putK kvm8 (kj key) (.ref to)
              omega
            · rw [take_snoc epart] at h3
              rcases List.mem_append.mp h3 with h4 | h4
              · exact ((lowB12 f h1 h2 h4).put tln hle).tp tpm
              · obtain ⟨e1, e2⟩ := best f h1 h2 (List.mem_singleton.mp h4)
                exact (Low.made e1 tln e2).tp tpm
          have stay : ∀ q2 u2 M, valV kvm8 (kj key) = some (.ref q2) → Told H12 q2 u2 M → u2 ≤ u + wsum (order.map (at0 row)) →
              Inn PA T n t d m r qd la D pl u done rs2 od kvs i j H Hb H7 (p + 1) [some (.ref t), some (.int (n : Int)), some (.ref d), some (.ref m), some (.ref qd), some (.int u), some (.ref la), some (.ref D), some (.ref k), some (.ref od2), some (.ref ka), some (.ref to), some (.ref r), none, none] H12 := fun q2 u2 M e1 e2 e3 => by
            refine ⟨k012, hd12, hpl12, tp812, kvm8, _, _, _, _, rfl, hm12, by omega, ent12, lowA12, fun f h1 h2 h3 => ?_⟩
            rw [take_snoc epart] at h3
            rcases List.mem_append.mp h3 with h4 | h4
            · exact lowB12 f h1 h2 h4
            · obtain ⟨e4, e5⟩ := best f h1 h2 (List.mem_singleton.mp h4)
              exact ⟨q2, u2, M, by rw [← e4]; exact e1, e2, by omega⟩
          -- if key not in more or told < more[key]: more[key] = told
          refine ⟨_, rfl, _, rfl, m, _, rfl, DGet.t hm12 hkd, _, rfl, ?_⟩
          cases ev : valV kvm8 (kj key) with
          | none =>
            refine iteT ?_
            refine ⟨_, rfl, _, rfl, _, rfl, m, _, rfl, DPut.t hm12 hkd lkm, put fun q2 z => ?_⟩
            rw [ev] at z
            cases z
          | some v =>
            refine iteF ?_
            obtain ⟨_, q2, u2, L2, ex, tl2, _⟩ := ent12 _ (val_mem ev)
            have evq : v = .ref q2 := congrArg Prod.snd ex
            subst evq
            refine ⟨_, rfl, _, rfl, _, rfl, m, .ref q2, rfl, by rw [← ev]; exact DGet.t hm12 hkd, to, q2, _, _, _, _, rfl, rfl, tln, tl2, fun b h1 h2 => ⟨_, rfl, ?_⟩⟩
            cases b with
            | true =>
              refine iteT ?_
              refine ⟨_, rfl, _, rfl, _, rfl, m, _, rfl, DPut.t hm12 hkd lkm, put fun q3 z => ?_⟩
              rw [ev] at z
              cases z
              exact ⟨_, _, tl2, h1 rfl⟩
            | false =>
              refine iteF ?_
              exact stay q2 _ _ ev tl2 (h2 rfl)
        · rintro σ H8 ⟨k8, hd8, hpl8, tp8, kvm8, v8, v9, v10, v11, rfl, hm8, lm8, ent8, lowA, lowB⟩
          refine ⟨k8, hd8, tp7.trans tp8, kvm8, _, _, _, _, _, _, _, _, rfl, hm8, ?_, ent8, fun f h => ?_⟩
          · rw [List.length_map, lrs2] at lm8
            omega
          · obtain ⟨j2, q2, u2, L2, h1, h2, h3, h4⟩ := h
            by_cases ej : j2 = j
            · subst ej
              rw [ekv2] at h2
              have e1 : kj done = kj (don n f i) := congrArg Prod.fst (Option.some.inj h2)
              have e2 : V.ref qe = V.ref q2 := congrArg Prod.snd (Option.some.inj h2)
              have e3 := kj_inj e1
              cases e2
              have e4 : u = u2 := told_one ⟨la, he, hla⟩ h3
              refine lowB f e3.symm (by omega) ?_
              rw [List.take_of_length_le (by rw [List.length_map, lrs2]; exact Nat.le_refl _), e3]
              exact own_part n f i
            · exact lowA f ⟨j2, q2, u2, L2, by omega, h2, h3, h4⟩
      · rintro σ H4 ⟨k4, hd4, tp4, kvm, v4, v5, v6, v7, v8, v9, v10, v11, rfl, hm4, lm4, ent4, low4⟩
        refine ⟨hd4, _, rfl, k4.put nwd hd4 (fun _ z => nomatch z) (fun _ z => nomatch z), m, kvm, _, _, _, _, _, _, _, _, _, _, rfl, nwm, by rw [upd_ne nmd]; exact hm4, ?_, ent4.tp (Tp.put hd4 fun _ z => nomatch z), fun f => ?_⟩
        · rw [Nat.pow_succ]
          omega
        · obtain ⟨j2, q2, u, L, h1, h2, h3, h4⟩ := (lowb f).idx
          exact (low4 f ⟨j2, q2, u, L, h1, h2, h3, h4⟩).tp (Tp.put hd4 fun _ z => nomatch z)
    · rintro σ H2 ⟨k2, d, kvs, v3, v4, v5, v6, v7, v8, v9, v10, v11, v12, rfl, nwd, hd, lkv, ent, low⟩
      rw [List.length_map, hrl] at ent low
      obtain ⟨qe, b, L, e1, e2, e3, e4, e5, e6⟩ := ends g1 ent low
      refine ⟨_, rfl, _, rfl, (n : Int), rfl, RgOk.of_le (by omega) (by omega) (by omega) (by omega), fun q2 nq => ⟨d, .ref qe, rfl, ?_, ?_⟩⟩
      · rw [← e1]
        refine DGet.t ((same_upd nq) _ _ hd) ?_
        rw [upd_same, rg_jn, kj_val]
      · exact q qe b L _ (k2.same (same_upd nq)) (e2.same (Tp.of (same_upd nq))) e3 e4 e5 e6
end
end K20

namespace K20
open PySem L2
/-! ### the script's row -/
def RowV (sc : Addr) (xs : List V) : Prop := ∃ i sd rest : Int, xs = [.ref sc, .int i, .int sd, .int rest] ∧ 0 ≤ i ∧ 0 ≤ sd ∧ sd < 2147483647
def RowIs (H : Hp) (r sc : Addr) : Prop := ∃ xs, H r = some (.lst xs) ∧ RowV sc xs
/-- all but r stands -/
def But (r : Addr) (H H2 : Hp) : Prop := ∀ b u, b ≠ r → H b = some u → H2 b = some u
theorem But.refl {r : Addr} {H : Hp} : But r H H := fun _ _ _ e => e
theorem But.of {r : Addr} {H H2 : Hp} (s : Same H H2) : But r H H2 := fun b u _ e => s b u e
theorem But.trans {r : Addr} {H H2 H3 : Hp} (a : But r H H2) (b : But r H2 H3) : But r H H3 := fun c u n e => b c u n (a c u n e)
theorem But.row {r : Addr} {H : Hp} {o : HO} : But r H (upd H r o) := fun b u n e => by rw [upd_ne n]; exact e
theorem But.new {r d : Addr} {H H2 : Hp} {o : HO} (a : But r H H2) (n : H d = none) : But r H (upd H2 d o) := fun b u nb e => by
  rw [upd_ne (ne_of_none e n)]
  exact a b u nb e
theorem upd_id {H : Hp} {r : Addr} {u : HO} (e : H r = some u) : upd H r u = H := by
  funext b
  by_cases h : b = r
  · rw [h, upd_same, e]
  · rw [upd_ne h]
/-- the script is read whatever stands at r -/
def ScrAt (K : PySem.W.Frag) (H : Hp) (r sc : Addr) (ns : List Int) : Prop := ∀ o, SqL K (upd H r o) sc (ns.map V.int)
theorem ScrAt.but {K : PySem.W.Frag} {H H2 : Hp} {r sc : Addr} {ns : List Int} (h : ScrAt K H r sc ns) (b : But r H H2) : ScrAt K H2 r sc ns := fun o => by
  rcases h (.tup []) with (e | ⟨ob, e⟩) | e
  · have n : sc ≠ r := fun z => by rw [z, upd_same] at e; cases e
    rw [upd_ne n] at e
    refine SqL.of ?_
    rw [upd_ne n]
    exact b _ _ n e
  · have n : sc ≠ r := fun z => by rw [z, upd_same] at e; cases e
    rw [upd_ne n] at e
    refine .inl (.inr ⟨ob, ?_⟩)
    rw [upd_ne n]
    exact b _ _ n e
  · exact .inr e
theorem ScrAt.kp {K : PySem.W.Frag} {TT : List (Addr × Str)} {H0 H : Hp} {r sc : Addr} {ns : List Int} (h : SqL K H0 sc (ns.map V.int)) (k : Kp TT H0 H) (n : New H0 r) : ScrAt K H r sc ns := fun o => by
  have nr : ∀ u, H0 sc = some u → (∀ ps, u ≠ .tbl ps) → sc ≠ r := fun u e nt z => by
    rw [z] at e
    obtain ⟨ps, ep⟩ := n _ e
    exact nt ps ep
  rcases h with (e | ⟨ob, e⟩) | e
  · refine SqL.of ?_
    rw [upd_ne (nr _ e fun _ z => nomatch z)]
    exact k.1 _ _ e fun _ z => nomatch z
  · refine .inl (.inr ⟨ob, ?_⟩)
    rw [upd_ne (nr _ e fun _ z => nomatch z)]
    exact k.1 _ _ e fun _ z => nomatch z
  · exact .inr e
def spTaken (K : PySem.W.Frag) : Sp := fun vs H Q _ => ∃ (r sc : Addr) (m : Int) (ns : List Int), vs = [.ref r, .int m] ∧ 0 < m ∧ m < 1000 ∧ RowIs H r sc ∧ ScrAt K H r sc ns ∧
  ∀ (v : Int) (xs : List V), 0 ≤ v → v < m → RowV sc xs → Q (.int v) (upd H r (.lst xs))
def spPick (K : PySem.W.Frag) : Sp := fun vs H Q _ => ∃ (r sc th : Addr) (ns : List Int), vs = [.ref r, .ref th] ∧ th ≠ r ∧ H th = some (.lst [.int 3, .int 20]) ∧ RowIs H r sc ∧ ScrAt K H r sc ns ∧
  ∀ (v : Int) (xs : List V), (v = 3 ∨ v = 20) → RowV sc xs → Q (.int v) (upd H r (.lst xs))
section
variable {P : Program} {w : World} {K : PySem.W.Frag} {mg : Str → Option Value} {base : Heap}
abbrev nTaken : List Str := ["_law_row", "_law_many", "_law_found", "_law_cell"]
theorem scTaken : FnScope nTaken ["_law_row", "_law_many"] (defScope sTaken) := ⟨rfl, rfl, rfl, by decide +kernel, rfl, by decide +kernel, by decide +kernel⟩
theorem ok_taken {f : Addr} {fd : FuncData} (F : Fun K "_law_taken" "_law_taken" sTaken f fd) (B : Blt mg) : FnOk P w K mg base CX0 1 f fd ["_law_row", "_law_many"] (spTaken K) := by
  refine F.ok scTaken (fun vs H Q E h => ?_) (fun cdv A outer s H vs Q E hr h => ?_)
  · obtain ⟨r, sc, m, ns, rfl, _⟩ := h
    rfl
  · obtain ⟨r, sc, m, ns, rfl, m0, m1, ⟨xs, hr0, i, sd, rest, rfl, i0, sd0, sd1⟩, S, q⟩ := h
    refine ⟨_, (pss_cons (ps_if (pt_cmpR op_gt (pe_ix ix_list (pv 0) pe_int (fun _ _ => rfl)) pe_int (nomark _)) (pss_cons (ps_set (i := 2) scTaken.nd rfl (Or.inl rfl) (pe_op op_mod (pe_callTy call_int1 (by rfl) B.int boot_int (pa_cons (pe_ix ix_list (pv 0) pe_int (fun _ _ => rfl)) pa_nil)) (pv 1))) (pss_cons (ps_asg (pe_op op_fdiv (pe_ix ix_list (pv 0) pe_int (fun _ _ => rfl)) (pv 1)) (pg_sub (pv 0) pe_int set_list)) (pss_one (ps_ret (pv 2))))) pss_nil) (pss_cons (ps_asg (pe_op op_add (pe_ix ix_list (pv 0) pe_int (fun _ _ => rfl)) pe_int) (pg_sub (pv 0) pe_int set_list)) (pss_cons (ps_if (pt_cmpR op_gt (pe_ix ix_list (pv 0) pe_int (fun _ _ => rfl)) (pe_callB call_len_seq (by rfl) B.len PySem.boot_len (pa_cons (pe_ix ix_list (pv 0) pe_int (fun _ _ => rfl)) pa_nil)) (nomark _)) (pss_cons (ps_asg (pe_op op_mod (pe_callTy call_int1 (by rfl) B.int boot_int (pa_cons (pe_op op_add (pe_op op_mul (pe_ix ix_list (pv 0) pe_int (fun _ _ => rfl)) pe_int) pe_int) pa_nil)) pe_int) (pg_sub (pv 0) pe_int set_list)) (pss_one (ps_ret (pe_op op_mod (pe_callTy call_int1 (by rfl) B.int boot_int (pa_cons (pe_op op_fdiv (pe_ix ix_list (pv 0) pe_int (fun _ _ => rfl)) pe_int) pa_nil)) (pv 1))))) pss_nil) (pss_cons (ps_set (i := 3) scTaken.nd rfl (Or.inl rfl) (pe_ix ix_list (pe_ix ix_list (pv 0) pe_int (fun _ _ => rfl)) (pe_op op_sub (pe_ix ix_list (pv 0) pe_int (fun _ _ => rfl)) pe_int) (fun _ _ => rfl))) (pss_cons (ps_asg (pe_op op_mod (pe_callTy call_int1 (by rfl) B.int boot_int (pa_cons (pe_op op_add (pe_op op_add (pe_op op_mul (pe_ix ix_list (pv 0) pe_int (fun _ _ => rfl)) pe_int) (pv 3)) pe_int) pa_nil)) pe_int) (pg_sub (pv 0) pe_int set_list)) (pss_cons (ps_if (pt_cmpR op_ge (pv 3) (pe_op op_pow pe_int pe_int) (nomark _)) (pss_one (ps_asg (pe_op op_fdiv (pv 3) (pv 1)) (pg_sub (pv 0) pe_int set_list))) pss_nil) (pss_one (ps_ret (pe_op op_mod (pe_callTy call_int1 (by rfl) B.int boot_int (pa_cons (pv 3) pa_nil)) (pv 1)))))))))), ?_⟩
    refine ⟨_, rfl, r, _, 3, .int rest, rfl, rfl, SqL.of hr0, rfl, rest, 0, rfl, rfl, _, rfl, ite2 (fun _ => ?_) (fun _ => ?_)⟩
    · refine ⟨_, rfl, r, _, 3, .int rest, rfl, rfl, SqL.of hr0, rfl, .inl ⟨rest, rfl, _, rfl, rest, m, rfl, rfl, m0, ?_⟩⟩
      refine ⟨_, rfl, r, _, 3, .int rest, rfl, rfl, SqL.of hr0, rfl, _, rfl, rest, m, rfl, rfl, ⟨m0, by omega⟩, ?_⟩
      refine ⟨_, rfl, r, _, 3, 3, rfl, rfl, hr0, rfl, _, rfl, ?_⟩
      exact q _ _ (Int.emod_nonneg _ (by omega)) (Int.emod_lt_of_pos _ m0) ⟨i, sd, rest / m, rfl, i0, sd0, sd1⟩
    refine ⟨_, rfl, r, _, 1, .int i, rfl, rfl, SqL.of hr0, rfl, i, 1, rfl, rfl, ?_⟩
    refine ⟨_, rfl, r, _, 1, 1, rfl, rfl, hr0, rfl, ?_⟩
    have h1 : upd H r (.lst ([V.ref sc, .int i, .int sd, .int rest].set 1 (.int (i + 1)))) r = some (.lst [.ref sc, .int (i + 1), .int sd, .int rest]) := upd_same
    have S1 : SqL K (upd H r (.lst ([V.ref sc, .int i, .int sd, .int rest].set 1 (.int (i + 1))))) sc (ns.map V.int) := S _
    refine ⟨_, rfl, r, _, 1, .int (i + 1), rfl, rfl, SqL.of h1, rfl, _, rfl, r, _, 0, .ref sc, rfl, rfl, SqL.of h1, rfl, sc, _, rfl, .inl S1, i + 1, _, rfl, rfl, _, rfl, ite2 (fun _ => ?_) (fun hle => ?_)⟩
    · refine ⟨_, rfl, r, _, 2, .int sd, rfl, rfl, SqL.of h1, rfl, sd, 48271, rfl, rfl, .inl ⟨by omega, by omega⟩, sd * 48271, 11, rfl, rfl, .inl ⟨_, rfl, sd * 48271 + 11, 2147483647, rfl, rfl, (by show (0 : Int) < 2147483647; decide), ?_⟩⟩
      have b0 : 0 ≤ (sd * 48271 + 11) % 2147483647 := Int.emod_nonneg _ (by decide)
      have b1 : (sd * 48271 + 11) % 2147483647 < 2147483647 := Int.emod_lt_of_pos _ (by decide)
      refine ⟨_, rfl, r, _, 2, 2, rfl, rfl, h1, rfl, ?_⟩
      rw [upd_upd]
      have h2 : upd H r (.lst ([V.ref sc, .int (i + 1), .int sd, .int rest].set 2 (.int ((sd * 48271 + 11) % 2147483647)))) r = some (.lst [.ref sc, .int (i + 1), .int ((sd * 48271 + 11) % 2147483647), .int rest]) := upd_same
      refine ⟨_, rfl, r, _, 2, .int ((sd * 48271 + 11) % 2147483647), rfl, rfl, SqL.of h2, rfl, ((sd * 48271 + 11) % 2147483647), 7, rfl, rfl, ⟨by decide, by decide⟩, .inl ⟨_, rfl, _, rfl, _, m, rfl, rfl, m0, ?_⟩⟩
      exact q _ _ (Int.emod_nonneg _ (by omega)) (Int.emod_lt_of_pos _ m0) ⟨i + 1, ((sd * 48271 + 11) % 2147483647), rest, rfl, by omega, b0, b1⟩
    rw [List.length_map] at hle
    obtain ⟨j, rfl⟩ := Int.eq_ofNat_of_zero_le i0
    have hj : j < ns.length := by
      have z : ¬ ((ns.length : Int) < (j : Int) + 1) := by simpa using hle
      omega
    have ea : atI (ns.map V.int) ((j : Int) + 1 - 1) = some (.int ns[j]) := by
      rw [Int.add_sub_cancel]
      exact atI_nat (by rw [List.getElem?_map, List.getElem?_eq_getElem hj]; rfl)
    refine ⟨_, rfl, r, _, 0, .ref sc, rfl, rfl, SqL.of h1, rfl, _, rfl, r, _, 1, .int ((j : Int) + 1), rfl, rfl, SqL.of h1, rfl, (j : Int) + 1, 1, rfl, rfl, sc, _, (j : Int) + 1 - 1, .int ns[j], rfl, rfl, S1, ea, ?_⟩
    generalize ns[j] = cell
    refine ⟨_, rfl, r, _, 2, .int sd, rfl, rfl, SqL.of h1, rfl, sd, 48271, rfl, rfl, .inl ⟨by omega, by omega⟩, _, rfl, sd * 48271, cell, rfl, rfl, sd * 48271 + cell, 11, rfl, rfl, .inl ⟨_, rfl, sd * 48271 + cell + 11, 2147483647, rfl, rfl, (by show (0 : Int) < 2147483647; decide), ?_⟩⟩
    have b0 : 0 ≤ (sd * 48271 + cell + 11) % 2147483647 := Int.emod_nonneg _ (by decide)
    have b1 : (sd * 48271 + cell + 11) % 2147483647 < 2147483647 := Int.emod_lt_of_pos _ (by decide)
    refine ⟨_, rfl, r, _, 2, 2, rfl, rfl, h1, rfl, ?_⟩
    rw [upd_upd]
    have h2 : upd H r (.lst ([V.ref sc, .int ((j : Int) + 1), .int sd, .int rest].set 2 (.int ((sd * 48271 + cell + 11) % 2147483647)))) r = some (.lst [.ref sc, .int ((j : Int) + 1), .int ((sd * 48271 + cell + 11) % 2147483647), .int rest]) := upd_same
    refine ⟨_, rfl, 10, 18, rfl, rfl, ⟨by decide, by decide, by decide⟩, cell, _, rfl, rfl, _, rfl, ite2 (fun _ => ?_) (fun _ => ?_)⟩
    · refine ⟨_, rfl, _, rfl, cell, m, rfl, rfl, ⟨m0, by omega⟩, ?_⟩
      refine ⟨_, rfl, r, _, 3, 3, rfl, rfl, h2, rfl, ?_⟩
      rw [upd_upd]
      refine ⟨_, rfl, .inl ⟨_, rfl, _, rfl, _, m, rfl, rfl, m0, ?_⟩⟩
      exact q _ _ (Int.emod_nonneg _ (by omega)) (Int.emod_lt_of_pos _ m0) ⟨(j : Int) + 1, ((sd * 48271 + cell + 11) % 2147483647), cell / m, rfl, by omega, b0, b1⟩
    · refine ⟨_, rfl, .inl ⟨_, rfl, _, rfl, _, m, rfl, rfl, m0, ?_⟩⟩
      exact q _ _ (Int.emod_nonneg _ (by omega)) (Int.emod_lt_of_pos _ m0) ⟨(j : Int) + 1, ((sd * 48271 + cell + 11) % 2147483647), rest, rfl, by omega, b0, b1⟩
abbrev nPick : List Str := ["_law_row", "_law_things"]
theorem scPick : FnScope nPick ["_law_row", "_law_things"] (defScope sPick) := ⟨rfl, rfl, rfl, by decide +kernel, rfl, by decide +kernel, by decide +kernel⟩
theorem ok_pick {f gT : Addr} {fd fdT : FuncData} (F : Fun K "_law_pick" "_law_pick" sPick f fd) (B : Blt mg) (OT : FnOk P w K mg base CX0 1 gT fdT ["_law_row", "_law_many"] (spTaken K)) (kT : PySem.W.keepIn K (.ref gT) = true) (bT : Binds K fdT ["_law_row", "_law_many"] []) (mT : mg "_law_taken" = some (.ref gT)) :
    FnOk P w K mg base CX0 2 f fd ["_law_row", "_law_things"] (spPick K) := by
  refine F.ok scPick (fun vs H Q E h => ?_) (fun cdv A outer s H vs Q E hr h => ?_)
  · obtain ⟨r, sc, th, ns, rfl, _⟩ := h
    rfl
  · obtain ⟨r, sc, th, ns, rfl, ne, hth, hrow, S, q⟩ := h
    refine ⟨_, (pss_one (ps_ret (pe_ix ix_list (pv 1) (pe_call OT hr (by rfl) mT kT bT .nil pass0 (pa_cons (pv 0) (pa_cons (pe_callB call_len_seq (by rfl) B.len PySem.boot_len (pa_cons (pv 1) pa_nil)) pa_nil))) (fun _ _ => rfl)))), ?_⟩
    refine ⟨_, rfl, _, rfl, _, rfl, th, _, rfl, .inl (SqL.of hth), r, sc, 2, ns, rfl, by decide, by decide, hrow, S, fun v xs v0 v1 hv => ?_⟩
    have hth2 : upd H r (.lst xs) th = some (.lst [.int 3, .int 20]) := by rw [upd_ne ne]; exact hth
    rcases (by omega : v = 0 ∨ v = 1) with rfl | rfl
    · exact ⟨th, _, 0, .int 3, rfl, rfl, SqL.of hth2, rfl, q 3 xs (.inl rfl) hv⟩
    · exact ⟨th, _, 1, .int 20, rfl, rfl, SqL.of hth2, rfl, q 20 xs (.inr rfl) hv⟩
/-! ### an order drawn -/
def spOrder (K : PySem.W.Frag) : Sp := fun vs H Q _ => ∃ (r sc : Addr) (n : Nat) (ns : List Int), vs = [.ref r, .int (n : Int)] ∧ n ≤ 5 ∧ RowIs H r sc ∧ ScrAt K H r sc ns ∧
  ∀ (p : Addr) (l : List Nat) (H2 : Hp), But r H H2 → RowIs H2 r sc → H2 p = some (.tup ((jn l).map V.int)) → l.Perm (List.range n) → Q (.ref p) H2
theorem erase_perm : ∀ {l : List Nat} {k y : Nat}, l[k]? = some y → (y :: l.eraseIdx k).Perm l
  | [], _, _, h => by simp at h
  | x :: l, 0, y, h => by
    simp at h
    subst h
    exact List.Perm.refl _
  | x :: l, k + 1, y, h => by
    have ih := erase_perm (l := l) (k := k) (y := y) (by simpa using h)
    exact (List.Perm.swap x y _).trans (ih.cons x)
theorem erase_map {α β : Type} (f : α → β) : ∀ (l : List α) (k : Nat), (l.map f).eraseIdx k = (l.eraseIdx k).map f
  | [], _ => by simp
  | x :: l, 0 => by simp
  | x :: l, k + 1 => by simp [erase_map f l k]
abbrev nOrder : List Str := ["_law_row", "_law_many", "_law_left", "_law_found", "_law_turn"]
theorem scOrder : FnScope nOrder ["_law_row", "_law_many"] (defScope sOrder) := ⟨rfl, rfl, rfl, by decide +kernel, rfl, by decide +kernel, by decide +kernel⟩
theorem ok_order {f gT : Addr} {fd fdT : FuncData} (F : Fun K "_law_order" "_law_order" sOrder f fd) (B : Blt mg) (OT : FnOk P w K mg base CX0 1 gT fdT ["_law_row", "_law_many"] (spTaken K)) (kT : PySem.W.keepIn K (.ref gT) = true) (bT : Binds K fdT ["_law_row", "_law_many"] []) (mT : mg "_law_taken" = some (.ref gT)) :
    FnOk P w K mg base CX0 2 f fd ["_law_row", "_law_many"] (spOrder K) := by
  refine F.ok scOrder (fun vs H Q E h => ?_) (fun cdv A outer s H vs Q E hr h => ?_)
  · obtain ⟨r, sc, n, ns, rfl, _⟩ := h
    rfl
  · obtain ⟨r, sc, n, ns, rfl, n5, hrow, S, q⟩ := h
    refine ⟨_, (pss_cons (ps_par (i := 2) (j := 3) rfl scOrder.nd rfl rfl (by decide) rfl rfl (pa_cons (pe_listRg rfl (by rfl) B.list (prg_1 (by rfl) B.range (pv 1))) (pa_cons (pe_lst pa_nil) pa_nil)) (by rfl)) (pss_cons (ps_for PassesOwn.never rfl (pi_range1 (by rfl) B.range (pa_cons (pv 1) pa_nil)) (pg_name (i := 4) scOrder.nd rfl (Or.inl rfl)) (pss_one (ps_expr (pe_bm PySem.F.plainAttrs_list PySem.F.slot_list_append PySem.F.type_list_append mt_append (pv 3) (pa_cons (pe_bm PySem.F.plainAttrs_list PySem.F.slot_list_pop PySem.F.type_list_pop mt_popAt (pv 2) (pa_cons (pe_call OT hr (by rfl) mT kT bT .nil pass0 (pa_cons (pv 0) (pa_cons (pe_callB call_len_seq (by rfl) B.len PySem.boot_len (pa_cons (pv 2) pa_nil)) pa_nil))) pa_nil)) pa_nil))))) (pss_one (ps_ret (pe_callTy call_tuple_of (by rfl) B.tuple boot_tuple (pa_cons (pv 3) pa_nil)))))), ?_⟩
    refine ⟨_, rfl, (n : Int), rfl, RgOk.of_le (by omega) (by omega) (by omega) (by omega), fun lf nlf => ⟨small100e (by show 0 ≤ _; omega), fun fdd nfd => ⟨_, _, rfl, ?_⟩⟩⟩
    rw [rg_jn] at nfd ⊢
    have s0 : Same H (upd (upd H lf (.lst ((jn (List.range n)).map V.int))) fdd (.lst [])) := (same_upd nlf).trans (same_upd nfd)
    have hl0 : upd (upd H lf (.lst ((jn (List.range n)).map V.int))) fdd (.lst []) lf = some (.lst ((jn (List.range n)).map V.int)) := (same_upd nfd) _ _ upd_same
    have hf0 : upd (upd H lf (.lst ((jn (List.range n)).map V.int))) fdd (.lst []) fdd = some (.lst []) := upd_same
    have nlfd : lf ≠ fdd := ne_of_none (upd_same (H := H) (a := lf) (o := .lst ((jn (List.range n)).map V.int))) nfd
    have nfH : H fdd = none := (same_upd nlf).free nfd
    have hrow0 : RowIs (upd (upd H lf (.lst ((jn (List.range n)).map V.int))) fdd (.lst [])) r sc := by
      obtain ⟨xs, e, h⟩ := hrow
      exact ⟨xs, s0 _ _ e, h⟩
    have nlr : lf ≠ r := by
      obtain ⟨xs, e, _⟩ := hrow
      exact Ne.symm (ne_of_none e nlf)
    have nfr : fdd ≠ r := by
      obtain ⟨xs, e, _⟩ := hrow
      exact Ne.symm (ne_of_none e nfH)
    generalize upd (upd H lf (.lst ((jn (List.range n)).map V.int))) fdd (.lst []) = H0 at s0 hl0 hf0 hrow0 ⊢
    refine ⟨_, rfl, (n : Int), rfl, by omega, by omega, for_it (walk_range (lo := 0) (n := n)) (fun i σ H2 => But r H H2 ∧ RowIs H2 r sc ∧ ∃ (v : Option V) (left found : List Nat), σ = [some (.ref r), some (.int (n : Int)), some (.ref lf), some (.ref fdd), v] ∧ H2 lf = some (.lst ((jn left).map V.int)) ∧ H2 fdd = some (.lst ((jn found).map V.int)) ∧ found.length = i ∧ (found ++ left).Perm (List.range n))
      ⟨But.of s0, hrow0, _, List.range n, [], rfl, hl0, hf0, rfl, List.Perm.refl _⟩ (fun _ _ _ _ _ => trivial) ?_ ?_⟩
    · rintro i z σ H1 H2 hi ⟨b2, hrow2, v, left, found, rfl, hl2, hf2, lfound, pm⟩ ⟨rfl, rfl⟩
      have ln := pm.length_eq
      rw [List.length_append, List.length_range] at ln
      refine ⟨_, rfl, .inl ⟨rfl, _, SqL.of hf2⟩, _, rfl, .inl ⟨rfl, _, SqL.of hl2⟩, _, rfl, _, rfl, lf, _, rfl, .inl (SqL.of hl2), r, sc, _, ns, rfl, ?_, ?_, hrow2, S.but b2, fun v xs v0 v1 hv => ?_⟩
      · rw [List.length_map, jn_length]
        omega
      · rw [List.length_map, jn_length]
        omega
      rw [List.length_map, jn_length] at v1
      obtain ⟨k, rfl⟩ := Int.eq_ofNat_of_zero_le v0
      have hk : k < left.length := by omega
      have ek : left[k]? = some left[k] := List.getElem?_eq_getElem hk
      have hl3 : upd H2 r (.lst xs) lf = some (.lst ((jn left).map V.int)) := by rw [upd_ne nlr]; exact hl2
      refine ⟨lf, _, (k : Int), k, .int (left[k] : Int), rfl, rfl, hl3, by omega, by omega, ?_, ?_, ?_⟩
      · simp only [seqIndex?]
        rw [if_neg (show ¬ ((k : Int) < 0) by omega), List.length_map, jn_length]
        simp
        exact hk
      · unfold jn
        rw [List.getElem?_map, List.getElem?_map, ek]
        rfl
      have ee : ((jn left).map V.int).eraseIdx k = (jn (left.eraseIdx k)).map V.int := by
        unfold jn
        rw [erase_map, erase_map]
      rw [ee]
      have hf4 : upd (upd H2 r (.lst xs)) lf (.lst ((jn (left.eraseIdx k)).map V.int)) fdd = some (.lst ((jn found).map V.int)) := by
        rw [upd_ne (Ne.symm nlfd), upd_ne nfr]
        exact hf2
      refine ⟨fdd, _, _, rfl, rfl, hf4, ?_, ?_⟩
      · rw [List.length_map, jn_length]
        exact small100 (by omega)
      refine ⟨((b2.trans But.row).new nlf).new nfH, ⟨xs, ?_, hv⟩, _, left.eraseIdx k, found ++ [left[k]], rfl, ?_, ?_, ?_, ?_⟩
      · rw [upd_ne (Ne.symm nfr), upd_ne (Ne.symm nlr), upd_same]
      · rw [upd_ne nlfd, upd_same]
      · rw [upd_same, jn_snoc, List.map_append]
        rfl
      · rw [List.length_append, lfound]
        rfl
      · rw [List.append_assoc]
        exact ((erase_perm ek).append_left found).trans pm
    · rintro σ H2 ⟨b2, hrow2, v, left, found, rfl, hl2, hf2, lfound, pm⟩
      have ln := pm.length_eq
      rw [List.length_append, List.length_range] at ln
      have e : left = [] := List.length_eq_zero_iff.mp (by omega)
      subst e
      rw [List.append_nil] at pm
      refine ⟨_, rfl, fdd, _, rfl, .inl ⟨SqL.of hf2, fun p np => ?_⟩⟩
      exact q p found _ (b2.trans (But.of (same_upd np))) (by
        obtain ⟨xs, e, h⟩ := hrow2
        exact ⟨xs, (same_upd np) _ _ e, h⟩) upd_same pm
/-! ### whole numbers are alike where they are equal -/
def spAlike : Sp := fun vs H Q _ => ∃ i j : Int, vs = [.int i, .int j] ∧ ∀ H2, Same H H2 → Q (.bl (decide (i = j))) H2
abbrev nAlike : List Str := ["_law_found", "_law_due", "_law_k"]
theorem scAlike : FnScope nAlike ["_law_found", "_law_due"] (defScope sAlike) := ⟨rfl, rfl, rfl, by decide +kernel, rfl, by decide +kernel, by decide +kernel⟩
theorem kit_int_str {K : PySem.W.Frag} : PySem.W.kitOne K (.type "int") (.type "str") = some false := kit_ty (by decide +kernel)
theorem kit_int_tuple {K : PySem.W.Frag} : PySem.W.kitOne K (.type "int") (.type "tuple") = some false := kit_ty (by decide +kernel)
theorem kit_int_list {K : PySem.W.Frag} : PySem.W.kitOne K (.type "int") (.type "list") = some false := kit_ty (by decide +kernel)
theorem ok_alike {f : Addr} {fd : FuncData} (F : Fun K "_law_alike" "_law_alike" sAlike f fd) (B : Blt mg) : FnOk P w K mg base CX0 1 f fd ["_law_found", "_law_due"] spAlike := by
  refine F.ok scAlike (fun vs H Q E h => ?_) (fun cdv A outer s H vs Q E hr h => ?_)
  · obtain ⟨i, j, rfl, _⟩ := h
    rfl
  · obtain ⟨i, j, rfl, q⟩ := h
    refine ⟨_, (pss_cons (ps_if (pt_val (pe_callB call_isiT (by rfl) B.isinstance boot_isi (pa_cons (pv 1) (pa_cons (pe_tup (pa_cons (pe_bltn (v := .ty "tuple") (by rfl) B.tuple boot_tuple rfl) (pa_cons (pe_bltn (v := .ty "list") (by rfl) B.list boot_list rfl) pa_nil))) pa_nil)))) pss_never pss_nil) (pss_cons (ps_if (PW.pt (pw_or (pt_cmpR op_isN (pv 1) pe_non (nomark _)) (pw_or1 (pt_val (pe_callB call_isi (by rfl) B.isinstance boot_isi (pa_cons (pv 1) (pa_cons (pe_bltn (v := .ty "str") (by rfl) B.str boot_str rfl) pa_nil))))))) pss_never pss_nil) (pss_one (ps_ret (pe_and (pe_callB call_isi (by rfl) B.isinstance boot_isi (pa_cons (pv 0) (pa_cons (pe_bltn (v := .ty "int") (by rfl) B.int boot_int rfl) pa_nil))) (pe_and (pe_cmpR op_eq (pe_callB call_isi (by rfl) B.isinstance boot_isi (pa_cons (pv 0) (pa_cons (pe_bltn (v := .ty "bool") (by rfl) B.bool boot_bool rfl) pa_nil))) (pe_callB call_isi (by rfl) B.isinstance boot_isi (pa_cons (pv 1) (pa_cons (pe_bltn (v := .ty "bool") (by rfl) B.bool boot_bool rfl) pa_nil))) (nomark _)) (pe_one (pe_cmpR op_eq (pv 0) (pv 1) (nomark _))))))))), ?_⟩
    refine ⟨_, rfl, small100e (by show 2 ≤ _; omega), fun tp ntp => ?_⟩
    refine ⟨.int j, tp, [.ty "tuple", .ty "list"], .type "int", [.type "tuple", .type "list"], false, rfl, upd_same, .cons (.ty _) (.cons (.ty _) .nil), .base (.int j), by simp [PySem.W.kitAny, kit_int_tuple, kit_int_list], _, rfl, iteF ?_⟩
    refine ⟨_, rfl, rfl, _, rfl, ite2 (fun h => absurd (of_decide_eq_true h) (fun z => nomatch z)) (fun _ => ?_)⟩
    refine ⟨_, rfl, .int j, .ty "str", .type "int", .type "str", false, rfl, .ty "str", .base (.int j), kit_int_str, _, rfl, iteF ?_⟩
    refine ⟨_, rfl, .int i, .ty "int", .type "int", .type "int", true, rfl, .ty "int", .base (.int i), kit_int_int, true, rfl, iteT ?_⟩
    refine ⟨_, rfl, .int i, .ty "bool", .type "int", .type "bool", false, rfl, .ty "bool", .base (.int i), kit_int_bool, _, rfl, .int j, .ty "bool", .type "int", .type "bool", false, rfl, .ty "bool", .base (.int j), kit_int_bool, rfl, true, rfl, iteT ?_⟩
    refine ⟨_, rfl, _, rfl, rfl, ?_⟩
    have e : decide (V.int i = V.int j) = decide (i = j) := by
      by_cases h : i = j <;> simp [h]
    have z := q (upd H tp (.tup [.ty "tuple", .ty "list"])) (same_upd ntp)
    rw [← e] at z
    exact z
end
end K20

namespace K20
open PySem L2
abbrev rTup (K : PySem.W.Frag) : List V → Hp → VK → Prop := fun xs H Q => ∃ p ys, xs = [.ref p] ∧ ((SqL K H p ys ∧ ∀ l, H l = none → Q (.ref l) (upd H l (.tup ys))) ∨ (SqT K H p ys ∧ Q (.ref p) H))
/-! ### a comprehension in a comprehension -/
theorem relabel_at (env : Env) (x : Str) : ∀ (l : List (Str × NameKind)), (l.lookup x = some .cell ∨ l.lookup x = some .free) →
    ((l.map fun (n, k) => if (k == .free && env.scope.kind == .function && env.kindOf n == some .cell) then (n, NameKind.cell) else (n, k)).lookup x = some .cell ∨
      (l.map fun (n, k) => if (k == .free && env.scope.kind == .function && env.kindOf n == some .cell) then (n, NameKind.cell) else (n, k)).lookup x = some .free)
  | [], h => by simp at h
  | (n, k) :: l, h => by
    have ih := relabel_at env x l
    rw [List.map_cons]
    by_cases e : x = n
    · subst e
      simp only [List.lookup_cons, beq_self_eq_true] at h ⊢
      split
      · left
        simp
      · rename_i hc
        rcases h with h | h
        · left
          simpa using h
        · right
          simpa using h
    · have e2 : (x == n) = false := by simpa using e
      simp only [List.lookup_cons, e2] at h ⊢
      split
      · rw [List.lookup_cons, e2]
        exact ih h
      · rw [List.lookup_cons, e2]
        exact ih h
theorem blkOk_nest {N : List Str} {sc scope : Scope} {own : List (Str × Nat)} {env : Env} (h : BlkOk N sc scope own) : BlkOk N (relabel sc env) scope own :=
  ⟨h.kind, h.uniq, h.ix, fun y hy e => relabel_at env y.1 sc.names (h.free y hy e), h.own⟩
section
variable {TT : List (Addr × Str)} {H0 H H2 : Hp} {r : Addr} {xs : List V}
theorem Tp.but (b : But r H H2) (e : H r = some (.lst xs)) : Tp H H2 := fun a ys z => b a _ (ne_of z e fun y => nomatch y) z
theorem Kp.but (k : Kp TT H0 H) (b : But r H H2) (n : New H0 r) (e : H r = some (.lst xs)) : Kp TT H0 H2 := by
  refine ⟨fun a u h nt => b a u (fun z => ?_) (k.1 a u h nt), fun p hp => ?_⟩
  · rw [z] at h
    obtain ⟨ps, ep⟩ := n _ h
    exact nt ps ep
  · obtain ⟨ps, e1, e2, e3⟩ := k.2 p hp
    refine ⟨ps, b _ _ (ne_of e1 e fun y => nomatch y) e1, e2, fun pos cv hc => ?_⟩
    obtain ⟨c, e4, e5⟩ := e3 pos cv hc
    exact ⟨c, e4, b _ _ (ne_of e5 e fun y => nomatch y) e5⟩
end
def ext (many : Nat) (p : List Nat) : List (List Nat) := (List.range many).map fun a => p ++ [a]
theorem flat_none (c : Nat) : (List.replicate c ([] : List Nat)).flatten.Perm [] := by
  induction c with
  | zero => exact List.Perm.refl _
  | succ c ih => rw [List.replicate_succ, List.flatten_cons]; exact ih
theorem rows_set {H : Hp} {y : Addr} {l : List Int} (h : H y = some (.tup (l.map V.int))) : ∀ {rs : List Addr} {L : List (List Int)} (a : Nat), Rows2 H rs L → Rows2 H (rs.set a y) (L.set a l)
  | _, _, _, .nil => .nil
  | _, _, 0, .cons _ t => .cons h t
  | _, _, a + 1, .cons e t => .cons e (rows_set h a t)
/-- the least total of the first j places -/
def Bst (T : List (List Int)) (n j : Nat) (bv : V) : Prop := (j = 0 ∧ bv = .non) ∨ ∃ b : Int, bv = .int b ∧ (∃ p, p ∈ (prod T.length n).take j ∧ tot T n (asg p) T.length = b) ∧ ∀ p, p ∈ (prod T.length n).take j → b ≤ tot T n (asg p) T.length
def spLaw (K : PySem.W.Frag) (PA : Addr) : Sp := fun vs H Q _ => ∃ (sc : Addr) (ns : List Int), vs = [.ref sc] ∧ SqL K H sc (ns.map V.int) ∧ LamX.Tabs [(PA, lamQ)] H ∧ ∀ H2, Q (.bl true) H2
section
variable {P : Program} {w : World} {K : PySem.W.Frag} {mg : Str → Option Value} {base : Heap}
abbrev nLaw : List Str := ["_law_script", "_law_row", "_law_jobs", "_law_many", "_law_top", "_law_table", "_law_places", "_law_best", "_law_job", "_law_longer", "_law_part", "_law_at", "_law_total", "_law_machine", "_law_some", "_law_told", "_law_lists", "_law_drawn", "_law_due"]
theorem scLaw : FnScope nLaw ["_law_script"] (defScope sLaw) := ⟨rfl, rfl, rfl, by decide +kernel, rfl, by decide +kernel, by decide +kernel⟩
theorem ok_law {f gT gK gS gA gF gO PA : Addr} {fd fdT fdK fdS fdA fdF fdO : FuncData} (F : Fun K "law" "law" sLaw f fd) (B : Blt mg)
    (OT : FnOk P w K mg base CX0 1 gT fdT ["_law_row", "_law_many"] (spTaken K)) (kT : PySem.W.keepIn K (.ref gT) = true) (bT : Binds K fdT ["_law_row", "_law_many"] []) (mT : mg "_law_taken" = some (.ref gT))
    (OK : FnOk P w K mg base CX0 2 gK fdK ["_law_row", "_law_things"] (spPick K)) (kK : PySem.W.keepIn K (.ref gK) = true) (bK : Binds K fdK ["_law_row", "_law_things"] []) (mK : mg "_law_pick" = some (.ref gK))
    (OS : FnOk P w K mg base CX0 4 gS fdS ["table"] (spSum PA)) (kS : PySem.W.keepIn K (.ref gS) = true) (bS : Binds K fdS ["table"] []) (mS : mg "unlike_sum" = some (.ref gS))
    (OA : FnOk P w K mg base CX0 1 gA fdA ["_law_found", "_law_due"] spAlike) (kA : PySem.W.keepIn K (.ref gA) = true) (bA : Binds K fdA ["_law_found", "_law_due"] []) (mA : mg "_law_alike" = some (.ref gA))
    (OF : FnOk P w K mg base CX0 4 gF fdF ["table", "lists"] spOf) (kF : PySem.W.keepIn K (.ref gF) = true) (bF : Binds K fdF ["table", "lists"] []) (mF : mg "unlike_sum_of" = some (.ref gF))
    (OO : FnOk P w K mg base CX0 2 gO fdO ["_law_row", "_law_many"] (spOrder K)) (kO : PySem.W.keepIn K (.ref gO) = true) (bO : Binds K fdO ["_law_row", "_law_many"] []) (mO : mg "_law_order" = some (.ref gO)) :
    FnOk P w K mg base CX0 5 f fd ["_law_script"] (spLaw K PA) := by
  refine F.ok scLaw (fun vs H Q E h => ?_) (fun cdv A outer s H vs Q E hr h => ?_)
  · obtain ⟨sc, ns, rfl, _⟩ := h
    rfl
  · obtain ⟨sc, ns, rfl, hs, tabs, q⟩ := h
    have hr1 : Room 1 _ := hr.mono (by decide)
    have hr2 : Room 2 _ := hr.mono (by decide)
    refine ⟨_, (pss_cons (ps_set (i := 1) scLaw.nd rfl (Or.inr rfl) (pe_lst (pa_cons (pv 0) (pa_cons pe_int (pa_cons pe_int (pa_cons pe_int pa_nil)))))) (pss_cons (ps_asg (pe_tup (pa_cons (pe_op op_add pe_int (pe_call OT hr1 (by rfl) mT kT bT .nil pass0 (pa_cons (pv 1) (pa_cons pe_int pa_nil)))) (pa_cons (pe_op op_add pe_int (pe_call OT hr1 (by rfl) mT kT bT .nil pass0 (pa_cons (pv 1) (pa_cons pe_int pa_nil)))) (pa_cons (pe_call OK hr2 (by rfl) mK kK bK .nil pass0 (pa_cons (pv 1) (pa_cons (pe_lst (pa_cons pe_int (pa_cons pe_int pa_nil))) pa_nil))) pa_nil)))) (pg_tup rfl (pgs_cons (pg_name (i := 2) scLaw.nd rfl (Or.inr rfl)) (pgs_cons (pg_name (i := 3) scLaw.nd rfl (Or.inl rfl)) (pgs_cons (pg_name (i := 4) scLaw.nd rfl (Or.inr rfl)) pgs_nil))))) (pss_cons (ps_set (i := 5) scLaw.nd rfl (Or.inr rfl) (pe_callTy call_tuple_of (by rfl) B.tuple boot_tuple (pa_cons (pe_lc (own := [("_law_machine", 13)]) (g := gName 13) (tt := tYes) (te := (tCB (rTup K) (tCons (tLc (iRng1 (tCons (tVar 2) tNil)) (gName 8) tYes (tOp (rI0 fun i j => .int (i + j)) (tC (.int 1)) (tCall (spTaken K) [] E0 (tCons (tVar 1) (tCons (tVar 4) tNil)))) [8]) tNil))) rfl scLaw.nd (pi_range1 (by rfl) B.range (pa_cons (pv 3) pa_nil)) (blkOk_by (N := nLaw) (sc := defScope sLaw) (by decide +kernel)) (fun _ _ _ _ _ => pg_name (i := 13) scLaw.nd rfl (Or.inl rfl)) (fun _ _ _ _ _ => pts_nil) (fun _ _ _ _ _ => (pe_callTy call_tuple_of (by rfl) B.tuple boot_tuple (pa_cons (pe_lc (own := [("_law_job", 8)]) (g := gName 8) (tt := tYes) (te := tOp (rI0 fun i j => .int (i + j)) (tC (.int 1)) (tCall (spTaken K) [] E0 (tCons (tVar 1) (tCons (tVar 4) tNil)))) rfl scLaw.nd (pi_range1 (by rfl) B.range (pa_cons (pv 2) pa_nil)) (blkOk_nest (blkOk_by (N := nLaw) (by decide +kernel))) (fun _ _ _ _ _ => pg_name (i := 8) scLaw.nd rfl (Or.inl rfl)) (fun _ _ _ _ _ => pts_nil) (fun _ _ _ _ _ => (pe_op op_add pe_int (pe_call OT hr1 (by rfl) mT kT bT .nil pass0 (pa_cons (pv 1) (pa_cons (pv 4) pa_nil)))))) pa_nil)))) pa_nil))) (pss_cons (ps_par (i := 6) (j := 7) rfl scLaw.nd rfl rfl (by decide) rfl rfl (pa_cons (pe_lst (pa_cons (pe_tup pa_nil) pa_nil)) (pa_cons pe_non pa_nil)) (by rfl)) (pss_cons (ps_for PassesOwn.never rfl (pi_range1 (by rfl) B.range (pa_cons (pv 2) pa_nil)) (pg_name (i := 8) scLaw.nd rfl (Or.inl rfl)) (pss_cons (ps_set (i := 9) scLaw.nd rfl (Or.inl rfl) (pe_lst pa_nil)) (pss_cons (ps_for PassesOwn.never rfl (pi_list (pv 6)) (pg_name (i := 10) scLaw.nd rfl (Or.inr rfl)) (pss_one (ps_set (i := 9) scLaw.nd rfl (Or.inl rfl) (pe_op op_cat (pv 9) (pe_lc (own := [("_law_at", 11)]) (g := gName 11) (tt := tYes) (te := tOp (rCatA K) (tVar 10) (tTup (tCons (tVar 11) tNil))) rfl scLaw.nd (pi_range1 (by rfl) B.range (pa_cons (pv 3) pa_nil)) (blkOk_by (N := nLaw) (sc := defScope sLaw) (by decide +kernel)) (fun _ _ _ _ _ => pg_name (i := 11) scLaw.nd rfl (Or.inl rfl)) (fun _ _ _ _ _ => pts_nil) (fun _ _ _ _ _ => (pe_op op_catA (pv 10) (pe_tup (pa_cons (pv 11) pa_nil))))))))) (pss_one (ps_set (i := 6) scLaw.nd rfl (Or.inl rfl) (pv 9)))))) (pss_cons (ps_for PassesOwn.never rfl (pi_list (pv 6)) (pg_name (i := 10) scLaw.nd rfl (Or.inr rfl)) (pss_cons (ps_set (i := 12) scLaw.nd rfl (Or.inl rfl) pe_int) (pss_cons (ps_for PassesOwn.never rfl (pi_range1 (by rfl) B.range (pa_cons (pv 3) pa_nil)) (pg_name (i := 13) scLaw.nd rfl (Or.inr rfl)) (pss_cons (ps_set (i := 14) scLaw.nd rfl (Or.inr rfl) (pe_callB cr_sortedI (by rfl) B.sorted boot_sorted (pa_cons (pe_lc (own := [("_law_at", 11)]) (g := gName 11) (tt := tTest (tOp rEq (tOp (rIxT K) (tVar 10) (tVar 11)) (tVar 13))) (te := tOp (rIxT K) (tOp (rIxT K) (tVar 5) (tVar 13)) (tVar 11)) rfl scLaw.nd (pi_range1 (by rfl) B.range (pa_cons (pv 2) pa_nil)) (blkOk_by (N := nLaw) (sc := defScope sLaw) (by decide +kernel)) (fun _ _ _ _ _ => pg_name (i := 11) scLaw.nd rfl (Or.inl rfl)) (fun _ _ _ _ _ => pts_one (pt_cmpR op_eq (pe_ix ix_tup (pv 10) (pv 11) (fun _ _ => rfl)) (pv 13) (nomark _))) (fun _ _ _ _ _ => (pe_ix ix_tup (pe_ix ix_tup (pv 5) (pv 13) (fun _ _ => rfl)) (pv 11) (fun _ _ => rfl)))) pa_nil))) (pss_one (ps_set (i := 12) scLaw.nd rfl (Or.inl rfl) (pe_op op_add (pv 12) (pe_callB (cr_sum rfl) (by rfl) B.sum boot_sum (pa_cons (pe_lc (own := [("_law_at", 11)]) (g := gName 11) (tt := tYes) (te := tOp (rI CMul fun i j => .int (i * j)) (tOp (rIxL K) (tVar 14) (tVar 11)) (tOp (rI0 fun i j => .int (i - j)) (tCB (fun xs H Q => ∃ p ys, xs = [V.ref p] ∧ (SqL K H p ys ∨ SqT K H p ys) ∧ Q (.int (ys.length : Int)) H) (tCons (tVar 14) tNil)) (tVar 11))) rfl scLaw.nd (pi_range1 (by rfl) B.range (pa_cons (pe_callB call_len_seq (by rfl) B.len PySem.boot_len (pa_cons (pv 14) pa_nil)) pa_nil)) (blkOk_by (N := nLaw) (sc := defScope sLaw) (by decide +kernel)) (fun _ _ _ _ _ => pg_name (i := 11) scLaw.nd rfl (Or.inl rfl)) (fun _ _ _ _ _ => pts_nil) (fun _ _ _ _ _ => (pe_op op_mul (pe_ix ix_list (pv 14) (pv 11) (fun _ _ => rfl)) (pe_op op_sub (pe_callB call_len_seq (by rfl) B.len PySem.boot_len (pa_cons (pv 14) pa_nil)) (pv 11))))) pa_nil))))))) (pss_one (ps_set (i := 7) scLaw.nd rfl (Or.inl rfl) (pe_ifExp (pt_cmpR op_isN (pv 7) pe_non (nomark _)) (pv 12) (pe_callB (call_min2 rfl) (by rfl) B.min boot_min (pa_cons (pv 7) (pa_cons (pv 12) pa_nil))))))))) (pss_cons (ps_asg (pe_call OS hr (by rfl) mS kS bS .nil pass0 (pa_cons (pv 5) pa_nil)) (pg_tup rfl (pgs_cons (pg_name (i := 15) scLaw.nd rfl (Or.inl rfl)) (pgs_cons (pg_name (i := 16) scLaw.nd rfl (Or.inl rfl)) pgs_nil)))) (pss_cons (ps_if (PW.pt (pw_or (pt_not (pt_val (pe_call OA hr1 (by rfl) mA kA bA .nil pass0 (pa_cons (pv 15) (pa_cons (pv 7) pa_nil))))) (pw_or1 (pt_cmpR op_ne (pe_call OF hr (by rfl) mF kF bF .nil pass0 (pa_cons (pv 5) (pa_cons (pv 16) pa_nil))) (pv 7) (nomark _))))) pss_never pss_nil) (pss_cons (ps_set (i := 17) scLaw.nd rfl (Or.inl rfl) (pe_op op_rep (pe_lst (pa_cons (pe_tup pa_nil) pa_nil)) (pv 3))) (pss_cons (ps_for PassesOwn.never rfl (pi_tup (pe_call OO hr2 (by rfl) mO kO bO .nil pass0 (pa_cons (pv 1) (pa_cons (pv 2) pa_nil)))) (pg_name (i := 8) scLaw.nd rfl (Or.inl rfl)) (pss_cons (ps_set (i := 11) scLaw.nd rfl (Or.inl rfl) (pe_call OT hr1 (by rfl) mT kT bT .nil pass0 (pa_cons (pv 1) (pa_cons (pv 3) pa_nil)))) (pss_one (ps_asg (pe_op op_catA (pe_ix ix_list (pv 17) (pv 11) (fun _ _ => rfl)) (pe_tup (pa_cons (pv 8) pa_nil))) (pg_sub (pv 17) (pv 11) set_list))))) (pss_cons (ps_set (i := 18) scLaw.nd rfl (Or.inl rfl) pe_int) (pss_cons (ps_for PassesOwn.never rfl (pi_range1 (by rfl) B.range (pa_cons (pv 3) pa_nil)) (pg_name (i := 13) scLaw.nd rfl (Or.inr rfl)) (pss_cons (ps_set (i := 14) scLaw.nd rfl (Or.inr rfl) (pe_ix ix_list (pv 17) (pv 13) (fun _ _ => rfl))) (pss_one (ps_set (i := 18) scLaw.nd rfl (Or.inl rfl) (pe_op op_add (pv 18) (pe_callB (cr_sum rfl) (by rfl) B.sum boot_sum (pa_cons (pe_lc (own := [("_law_at", 11)]) (g := gName 11) (tt := tYes) (te := tCB (rSum K) (tCons (tLc (iTup K (tSl (rSlA K) (tVar 14) tNoPart (tPart (tOp (rI0 fun i j => .int (i + j)) (tVar 11) (tC (.int 1)))))) (gName 8) tYes (tOp (rIxT K) (tOp (rIxT K) (tVar 5) (tVar 13)) (tVar 8)) [8]) tNil)) rfl scLaw.nd (pi_range1 (by rfl) B.range (pa_cons (pe_callB call_len_seq (by rfl) B.len PySem.boot_len (pa_cons (pv 14) pa_nil)) pa_nil)) (blkOk_by (N := nLaw) (sc := defScope sLaw) (by decide +kernel)) (fun _ _ _ _ _ => pg_name (i := 11) scLaw.nd rfl (Or.inl rfl)) (fun _ _ _ _ _ => pts_nil) (fun _ _ _ _ _ => (pe_callB (cr_sum rfl) (by rfl) B.sum boot_sum (pa_cons (pe_lc (own := [("_law_job", 8)]) (g := gName 8) (tt := tYes) (te := tOp (rIxT K) (tOp (rIxT K) (tVar 5) (tVar 13)) (tVar 8)) rfl scLaw.nd (pi_tup (pe_slice sl_tupA (pv 14) po_none (po_some (pe_op op_add (pv 11) pe_int)))) (blkOk_nest (blkOk_by (N := nLaw) (by decide +kernel))) (fun _ _ _ _ _ => pg_name (i := 8) scLaw.nd rfl (Or.inl rfl)) (fun _ _ _ _ _ => pts_nil) (fun _ _ _ _ _ => (pe_ix ix_tup (pe_ix ix_tup (pv 5) (pv 13) (fun _ _ => rfl)) (pv 8) (fun _ _ => rfl)))) pa_nil)))) pa_nil))))))) (pss_one (ps_ret (pe_call OA hr1 (by rfl) mA kA bA .nil pass0 (pa_cons (pe_call OF hr (by rfl) mF kF bF .nil pass0 (pa_cons (pv 5) (pa_cons (pe_callTy call_tuple_of (by rfl) B.tuple boot_tuple (pa_cons (pv 17) pa_nil)) pa_nil))) (pa_cons (pv 18) pa_nil))))))))))))))))), ?_⟩
    -- the row
    refine ⟨_, rfl, small100e (by show 4 ≤ _; omega), fun r nr => ?_⟩
    have nwr : New H r := fun u e => by
      rw [nr] at e
      cases e
    have k1 : Kp [(PA, lamQ)] H (upd H r (.lst [.ref sc, .int 0, .int 3920, .int 0])) := (Kp.refl tabs).same (same_upd nr)
    have row1 : RowIs (upd H r (.lst [.ref sc, .int 0, .int 3920, .int 0])) r sc := ⟨_, upd_same, 0, 3920, 0, rfl, by omega, by omega, by omega⟩
    generalize upd H r (.lst [.ref sc, .int 0, .int 3920, .int 0]) = H1 at k1 row1 ⊢
    clear nr
    -- jobs, many, top
    have put : ∀ {Ha : Hp} {ys : List V}, Kp [(PA, lamQ)] H Ha → RowIs Ha r sc → RowV sc ys → Kp [(PA, lamQ)] H (upd Ha r (.lst ys)) ∧ RowIs (upd Ha r (.lst ys)) r sc := fun {Ha ys} k ⟨_, e, _⟩ h => ⟨k.put nwr e (fun _ z => nomatch z) (fun _ z => nomatch z), ys, upd_same, h⟩
    refine ⟨_, rfl, r, sc, 5, ns, rfl, by decide, by decide, row1, ScrAt.kp hs k1 nwr, fun v1 ys1 a0 a1 hv1 => ⟨1, v1, rfl, rfl, ?_⟩⟩
    obtain ⟨k2, row2⟩ := put k1 row1 hv1
    generalize upd H1 r (.lst ys1) = H2 at k2 row2 ⊢
    refine ⟨_, rfl, r, sc, 3, ns, rfl, by decide, by decide, row2, ScrAt.kp hs k2 nwr, fun v2 ys2 b0 b1 hv2 => ⟨1, v2, rfl, rfl, ?_⟩⟩
    obtain ⟨k3, row3⟩ := put k2 row2 hv2
    generalize upd H2 r (.lst ys2) = H3 at k3 row3 ⊢
    refine ⟨_, rfl, small100e (by show 2 ≤ _; omega), fun th nth => ?_⟩
    have k4 : Kp [(PA, lamQ)] H (upd H3 th (.lst [.int 3, .int 20])) := k3.same (same_upd nth)
    have row4 : RowIs (upd H3 th (.lst [.int 3, .int 20])) r sc := by
      obtain ⟨xs, e, h⟩ := row3
      exact ⟨xs, (same_upd nth) _ _ e, h⟩
    have nthr : th ≠ r := by
      obtain ⟨xs, e, _⟩ := row3
      exact Ne.symm (ne_of_none e nth)
    refine ⟨r, sc, th, ns, rfl, nthr, upd_same, row4, ScrAt.kp hs k4 nwr, fun top ys3 htop hv3 => ?_⟩
    obtain ⟨k5, row5⟩ := put k4 row4 hv3
    generalize upd (upd H3 th (.lst [.int 3, .int 20])) r (.lst ys3) = H5 at k5 row5 ⊢
    refine ⟨small100e (by show 3 ≤ _; omega), fun tp ntp => ⟨tp, [.int (1 + v1), .int (1 + v2), .int top], rfl, SqT.of upd_same, rfl, .int (1 + v1), [.int (1 + v2), .int top], rfl, .int (1 + v2), [.int top], rfl, .int top, [], rfl, rfl, ?_⟩⟩
    have k6 := k5.same (same_upd ntp (o := .tup [.int (1 + v1), .int (1 + v2), .int top]))
    have row6 : RowIs (upd H5 tp (.tup [.int (1 + v1), .int (1 + v2), .int top])) r sc := by
      obtain ⟨xs, e, h⟩ := row5
      exact ⟨xs, (same_upd ntp) _ _ e, h⟩
    generalize upd H5 tp (.tup [.int (1 + v1), .int (1 + v2), .int top]) = H6 at k6 row6 ⊢
    obtain ⟨n, en, n1, n5⟩ : ∃ n : Nat, 1 + v1 = (n : Int) ∧ 1 ≤ n ∧ n ≤ 5 := ⟨(1 + v1).toNat, by omega, by omega, by omega⟩
    obtain ⟨mm, em, m1, m3⟩ : ∃ m : Nat, 1 + v2 = (m : Int) ∧ 1 ≤ m ∧ m ≤ 3 := ⟨(1 + v2).toNat, by omega, by omega, by omega⟩
    rw [en, em]
    have top0 : 3 ≤ top ∧ top ≤ 20 := by omega
    clear en em htop row5 k5 row4 k4 nthr nth row3 k3 row2 k2 row1 k1 a0 a1 b0 b1 hv1 hv2 hv3 ntp
    -- the table
    refine ⟨_, rfl, (mm : Int), rfl, by omega, by omega, fun D nD => lc_it (walk_range (lo := 0) (n := mm)) (fun i Ha => But r H6 Ha ∧ RowIs Ha r sc ∧ ∃ (rs : List Addr) (L : List (List Int)), Ha D = some (.lst (rs.map V.ref)) ∧ Rows2 Ha rs L ∧ L.length = i ∧ ∀ row ∈ L, row.length = n ∧ ∀ x ∈ row, 1 ≤ x ∧ x ≤ 20) ?_ (fun _ _ _ _ => trivial) ?_ ?_⟩
    · obtain ⟨xs, e, h⟩ := row6
      exact ⟨But.of (same_upd nD), ⟨xs, (same_upd nD) _ _ e, h⟩, [], [], upd_same, .nil, rfl, fun row h => absurd h (by simp)⟩
    · rintro i z Hx Ha hi ⟨ba, rowa, rs, L, hDa, hrsa, lL, gL⟩ ⟨rfl, rfl⟩
      have nDr : D ≠ r := by
        obtain ⟨xs, e, _⟩ := row6
        exact Ne.symm (ne_of_none e nD)
      refine ⟨rfl, _, rfl, (n : Int), rfl, by omega, by omega, fun D2 nD2 => lc_it (walk_range (lo := 0) (n := n)) (fun j Hb => But r Ha Hb ∧ RowIs Hb r sc ∧ ∃ l : List Int, Hb D2 = some (.lst (l.map V.int)) ∧ l.length = j ∧ ∀ x ∈ l, 1 ≤ x ∧ x ≤ 20) ?_ (fun _ _ _ _ => trivial) ?_ ?_⟩
      · obtain ⟨xs, e, h⟩ := rowa
        exact ⟨But.of (same_upd nD2), ⟨xs, (same_upd nD2) _ _ e, h⟩, [], upd_same, rfl, fun x h => absurd h (by simp)⟩
      · rintro j z Hx Hb hj ⟨bb, rowb, l, hDb, ll, gl⟩ ⟨rfl, rfl⟩
        have nD2r : D2 ≠ r := by
          obtain ⟨xs, e, _⟩ := rowa
          exact Ne.symm (ne_of_none e nD2)
        obtain ⟨xs6, e6, _⟩ := row6
        have kb := k6.but (ba.trans bb) nwr e6
        refine ⟨rfl, _, rfl, _, rfl, r, sc, top, ns, rfl, by omega, by omega, rowb, ScrAt.kp hs kb nwr, fun v ys v0 v1 hv => ⟨1, v, rfl, rfl, ?_⟩⟩
        have hDc : upd Hb r (.lst ys) D2 = some (.lst (l.map V.int)) := by rw [upd_ne nD2r]; exact hDb
        refine ⟨l.map V.int, hDc, ?_, (bb.trans But.row).new nD2, ⟨ys, ?_, hv⟩, l ++ [1 + v], ?_, ?_, fun x hx => ?_⟩
        · rw [List.length_map, ll]
          exact small100 (by omega)
        · rw [upd_ne (Ne.symm nD2r), upd_same]
        · rw [upd_same, List.map_append]
          rfl
        · rw [List.length_append, ll]
          rfl
        · rcases List.mem_append.mp hx with h | h
          · exact gl x h
          · rw [List.mem_singleton.mp h]
            omega
      · rintro Hb ⟨bb, rowb, l, hDb, ll, gl⟩
        refine ⟨D2, l.map V.int, rfl, .inl ⟨SqL.of hDb, fun tq ntq => ?_⟩⟩
        have hDb2 : Hb D = some (.lst (rs.map V.ref)) := bb _ _ nDr hDa
        have lrs := rows_len hrsa
        obtain ⟨xsa, ea, _⟩ := rowa
        have tpb : Tp Ha Hb := Tp.but bb ea
        refine ⟨rs.map V.ref, (same_upd ntq) _ _ hDb2, ?_, ((ba.trans bb).trans (But.of (same_upd ntq))).new nD, ?_, rs ++ [tq], L ++ [l], ?_, ?_, ?_, fun row hx => ?_⟩
        · rw [List.length_map, lrs, lL]
          exact small100 (by omega)
        · obtain ⟨xs, e, h⟩ := rowb
          refine ⟨xs, ?_, h⟩
          rw [upd_ne (Ne.symm nDr)]
          exact (same_upd ntq) _ _ e
        · rw [upd_same, List.map_append]
          rfl
        · have tpc : Tp Hb (upd Hb tq (.tup (l.map V.int))) := Tp.of (same_upd ntq)
          have tpd : Tp (upd Hb tq (.tup (l.map V.int))) (upd (upd Hb tq (.tup (l.map V.int))) D (.lst (rs.map V.ref ++ [V.ref tq]))) := Tp.put ((same_upd ntq) _ _ hDb2) fun _ z => nomatch z
          exact rows_app (hrsa.same (tpb.trans (tpc.trans tpd))) (rows_one (tpd _ _ upd_same))
        · rw [List.length_append, lL]
          rfl
        · rcases List.mem_append.mp hx with h | h
          · exact gL row h
          · rw [List.mem_singleton.mp h]
            exact ⟨ll, gl⟩
    rintro H7 ⟨b7, row7, rs, T, hD7, hrs7, lT, gT⟩
    have k7 : Kp [(PA, lamQ)] H H7 := by
      obtain ⟨xs6, e6, _⟩ := row6
      exact k6.but b7 nwr e6
    refine ⟨D, rs.map V.ref, rfl, .inl ⟨SqL.of hD7, fun t nt => ?_⟩⟩
    have kt : Kp [(PA, lamQ)] H (upd H7 t (.tup (rs.map V.ref))) := k7.same (same_upd nt)
    have rowt : RowIs (upd H7 t (.tup (rs.map V.ref))) r sc := by
      obtain ⟨xs, e, h⟩ := row7
      exact ⟨xs, (same_upd nt) _ _ e, h⟩
    have ht : upd H7 t (.tup (rs.map V.ref)) t = some (.tup (rs.map V.ref)) := upd_same
    have hrs : Rows2 (upd H7 t (.tup (rs.map V.ref))) rs T := hrs7.same (Tp.of (same_upd nt))
    generalize upd H7 t (.tup (rs.map V.ref)) = Ht at kt rowt ht hrs ⊢
    have G : Good T n := ⟨by omega, by omega, n1, n5, fun row h => (gT row h).1, fun row h x hx => by
      have := (gT row h).2 x hx
      omega⟩
    subst lT
    have hrl := rows_len hrs
    have lD : (rs.map V.ref).length = T.length := by rw [List.length_map, hrl]
    clear nt k7 hrs7 hD7 row7 b7 nD k6 row6
    -- the places
    refine ⟨small100e (by show 0 ≤ _; omega), fun e0 ne0 => ⟨small100e (by show 1 ≤ _; omega), fun pl npl => ⟨_, _, rfl, ?_⟩⟩⟩
    have sp : Same Ht (upd (upd Ht e0 (.tup [])) pl (.lst [.ref e0])) := (same_upd ne0).trans (same_upd npl)
    have he0 : upd (upd Ht e0 (.tup [])) pl (.lst [.ref e0]) e0 = some (.tup []) := (same_upd npl) _ _ upd_same
    have hpl0 : upd (upd Ht e0 (.tup [])) pl (.lst [.ref e0]) pl = some (.lst [.ref e0]) := upd_same
    generalize upd (upd Ht e0 (.tup [])) pl (.lst [.ref e0]) = H8 at sp he0 hpl0 ⊢
    refine ⟨_, rfl, (n : Int), rfl, by omega, by omega, for_it (walk_range (lo := 0) (n := n)) (fun i σ Ha => Same Ht Ha ∧ ∃ (pl : Addr) (ps : List Addr) (v8 v9 v10 : Option V),
      σ = [some (.ref sc), some (.ref r), some (.int (n : Int)), some (.int (T.length : Int)), some (.int top), some (.ref t), some (.ref pl), some .non, v8, v9, v10, none, none, none, none, none, none, none, none] ∧ Ha pl = some (.lst (ps.map V.ref)) ∧ Rows2 Ha ps ((prod T.length i).map jn))
      ⟨sp, pl, [e0], none, none, none, rfl, hpl0, rows_one (l := []) he0⟩ (fun _ _ _ _ _ => trivial) ?_ ?_⟩
    · rintro i z σ Hx Ha hi ⟨sa, pl, ps, v8, v9, v10, rfl, hpl, hps⟩ ⟨rfl, rfl⟩
      refine ⟨small100e (by show 0 ≤ _; omega), fun lg nlg => ⟨_, rfl, pl, rfl, ⟨_, SqL.of ((same_upd nlg) _ _ hpl)⟩, for_it (walk_list (xs := ps.map V.ref)) (fun j σ Hb => Same Ha Hb ∧ ∃ (lg : Addr) (qs : List Addr) (v8 v10 : Option V),
        σ = [some (.ref sc), some (.ref r), some (.int (n : Int)), some (.int (T.length : Int)), some (.int top), some (.ref t), some (.ref pl), some .non, v8, some (.ref lg), v10, none, none, none, none, none, none, none, none] ∧ Hb lg = some (.lst (qs.map V.ref)) ∧ Rows2 Hb qs ((((prod T.length i).take j).flatMap (ext T.length)).map jn))
        ⟨same_upd nlg, lg, [], _, _, rfl, upd_same, .nil⟩ (fun j σ Hb _ z => SqL.of (z.1 _ _ hpl)) ?_ ?_⟩⟩
      · rintro j z σ Hx Hb hj ⟨sb, lg, qs, v8, v10, rfl, hlg, hqs⟩ ⟨rfl, ez⟩
        obtain ⟨k, ek, rfl⟩ := map_at ez
        obtain ⟨l', el', hk⟩ := rows_at hps ek
        obtain ⟨p, ep, rfl⟩ := map_at el'
        have lp : p.length = i := (mem_prod.mp (List.mem_of_getElem? ep)).1
        have hkb := sb _ _ hk
        refine ⟨_, rfl, _, rfl, (T.length : Int), rfl, by omega, by omega, fun D nD => lc_it (walk_range (lo := 0) (n := T.length)) (fun x Hc => Same Hb Hc ∧ ∃ rs3 : List Addr, Hc D = some (.lst (rs3.map V.ref)) ∧ Rows2 Hc rs3 (((List.range x).map fun a => p ++ [a]).map jn))
          ⟨same_upd nD, [], upd_same, .nil⟩ (fun _ _ _ _ => trivial) ?_ ?_⟩
        · rintro a z Hx Hc ha ⟨sc3, rs3, hD, hr3⟩ ⟨rfl, ez⟩
          have ez : z = V.int (a : Int) := by
            rw [ez]
            show V.int (0 + (a : Int)) = _
            rw [Int.zero_add]
          subst ez
          have lr3 := rows_len hr3
          rw [List.length_map, List.length_map, List.length_range] at lr3
          have fin : ∀ (y : Addr) (Hd : Hp), Same Hc Hd → Hd y = some (.tup ((jn (p ++ [a])).map V.int)) → ∃ acc, Hd D = some (.lst acc) ∧ acc.length < sizeLine ∧ (Same Hb (upd Hd D (.lst (acc ++ [.ref y]))) ∧ ∃ rs3 : List Addr, upd Hd D (.lst (acc ++ [.ref y])) D = some (.lst (rs3.map V.ref)) ∧ Rows2 (upd Hd D (.lst (acc ++ [.ref y]))) rs3 (((List.range (a + 1)).map fun a => p ++ [a]).map jn)) := fun y Hd sd hy => by
            have hDd := sd _ _ hD
            have tpd : Tp Hd (upd Hd D (.lst (rs3.map V.ref ++ [.ref y]))) := Tp.put hDd fun _ z => nomatch z
            refine ⟨rs3.map V.ref, hDd, ?_, same_set (sc3.trans sd) nD, rs3 ++ [y], by rw [upd_same, List.map_append]; rfl, ?_⟩
            · rw [List.length_map, lr3]
              exact small100 (by omega)
            · rw [List.range_succ, List.map_append, List.map_append]
              exact rows_app (hr3.same ((Tp.of sd).trans tpd)) (rows_one (tpd _ _ hy))
          refine ⟨rfl, _, rfl, _, rfl, small100e (by show 1 ≤ _; omega), fun tu ntu => ⟨k, tu, _, _, rfl, rfl, SqT.of ((same_upd ntu) _ _ (sc3 _ _ hkb)), SqT.of upd_same, ?_, fun e => ?_, fun _ e => absurd e (by simp), fun _ _ y ny => ?_⟩⟩
          · rw [List.length_map, jn_length, lp]
            exact small100e (by show i + 1 ≤ _; omega)
          · have ep0 : p = [] := by
              cases p with
              | nil => rfl
              | cons x r => simp [jn] at e
            refine fin tu _ (same_upd ntu) ?_
            rw [ep0, upd_same]
            rfl
          · refine fin y _ ((same_upd ntu).trans (same_upd ny)) ?_
            rw [upd_same, jn_snoc, List.map_append]
            rfl
        · rintro Hc ⟨sc3, rs3, hD, hr3⟩
          have lr3 := rows_len hr3
          rw [List.length_map, List.length_map, List.length_range] at lr3
          have lqs := rows_len hqs
          rw [List.length_map] at lqs
          have big : (prod T.length (i + 1)).length ≤ 243 := by
            rw [prod_length]
            refine Nat.le_trans (Nat.pow_le_pow_left (show T.length ≤ 3 from m3) (i + 1)) ?_
            show 3 ^ (i + 1) ≤ 3 ^ 5
            exact Nat.pow_le_pow_right (by decide) (by omega)
          have big2 : ((((prod T.length i).take j).flatMap (ext T.length))).length ≤ 243 := by
            refine Nat.le_trans ?_ big
            have e : prod T.length (i + 1) = (prod T.length i).flatMap (ext T.length) := rfl
            rw [e]
            have e2 : prod T.length i = (prod T.length i).take j ++ (prod T.length i).drop j := (List.take_append_drop ..).symm
            have e3 : (prod T.length i).flatMap (ext T.length) = ((prod T.length i).take j).flatMap (ext T.length) ++ ((prod T.length i).drop j).flatMap (ext T.length) := by
              rw [← List.flatMap_append, List.take_append_drop]
            rw [e3, List.length_append]
            omega
          refine ⟨lg, D, qs.map V.ref, rs3.map V.ref, rfl, rfl, sc3 _ _ hlg, hD, ?_, fun nw nnw => ?_⟩
          · rw [List.length_map, List.length_map, lqs, lr3]
            exact small100e (by omega)
          refine ⟨(sb.trans sc3).trans (same_upd nnw), nw, qs ++ rs3, _, _, rfl, by rw [upd_same, List.map_append], ?_⟩
          rw [take_snoc ep, List.flatMap_append, List.map_append]
          have e1 : [p].flatMap (ext T.length) = (List.range T.length).map fun a => p ++ [a] := by simp [ext]
          rw [e1]
          exact rows_app (hqs.same (Tp.of (sc3.trans (same_upd nnw)))) (hr3.same (Tp.of (same_upd nnw)))
      · rintro σ Hb ⟨sb, lg, qs, v8, v10, rfl, hlg, hqs⟩
        have lps := rows_len hps
        rw [List.length_map] at lps
        rw [List.length_map, lps, List.take_of_length_le (Nat.le_refl _)] at hqs
        exact ⟨_, rfl, sa.trans sb, lg, qs, _, _, _, rfl, hlg, hqs⟩
    rintro σ H9 ⟨s9, pl9, ps, v8, v9, v10, rfl, hpl9, hps9⟩
    clear hpl0 he0 sp npl ne0
    have lps := rows_len hps9
    rw [List.length_map] at lps
    have big : (prod T.length n).length ≤ 243 := by
      rw [prod_length]
      refine Nat.le_trans (Nat.pow_le_pow_left (show T.length ≤ 3 from m3) n) ?_
      show 3 ^ n ≤ 3 ^ 5
      exact Nat.pow_le_pow_right (by decide) n5
    have ht9 := s9 _ _ ht
    have hrs9 := hrs.same (Tp.of s9)
    -- the least total
    refine ⟨_, rfl, pl9, rfl, ⟨_, SqL.of hpl9⟩, for_it (walk_list (xs := ps.map V.ref)) (fun j σ Ha => Same H9 Ha ∧ ∃ (bv : V) (v10 v12 v13 v14 : Option V),
      σ = [some (.ref sc), some (.ref r), some (.int (n : Int)), some (.int (T.length : Int)), some (.int top), some (.ref t), some (.ref pl9), some bv, v8, v9, v10, none, v12, v13, v14, none, none, none, none] ∧ Bst T n j bv)
      ⟨Same.refl _, .non, _, _, _, _, rfl, .inl ⟨rfl, rfl⟩⟩ (fun j σ Hb _ z => SqL.of (z.1 _ _ hpl9)) ?_ ?_⟩
    · rintro j z σ Hx Ha hj ⟨sa, bv, v10, v12, v13, v14, rfl, bst⟩ ⟨rfl, ez⟩
      obtain ⟨k, ek, rfl⟩ := map_at ez
      obtain ⟨l', el', hk⟩ := rows_at hps9 ek
      obtain ⟨p, ep, rfl⟩ := map_at el'
      obtain ⟨lp, plt⟩ := mem_prod.mp (List.mem_of_getElem? ep)
      have hka := sa _ _ hk
      refine ⟨_, rfl, (T.length : Int), rfl, by omega, by omega, for_it (walk_range (lo := 0) (n := T.length)) (fun m σ Hb => Same Ha Hb ∧ ∃ (v13 v14 : Option V),
        σ = [some (.ref sc), some (.ref r), some (.int (n : Int)), some (.int (T.length : Int)), some (.int top), some (.ref t), some (.ref pl9), some bv, v8, v9, some (.ref k), none, some (.int (tot T n (asg p) m)), v13, v14, none, none, none, none])
        ⟨Same.refl _, _, _, rfl⟩ (fun _ _ _ _ _ => trivial) ?_ ?_⟩
      · rintro m z σ Hx Hb hm ⟨sb, v13, v14, rfl⟩ ⟨rfl, ez⟩
        have ez : z = V.int (m : Int) := by
          rw [ez]
          show V.int (0 + (m : Int)) = _
          rw [Int.zero_add]
        subst ez
        obtain ⟨rr, er⟩ : ∃ rr, rs[m]? = some rr := ⟨_, List.getElem?_eq_getElem (show m < rs.length by omega)⟩
        obtain ⟨row, erow, hrow⟩ := rows_at hrs9 er
        have mrow : row ∈ T := List.mem_of_getElem? erow
        have lrow := G.len row mrow
        have egr : T.getD m [] = row := by simp [List.getD_eq_getElem?_getD, erow]
        have htb := sb _ _ (sa _ _ ht9)
        have hrowb := sb _ _ (sa _ _ hrow)
        have hkb := sb _ _ hka
        refine ⟨_, rfl, (n : Int), rfl, by omega, by omega, fun D nD => lc_it (walk_range (lo := 0) (n := n)) (Grow Hb D fun x => ((sel x fun a => decide (asg p a = m)).map (at0 row)).map V.int) (Grow.start nD rfl) (fun _ _ _ _ => trivial) ?_ ?_⟩
        · rintro x z Hx Hc hx g ⟨rfl, ez⟩
          have ez : z = V.int (x : Int) := by
            rw [ez]
            show V.int (0 + (x : Int)) = _
            rw [Int.zero_add]
          subst ez
          have epx : p[x]? = some (asg p x) := by
            rw [List.getElem?_eq_getElem (show x < p.length by omega)]
            simp [asg, List.getD_eq_getElem?_getD, List.getElem?_eq_getElem (show x < p.length by omega)]
          have erx : row[x]? = some (at0 row x) := by
            rw [List.getElem?_eq_getElem (show x < row.length by omega)]
            simp [at0, List.getD_eq_getElem?_getD, List.getElem?_eq_getElem (show x < row.length by omega)]
          refine ⟨rfl, _, rfl, _, rfl, k, _, (x : Int), .int (asg p x : Int), rfl, rfl, SqT.of (g.1 _ _ hkb), atI_nat ?_, _, rfl, rfl, _, rfl, ?_⟩
          · unfold jn
            rw [List.getElem?_map, List.getElem?_map, epx]
            rfl
          have es : sel (x + 1) (fun a => decide (asg p a = m)) = if decide (asg p x = m) = true then sel x (fun a => decide (asg p a = m)) ++ [x] else sel x (fun a => decide (asg p a = m)) := sel_succ _ _
          have ed : decide (V.int (asg p x : Int) = V.int (m : Int)) = decide (asg p x = m) := by
            by_cases h : asg p x = m
            · simp [h]
            · have : ¬ ((asg p x : Int) = (m : Int)) := by omega
              simp [h, this]
          rw [ed]
          by_cases h : asg p x = m
          · rw [decide_eq_true h]
            refine ⟨_, rfl, _, rfl, t, _, (m : Int), .ref rr, rfl, rfl, SqT.of (g.1 _ _ htb), atI_nat (by rw [List.getElem?_map, er]; rfl), _, rfl, rr, row.map V.int, (x : Int), .int (at0 row x), rfl, rfl, SqT.of (g.1 _ _ hrowb), atI_nat (by rw [List.getElem?_map, erx]; rfl), ?_⟩
            refine g.turn (Same.refl _) nD ?_ ?_
            · rw [es, if_pos (decide_eq_true h), List.map_append, List.map_append]
              rfl
            · rw [List.length_map, List.length_map]
              have := sel_len (fun a => decide (asg p a = m)) x
              exact small100 (by omega)
          · rw [decide_eq_false h]
            refine iteF (g.skip (Same.refl _) ?_)
            rw [es, if_neg (by rw [decide_eq_false h]; exact Bool.false_ne_true)]
        intro Hc gc
        have hDc : Hc D = some (.lst (((own n (asg p) m).map (at0 row)).map V.int)) := gc.2
        refine ⟨D, (own n (asg p) m).map (at0 row), rfl, SqL.of hDc, fun ws sp pm up nsp => ?_⟩
        have lws : ws.length ≤ n := by
          rw [pm.length_eq, List.length_map]
          exact sel_len _ n
        have ecost : cost (T.getD m []) (own n (asg p) m) = wsum ws := by
          rw [egr]
          unfold cost
          rw [srt_of pm up]
        have scd : Same Hc (upd Hc sp (.lst (ws.map V.int))) := same_upd nsp
        have hsp : upd Hc sp (.lst (ws.map V.int)) sp = some (.lst (ws.map V.int)) := upd_same
        generalize upd Hc sp (.lst (ws.map V.int)) = Hd at scd hsp ⊢
        refine ⟨_, rfl, _, rfl, sp, _, rfl, .inl (SqL.of hsp), _, rfl, by rw [List.length_map]; omega, by rw [List.length_map]; omega, fun D2 nD2 => lc_it (walk_range (lo := 0) (n := (ws.map V.int).length)) (Grow Hd D2 fun x => ((wl ws).take x).map V.int) (Grow.start nD2 rfl) (fun _ _ _ _ => trivial) ?_ ?_⟩
        · rintro x z Hx He hx g ⟨rfl, ez⟩
          have ez : z = V.int (x : Int) := by
            rw [ez]
            show V.int (0 + (x : Int)) = _
            rw [Int.zero_add]
          subst ez
          rw [List.length_map] at hx
          have ex : ws[x]? = some (ws.getD x 0) := by
            rw [List.getElem?_eq_getElem hx]
            simp [List.getD_eq_getElem?_getD, List.getElem?_eq_getElem hx]
          have hspe := g.1 _ _ hsp
          refine ⟨rfl, _, rfl, _, rfl, sp, _, (x : Int), .int (ws.getD x 0), rfl, rfl, SqL.of hspe, atI_nat (by rw [List.getElem?_map, ex]; rfl), _, rfl, sp, _, rfl, .inl (SqL.of hspe), _, rfl, _, _, rfl, rfl, _, _, rfl, rfl, .inr ⟨by rw [List.length_map]; omega, by rw [List.length_map]; omega⟩, ?_⟩
          rw [List.length_map]
          refine g.turn (Same.refl _) nD2 ?_ ?_
          · rw [take_snoc (wl_at hx), List.map_append]
            rfl
          · rw [List.length_map, List.length_take]
            exact small100 (by omega)
        intro He ge
        refine ⟨D2, wl ws, rfl, SqL.of (ge.fin ?_), _, _, rfl, rfl, ?_⟩
        · show ((wl ws).take (ws.map V.int).length).map V.int = _
          rw [List.take_of_length_le (by rw [wl_length, List.length_map]; exact Nat.le_refl _)]
        rw [wl_sum, ← ecost]
        exact ⟨sb.trans (gc.1.trans (scd.trans ge.1)), _, _, rfl⟩
      · rintro σ Hb ⟨sb, v13, v14, rfl⟩
        refine ⟨_, rfl, rfl, _, rfl, ?_⟩
        rcases bst with ⟨ej, eb⟩ | ⟨b, eb, h1, h2⟩
        · subst eb
          refine ite2 (fun _ => ?_) (fun h => absurd (decide_eq_true rfl) h)
          refine ⟨_, rfl, sa.trans sb, _, _, _, _, _, rfl, .inr ⟨_, rfl, ⟨p, ?_, rfl⟩, fun x hx => ?_⟩⟩
          · rw [take_snoc ep]
            exact List.mem_append_right _ (List.mem_singleton.mpr rfl)
          · rw [take_snoc ep, ej] at hx
            have hx2 : x = p := by simpa using hx
            rw [hx2]
            exact Int.le_refl _
        · subst eb
          refine ite2 (fun h => absurd (of_decide_eq_true h) (fun z => nomatch z)) (fun _ => ?_)
          refine ⟨_, rfl, _, rfl, b, _, rfl, ?_⟩
          refine ⟨sa.trans sb, _, _, _, _, _, rfl, .inr ⟨_, rfl, ?_, fun x hx => ?_⟩⟩
          · rw [take_snoc ep]
            by_cases hlt : tot T n (asg p) T.length < b
            · rw [if_pos hlt]
              exact ⟨p, List.mem_append_right _ (List.mem_singleton.mpr rfl), rfl⟩
            · rw [if_neg hlt]
              obtain ⟨x, hx, e⟩ := h1
              exact ⟨x, List.mem_append_left _ hx, e⟩
          · rw [take_snoc ep] at hx
            have h3 : b ≤ tot T n (asg x) T.length ∨ x = p := by
              rcases List.mem_append.mp hx with h | h
              · exact .inl (h2 x h)
              · exact .inr (List.mem_singleton.mp h)
            by_cases hlt : tot T n (asg p) T.length < b
            · rw [if_pos hlt]
              rcases h3 with h | h
              · omega
              · rw [h]
                exact Int.le_refl _
            · rw [if_neg hlt]
              rcases h3 with h | h
              · exact h
              · rw [h]
                omega
    rintro σ H10 ⟨s10, bv, v10, v12, v13, v14, rfl, bst⟩
    have lpos : 0 < (prod T.length n).length := by
      rw [prod_length]
      exact Nat.pow_pos m1
    obtain ⟨best, rfl, isB⟩ : ∃ b, bv = .int b ∧ Best T n b := by
      have el : (ps.map V.ref).length = (prod T.length n).length := by rw [List.length_map, lps]
      rw [el] at bst
      rcases bst with ⟨e, _⟩ | ⟨b, e, h1, h2⟩
      · omega
      · rw [List.take_of_length_le (Nat.le_refl _)] at h1 h2
        exact ⟨b, e, best_of h1 h2⟩
    clear bst lpos big lps hps9 hpl9
    -- unlike_sum
    have k10 := (kt.same s9).same s10
    have row10 : RowIs H10 r sc := by
      obtain ⟨xs, e, h⟩ := rowt
      exact ⟨xs, s10 _ _ (s9 _ _ e), h⟩
    have ht10 := s10 _ _ ht9
    have hrs10 := hrs9.same (Tp.of s10)
    refine ⟨_, rfl, t, T, n, rfl, ⟨rs, ht10, hrs10⟩, G, k10.2, fun q2 b0 L H11 k11 tl isB2 lL pL sL => ?_⟩
    obtain ⟨la, hq2, hla⟩ := tl
    obtain rfl : b0 = best := isB2.uniq isB
    have k011 : Kp [(PA, lamQ)] H H11 := ⟨k10.1.trans k11.1, k11.2⟩
    have row11 : RowIs H11 r sc := by
      obtain ⟨xs, e, h⟩ := row10
      exact ⟨xs, k11.1 _ _ e (fun _ z => nomatch z), h⟩
    have ht11 := k11.tup _ _ ht10
    have hrs11 := hrs10.same k11.tup
    refine ⟨q2, [.int b0, .ref la], rfl, SqT.of hq2, rfl, .int b0, [.ref la], rfl, .ref la, [], rfl, rfl, ?_⟩
    refine ⟨_, rfl, _, rfl, b0, b0, rfl, fun H12 s12 => ⟨_, rfl, iteNS rfl ?_⟩⟩
    refine ⟨_, rfl, _, rfl, t, la, T, n, L, rfl, ⟨rs, s12 _ _ ht11, hrs11.same (Tp.of s12)⟩, G, hla.same (Tp.of s12), lL, pL, fun H13 s13 => ⟨_, rfl, rfl, _, rfl, iteNS (by rw [sL]) ?_⟩⟩
    have s113 := s12.trans s13
    have k13 := k011.same s113
    have row13 : RowIs H13 r sc := by
      obtain ⟨xs, e, h⟩ := row11
      exact ⟨xs, s113 _ _ e, h⟩
    have ht13 := s113 _ _ ht11
    have hrs13 := hrs11.same (Tp.of s113)
    clear hrs11 ht11 row11 k011 s12 s13 s113 hla hq2 k11 hrs10 ht10 row10 k10 isB isB2 pL lL
    -- drawn
    refine ⟨small100e (by show 0 ≤ _; omega), fun e1 ne1 => ⟨small100e (by show 1 ≤ _; omega), fun dl ndl => ⟨_, rfl, dl, (T.length : Int), [.ref e1], rfl, rfl, upd_same, by omega, by omega, small100e ?_, fun dr ndr => ?_⟩⟩⟩
    · show 1 * (T.length : Int).toNat ≤ _
      omega
    have hdrw : (List.replicate (T.length : Int).toNat [V.ref e1]).flatten = (List.replicate T.length e1).map V.ref := by
      rw [Int.toNat_natCast]
      generalize T.length = c
      induction c with
      | zero => rfl
      | succ c ih => rw [List.replicate_succ, List.flatten_cons, ih, List.replicate_succ]; rfl
    rw [hdrw]
    have kx := (k13.same (same_upd ne1 (o := .tup []))).same (same_upd ndl (o := .lst [.ref e1]))
    have nwd : New H dr := kx.new ndr
    have sd : Same H13 (upd (upd (upd H13 e1 (.tup [])) dl (.lst [.ref e1])) dr (.lst ((List.replicate T.length e1).map V.ref))) := (same_upd ne1).trans ((same_upd ndl).trans (same_upd ndr))
    have hdr : upd (upd (upd H13 e1 (.tup [])) dl (.lst [.ref e1])) dr (.lst ((List.replicate T.length e1).map V.ref)) dr = some (.lst ((List.replicate T.length e1).map V.ref)) := upd_same
    have he1 : upd (upd (upd H13 e1 (.tup [])) dl (.lst [.ref e1])) dr (.lst ((List.replicate T.length e1).map V.ref)) e1 = some (.tup []) := (same_upd ndr) _ _ ((same_upd ndl) _ _ upd_same)
    have ndrr : dr ≠ r := by
      obtain ⟨xs, e, _⟩ := row13
      exact Ne.symm (ne_of_none ((same_upd ndl (o := .lst [.ref e1])) _ _ ((same_upd ne1 (o := .tup [])) _ _ e)) ndr)
    generalize upd (upd (upd H13 e1 (.tup [])) dl (.lst [.ref e1])) dr (.lst ((List.replicate T.length e1).map V.ref)) = Hd at sd hdr he1 ⊢
    have kd := k13.same sd
    have rowd : RowIs Hd r sc := by
      obtain ⟨xs, e, h⟩ := row13
      exact ⟨xs, sd _ _ e, h⟩
    have htd := sd _ _ ht13
    have hrsd := hrs13.same (Tp.of sd)
    have hqd : Rows2 Hd (List.replicate T.length e1) ((List.replicate T.length ([] : List Nat)).map jn) := by
      generalize T.length = c
      induction c with
      | zero => exact .nil
      | succ c ih =>
        rw [List.replicate_succ, List.replicate_succ, List.map_cons]
        exact .cons he1 ih
    clear kx ne1 ndl ndr hdrw he1 hrs13 ht13 row13 k13 sd
    -- the order
    refine ⟨_, rfl, _, rfl, r, sc, n, ns, rfl, n5, rowd, ScrAt.kp hs kd nwr, fun op l H14 b14 row14 hop pl => ⟨op, rfl, ⟨_, SqT.of hop⟩, ?_⟩⟩
    have k14 : Kp [(PA, lamQ)] H H14 := by
      obtain ⟨xs, e, _⟩ := rowd
      exact kd.but b14 nwr e
    have tp14 : Tp Hd H14 := by
      obtain ⟨xs, e, _⟩ := rowd
      exact Tp.but b14 e
    have hdr14 := b14 _ _ ndrr hdr
    have ht14 := tp14 _ _ htd
    have hrs14 := hrsd.same tp14
    have hq14 := hqd.same tp14
    have ll : l.length = n := by rw [pl.length_eq, List.length_range]
    clear hqd hrsd htd rowd kd hdr b14 tp14
    refine for_it (walk_tup (xs := (jn l).map V.int)) (fun i σ Ha => Kp [(PA, lamQ)] H Ha ∧ RowIs Ha r sc ∧ Tp H14 Ha ∧ ∃ (qs : List Addr) (L : List (List Nat)) (v8 v11 : Option V),
      σ = [some (.ref sc), some (.ref r), some (.int (n : Int)), some (.int (T.length : Int)), some (.int top), some (.ref t), some (.ref pl9), some (.int b0), v8, v9, v10, v11, v12, v13, v14, some (.int b0), some (.ref la), some (.ref dr), none] ∧ Ha dr = some (.lst (qs.map V.ref)) ∧ Rows2 Ha qs (L.map jn) ∧ L.length = T.length ∧ L.flatten.Perm (l.take i))
      ⟨k14, row14, Tp.refl, _, _, _, _, rfl, hdr14, hq14, by rw [List.length_replicate], by rw [List.take_zero]; exact flat_none _⟩ (fun i σ Ha _ z => SqT.of (z.2.2.1 _ _ hop)) ?_ ?_
    · rintro i z σ Hx Ha hi ⟨ka, rowa, tpa, qs, L, v8, v11, rfl, hdra, hqa, lL, pL⟩ ⟨rfl, ez⟩
      obtain ⟨x, ex, rfl⟩ := jn_at ez
      refine ⟨_, rfl, _, rfl, r, sc, (T.length : Int), ns, rfl, by omega, by omega, rowa, ScrAt.kp hs ka nwr, fun v ys v0 v1 hv => ?_⟩
      obtain ⟨a, rfl⟩ := Int.eq_ofNat_of_zero_le v0
      have hal : a < T.length := by omega
      obtain ⟨kb, rowb⟩ := put ka rowa hv
      have tpb : Tp Ha (upd Ha r (.lst ys)) := by
        obtain ⟨xs, e, _⟩ := rowa
        exact Tp.put e fun _ z => nomatch z
      have hdrb : upd Ha r (.lst ys) dr = some (.lst (qs.map V.ref)) := by rw [upd_ne ndrr]; exact hdra
      have hqb := hqa.same tpb
      generalize upd Ha r (.lst ys) = Hb at kb rowb tpb hdrb hqb ⊢
      have lqs := rows_len hqb
      rw [List.length_map] at lqs
      obtain ⟨kq, ekq⟩ : ∃ kq, qs[a]? = some kq := ⟨_, List.getElem?_eq_getElem (show a < qs.length by omega)⟩
      obtain ⟨m', em', hkq⟩ := rows_at hqb ekq
      obtain ⟨la2, ela, rfl⟩ := map_at em'
      have lla : la2.length ≤ 5 := by
        have h1 := flat_take_le L (a + 1)
        rw [flat_snoc ela, List.length_append] at h1
        have h2 := pL.length_eq
        rw [List.length_take] at h2
        omega
      have egd : L.getD a [] = la2 := by simp [List.getD_eq_getElem?_getD, ela]
      have fin : ∀ (y : Addr) (Hc : Hp), Same Hb Hc → Hc y = some (.tup ((jn (la2 ++ [x])).map V.int)) → Hc dr = some (.lst (qs.map V.ref)) ∧
          (Kp [(PA, lamQ)] H (upd Hc dr (.lst ((qs.map V.ref).set a (.ref y)))) ∧ RowIs (upd Hc dr (.lst ((qs.map V.ref).set a (.ref y)))) r sc ∧ Tp H14 (upd Hc dr (.lst ((qs.map V.ref).set a (.ref y)))) ∧ ∃ (qs2 : List Addr) (L2 : List (List Nat)),
            upd Hc dr (.lst ((qs.map V.ref).set a (.ref y))) dr = some (.lst (qs2.map V.ref)) ∧ Rows2 (upd Hc dr (.lst ((qs.map V.ref).set a (.ref y)))) qs2 (L2.map jn) ∧ L2.length = T.length ∧ L2.flatten.Perm (l.take (i + 1))) := fun y Hc sc2 hy => by
        have hdc := sc2 _ _ hdrb
        have tpc : Tp Hc (upd Hc dr (.lst ((qs.map V.ref).set a (.ref y)))) := Tp.put hdc fun _ z => nomatch z
        refine ⟨hdc, (kb.same sc2).put nwd hdc (fun _ z => nomatch z) (fun _ z => nomatch z), ?_, tpa.trans (tpb.trans ((Tp.of sc2).trans tpc)), qs.set a y, L.set a (la2 ++ [x]), ?_, ?_, ?_, ?_⟩
        · obtain ⟨xs, e, h⟩ := rowb
          refine ⟨xs, ?_, h⟩
          rw [upd_ne (Ne.symm ndrr)]
          exact sc2 _ _ e
        · rw [upd_same, List.map_set]
        · rw [List.map_set]
          exact rows_set (tpc _ _ hy) a (hqb.same ((Tp.of sc2).trans tpc))
        · rw [List.length_set]
          exact lL
        · have h := deal_perm L a x (by omega)
          rw [egd] at h
          rw [take_snoc ex]
          exact h.trans ((pL.cons x).trans (List.perm_append_singleton x _).symm)
      have ixa : ixN (qs.map V.ref).length (a : Int) = some a := by
        unfold ixN
        rw [List.length_map, lqs, lL, if_pos (by omega), if_pos (by omega)]
        simp
      refine ⟨_, rfl, _, rfl, dr, _, (a : Int), .ref kq, rfl, rfl, SqL.of hdrb, atI_nat (by rw [List.getElem?_map, ekq]; rfl), _, rfl, small100e (by show 1 ≤ _; omega), fun tu ntu => ⟨kq, tu, _, _, rfl, rfl, SqT.of ((same_upd ntu) _ _ hkq), SqT.of upd_same, ?_, fun e => ?_, fun _ e => absurd e (by simp), fun _ _ y ny => ?_⟩⟩
      · rw [List.length_map, jn_length]
        exact small100e (by show la2.length + 1 ≤ _; omega)
      · have ep0 : la2 = [] := by
          cases la2 with
          | nil => rfl
          | cons x r => simp [jn] at e
        obtain ⟨h1, h2, h3, h4, qs2, L2, h5, h6, h7, h8⟩ := fin tu _ (same_upd ntu) (by subst ep0; exact upd_same)
        exact ⟨_, rfl, _, rfl, dr, _, (a : Int), a, rfl, rfl, h1, ixa, h2, h3, h4, qs2, L2, _, _, rfl, h5, h6, h7, h8⟩
      · obtain ⟨h1, h2, h3, h4, qs2, L2, h5, h6, h7, h8⟩ := fin y _ ((same_upd ntu).trans (same_upd ny)) (by rw [upd_same, jn_snoc, List.map_append, List.map_singleton])
        exact ⟨_, rfl, _, rfl, dr, _, (a : Int), a, rfl, rfl, h1, ixa, h2, h3, h4, qs2, L2, _, _, rfl, h5, h6, h7, h8⟩
    rintro σ H15 ⟨k15, row15, tp15, qs, L, v8, v11, rfl, hdr15, hq15, lL, pL⟩
    have ht15 := tp15 _ _ ht14
    have hrs15 := hrs14.same tp15
    have lqs := rows_len hq15
    rw [List.length_map] at lqs
    rw [List.take_of_length_le (by rw [List.length_map, jn_length]; exact Nat.le_refl _)] at pL
    have pLr := pL.trans pl
    clear hq14 hrs14 ht14 hdr14 k14 hop row14
    -- the ends
    refine ⟨_, rfl, (T.length : Int), rfl, by omega, by omega, for_it (walk_range (lo := 0) (n := T.length)) (fun m σ Hb => Same H15 Hb ∧ ∃ (v13 v14 : Option V),
      σ = [some (.ref sc), some (.ref r), some (.int (n : Int)), some (.int (T.length : Int)), some (.int top), some (.ref t), some (.ref pl9), some (.int b0), v8, v9, v10, v11, v12, v13, v14, some (.int b0), some (.ref la), some (.ref dr), some (.int (((T.zip L).take m).map fun p => wsum (p.2.map (at0 p.1))).sum)])
      ⟨Same.refl _, _, _, rfl⟩ (fun _ _ _ _ _ => trivial) ?_ ?_⟩
    · rintro m z σ Hx Hb hm ⟨sb, v13, v14, rfl⟩ ⟨rfl, ez⟩
      have ez : z = V.int (m : Int) := by
        rw [ez]
        show V.int (0 + (m : Int)) = _
        rw [Int.zero_add]
      subst ez
      obtain ⟨rr, er⟩ : ∃ rr, rs[m]? = some rr := ⟨_, List.getElem?_eq_getElem (show m < rs.length by omega)⟩
      obtain ⟨row, erow, hrow⟩ := rows_at hrs15 er
      have mrow : row ∈ T := List.mem_of_getElem? erow
      have lrow := G.len row mrow
      obtain ⟨km, ekm⟩ : ∃ km, qs[m]? = some km := ⟨_, List.getElem?_eq_getElem (show m < qs.length by omega)⟩
      obtain ⟨m', em', hkm⟩ := rows_at hq15 ekm
      obtain ⟨lm, elm, rfl⟩ := map_at em'
      have llm : lm.length ≤ 5 := by
        have h1 := flat_take_le L (m + 1)
        rw [flat_snoc elm, List.length_append] at h1
        have h2 := pLr.length_eq
        rw [List.length_range] at h2
        omega
      have mlm : ∀ x ∈ lm, x < row.length := fun x hx => by
        rw [lrow]
        exact List.mem_range.mp (pLr.mem_iff.mp (List.mem_flatten.mpr ⟨lm, List.mem_of_getElem? elm, hx⟩))
      have htb := sb _ _ ht15
      have hrowb := sb _ _ hrow
      have hkmb := sb _ _ hkm
      refine ⟨_, rfl, _, rfl, dr, _, (m : Int), .ref km, rfl, rfl, SqL.of (sb _ _ hdr15), atI_nat (by rw [List.getElem?_map, ekm]; rfl), ?_⟩
      refine ⟨_, rfl, _, rfl, km, _, rfl, .inr (SqT.of hkmb), _, rfl, by rw [List.length_map, jn_length]; omega, by rw [List.length_map, jn_length]; omega, fun D nD => lc_it (walk_range (lo := 0) (n := ((jn lm).map V.int).length)) (Grow Hb D fun x => ((el (lm.map (at0 row))).take x).map V.int) (Grow.start nD rfl) (fun _ _ _ _ => trivial) ?_ ?_⟩
      · rintro x z Hx Hc hx g ⟨rfl, ez⟩
        have ez : z = V.int (x : Int) := by
          rw [ez]
          show V.int (0 + (x : Int)) = _
          rw [Int.zero_add]
        subst ez
        rw [List.length_map, jn_length] at hx
        have hxl : x < (lm.map (at0 row)).length := by rw [List.length_map]; exact hx
        have htc := g.1 _ _ htb
        have hrowc := g.1 _ _ hrowb
        have hkmc := g.1 _ _ hkmb
        have key : ∀ (y : Addr) (Hd : Hp), Same Hc Hd → Hd y = some (.tup ((jn (lm.take (x + 1))).map V.int)) →
            tCB (rSum K) (tCons (tLc (fun _ H R => R (Itt K y) H) (gName 8) tYes (tOp (rIxT K) (tOp (rIxT K) (tVar 5) (tVar 13)) (tVar 8)) [8]) tNil)
              [some (.ref sc), some (.ref r), some (.int (n : Int)), some (.int (T.length : Int)), some (.int top), some (.ref t), some (.ref pl9), some (.int b0), v8, v9, v10, some (.int (x : Int)), v12, some (.int (m : Int)), some (.ref km), some (.int b0), some (.ref la), some (.ref dr), some (.int (((T.zip L).take m).map fun p => wsum (p.2.map (at0 p.1))).sum)] Hd
              (fun z H4 => ∃ acc, H4 D = some (.lst acc) ∧ acc.length < sizeLine ∧ Grow Hb D (fun x => ((el (lm.map (at0 row))).take x).map V.int) (x + 1) (upd H4 D (.lst (acc ++ [z])))) := fun y Hd sd hy => by
          refine fun D2 nD2 => lc_it (walk_tup (xs := (jn (lm.take (x + 1))).map V.int)) (Grow Hd D2 fun j => (((lm.take (x + 1)).map (at0 row)).take j).map V.int) (Grow.start nD2 rfl) (fun j He _ g2 => SqT.of (g2.1 _ _ hy)) ?_ ?_
          · rintro j z Hx He hj g2 ⟨rfl, ez⟩
            obtain ⟨job, ejob, rfl⟩ := jn_at ez
            rw [List.length_map, jn_length] at hj
            have mjob : job < row.length := mlm job (List.mem_of_mem_take (List.mem_of_getElem? ejob))
            have erx : row[job]? = some (at0 row job) := by
              rw [List.getElem?_eq_getElem mjob]
              simp [at0, List.getD_eq_getElem?_getD, List.getElem?_eq_getElem mjob]
            refine ⟨rfl, _, rfl, _, rfl, t, _, (m : Int), .ref rr, rfl, rfl, SqT.of (g2.1 _ _ (sd _ _ htc)), atI_nat (by rw [List.getElem?_map, er]; rfl), _, rfl, rr, row.map V.int, (job : Int), .int (at0 row job), rfl, rfl, SqT.of (g2.1 _ _ (sd _ _ hrowc)), atI_nat (by rw [List.getElem?_map, erx]; rfl), ?_⟩
            refine g2.turn (Same.refl _) nD2 ?_ ?_
            · rw [take_snoc (x := at0 row job) (by rw [List.getElem?_map, ejob]; rfl), List.map_append]
              rfl
            · rw [List.length_map, List.length_take]
              rw [List.length_take] at hj
              exact small100 (by omega)
          intro He g2
          refine ⟨D2, (lm.take (x + 1)).map (at0 row), rfl, SqL.of (g2.fin ?_), ?_⟩
          · show (((lm.take (x + 1)).map (at0 row)).take ((jn (lm.take (x + 1))).map V.int).length).map V.int = _
            rw [List.take_of_length_le (by rw [List.length_map, List.length_map, jn_length]; exact Nat.le_refl _)]
          refine g.turn (sd.trans g2.1) nD ?_ ?_
          · have em : (lm.take (x + 1)).map (at0 row) = (lm.map (at0 row)).take (x + 1) := by rw [List.map_take]
            rw [take_snoc (el_at hxl), List.map_append, em]
            rfl
          · rw [List.length_map, List.length_take]
            exact small100 (by omega)
        have hsx : HT.sIx ((jn lm).map V.int).length ((jn lm).map V.int).length (some ((x : Int) + 1)) = x + 1 := by
          unfold HT.sIx
          rw [List.length_map, jn_length]
          show (if (x : Int) + 1 < 0 then _ else _) = _
          rw [if_neg (by omega)]
          omega
        refine ⟨rfl, _, rfl, _, rfl, _, _, rfl, rfl, _, rfl, km, (jn lm).map V.int, rfl, SqT.of hkmc, fun hw => ?_, fun _ y ny => ?_⟩
        · have e := hw.2
          rw [hsx, List.length_map, jn_length] at e
          refine ⟨km, rfl, ⟨_, SqT.of hkmc⟩, key km Hc (Same.refl _) ?_⟩
          rw [List.take_of_length_le (by omega)]
          exact hkmc
        · have ecut : cutV ((jn lm).map V.int) none (some ((x : Int) + 1)) = (jn (lm.take (x + 1))).map V.int := by
            unfold cutV
            rw [hsx, HT.sIx_none, List.drop_zero, Nat.sub_zero]
            unfold jn
            rw [List.map_take, List.map_take]
          rw [ecut]
          exact ⟨y, rfl, ⟨_, SqT.of upd_same⟩, key y _ (same_upd ny) upd_same⟩
      intro Hc gc
      refine ⟨D, el (lm.map (at0 row)), rfl, SqL.of (gc.fin ?_), _, _, rfl, rfl, sb.trans gc.1, some (.int (m : Int)), some (.ref km), ?_⟩
      · show ((el (lm.map (at0 row))).take ((jn lm).map V.int).length).map V.int = _
        rw [List.take_of_length_le (by rw [el_length, List.length_map, List.length_map, jn_length]; exact Nat.le_refl _)]
      have ezp : (T.zip L)[m]? = some (row, lm) := (List.getElem?_zip_eq_some (z := (row, lm))).mpr ⟨erow, elm⟩
      rw [take_snoc ezp, List.map_append, sum_app, List.map_singleton, List.sum_singleton, el_sum]
      rfl
    rintro σ Hb ⟨sb, v13, v14, rfl⟩
    have ez : (T.zip L).take T.length = T.zip L := List.take_of_length_le (by rw [List.length_zip]; omega)
    have edue : (((T.zip L).take T.length).map fun p => wsum (p.2.map (at0 p.1))).sum = lsum T L := by rw [ez]; rfl
    rw [edue]
    refine ⟨_, rfl, _, rfl, dr, qs.map V.ref, rfl, .inl ⟨SqL.of (sb _ _ hdr15), fun dt ndt => ?_⟩⟩
    have sdt : Same H15 (upd Hb dt (.tup (qs.map V.ref))) := sb.trans (same_upd ndt)
    refine ⟨t, dt, T, n, L, rfl, ⟨rs, sdt _ _ ht15, hrs15.same (Tp.of sdt)⟩, G, ⟨qs, upd_same, hq15.same (Tp.of sdt)⟩, lL, pLr, fun Hc sc2 => ⟨_, rfl, _, _, rfl, fun Hd sd => ?_⟩⟩
    rw [decide_eq_true rfl]
    exact q Hd
end
end K20

namespace K20
open PySem L2
/-! ### what the top has written, and the law's own head -/
theorem all_mk {l : PySem.W.OpenLaw} {w : World} {K : PySem.W.Frag} {h : Heap} {mg : Str → Option Value} {fa c PA : Addr} (X : K.In h) (G : h.Ns mainGlobals mg) (hfa : mg "law" = some (.ref fa))
    {f0 : Addr} {od0 an0 : Option Addr} {sl0 : Array (Option Value)} {oc0 kV0 dc0 pm0 ct0 cd0 : Value} (a0 : PySem.W.nsIn K mainGlobals "is_integer" = some (some (.ref f0))) (l0 : K.lookup f0 = some ⟨oc0, od0, .func (PySem.W.fnOf "is_integer" "is_integer" (defArgs sInteger) (defBody sInteger) (defScope sInteger) .none kV0 dc0 pm0 an0 cd0 ct0), sl0⟩) (c0 : PySem.W.codeIn K cd0 "is_integer" = true) (k0 : PySem.W.keepIn K (.ref f0) = true)
    {f1 : Addr} {od1 an1 : Option Addr} {sl1 : Array (Option Value)} {oc1 kV1 dc1 pm1 ct1 cd1 : Value} (a1 : PySem.W.nsIn K mainGlobals "is_in" = some (some (.ref f1))) (l1 : K.lookup f1 = some ⟨oc1, od1, .func (PySem.W.fnOf "is_in" "is_in" (defArgs sIn) (defBody sIn) (defScope sIn) .none kV1 dc1 pm1 an1 cd1 ct1), sl1⟩) (c1 : PySem.W.codeIn K cd1 "is_in" = true) (k1 : PySem.W.keepIn K (.ref f1) = true)
    {f2 : Addr} {od2 an2 : Option Addr} {sl2 : Array (Option Value)} {oc2 kV2 dc2 pm2 ct2 cd2 : Value} (a2 : PySem.W.nsIn K mainGlobals "is_list" = some (some (.ref f2))) (l2 : K.lookup f2 = some ⟨oc2, od2, .func (PySem.W.fnOf "is_list" "is_list" (defArgs sList) (defBody sList) (defScope sList) .none kV2 dc2 pm2 an2 cd2 ct2), sl2⟩) (c2 : PySem.W.codeIn K cd2 "is_list" = true) (k2 : PySem.W.keepIn K (.ref f2) = true)
    {f3 : Addr} {od3 an3 : Option Addr} {sl3 : Array (Option Value)} {oc3 kV3 dc3 pm3 ct3 cd3 : Value} (a3 : PySem.W.nsIn K mainGlobals "need_table" = some (some (.ref f3))) (l3 : K.lookup f3 = some ⟨oc3, od3, .func (PySem.W.fnOf "need_table" "need_table" (defArgs sNeed) (defBody sNeed) (defScope sNeed) .none kV3 dc3 pm3 an3 cd3 ct3), sl3⟩) (c3 : PySem.W.codeIn K cd3 "need_table" = true) (k3 : PySem.W.keepIn K (.ref f3) = true)
    {f4 : Addr} {od4 an4 : Option Addr} {sl4 : Array (Option Value)} {oc4 kV4 dc4 pm4 ct4 cd4 : Value} (a4 : PySem.W.nsIn K mainGlobals "parts_of" = some (some (.ref f4))) (l4 : K.lookup f4 = some ⟨oc4, od4, .func (PySem.W.fnOf "parts_of" "parts_of" (defArgs sParts) (defBody sParts) (defScope sParts) .none kV4 dc4 pm4 an4 cd4 ct4), sl4⟩) (c4 : PySem.W.codeIn K cd4 "parts_of" = true) (k4 : PySem.W.keepIn K (.ref f4) = true)
    {f5 : Addr} {od5 an5 : Option Addr} {sl5 : Array (Option Value)} {oc5 kV5 dc5 pm5 ct5 : Value} (a5 : PySem.W.nsIn K mainGlobals "unlike_sum" = some (some (.ref f5))) (l5 : K.lookup f5 = some ⟨oc5, od5, .func (PySem.W.fnOf "unlike_sum" "unlike_sum" (defArgs sUnlike) (defBody sUnlike) (defScope sUnlike) .none kV5 dc5 pm5 an5 (.ref c) ct5), sl5⟩) (c5 : PySem.W.codeIn K (.ref c) "unlike_sum" = true) (k5 : PySem.W.keepIn K (.ref f5) = true)
    {f6 : Addr} {od6 an6 : Option Addr} {sl6 : Array (Option Value)} {oc6 kV6 dc6 pm6 ct6 cd6 : Value} (a6 : PySem.W.nsIn K mainGlobals "unlike_sum_of" = some (some (.ref f6))) (l6 : K.lookup f6 = some ⟨oc6, od6, .func (PySem.W.fnOf "unlike_sum_of" "unlike_sum_of" (defArgs sOf) (defBody sOf) (defScope sOf) .none kV6 dc6 pm6 an6 cd6 ct6), sl6⟩) (c6 : PySem.W.codeIn K cd6 "unlike_sum_of" = true) (k6 : PySem.W.keepIn K (.ref f6) = true)
    {f7 : Addr} {od7 an7 : Option Addr} {sl7 : Array (Option Value)} {oc7 kV7 dc7 pm7 ct7 cd7 : Value} (a7 : PySem.W.nsIn K mainGlobals "_law_taken" = some (some (.ref f7))) (l7 : K.lookup f7 = some ⟨oc7, od7, .func (PySem.W.fnOf "_law_taken" "_law_taken" (defArgs sTaken) (defBody sTaken) (defScope sTaken) .none kV7 dc7 pm7 an7 cd7 ct7), sl7⟩) (c7 : PySem.W.codeIn K cd7 "_law_taken" = true) (k7 : PySem.W.keepIn K (.ref f7) = true)
    {f8 : Addr} {od8 an8 : Option Addr} {sl8 : Array (Option Value)} {oc8 kV8 dc8 pm8 ct8 cd8 : Value} (a8 : PySem.W.nsIn K mainGlobals "_law_pick" = some (some (.ref f8))) (l8 : K.lookup f8 = some ⟨oc8, od8, .func (PySem.W.fnOf "_law_pick" "_law_pick" (defArgs sPick) (defBody sPick) (defScope sPick) .none kV8 dc8 pm8 an8 cd8 ct8), sl8⟩) (c8 : PySem.W.codeIn K cd8 "_law_pick" = true) (k8 : PySem.W.keepIn K (.ref f8) = true)
    {f9 : Addr} {od9 an9 : Option Addr} {sl9 : Array (Option Value)} {oc9 kV9 dc9 pm9 ct9 cd9 : Value} (a9 : PySem.W.nsIn K mainGlobals "_law_alike" = some (some (.ref f9))) (l9 : K.lookup f9 = some ⟨oc9, od9, .func (PySem.W.fnOf "_law_alike" "_law_alike" (defArgs sAlike) (defBody sAlike) (defScope sAlike) .none kV9 dc9 pm9 an9 cd9 ct9), sl9⟩) (c9 : PySem.W.codeIn K cd9 "_law_alike" = true) (k9 : PySem.W.keepIn K (.ref f9) = true)
    {f10 : Addr} {od10 an10 : Option Addr} {sl10 : Array (Option Value)} {oc10 kV10 dc10 pm10 ct10 cd10 : Value} (a10 : PySem.W.nsIn K mainGlobals "_law_order" = some (some (.ref f10))) (l10 : K.lookup f10 = some ⟨oc10, od10, .func (PySem.W.fnOf "_law_order" "_law_order" (defArgs sOrder) (defBody sOrder) (defScope sOrder) .none kV10 dc10 pm10 an10 cd10 ct10), sl10⟩) (c10 : PySem.W.codeIn K cd10 "_law_order" = true) (k10 : PySem.W.keepIn K (.ref f10) = true)
    {f11 : Addr} {od11 an11 : Option Addr} {sl11 : Array (Option Value)} {oc11 kV11 dc11 pm11 ct11 cd11 : Value} (a11 : PySem.W.nsIn K mainGlobals "law" = some (some (.ref f11))) (l11 : K.lookup f11 = some ⟨oc11, od11, .func (PySem.W.fnOf "law" "law" (defArgs sLaw) (defBody sLaw) (defScope sLaw) .none kV11 dc11 pm11 an11 cd11 ct11), sl11⟩) (c11 : PySem.W.codeIn K cd11 "law" = true) (k11 : PySem.W.keepIn K (.ref f11) = true)
    {t1 t2 : Tok} (m1 : PySem.W.nsIn K mainGlobals "MOST_BENCHES" = some (some (.int 6 t1))) (m2 : PySem.W.nsIn K mainGlobals "MOST_TIME" = some (some (.int 60 t2)))
    (z0 : PySem.W.nsIn K mainGlobals "isinstance" = some none) (z1 : PySem.W.nsIn K mainGlobals "int" = some none) (z2 : PySem.W.nsIn K mainGlobals "bool" = some none) (z3 : PySem.W.nsIn K mainGlobals "tuple" = some none) (z4 : PySem.W.nsIn K mainGlobals "list" = some none) (z5 : PySem.W.nsIn K mainGlobals "str" = some none) (z6 : PySem.W.nsIn K mainGlobals "len" = some none) (z7 : PySem.W.nsIn K mainGlobals "all" = some none) (z8 : PySem.W.nsIn K mainGlobals "enumerate" = some none) (z9 : PySem.W.nsIn K mainGlobals "range" = some none) (z10 : PySem.W.nsIn K mainGlobals "sorted" = some none) (z11 : PySem.W.nsIn K mainGlobals "sum" = some none) (z12 : PySem.W.nsIn K mainGlobals "zip" = some none) (z13 : PySem.W.nsIn K mainGlobals "min" = some none)
    (tP : h.get? PA = some { cls := .none, data := .fields #[] }) (nP : K.lookup PA = none) (hC : PySem.W.codeHdIn K c PA = true) :
    LamX.LawAtS l w K CX0 5 63 "_law_script" mg fa h := by
  have e := hfa.symm.trans (PySem.W.mg_of X G a11)
  cases e
  have B : Blt mg := ⟨PySem.W.mg_none_of X G z0, PySem.W.mg_none_of X G z1, PySem.W.mg_none_of X G z2, PySem.W.mg_none_of X G z3, PySem.W.mg_none_of X G z4, PySem.W.mg_none_of X G z5, PySem.W.mg_none_of X G z6, PySem.W.mg_none_of X G z7, PySem.W.mg_none_of X G z8, PySem.W.mg_none_of X G z9, PySem.W.mg_none_of X G z10, PySem.W.mg_none_of X G z11, PySem.W.mg_none_of X G z12, PySem.W.mg_none_of X G z13⟩
  have F0 := fun_mk (st := sInteger) l0 c0 k0
  have b0 := F0.binds (ps := ["value"]) fun _ _ _ _ _ _ us hl => match us, hl with | [_], _ => rfl
  have g0 := PySem.W.mg_of X G a0
  have F1 := fun_mk (st := sIn) l1 c1 k1
  have b1 := F1.binds (ps := ["value", "least", "most"]) fun _ _ _ _ _ _ us hl => match us, hl with | [_, _, _], _ => rfl
  have g1 := PySem.W.mg_of X G a1
  have F2 := fun_mk (st := sList) l2 c2 k2
  have b2 := F2.binds (ps := ["value", "least", "most"]) fun _ _ _ _ _ _ us hl => match us, hl with | [_, _, _], _ => rfl
  have g2 := PySem.W.mg_of X G a2
  have F3 := fun_mk (st := sNeed) l3 c3 k3
  have b3 := F3.binds (ps := ["table"]) fun _ _ _ _ _ _ us hl => match us, hl with | [_], _ => rfl
  have g3 := PySem.W.mg_of X G a3
  have F4 := fun_mk (st := sParts) l4 c4 k4
  have b4 := F4.binds (ps := ["some"]) fun _ _ _ _ _ _ us hl => match us, hl with | [_], _ => rfl
  have g4 := PySem.W.mg_of X G a4
  have F5 : FunC K "unlike_sum" "unlike_sum" sUnlike f5 (PySem.W.fnOf "unlike_sum" "unlike_sum" (defArgs sUnlike) (defBody sUnlike) (defScope sUnlike) .none kV5 dc5 pm5 an5 (.ref c) ct5) c := ⟨⟨oc5, od5, kV5, dc5, pm5, an5, ct5, sl5, rfl, l5, c5⟩, k5⟩
  have F5b := fun_mk (st := sUnlike) l5 c5 k5
  have b5 := F5b.binds (ps := ["table"]) fun _ _ _ _ _ _ us hl => match us, hl with | [_], _ => rfl
  have g5 := PySem.W.mg_of X G a5
  have F6 := fun_mk (st := sOf) l6 c6 k6
  have b6 := F6.binds (ps := ["table", "lists"]) fun _ _ _ _ _ _ us hl => match us, hl with | [_, _], _ => rfl
  have g6 := PySem.W.mg_of X G a6
  have F7 := fun_mk (st := sTaken) l7 c7 k7
  have b7 := F7.binds (ps := ["_law_row", "_law_many"]) fun _ _ _ _ _ _ us hl => match us, hl with | [_, _], _ => rfl
  have g7 := PySem.W.mg_of X G a7
  have F8 := fun_mk (st := sPick) l8 c8 k8
  have b8 := F8.binds (ps := ["_law_row", "_law_things"]) fun _ _ _ _ _ _ us hl => match us, hl with | [_, _], _ => rfl
  have g8 := PySem.W.mg_of X G a8
  have F9 := fun_mk (st := sAlike) l9 c9 k9
  have b9 := F9.binds (ps := ["_law_found", "_law_due"]) fun _ _ _ _ _ _ us hl => match us, hl with | [_, _], _ => rfl
  have g9 := PySem.W.mg_of X G a9
  have F10 := fun_mk (st := sOrder) l10 c10 k10
  have b10 := F10.binds (ps := ["_law_row", "_law_many"]) fun _ _ _ _ _ _ us hl => match us, hl with | [_, _], _ => rfl
  have g10 := PySem.W.mg_of X G a10
  have F11 := fun_mk (st := sLaw) l11 c11 k11
  have b11 := F11.binds (ps := ["_law_script"]) fun _ _ _ _ _ _ us hl => match us, hl with | [_], _ => rfl
  have mB := PySem.W.mg_of X G m1
  have mT := PySem.W.mg_of X G m2
  refine ⟨PySem.W.fnOf "law" "law" (defArgs sLaw) (defBody sLaw) (defScope sLaw) .none kV11 dc11 pm11 an11 cd11 ct11, [(c, PA)], spLaw K PA, fun p hp => ?_, fun p hp => ?_, fun p hp => ?_, fun s v => .of_eq rfl, fun H a ns _ _ hH hS => ⟨a, ns, rfl, hS, fun p hp => ?_, fun _ => rfl⟩, fun base _ _ hB => ?_⟩
  · rw [List.mem_singleton.mp hp]; exact tP
  · rw [List.mem_singleton.mp hp]; exact nP
  · rw [List.mem_singleton.mp hp]; exact PySem.W.codeHd_of_K X hC
  · rw [List.mem_singleton.mp hp]
    exact LamX.TabS.nil (hH (c, PA) (List.mem_singleton.mpr rfl))
  have TB : LamX.TabB base mg c PA := hB (c, PA) (List.mem_singleton.mpr rfl)
  have OI := ok_in (P := l.prog) (w := w) (base := base) F1 F0 b0 g0 B
  have OL := ok_list (P := l.prog) (w := w) (base := base) F2 B
  have ON := ok_need F3 B OL k2 b2 g2 OI k1 b1 g1 mB mT
  have OP := ok_parts (P := l.prog) (w := w) (mg := mg) (base := base) F4
  have OS := ok_sum F5 B TB OP k4 b4 g4 ON k3 b3 g3
  have OF := ok_of F6 B OL k2 b2 g2 OI k1 b1 g1 ON k3 b3 g3
  have OT := ok_taken (P := l.prog) (w := w) (base := base) F7 B
  have OK := ok_pick F8 B OT k7 b7 g7
  have OA := ok_alike (P := l.prog) (w := w) (base := base) F9 B
  have OO := ok_order F10 B OT k7 b7 g7
  exact ok_law F11 B OT k7 b7 g7 OK k8 b8 g8 OS k5 b5 g5 OA k9 b9 g9 OF k6 b6 g6 OO k10 b10 g10
end K20
open PySem PySem.W PyProof.Rows
set_option maxRecDepth 100000 in
set_option maxHeartbeats 0 in
theorem PySem.Challenge.cw_shoporders_k20_whole_unlike_machines_holds : PySem.Challenge.rw_shoporders_k20_whole_unlike_machines.Holds := by
  w_on; o_law; k_head; (case hw => w_witness2)
  k_fill
  refine LamX.walk_ofTs (l := PySem.Challenge.rw_shoporders_k20_whole_unlike_machines) (n := 63) (k := 5) (CX := fun _ => L2.CX0) (x := "_law_script") rfl (by decide) rfl ⟨rfl, by decide, by decide⟩ (fun w h Y => PySem.W.km_in_of Y) ?F (fun _ _ _ _ _ z => z)
  case F =>
    intro w mg fa h Y KX G hmg
    refine' K20.all_mk (PA := 88) KX G hmg ?a0 ?l0 ?c0 ?k0 ?a1 ?l1 ?c1 ?k1 ?a2 ?l2 ?c2 ?k2 ?a3 ?l3 ?c3 ?k3 ?a4 ?l4 ?c4 ?k4 ?a5 ?l5 ?c5 ?k5 ?a6 ?l6 ?c6 ?k6 ?a7 ?l7 ?c7 ?k7 ?a8 ?l8 ?c8 ?k8 ?a9 ?l9 ?c9 ?k9 ?a10 ?l10 ?c10 ?k10 ?a11 ?l11 ?c11 ?k11 ?m1 ?m2 ?z0 ?z1 ?z2 ?z3 ?z4 ?z5 ?z6 ?z7 ?z8 ?z9 ?z10 ?z11 ?z12 ?z13 ?tP ?nP ?hC
    (case a0 => k_is)
    (case l0 => k_is)
    (case c0 => k_is)
    (case k0 => k_is)
    (case a1 => k_is)
    (case l1 => k_is)
    (case c1 => k_is)
    (case k1 => k_is)
    (case a2 => k_is)
    (case l2 => k_is)
    (case c2 => k_is)
    (case k2 => k_is)
    (case a3 => k_is)
    (case l3 => k_is)
    (case c3 => k_is)
    (case k3 => k_is)
    (case a4 => k_is)
    (case l4 => k_is)
    (case c4 => k_is)
    (case k4 => k_is)
    (case a5 => k_is)
    (case l5 => k_is)
    (case c5 => k_is)
    (case k5 => k_is)
    (case a6 => k_is)
    (case l6 => k_is)
    (case c6 => k_is)
    (case k6 => k_is)
    (case a7 => k_is)
    (case l7 => k_is)
    (case c7 => k_is)
    (case k7 => k_is)
    (case a8 => k_is)
    (case l8 => k_is)
    (case c8 => k_is)
    (case k8 => k_is)
    (case a9 => k_is)
    (case l9 => k_is)
    (case c9 => k_is)
    (case k9 => k_is)
    (case a10 => k_is)
    (case l10 => k_is)
    (case c10 => k_is)
    (case k10 => k_is)
    (case a11 => k_is)
    (case l11 => k_is)
    (case c11 => k_is)
    (case k11 => k_is)
    (case m1 => k_is)
    (case m2 => k_is)
    (case z0 => k_is)
    (case z1 => k_is)
    (case z2 => k_is)
    (case z3 => k_is)
    (case z4 => k_is)
    (case z5 => k_is)
    (case z6 => k_is)
    (case z7 => k_is)
    (case z8 => k_is)
    (case z9 => k_is)
    (case z10 => k_is)
    (case z11 => k_is)
    (case z12 => k_is)
    (case z13 => k_is)
    (case tP => exact PySem.W.km_tabs_of Y 88 (by k_mem))
    (case nP => kernel_rfl)
    (case hC => kernel_rfl)

import PyProof.Rows.All
import Wide.All
import OpenK.AllK
import Wide.FinOn
import HandS.ForMost
import HandS.Evl
import HandS.Deep
import HandS.TupAny
import HandS.TupMul
import HandS.IsInst
import HandS.Strs
import PySem.Challenge.RW_leastpromise_k48_whole_ages_that_a_cache
import HandS.SetFor
import HandS.SortInts
import KE.KDictKeyed
import HandS.Dict
import HandS.DictComp
import KE.KEqDict
import HandS.TupSets
import KE.SortData
import HandS.Walk
import KE.GoesEnum
import HandS.ExcSuper
import HandS.ExcInit
import HandS.ExcOwn
import KE.KSuper
import HandS.WordsExc
import HandS.TryMany
import HandS.ExcField
import HandS.Defaults
import HandS.Codes
import HandS.Style
import HandS.Iter
import HandS.EndTab
import HandS.EndOwn
set_option Elab.async false
set_option maxHeartbeats 8000000
set_option linter.all false
set_option maxRecDepth 100000
/-! Plain graph mathematics: longest gains, by turns. -/
namespace K48G
variable {S : Type} (succ : S → List (Nat × S))

/-- the greatest of some numbers, 0 if there are none -/
def mx (l : List Nat) : Nat := l.foldl max 0
theorem foldl_max_ge (l : List Nat) : ∀ a, a ≤ l.foldl max a := by
  induction l with
  | nil => intro a; exact Nat.le_refl _
  | cons x l ih => intro a; exact Nat.le_trans (Nat.le_max_left a x) (ih (max a x))
theorem foldl_max_mem (l : List Nat) : ∀ a x, x ∈ l → x ≤ l.foldl max a := by
  induction l with
  | nil => intro a x h; cases h
  | cons y l ih =>
    intro a x h
    rcases List.mem_cons.mp h with rfl | h
    · exact Nat.le_trans (Nat.le_max_right a x) (foldl_max_ge l (max a x))
    · exact ih (max a y) x h
theorem foldl_max_at (l : List Nat) : ∀ a, l.foldl max a = a ∨ l.foldl max a ∈ l := by
  induction l with
  | nil => intro a; exact .inl rfl
  | cons y l ih =>
    intro a
    rcases ih (max a y) with h | h
    · show l.foldl max (max a y) = a ∨ l.foldl max (max a y) ∈ y :: l
      rw [h]
      rcases Nat.le_total a y with q | q
      · rw [Nat.max_eq_right q]; exact .inr (List.mem_cons_self ..)
      · rw [Nat.max_eq_left q]; exact .inl rfl
    · exact .inr (List.mem_cons_of_mem _ h)
theorem le_mx {l : List Nat} {x : Nat} (h : x ∈ l) : x ≤ mx l := foldl_max_mem l 0 x h
theorem mx_at (l : List Nat) : mx l = 0 ∨ mx l ∈ l := foldl_max_at l 0
theorem mx_le {l : List Nat} {b : Nat} (h : ∀ x ∈ l, x ≤ b) : mx l ≤ b := by
  rcases mx_at l with e | e
  · rw [e]; exact Nat.zero_le _
  · exact h _ e

/-- the greatest gain within so many steps -/
def best : Nat → S → Nat
  | 0, _ => 0
  | t + 1, s => mx ((succ s).map fun p => p.1 + best t p.2)
theorem best_step {t : Nat} {s s' : S} {e : Nat} (h : (e, s') ∈ succ s) : e + best succ t s' ≤ best succ (t + 1) s :=
  le_mx (List.mem_map.mpr ⟨(e, s'), h, rfl⟩)
theorem best_at (t : Nat) (s : S) : best succ (t + 1) s = 0 ∨ ∃ e s', (e, s') ∈ succ s ∧ best succ (t + 1) s = e + best succ t s' := by
  rcases mx_at ((succ s).map fun p => p.1 + best succ t p.2) with h | h
  · exact .inl h
  · obtain ⟨p, hp, e⟩ := List.mem_map.mp h
    exact .inr ⟨p.1, p.2, hp, e.symm⟩
theorem best_mono1 : ∀ (t : Nat) (s : S), best succ t s ≤ best succ (t + 1) s
  | 0, _ => Nat.zero_le _
  | t + 1, s => by
    rcases best_at succ t s with h | ⟨e, s', hs, h⟩
    · rw [h]; exact Nat.zero_le _
    · rw [h]
      exact Nat.le_trans (Nat.add_le_add_left (best_mono1 t s') e) (best_step succ hs)
theorem best_mono {t u : Nat} (h : t ≤ u) (s : S) : best succ t s ≤ best succ u s := by
  induction h with
  | refl => exact Nat.le_refl _
  | step _ ih => exact Nat.le_trans ih (best_mono1 succ _ s)

/-- A: where nothing changes any more, nothing ever will -/
theorem still {ns : List S} (cl : ∀ s ∈ ns, ∀ p ∈ succ s, p.2 ∈ ns) {t : Nat} (h : ∀ s ∈ ns, best succ (t + 1) s = best succ t s) :
    ∀ (k : Nat), ∀ s ∈ ns, best succ (t + k) s = best succ t s := by
  intro k
  induction k with
  | zero => intro s _; rfl
  | succ k ih =>
    intro s hs
    have e : best succ (t + k + 1) s = best succ (t + 1) s := by
      show mx ((succ s).map fun p => p.1 + best succ (t + k) p.2) = mx ((succ s).map fun p => p.1 + best succ t p.2)
      congr 1
      apply List.map_congr_left
      intro p hp
      rw [ih p.2 (cl s hs p hp)]
    show best succ (t + k + 1) s = best succ t s
    rw [e, h s hs]
theorem still_le {ns : List S} (cl : ∀ s ∈ ns, ∀ p ∈ succ s, p.2 ∈ ns) {t : Nat} (h : ∀ s ∈ ns, best succ (t + 1) s = best succ t s) (k : Nat) {s : S} (hs : s ∈ ns) : best succ k s ≤ best succ t s := by
  rcases Nat.le_total k t with q | q
  · exact best_mono succ q s
  · obtain ⟨j, rfl⟩ := Nat.le.dest q
    rw [still succ cl h j s hs]
    exact Nat.le_refl _

/-- pigeons: all numbers up to m among n values -/
theorem pigeon : ∀ (l : List Nat) (m : Nat), (∀ i, i < m → i ∈ l) → m ≤ l.length := by
  intro l m
  induction m generalizing l with
  | zero => intro _; exact Nat.zero_le _
  | succ m ih =>
    intro h
    have hm := h m (Nat.lt_succ_self m)
    have h1 : ∀ i, i < m → i ∈ l.erase m := fun i hi => (List.mem_erase_of_ne (Nat.ne_of_lt hi)).mpr (h i (Nat.lt_succ_of_lt hi))
    have h2 := ih (l.erase m) h1
    have h3 := List.length_erase_of_mem hm
    have h4 : 0 < l.length := List.length_pos_of_mem hm
    omega
/-- the last turn at which a monotone bounded value of some place turns -/
theorem settles (ns : List S) (N : Nat) (hb : ∀ s ∈ ns, ∀ k, best succ k s ≤ N) : ∃ K, ∀ s ∈ ns, ∀ k, K ≤ k → best succ k s = best succ K s := by
  -- for one place
  have one : ∀ s ∈ ns, ∃ K, ∀ k, K ≤ k → best succ k s = best succ K s := by
    intro s hs
    have go : ∀ (d : Nat) (K : Nat), N - best succ K s ≤ d → ∃ K, ∀ k, K ≤ k → best succ k s = best succ K s := by
      intro d
      induction d with
      | zero =>
        intro K hK
        refine ⟨K, fun k hk => ?_⟩
        have h1 := hb s hs k
        have h2 := best_mono succ hk s
        omega
      | succ d ih =>
        intro K hK
        by_cases h : ∃ k, K ≤ k ∧ best succ k s ≠ best succ K s
        · obtain ⟨k, hk, hne⟩ := h
          have h2 := best_mono succ hk s
          have h3 := hb s hs k
          exact ih k (by omega)
        · refine ⟨K, fun k hk => ?_⟩
          by_cases e : best succ k s = best succ K s
          · exact e
          · exact absurd ⟨k, hk, e⟩ h
    exact go _ 0 (Nat.le_refl _)
  clear hb
  induction ns with
  | nil => exact ⟨0, fun s hs => by cases hs⟩
  | cons x l ih =>
    obtain ⟨K1, h1⟩ := one x (List.mem_cons_self ..)
    obtain ⟨K2, h2⟩ := ih fun s hs => one s (List.mem_cons_of_mem _ hs)
    refine ⟨max K1 K2, fun s hs k hk => ?_⟩
    rcases List.mem_cons.mp hs with rfl | hs
    · rw [h1 k (by omega), h1 (max K1 K2) (by omega)]
    · rw [h2 s hs k (by omega), h2 s hs (max K1 K2) (by omega)]
/-- the least number with a property -/
theorem least {p : Nat → Prop} : ∀ n, p n → ∃ k, p k ∧ ∀ j, j < k → ¬ p j := by
  intro n
  induction n using Nat.strongRecOn with
  | _ n ih =>
    intro hp
    by_cases h : ∃ j, j < n ∧ p j
    · obtain ⟨j, hj, hpj⟩ := h
      exact ih j hj hpj
    · exact ⟨n, hp, fun j hj hpj => h ⟨j, hj, hpj⟩⟩

open Classical in
/-- B: if it turns still behind more turns than places, gains have no bound -/
theorem unbounded {ns : List S} (cl : ∀ s ∈ ns, ∀ p ∈ succ s, p.2 ∈ ns) (h : ∀ t, t ≤ ns.length → ∃ s ∈ ns, best succ (t + 1) s ≠ best succ t s) (N : Nat) : ∃ s ∈ ns, ∃ k, N ≤ best succ k s := by
  by_cases hN : ∃ s ∈ ns, ∃ k, N ≤ best succ k s
  · exact hN
  · have hb : ∀ s ∈ ns, ∀ k, best succ k s ≤ N := by
      intro s hs k
      by_cases q : best succ k s ≤ N
      · exact q
      · exact absurd ⟨s, hs, k, by omega⟩ hN
    obtain ⟨K, hK⟩ := settles succ ns N hb
    -- T s: the least turn with the last value
    have lv : ∀ s ∈ ns, ∃ T, best succ T s = best succ K s ∧ ∀ j, j < T → best succ j s ≠ best succ K s := fun s _ => least K rfl
    -- each value below a T comes
    have down : ∀ (T : Nat), ∀ s ∈ ns, best succ T s = best succ K s → (∀ j, j < T → best succ j s ≠ best succ K s) → ∀ i, i ≤ T → ∃ s' ∈ ns, best succ i s' = best succ K s' ∧ ∀ j, j < i → best succ j s' ≠ best succ K s' := by
      intro T
      induction T with
      | zero =>
        intro s hs e1 e2 i hi
        have : i = 0 := by omega
        subst this
        exact ⟨s, hs, e1, e2⟩
      | succ T ih =>
        intro s hs e1 e2 i hi
        by_cases hiT : i = T + 1
        · subst hiT
          exact ⟨s, hs, e1, e2⟩
        · rcases best_at succ T s with z | ⟨e, s', hs', z⟩
          · exfalso
            have h0 := e2 0 (Nat.succ_pos T)
            apply h0
            rw [← e1, z]
            rfl
          · have hs'n := cl s hs _ hs'
            have hK1 : best succ (K + 1) s = best succ K s := hK s hs (K + 1) (by omega)
            have le1 : e + best succ K s' ≤ best succ (K + 1) s := best_step succ hs'
            have hTK : best succ T s' ≤ best succ (max T K) s' := best_mono succ (by omega) s'
            have hmax : best succ (max T K) s' = best succ K s' := hK s' hs'n _ (by omega)
            have eT : best succ T s' = best succ K s' := by omega
            refine ih s' hs'n eT (fun j hj q => ?_) i (by omega)
            -- an earlier turn would serve s too
            have b1 : e + best succ j s' ≤ best succ (j + 1) s := best_step succ hs'
            have b2 : best succ (j + 1) s ≤ best succ (max (j + 1) K) s := best_mono succ (by omega) s
            have b3 : best succ (max (j + 1) K) s = best succ K s := hK s hs _ (by omega)
            exact e2 (j + 1) (by omega) (by omega)
    -- the greatest T is less than the places
    have lt : ∀ s ∈ ns, ∀ T, best succ T s = best succ K s → (∀ j, j < T → best succ j s ≠ best succ K s) → T < ns.length := by
      intro s hs T e1 e2
      have hl : ∀ i, i < T + 1 → i ∈ ns.map fun s => (if hx : ∃ T, best succ T s = best succ K s ∧ ∀ j, j < T → best succ j s ≠ best succ K s then hx.choose else 0) := by
        intro i hi
        obtain ⟨s', hs', f1, f2⟩ := down T s hs e1 e2 i (by omega)
        refine List.mem_map.mpr ⟨s', hs', ?_⟩
        have hx : ∃ T, best succ T s' = best succ K s' ∧ ∀ j, j < T → best succ j s' ≠ best succ K s' := ⟨i, f1, f2⟩
        rw [dif_pos hx]
        obtain ⟨g1, g2⟩ := hx.choose_spec
        rcases Nat.lt_trichotomy hx.choose i with q | q | q
        · exact absurd g1 (f2 _ q)
        · exact q
        · exact absurd f1 (g2 _ q)
      have := pigeon _ _ hl
      rw [List.length_map] at this
      omega
    obtain ⟨s, hs, hne⟩ := h ns.length (Nat.le_refl _)
    exfalso
    obtain ⟨T, t1, t2⟩ := lv s hs
    have hT := lt s hs T t1 t2
    have fix : ∀ j, T ≤ j → best succ j s = best succ K s := fun j hj => by
      have a1 := best_mono succ hj s
      have a2 : best succ j s ≤ best succ (max j K) s := best_mono succ (by omega) s
      have a3 : best succ (max j K) s = best succ K s := hK s hs _ (by omega)
      omega
    exact hne ((fix _ (by omega)).trans (fix _ (by omega)).symm)

/-- reached from a start with exactly this gain -/
inductive Rg (st : S → Prop) : Nat → S → Prop
  | zero {s : S} : st s → Rg st 0 s
  | step {g e : Nat} {s s' : S} : Rg st g s → (e, s') ∈ succ s → Rg st (g + e) s'
/-- reached at all -/
inductive Rc (st : S → Prop) : S → Prop
  | zero {s : S} : st s → Rc st s
  | step {e : Nat} {s s' : S} : Rc st s → (e, s') ∈ succ s → Rc st s'
theorem Rc.rg {st : S → Prop} {s : S} (h : Rc succ st s) : ∃ g, Rg succ st g s := by
  induction h with
  | zero h => exact ⟨0, .zero h⟩
  | step _ hs ih =>
    obtain ⟨g, hg⟩ := ih
    exact ⟨_, .step hg hs⟩
theorem Rg.rc {st : S → Prop} {g : Nat} {s : S} (h : Rg succ st g s) : Rc succ st s := by
  induction h with
  | zero h => exact .zero h
  | step _ hs ih => exact .step ih hs
/-- D: a gain that may come behind comes exactly -/
theorem Rg.go {st : S → Prop} (e01 : ∀ s p, p ∈ succ s → p.1 ≤ 1) : ∀ (k : Nat) {g : Nat} {s : S} (N : Nat), Rg succ st g s → N ≤ best succ k s → ∃ s', Rg succ st (g + N) s' := by
  intro k
  induction k with
  | zero =>
    intro g s N h hN
    have : N = 0 := by
      have : best succ 0 s = 0 := rfl
      omega
    subst this
    exact ⟨s, h⟩
  | succ k ih =>
    intro g s N h hN
    rcases best_at succ k s with z | ⟨e, s', hs, z⟩
    · have : N = 0 := by omega
      subst this
      exact ⟨s, h⟩
    · by_cases h0 : N = 0
      · subst h0; exact ⟨s, h⟩
      · have he := e01 s _ hs
        have he' : e ≤ 1 := he
        obtain ⟨s2, h2⟩ := ih (N - e) (.step h hs) (by omega)
        have : g + e + (N - e) = g + N := by omega
        rw [this] at h2
        exact ⟨s2, h2⟩
/-- gains come one by one -/
theorem Rg.less {st : S → Prop} (e01 : ∀ s p, p ∈ succ s → p.1 ≤ 1) {g : Nat} {s : S} (h : Rg succ st g s) : ∀ t, t ≤ g → ∃ s', Rg succ st t s' := by
  induction h with
  | @zero s h =>
    intro t ht
    have : t = 0 := by omega
    subst this
    exact ⟨s, .zero h⟩
  | @step g e s s' h hs ih =>
    intro t ht
    have he : e ≤ 1 := e01 s _ hs
    by_cases q : t ≤ g
    · exact ih t q
    · have : t = g + e := by omega
      subst this
      exact ⟨s', .step h hs⟩
/-- E: a bound of the starts bounds all that comes behind -/
theorem Rg.bound {st : S → Prop} {m : Nat} (h : ∀ s, st s → ∀ k, best succ k s ≤ m) {g : Nat} {s : S} (r : Rg succ st g s) : ∀ k, g + best succ k s ≤ m := by
  induction r with
  | zero hs => intro k; rw [Nat.zero_add]; exact h _ hs k
  | @step g e s s' _ hs ih =>
    intro k
    have b : e + best succ k s' ≤ best succ (k + 1) s := best_step succ hs
    have := ih (k + 1)
    omega
theorem Rg.le {st : S → Prop} {m : Nat} (h : ∀ s, st s → ∀ k, best succ k s ≤ m) {g : Nat} {s : S} (r : Rg succ st g s) : g ≤ m := r.bound succ h 0

/-- what most_met tells -/
inductive Told (st : S → Prop) : Option Nat → Prop
  | fin {m : Nat} : (∀ s, st s → ∀ k, best succ k s ≤ m) → (∃ s, st s ∧ ∃ k, best succ k s = m) → Told st (some m)
  | ever : (∀ N, ∃ s, ∃ g, Rg succ st g s ∧ ∃ k, N ≤ best succ k s) → Told st none
theorem Told.none_rg {st : S → Prop} (e01 : ∀ s p, p ∈ succ s → p.1 ≤ 1) (h : Told succ st none) (N : Nat) : ∃ s, Rg succ st N s := by
  cases h with
  | ever h =>
    obtain ⟨s, g, r, k, hk⟩ := h N
    obtain ⟨s', r'⟩ := Rg.go succ e01 k N r hk
    exact Rg.less succ e01 r' N (by omega)
theorem Told.some_rg {st : S → Prop} (e01 : ∀ s p, p ∈ succ s → p.1 ≤ 1) {m : Nat} (h : Told succ st (some m)) {N : Nat} (hN : N ≤ m) : ∃ s, Rg succ st N s := by
  cases h with
  | fin _ h =>
    obtain ⟨s, hs, k, hk⟩ := h
    obtain ⟨s', r⟩ := Rg.go succ e01 k N (.zero hs) (by omega)
    rw [Nat.zero_add] at r
    exact ⟨s', r⟩
theorem Told.some_le {st : S → Prop} {m : Nat} (h : Told succ st (some m)) {g : Nat} {s : S} (r : Rg succ st g s) : g ≤ m := by
  cases h with
  | fin h _ => exact r.le succ h
/-- the end of the loop, by the list of all that comes -/
theorem told_some {st : S → Prop} {ns : List S} (cl : ∀ s ∈ ns, ∀ p ∈ succ s, p.2 ∈ ns) (hst : ∀ s, st s → s ∈ ns) {t : Nat} (h : ∀ s ∈ ns, best succ (t + 1) s = best succ t s) {m : Nat}
    (hm1 : ∀ s, st s → best succ t s ≤ m) (hm2 : ∃ s, st s ∧ best succ t s = m) : Told succ st (some m) := by
  obtain ⟨s, hs, e⟩ := hm2
  exact .fin (fun s hs k => Nat.le_trans (still_le succ cl h k (hst s hs)) (hm1 s hs)) ⟨s, hs, t, e⟩
theorem told_none {st : S → Prop} {ns : List S} (cl : ∀ s ∈ ns, ∀ p ∈ succ s, p.2 ∈ ns) (hrc : ∀ s ∈ ns, Rc succ st s) (h : ∀ t, t ≤ ns.length → ∃ s ∈ ns, best succ (t + 1) s ≠ best succ t s) : Told succ st none := by
  refine .ever fun N => ?_
  obtain ⟨s, hs, k, hk⟩ := unbounded succ cl h N
  obtain ⟨g, r⟩ := (hrc s hs).rg
  exact ⟨s, g, r, k, hk⟩
end K48G
/-! Plain mathematics: caches told by tables, stacks of names, ages, stays. -/
namespace K48M
open K48G

/-! ### stacks of names -/
/-- names by recency: the last one first, each once -/
def push (S : List Nat) (y : Nat) : List Nat := y :: S.filter (fun z => decide (z ≠ y))
def stk (r : List Nat) : List Nat := r.foldl push []
theorem stk_snoc (r : List Nat) (y : Nat) : stk (r ++ [y]) = y :: (stk r).filter (fun z => decide (z ≠ y)) := by
  unfold stk
  rw [List.foldl_append]
  rfl
theorem snoc_ind {P : List Nat → Prop} (h0 : P []) (h1 : ∀ r y, P r → P (r ++ [y])) : ∀ r, P r := by
  intro r
  have : ∀ n, ∀ r : List Nat, r.length = n → P r := by
    intro n
    induction n with
    | zero => intro r h; rw [List.eq_nil_of_length_eq_zero h]; exact h0
    | succ n ih =>
      intro r h
      have hne : r ≠ [] := by intro e; rw [e] at h; cases h
      rw [← List.dropLast_concat_getLast hne]
      exact h1 _ _ (ih _ (by rw [List.length_dropLast]; omega))
  exact this _ r rfl
theorem mem_stk (x : Nat) : ∀ r, x ∈ stk r ↔ x ∈ r := by
  refine snoc_ind ?_ ?_
  · exact Iff.rfl
  · intro r y ih
    rw [stk_snoc, List.mem_cons, List.mem_filter, ih, List.mem_append, List.mem_singleton]
    by_cases h : x = y
    · simp [h]
    · simp [h]
theorem nodup_stk : ∀ r, (stk r).Nodup := by
  refine snoc_ind List.nodup_nil ?_
  intro r y ih
  rw [stk_snoc, List.nodup_cons]
  refine ⟨fun h => ?_, ih.filter _⟩
  have := (List.mem_filter.mp h).2
  simp at this
/-- the names met since the last access of x -/
def met (r : List Nat) (x : Nat) : List Nat := (stk r).takeWhile (fun z => decide (z ≠ x))
theorem met_self (r : List Nat) (x : Nat) : met (r ++ [x]) x = [] := by
  unfold met
  rw [stk_snoc, List.takeWhile_cons]
  simp
theorem not_mem_met (r : List Nat) (x : Nat) : x ∉ met r x := by
  intro h
  unfold met at h
  have : ∀ (l : List Nat), x ∈ l.takeWhile (fun z => decide (z ≠ x)) → False := by
    intro l
    induction l with
    | nil => intro h; cases h
    | cons a l ih =>
      intro h
      rw [List.takeWhile_cons] at h
      by_cases e : a = x
      · simp [e] at h
      · simp only [ne_eq, e, not_false_eq_true, decide_true, if_true] at h
        rcases List.mem_cons.mp h with h | h
        · exact e h.symm
        · exact ih h
  exact this _ h
theorem takeWhile_filter (x y : Nat) (hxy : x ≠ y) : ∀ l : List Nat, (l.filter (fun z => decide (z ≠ y))).takeWhile (fun z => decide (z ≠ x)) = (l.takeWhile (fun z => decide (z ≠ x))).filter (fun z => decide (z ≠ y)) := by
  intro l
  induction l with
  | nil => rfl
  | cons a l ih =>
    by_cases ha : a = y
    · have hax : a ≠ x := fun e => hxy (e.symm.trans ha)
      rw [List.filter_cons_of_neg (by simp [ha]), List.takeWhile_cons_of_pos (by simp [hax]), List.filter_cons_of_neg (by simp [ha])]
      exact ih
    · by_cases hx : a = x
      · rw [List.filter_cons_of_pos (by simp [ha]), List.takeWhile_cons_of_neg (by simp [hx]), List.takeWhile_cons_of_neg (by simp [hx])]
        rfl
      · rw [List.filter_cons_of_pos (by simp [ha]), List.takeWhile_cons_of_pos (by simp [hx]), List.takeWhile_cons_of_pos (by simp [hx]), List.filter_cons_of_pos (by simp [ha]), ih]
theorem met_other (r : List Nat) {x y : Nat} (h : x ≠ y) : met (r ++ [y]) x = y :: (met r x).filter (fun z => decide (z ≠ y)) := by
  unfold met
  rw [stk_snoc, List.takeWhile_cons_of_pos (by simp [Ne.symm h]), takeWhile_filter x y h]
theorem nodup_met (r : List Nat) (x : Nat) : (met r x).Nodup := by
  unfold met
  exact (nodup_stk r).sublist (List.takeWhile_sublist _)
theorem filter_ne_of_not_mem {y : Nat} : ∀ {l : List Nat}, y ∉ l → l.filter (fun z => decide (z ≠ y)) = l := by
  intro l h
  rw [List.filter_eq_self]
  intro a ha
  have : a ≠ y := fun e => h (e ▸ ha)
  simp [this]
theorem filter_len {y : Nat} : ∀ {l : List Nat}, l.Nodup → y ∈ l → (l.filter (fun z => decide (z ≠ y))).length + 1 = l.length := by
  intro l hn h
  induction l with
  | nil => cases h
  | cons a l ih =>
    rw [List.nodup_cons] at hn
    by_cases e : a = y
    · subst e
      rw [List.filter_cons_of_neg (by simp), filter_ne_of_not_mem hn.1]
      rfl
    · have h' : y ∈ l := by
        rcases List.mem_cons.mp h with q | q
        · exact absurd q.symm e
        · exact q
      rw [List.filter_cons_of_pos (by simp [e]), List.length_cons, List.length_cons, ih hn.2 h']
theorem met_count (r : List Nat) {x y : Nat} (h : x ≠ y) : (met (r ++ [y]) x).length = if y ∈ met r x then (met r x).length else (met r x).length + 1 := by
  rw [met_other r h, List.length_cons]
  by_cases q : y ∈ met r x
  · rw [if_pos q, filter_len (nodup_met r x) q]
  · rw [if_neg q, filter_ne_of_not_mem q]
theorem mem_met (r : List Nat) {x y z : Nat} (h : x ≠ y) : z ∈ met (r ++ [y]) x ↔ z = y ∨ z ∈ met r x := by
  rw [met_other r h, List.mem_cons, List.mem_filter]
  by_cases e : z = y
  · simp [e]
  · simp [e]
/-- what is met is in the row -/
theorem met_sub (r : List Nat) (x z : Nat) (h : z ∈ met r x) : z ∈ r := (mem_stk z r).mp (List.takeWhile_subset _ h)

/-! ### ages -/
/-- the age of an access of y behind the row r, at most cap; cap for a first one -/
def age (cap : Nat) (r : List Nat) (y : Nat) : Nat := if y ∈ r then min cap (met r y).length else cap
def ages (cap : Nat) (r : List Nat) : List Nat := (List.range r.length).map fun i => age cap (r.take i) (r.getD i 0)
theorem ages_nil (cap : Nat) : ages cap [] = [] := rfl
theorem ages_snoc (cap : Nat) (r : List Nat) (y : Nat) : ages cap (r ++ [y]) = ages cap r ++ [age cap r y] := by
  unfold ages
  rw [List.length_append, List.length_singleton, List.range_succ, List.map_append, List.map_singleton]
  congr 1
  · apply List.map_congr_left
    intro i hi
    have hi := List.mem_range.mp hi
    rw [List.take_append_of_le_length (Nat.le_of_lt hi)]
    congr 1
    simp [List.getD_eq_getElem?_getD, List.getElem?_append_left hi]
  · simp [List.getD_eq_getElem?_getD]
theorem ages_length (cap : Nat) (r : List Nat) : (ages cap r).length = r.length := by simp [ages]
/-- of two accessed names the one of the less age came later: its name is met in the other's stay -/
theorem takeWhile_lt {x y : Nat} : ∀ {l : List Nat}, l.Nodup → x ∈ l → y ∈ l → (y ∈ l.takeWhile (fun z => decide (z ≠ x)) ↔ (l.takeWhile (fun z => decide (z ≠ y))).length < (l.takeWhile (fun z => decide (z ≠ x))).length) := by
  intro l
  induction l with
  | nil => intro _ h; cases h
  | cons a l ih =>
    intro hn hx hy
    rw [List.nodup_cons] at hn
    by_cases ax : a = x
    · subst ax
      simp
    · by_cases ay : a = y
      · subst ay
        rw [List.takeWhile_cons_of_pos (by simp [ax]), List.takeWhile_cons_of_neg (by simp)]
        simp
      · have hx' : x ∈ l := by rcases List.mem_cons.mp hx with q | q; exact absurd q.symm ax; exact q
        have hy' : y ∈ l := by rcases List.mem_cons.mp hy with q | q; exact absurd q.symm ay; exact q
        rw [List.takeWhile_cons_of_pos (by simp [ax]), List.takeWhile_cons_of_pos (by simp [ay]), List.mem_cons, List.length_cons, List.length_cons, ih hn.2 hx' hy']
        constructor
        · rintro (q | q)
          · exact absurd q.symm ay
          · omega
        · intro q; exact .inr (by omega)
theorem met_lt {r : List Nat} {x y : Nat} (hx : x ∈ r) (hy : y ∈ r) : y ∈ met r x ↔ (met r y).length < (met r x).length :=
  takeWhile_lt (nodup_stk r) ((mem_stk x r).mpr hx) ((mem_stk y r).mpr hy)
/-- names of one age are one -/
theorem takeWhile_inj {x y : Nat} : ∀ {l : List Nat}, x ∈ l → y ∈ l → (l.takeWhile (fun z => decide (z ≠ y))).length = (l.takeWhile (fun z => decide (z ≠ x))).length → x = y := by
  intro l
  induction l with
  | nil => intro h; cases h
  | cons a l ih =>
    intro hx hy h
    by_cases ax : a = x
    · by_cases ay : a = y
      · rw [← ax, ay]
      · rw [List.takeWhile_cons_of_pos (by simp [ay]), List.takeWhile_cons_of_neg (by simp [ax])] at h
        cases h
    · by_cases ay : a = y
      · rw [List.takeWhile_cons_of_neg (by simp [ay]), List.takeWhile_cons_of_pos (by simp [ax])] at h
        cases h
      · have hx' : x ∈ l := by
          rcases List.mem_cons.mp hx with q | q
          · exact absurd q.symm ax
          · exact q
        have hy' : y ∈ l := by
          rcases List.mem_cons.mp hy with q | q
          · exact absurd q.symm ay
          · exact q
        rw [List.takeWhile_cons_of_pos (by simp [ay]), List.takeWhile_cons_of_pos (by simp [ax]), List.length_cons, List.length_cons] at h
        exact ih hx' hy' (by omega)
theorem met_inj {r : List Nat} {x y : Nat} (hx : x ∈ r) (hy : y ∈ r) (h : (met r y).length = (met r x).length) : x = y :=
  takeWhile_inj ((mem_stk x r).mpr hx) ((mem_stk y r).mpr hy) h
end K48M
/-! Plain mathematics: runs of a cache, stays, views by ages. -/
namespace K48M
open K48G

structure Ctl where
  hits : List Nat
  line : Nat
  nxt : Nat
abbrev Cache := List Ctl
def ctl (k : Cache) (c : Nat) : Ctl := k.getD c ⟨[], 0, 0⟩
def hit (k : Cache) (c j : Nat) : Nat := (ctl k c).hits.getD j 0
/-- C controls, L lines -/
structure Ok (C L : Nat) (k : Cache) : Prop where
  len : k.length = C
  c1 : 1 ≤ C
  l1 : 1 ≤ L
  hlen : ∀ c, c < C → (ctl k c).hits.length = L
  hlt : ∀ c j, c < C → j < L → hit k c j < C
  lin : ∀ c, c < C → (ctl k c).line < L
  nx : ∀ c, c < C → (ctl k c).nxt < C
abbrev Lines := List (Option Nat)
/-- an access -/
def go (k : Cache) (s : Nat × Lines) (y : Nat) : Nat × (Nat × Lines) :=
  if some y ∈ s.2 then (1, (hit k s.1 (s.2.idxOf (some y)), s.2)) else (0, ((ctl k s.1).nxt, s.2.set (ctl k s.1).line (some y)))
def st0 (L : Nat) : Nat × Lines := (0, List.replicate L none)
def atR (k : Cache) (L : Nat) (r : List Nat) : Nat × Lines := r.foldl (fun s y => (go k s y).2) (st0 L)
theorem atR_nil (k : Cache) (L : Nat) : atR k L [] = st0 L := rfl
theorem atR_snoc (k : Cache) (L : Nat) (r : List Nat) (y : Nat) : atR k L (r ++ [y]) = (go k (atR k L r) y).2 := by
  unfold atR
  rw [List.foldl_append]
  rfl
def views (k : Cache) (L : Nat) (r : List Nat) : List Nat := (List.range r.length).map fun i => (go k (atR k L (r.take i)) (r.getD i 0)).1
theorem views_snoc (k : Cache) (L : Nat) (r : List Nat) (y : Nat) : views k L (r ++ [y]) = views k L r ++ [(go k (atR k L r) y).1] := by
  unfold views
  rw [List.length_append, List.length_singleton, List.range_succ, List.map_append, List.map_singleton]
  congr 1
  · apply List.map_congr_left
    intro i hi
    have hi := List.mem_range.mp hi
    rw [List.take_append_of_le_length (Nat.le_of_lt hi)]
    congr 2
    simp [List.getD_eq_getElem?_getD, List.getElem?_append_left hi]
  · simp [List.getD_eq_getElem?_getD]
theorem views_length (k : Cache) (L : Nat) (r : List Nat) : (views k L r).length = r.length := by simp [views]

/-! ### filled lines, stays -/
def fl (ls : Lines) : List Bool := ls.map Option.isSome
/-- which lines' names are met -/
def mf (m : List Nat) (ls : Lines) : List Bool := ls.map fun o => match o with
  | some z => decide (z ∈ m)
  | none => false
abbrev Stay := Nat × List Bool × Nat × List Bool
/-- what may come behind a control with filled lines -/
inductive FS (k : Cache) (L : Nat) : Nat → List Bool → Prop
  | zero : FS k L 0 (List.replicate L false)
  | hit {c F j} : FS k L c F → F[j]? = some true → FS k L (hit k c j) F
  | miss {c F} : FS k L c F → FS k L (ctl k c).nxt (F.set (ctl k c).line true)
inductive St (k : Cache) (L : Nat) : Stay → Prop
  | hit {c F j} : FS k L c F → F[j]? = some true → St k L (hit k c j, F, j, List.replicate L false)
  | miss {c F} : FS k L c F → St k L ((ctl k c).nxt, F.set (ctl k c).line true, (ctl k c).line, List.replicate L false)
/-- the stays behind an access of another name, with their gains: as the program tells them -/
def trues (F : List Bool) : List Nat := (List.range F.length).filter fun j => F.getD j false
theorem mem_trues {F : List Bool} {j : Nat} : j ∈ trues F ↔ F[j]? = some true := by
  unfold trues
  rw [List.mem_filter, List.mem_range, List.getD_eq_getElem?_getD]
  constructor
  · rintro ⟨h1, h2⟩
    rw [List.getElem?_eq_getElem h1] at h2 ⊢
    simpa using h2
  · intro h
    obtain ⟨h1, _⟩ := List.getElem?_eq_some_iff.mp h
    exact ⟨h1, by rw [h]; rfl⟩
def succ (k : Cache) (s : Stay) : List (Nat × Stay) :=
  (((trues s.2.1).filter fun j => decide (j ≠ s.2.2.1)).map fun j => ((if s.2.2.2.getD j false then 0 else 1), (hit k s.1 j, s.2.1, s.2.2.1, s.2.2.2.set j true))) ++
  if (ctl k s.1).line ≠ s.2.2.1 then [(1, ((ctl k s.1).nxt, s.2.1.set (ctl k s.1).line true, s.2.2.1, s.2.2.2.set (ctl k s.1).line true))] else []
theorem succ_hit {k : Cache} {c h j : Nat} {F M : List Bool} (hj : F[j]? = some true) (hn : j ≠ h) : ((if M.getD j false then 0 else 1), ((hit k c j, F, h, M.set j true) : Stay)) ∈ succ k (c, F, h, M) :=
  List.mem_append_left _ (List.mem_map.mpr ⟨j, List.mem_filter.mpr ⟨mem_trues.mpr hj, by simp [hn]⟩, rfl⟩)
theorem succ_miss {k : Cache} {c h : Nat} {F M : List Bool} (hn : (ctl k c).line ≠ h) : (1, (((ctl k c).nxt, F.set (ctl k c).line true, h, M.set (ctl k c).line true) : Stay)) ∈ succ k (c, F, h, M) := by
  refine List.mem_append_right _ ?_
  rw [if_pos hn]
  exact List.mem_singleton.mpr rfl
theorem succ_cases {k : Cache} {s : Stay} {p : Nat × Stay} (h : p ∈ succ k s) :
    (∃ j, s.2.1[j]? = some true ∧ j ≠ s.2.2.1 ∧ p = ((if s.2.2.2.getD j false then 0 else 1), (hit k s.1 j, s.2.1, s.2.2.1, s.2.2.2.set j true))) ∨
    ((ctl k s.1).line ≠ s.2.2.1 ∧ p = (1, ((ctl k s.1).nxt, s.2.1.set (ctl k s.1).line true, s.2.2.1, s.2.2.2.set (ctl k s.1).line true))) := by
  rcases List.mem_append.mp h with h | h
  · obtain ⟨j, hj, e⟩ := List.mem_map.mp h
    obtain ⟨h1, h2⟩ := List.mem_filter.mp hj
    exact .inl ⟨j, mem_trues.mp h1, by simpa using h2, e.symm⟩
  · by_cases q : (ctl k s.1).line ≠ s.2.2.1
    · rw [if_pos q] at h
      exact .inr ⟨q, List.mem_singleton.mp h⟩
    · rw [if_neg q] at h
      cases h
theorem succ_01 {k : Cache} : ∀ s p, p ∈ succ k s → p.1 ≤ 1 := by
  intro s p h
  rcases succ_cases h with ⟨j, _, _, e⟩ | ⟨_, e⟩
  · rw [e]
    show (if s.2.2.2.getD j false then 0 else 1) ≤ 1
    split <;> omega
  · rw [e]
    exact Nat.le_refl _

/-! ### the state behind a row -/
structure Run (C L : Nat) (k : Cache) (r : List Nat) (c : Nat) (ls : Lines) : Prop where
  len : ls.length = L
  lt : c < C
  held : ∀ (j x : Nat), ls[j]? = some (some x) → x ∈ r
  dist : ∀ (i j x : Nat), ls[i]? = some (some x) → ls[j]? = some (some x) → i = j
  fs : FS k L c (fl ls)
theorem fl_get {ls : Lines} {j x : Nat} (h : ls[j]? = some (some x)) : (fl ls)[j]? = some true := by
  unfold fl
  rw [List.getElem?_map, h]
  rfl
theorem fl_true {ls : Lines} {j : Nat} (h : (fl ls)[j]? = some true) : ∃ x, ls[j]? = some (some x) := by
  unfold fl at h
  rw [List.getElem?_map] at h
  cases e : ls[j]? with
  | none => rw [e] at h; cases h
  | some o =>
    rw [e] at h
    cases o with
    | none => cases h
    | some x => exact ⟨x, rfl⟩
theorem fl_set (ls : Lines) (j x : Nat) : fl (ls.set j (some x)) = (fl ls).set j true := by
  unfold fl
  rw [List.map_set]
  rfl
theorem get_of_mem {ls : Lines} {y : Nat} (h : some y ∈ ls) : ls[ls.idxOf (some y)]? = some (some y) := by
  have hl := List.idxOf_lt_length_iff.mpr h
  rw [List.getElem?_eq_getElem hl, List.getElem_idxOf hl]
theorem set_get {ls : Lines} {l j x y : Nat} (h : (ls.set l (some y))[j]? = some (some x)) : (j = l ∧ x = y) ∨ (j ≠ l ∧ ls[j]? = some (some x)) := by
  by_cases e : j = l
  · subst e
    have hl : j < ls.length := by
      have := (List.getElem?_eq_some_iff.mp h).1
      rwa [List.length_set] at this
    rw [List.getElem?_set_self hl] at h
    exact .inl ⟨rfl, by simpa using (Option.some.inj h).symm⟩
  · rw [List.getElem?_set_ne (Ne.symm e)] at h
    exact .inr ⟨e, h⟩
theorem Run.zero {C L : Nat} {k : Cache} (o : Ok C L k) : Run C L k [] 0 (List.replicate L none) where
  len := by simp
  lt := o.c1
  held := fun j x h => by
    rw [List.getElem?_replicate] at h
    split at h <;> cases h
  dist := fun i j x h => by
    rw [List.getElem?_replicate] at h
    split at h <;> cases h
  fs := by
    have : fl (List.replicate L none) = List.replicate L false := by
      unfold fl
      rw [List.map_replicate]
      rfl
    rw [this]
    exact .zero
theorem Run.next {C L : Nat} {k : Cache} (o : Ok C L k) {r : List Nat} {c : Nat} {ls : Lines} (R : Run C L k r c ls) (y : Nat) : Run C L k (r ++ [y]) (go k (c, ls) y).2.1 (go k (c, ls) y).2.2 := by
  unfold go
  by_cases h : some y ∈ ls
  · rw [if_pos h]
    have hj := get_of_mem h
    have hjl : ls.idxOf (some y) < L := by
      have := (List.getElem?_eq_some_iff.mp hj).1
      rwa [R.len] at this
    exact ⟨R.len, o.hlt c _ R.lt hjl, fun j x e => List.mem_append_left _ (R.held j x e), R.dist, .hit R.fs (fl_get hj)⟩
  · rw [if_neg h]
    refine ⟨by simpa using R.len, o.nx c R.lt, fun j x e => ?_, fun i j x e1 e2 => ?_, ?_⟩
    · rcases set_get e with ⟨_, rfl⟩ | ⟨_, e⟩
      · simp
      · exact List.mem_append_left _ (R.held j x e)
    · rcases set_get e1 with ⟨a1, a2⟩ | ⟨a1, a2⟩
      · rcases set_get e2 with ⟨b1, b2⟩ | ⟨b1, b2⟩
        · rw [a1, b1]
        · exact absurd (List.mem_of_getElem? (a2 ▸ b2)) h
      · rcases set_get e2 with ⟨b1, b2⟩ | ⟨b1, b2⟩
        · exact absurd (List.mem_of_getElem? (b2 ▸ a2)) h
        · exact R.dist i j x a2 b2
    · show FS k L _ (fl (ls.set (ctl k c).line (some y)))
      rw [fl_set]
      exact .miss R.fs
theorem run_at {C L : Nat} {k : Cache} (o : Ok C L k) : ∀ r, Run C L k r (atR k L r).1 (atR k L r).2 := by
  refine snoc_ind ?_ ?_
  · exact Run.zero o
  · intro r y R
    rw [atR_snoc]
    exact R.next o y

/-! ### F: stays of rows are stays of the graph -/
theorem mf_nil {ls : Lines} {L : Nat} (h : ls.length = L) : mf [] ls = List.replicate L false := by
  subst h
  unfold mf
  induction ls with
  | nil => rfl
  | cons a l ih =>
    rw [List.map_cons, List.length_cons, List.replicate_succ, ih]
    cases a <;> rfl
theorem mf_ext {m m' : List Nat} {ls ls' : Lines} {j : Nat} {y : Nat} (hl : ls'.length = ls.length) (hj : ls'[j]? = some (some y)) (hy : y ∈ m') (ho : ∀ i, i ≠ j → ls'[i]? = ls[i]?)
    (hm : ∀ (i z : Nat), i ≠ j → ls'[i]? = some (some z) → (z ∈ m' ↔ z ∈ m)) : mf m' ls' = (mf m ls).set j true := by
  apply List.ext_getElem?
  intro i
  unfold mf
  rw [List.getElem?_map]
  by_cases e : i = j
  · subst e
    have hi : i < ls.length := by
      have := (List.getElem?_eq_some_iff.mp hj).1
      omega
    rw [List.getElem?_set_self (by simpa using hi), hj]
    simp [hy]
  · rw [List.getElem?_set_ne (Ne.symm e), List.getElem?_map, ← ho i e]
    cases q : ls'[i]? with
    | none => rfl
    | some o =>
      cases o with
      | none => rfl
      | some z =>
        have := hm i z e q
        simp [this]
theorem mf_getD {m : List Nat} {ls : Lines} {j y : Nat} (h : ls[j]? = some (some y)) : (mf m ls).getD j false = decide (y ∈ m) := by
  unfold mf
  rw [List.getD_eq_getElem?_getD, List.getElem?_map, h]
  rfl
/-- the stay of the name x, held at the line j, behind the row r -/
def stayOf (k : Cache) (L : Nat) (r : List Nat) (j x : Nat) : Stay := ((atR k L r).1, fl (atR k L r).2, j, mf (met r x) (atR k L r).2)
theorem stay_new {C L : Nat} {k : Cache} (o : Ok C L k) (r : List Nat) (y j : Nat) (h : (atR k L (r ++ [y])).2[j]? = some (some y)) : St k L (stayOf k L (r ++ [y]) j y) := by
  have R := run_at o r
  have R' := run_at o (r ++ [y])
  unfold stayOf
  rw [met_self, mf_nil R'.len]
  rw [atR_snoc] at h ⊢
  revert h
  generalize atR k L r = s at R
  obtain ⟨c, ls⟩ := s
  unfold go
  by_cases hm : some y ∈ ls
  · rw [if_pos hm]
    intro h
    have hj : j = ls.idxOf (some y) := R.dist _ _ y h (get_of_mem hm)
    subst hj
    exact .hit R.fs (fl_get h)
  · rw [if_neg hm]
    intro h
    rcases set_get h with ⟨e, _⟩ | ⟨_, e⟩
    · subst e
      show St k L (_, fl (ls.set (ctl k c).line (some y)), _, _)
      rw [fl_set]
      exact .miss R.fs
    · exact absurd (List.mem_of_getElem? e) hm
/-- behind an access of another name the stay goes on by a step of the graph, and counts as it gains, at most -/
theorem stay_next {C L : Nat} {k : Cache} (o : Ok C L k) (r : List Nat) (y j x : Nat) (hxy : x ≠ y) (h : (atR k L (r ++ [y])).2[j]? = some (some x)) :
    (atR k L r).2[j]? = some (some x) ∧ ∃ e, (e, stayOf k L (r ++ [y]) j x) ∈ succ k (stayOf k L r j x) ∧ (met (r ++ [y]) x).length ≤ (met r x).length + e := by
  have R := run_at o r
  have hc := met_count r hxy
  unfold stayOf
  rw [atR_snoc] at h ⊢
  revert h
  generalize atR k L r = s at R
  obtain ⟨c, ls⟩ := s
  unfold go
  by_cases hm : some y ∈ ls
  · rw [if_pos hm]
    intro h
    have h : ls[j]? = some (some x) := h
    have hy := get_of_mem hm
    refine ⟨h, (if (mf (met r x) ls).getD (ls.idxOf (some y)) false then 0 else 1), ?_, ?_⟩
    · have hn : ls.idxOf (some y) ≠ j := fun e => by
        rw [e, h] at hy
        exact hxy (by simpa using hy)
      have := succ_hit (k := k) (c := c) (h := j) (F := fl ls) (M := mf (met r x) ls) (fl_get hy) hn
      show (_, (hit k c (ls.idxOf (some y)), fl ls, j, mf (met (r ++ [y]) x) ls)) ∈ succ k (c, fl ls, j, mf (met r x) ls)
      rw [mf_ext (m := met r x) (ls := ls) (j := ls.idxOf (some y)) (y := y) rfl hy ((mem_met r hxy).mpr (.inl rfl)) (fun _ _ => rfl) (fun i z hi hz => ?_)]
      · exact this
      · rw [mem_met r hxy]
        constructor
        · rintro (e | e)
          · exact absurd (R.dist i _ y (e ▸ hz) hy) hi
          · exact e
        · exact .inr
    · rw [mf_getD hy, hc]
      by_cases q : y ∈ met r x
      · simp [q]
      · simp [q]
  · rw [if_neg hm]
    intro h
    rcases set_get h with ⟨_, e⟩ | ⟨hjl, e⟩
    · exact absurd e hxy
    · refine ⟨e, 1, ?_, ?_⟩
      · have hll : (ctl k c).line < ls.length := by
          rw [R.len]
          exact o.lin c R.lt
        have := succ_miss (k := k) (c := c) (h := j) (F := fl ls) (M := mf (met r x) ls) (Ne.symm hjl)
        show (1, ((ctl k c).nxt, fl (ls.set (ctl k c).line (some y)), j, mf (met (r ++ [y]) x) (ls.set (ctl k c).line (some y)))) ∈ succ k (c, fl ls, j, mf (met r x) ls)
        rw [fl_set, mf_ext (m := met r x) (ls := ls) (ls' := ls.set (ctl k c).line (some y)) (j := (ctl k c).line) (y := y) (by simp) (List.getElem?_set_self hll) ((mem_met r hxy).mpr (.inl rfl)) (fun i hi => List.getElem?_set_ne (Ne.symm hi)) (fun i z hi hz => ?_)]
        · exact this
        · rw [mem_met r hxy]
          rw [List.getElem?_set_ne (Ne.symm hi)] at hz
          constructor
          · rintro (q | q)
            · exact absurd (List.mem_of_getElem? (q ▸ hz)) hm
            · exact q
          · exact .inr
      · rw [hc]
        split <;> omega
theorem stays_in {C L : Nat} {k : Cache} (o : Ok C L k) : ∀ (r : List Nat) (j x : Nat), (atR k L r).2[j]? = some (some x) → ∃ g, Rg (succ k) (St k L) g (stayOf k L r j x) ∧ (met r x).length ≤ g := by
  refine snoc_ind ?_ ?_
  · intro j x h
    rw [atR_nil] at h
    have h : (List.replicate L (none : Option Nat))[j]? = some (some x) := h
    rw [List.getElem?_replicate] at h
    split at h <;> cases h
  · intro r y ih j x h
    by_cases e : x = y
    · subst e
      exact ⟨0, .zero (stay_new o r x j h), by rw [met_self]; exact Nat.le_refl _⟩
    · obtain ⟨h1, g', hs, hc⟩ := stay_next o r y j x e h
      obtain ⟨g, rg, hg⟩ := ih j x h1
      exact ⟨g + g', .step rg hs, by omega⟩

/-! ### G: views by ages -/
/-- the place of a line's name behind an access of the age a -/
def turnP (a p : Nat) : Nat := if p = a then 0 else if a < p then p else p + 1
abbrev Poss := List (Option Nat)
def pgo (k : Cache) (s : Nat × Poss) (a : Nat) : Nat × (Nat × Poss) :=
  if some a ∈ s.2 then (1, (hit k s.1 (s.2.idxOf (some a)), s.2.map (Option.map (turnP a)))) else (0, ((ctl k s.1).nxt, (s.2.map (Option.map (turnP a))).set (ctl k s.1).line (some 0)))
def patR (k : Cache) (L : Nat) (as : List Nat) : Nat × Poss := as.foldl (fun s a => (pgo k s a).2) (0, List.replicate L none)
theorem patR_snoc (k : Cache) (L : Nat) (as : List Nat) (a : Nat) : patR k L (as ++ [a]) = (pgo k (patR k L as) a).2 := by
  unfold patR
  rw [List.foldl_append]
  rfl
def pviews (k : Cache) (L : Nat) (as : List Nat) : List Nat := (List.range as.length).map fun i => (pgo k (patR k L (as.take i)) (as.getD i 0)).1
theorem pviews_snoc (k : Cache) (L : Nat) (as : List Nat) (a : Nat) : pviews k L (as ++ [a]) = pviews k L as ++ [(pgo k (patR k L as) a).1] := by
  unfold pviews
  rw [List.length_append, List.length_singleton, List.range_succ, List.map_append, List.map_singleton]
  congr 1
  · apply List.map_congr_left
    intro i hi
    have hi := List.mem_range.mp hi
    rw [List.take_append_of_le_length (Nat.le_of_lt hi)]
    congr 2
    simp [List.getD_eq_getElem?_getD, List.getElem?_append_left hi]
  · simp [List.getD_eq_getElem?_getD]
def poss (r : List Nat) (ls : Lines) : Poss := ls.map (Option.map fun x => (met r x).length)
theorem poss_get {r : List Nat} {ls : Lines} {j x : Nat} (h : ls[j]? = some (some x)) : (poss r ls)[j]? = some (some (met r x).length) := by
  unfold poss
  rw [List.getElem?_map, h]
  rfl
theorem poss_of {r : List Nat} {ls : Lines} {j p : Nat} (h : (poss r ls)[j]? = some (some p)) : ∃ x, ls[j]? = some (some x) ∧ (met r x).length = p := by
  unfold poss at h
  rw [List.getElem?_map] at h
  cases e : ls[j]? with
  | none => rw [e] at h; cases h
  | some o =>
    rw [e] at h
    cases o with
    | none => cases h
    | some x => exact ⟨x, rfl, by simpa using h⟩
/-- a name's age behind an access of y, by y's age -/
theorem turn_met {r : List Nat} {x y cap : Nat} (hx : x ∈ r) (hxy : x ≠ y) (hc : (met r x).length < cap) : (met (r ++ [y]) x).length = turnP (age cap r y) (met r x).length := by
  rw [met_count r hxy]
  unfold turnP age
  by_cases hy : y ∈ r
  · rw [if_pos hy]
    have h1 := met_lt hx hy
    have h2 : (met r x).length ≠ min cap (met r y).length := fun e => hxy (met_inj hx hy (by omega))
    rw [if_neg h2]
    by_cases q : y ∈ met r x
    · have := h1.mp q
      rw [if_pos q, if_pos (by omega)]
    · have : ¬ (met r y).length < (met r x).length := fun z => q (h1.mpr z)
      rw [if_neg q, if_neg (by omega)]
  · rw [if_neg hy]
    have q : y ∉ met r x := fun z => hy (met_sub r x y z)
    rw [if_neg q, if_neg (by omega), if_neg (by omega)]
theorem idxOf_eq {α : Type} [BEq α] [LawfulBEq α] {l : List α} {a : α} {j : Nat} (h : l[j]? = some a) (hu : ∀ i, l[i]? = some a → i = j) : l.idxOf a = j := by
  have hm : a ∈ l := List.mem_of_getElem? h
  have hl := List.idxOf_lt_length_iff.mpr hm
  exact hu _ (by rw [List.getElem?_eq_getElem hl, List.getElem_idxOf hl])
theorem go_pgo {C L : Nat} {k : Cache} {r : List Nat} {c cap : Nat} {ls : Lines} (R : Run C L k r c ls) (hb : ∀ (j x : Nat), ls[j]? = some (some x) → (met r x).length < cap) (y : Nat) :
    pgo k (c, poss r ls) (age cap r y) = ((go k (c, ls) y).1, ((go k (c, ls) y).2.1, poss (r ++ [y]) (go k (c, ls) y).2.2)) := by
  -- who is held at the age of y is y
  have key : ∀ (i : Nat), (poss r ls)[i]? = some (some (age cap r y)) → ls[i]? = some (some y) := by
    intro i h
    obtain ⟨z, hz, e⟩ := poss_of h
    have hc := hb i z hz
    unfold age at e
    by_cases hy : y ∈ r
    · rw [if_pos hy] at e
      have : z = y := met_inj (R.held i z hz) hy (by omega)
      rw [← this]
      exact hz
    · rw [if_neg hy] at e
      omega
  have back : ∀ (i : Nat), ls[i]? = some (some y) → (poss r ls)[i]? = some (some (age cap r y)) := by
    intro i h
    have hy := R.held i y h
    have hc := hb i y h
    rw [poss_get h]
    unfold age
    rw [if_pos hy]
    congr 2
    omega
  have mp : (poss r ls).map (Option.map (turnP (age cap r y))) = ls.map (Option.map fun x => if x = y then 0 else (met (r ++ [y]) x).length) := by
    unfold poss
    rw [List.map_map]
    apply List.map_congr_left
    intro o ho
    cases o with
    | none => rfl
    | some x =>
      obtain ⟨j, hj⟩ := List.getElem?_of_mem ho
      show some (turnP (age cap r y) (met r x).length) = some (if x = y then 0 else (met (r ++ [y]) x).length)
      by_cases e : x = y
      · subst e
        rw [if_pos rfl]
        have h1 := back j hj
        rw [poss_get hj] at h1
        have h2 : (met r x).length = age cap r x := by simpa using h1
        unfold turnP
        rw [if_pos h2]
      · rw [if_neg e, turn_met (R.held j x hj) e (hb j x hj)]
  unfold pgo go
  by_cases h : some y ∈ ls
  · have hj := get_of_mem h
    have h' : some (age cap r y) ∈ poss r ls := List.mem_of_getElem? (back _ hj)
    rw [if_pos h, if_pos h']
    have e1 : (poss r ls).idxOf (some (age cap r y)) = ls.idxOf (some y) := idxOf_eq (back _ hj) fun i hi => R.dist i _ y (key i hi) hj
    show (1, (hit k c ((poss r ls).idxOf (some (age cap r y))), (poss r ls).map (Option.map (turnP (age cap r y))))) = (1, (hit k c (ls.idxOf (some y)), poss (r ++ [y]) ls))
    rw [e1, mp]
    congr 2
    unfold poss
    apply List.map_congr_left
    intro o ho
    cases o with
    | none => rfl
    | some x =>
      show some (if x = y then 0 else (met (r ++ [y]) x).length) = some (met (r ++ [y]) x).length
      by_cases e : x = y
      · subst e
        rw [if_pos rfl, met_self]
        rfl
      · rw [if_neg e]
  · have h' : ¬ some (age cap r y) ∈ poss r ls := fun hm => by
      obtain ⟨i, hi⟩ := List.getElem?_of_mem hm
      exact h (List.mem_of_getElem? (key i hi))
    rw [if_neg h, if_neg h']
    show (0, ((ctl k c).nxt, ((poss r ls).map (Option.map (turnP (age cap r y)))).set (ctl k c).line (some 0))) = (0, ((ctl k c).nxt, poss (r ++ [y]) (ls.set (ctl k c).line (some y))))
    rw [mp]
    congr 2
    unfold poss
    rw [List.map_set]
    congr 1
    · apply List.map_congr_left
      intro o ho
      cases o with
      | none => rfl
      | some x =>
        show some (if x = y then 0 else (met (r ++ [y]) x).length) = some (met (r ++ [y]) x).length
        have e : x ≠ y := fun e => h (e ▸ ho)
        rw [if_neg e]
    · show some 0 = some (met (r ++ [y]) y).length
      rw [met_self]
      rfl
theorem at_pat {C L : Nat} {k : Cache} (o : Ok C L k) {cap : Nat} (hb : ∀ (r : List Nat) (j x : Nat), (atR k L r).2[j]? = some (some x) → (met r x).length < cap) :
    ∀ r, patR k L (ages cap r) = ((atR k L r).1, poss r (atR k L r).2) := by
  refine snoc_ind ?_ ?_
  · rw [atR_nil]
    show (0, List.replicate L none) = (0, poss [] (List.replicate L none))
    unfold poss
    rw [List.map_replicate]
    rfl
  · intro r y ih
    rw [ages_snoc, patR_snoc, ih, go_pgo (run_at o r) (hb r) y, atR_snoc]
theorem views_pviews {C L : Nat} {k : Cache} (o : Ok C L k) {cap : Nat} (hb : ∀ (r : List Nat) (j x : Nat), (atR k L r).2[j]? = some (some x) → (met r x).length < cap) :
    ∀ r, views k L r = pviews k L (ages cap r) := by
  refine snoc_ind rfl ?_
  intro r y ih
  rw [views_snoc, ages_snoc, pviews_snoc, ih, at_pat o hb r, go_pgo (run_at o r) (hb r) y]
/-- what most_met tells bounds all stays of rows -/
theorem met_bound {C L : Nat} {k : Cache} (o : Ok C L k) {m : Nat} (h : Told (succ k) (St k L) (some m)) (r : List Nat) (j x : Nat) (hx : (atR k L r).2[j]? = some (some x)) : (met r x).length ≤ m := by
  obtain ⟨g, rg, hg⟩ := stays_in o r j x hx
  have := h.some_le (succ k) rg
  omega
/-- KEEPS -/
theorem keeps {C L : Nat} {k : Cache} (o : Ok C L k) {m : Nat} (h : Told (succ k) (St k L) (some m)) {r r' : List Nat} (e : ages (m + 1) r = ages (m + 1) r') : views k L r = views k L r' := by
  have hb : ∀ (r : List Nat) (j x : Nat), (atR k L r).2[j]? = some (some x) → (met r x).length < m + 1 := fun r j x hx => Nat.lt_succ_of_le (met_bound o h r j x hx)
  rw [views_pviews o hb r, views_pviews o hb r', e]
end K48M
/-! Tuples made by the program, told with their objects (no dict beside them): made, joined, cut, repeated; t.index. -/
namespace K48
open PySem PySem.Spec PyProof.Rows L2
/-- a tuple, known to its object -/
abbrev tp (o : Obj) (xs : List V) : HO := .frz o (.tup xs)
section
variable {X : Cx} {es : List Expr} {pos : Pos} {t : TA}
theorem tp_ok {P : Program} {w : World} {H : Hp} {h : Heap} {xs : List V} {us : List Value} (r : Vals xs us) (z : xs.length ≤ sizeLine) :
    ObjOk P w H (h.push { cls := .type "tuple", data := .seq us.toArray }) h.objs.size (tp { cls := .type "tuple", data := .seq us.toArray } xs) :=
  ⟨Heap.get?_push_size _ rfl, z, us, r, IsTup.new _ _⟩
/-- what is wanted of a new tuple -/
def NewT (xs : List V) (H : Hp) (Q : VK) : Prop := ∀ p o, H p = none → o.dict = none → Q (.ref p) (upd H p (tp o xs))
theorem new_tup {pins : List (Addr × Obj)} {σ : L2.St} {H : Hp} {s : Shared} {xs : List V} {us : List Value} {Q : VK} (I : Inv X pins σ H s) (r : Vals xs us) (z : xs.length ≤ sizeLine) (q : NewT xs H Q) :
    EP X pins σ Q (.ref s.heap.objs.size) { s with heap := s.heap.push { cls := .type "tuple", data := .seq us.toArray } } :=
  ⟨.ref s.heap.objs.size, upd H s.heap.objs.size (tp _ xs), I.laid (t' := s.toks) (fun b u e => Heap.get?_push_of_some _ e) (Nat.le_refl _) (tp_ok r z), rfl, q _ _ (I.hok.fresh (Nat.le_refl _)) rfl⟩
/-- (a, b, ..) -/
def tTupP (t : TA) : TE := fun σ H Q => t σ H fun xs H1 => xs.length ≤ sizeLine ∧ NewT xs H1 Q
theorem pe_tupP {x1} (h : PA X es t) : PE X (.Tuple es x1 pos) (tTupP t) := by
  refine ⟨fun pins s σ H Q I hq => ?_⟩
  exact wpAny_Tuple_spliced (thn (h.run pos pins s σ H _ I hq) fun us s1 ⟨xs, H1, I1, r, z, q⟩ => ⟨by rw [← r.length]; exact z, new_tup I1 r z q⟩)
/-- t + u -/
def rCatP (K : PySem.W.Frag) : R2 := fun x y H Q => ∃ a b xs ys, x = .ref a ∧ y = .ref b ∧ SqT K H a xs ∧ SqT K H b ys ∧ xs.length + ys.length ≤ sizeLine ∧
  (xs = [] → Q (.ref b) H) ∧ (xs ≠ [] → ys = [] → Q (.ref a) H) ∧ (xs ≠ [] → ys ≠ [] → NewT (xs ++ ys) H Q)
theorem op_catP : OpR X (binaryOp .Add) (rCatP X.K) := by
  intro pins s σ H x y v u Q I rx ry h
  obtain ⟨a, b, xs, ys, rfl, rfl, ha, hb, hz, q0, q1, q2⟩ := h
  cases rx
  cases ry
  obtain ⟨its, r1, p1, _⟩ := I.tuple ha
  obtain ⟨its2, r2, p2, _⟩ := I.tuple hb
  by_cases hx : xs = []
  · subst hx
    cases r1
    exact cat_tup0 p1 p2 ⟨.ref b, H, I, rfl, q0 rfl⟩
  · refine HT.cat_tup p1 p2 (fun z => hx (r1.nil_iff.mp z)) (fun z => ⟨.ref a, H, I, rfl, q1 hx (r2.nil_iff.mp z)⟩) (fun z => ?_) (by rw [← r1.length, ← r2.length]; exact hz)
    exact new_tup I (r1.append r2) (by rw [List.length_append]; exact hz) (q2 hx fun w => z (r2.nil_iff.mpr w))
/-- t[lo:hi]; the whole of it is t itself -/
def rSlP (K : PySem.W.Frag) : V → Option Int → Option Int → Hp → VK → Prop := fun x lo hi H Q => ∃ a xs, x = .ref a ∧ SqT K H a xs ∧
  (HT.sIx xs.length 0 lo = 0 ∧ HT.sIx xs.length xs.length hi = xs.length → Q (.ref a) H) ∧ (¬ (HT.sIx xs.length 0 lo = 0 ∧ HT.sIx xs.length xs.length hi = xs.length) → NewT (cutV xs lo hi) H Q)
theorem sl_tupP : SlR X (rSlP X.K) := by
  intro pins s σ H x v vl vu lo hi sl Q I rx hs pl pu h
  obtain ⟨a, xs, rfl, hx, q1, q2⟩ := h
  cases rx
  obtain ⟨its, r, ht, hz⟩ := I.tuple hx
  have hlen : its.toArray.size = xs.length := by rw [List.size_toArray]; exact r.length.symm
  refine ⟨"tuple", _, PyProof.Rows.slot_tuple_getitem.lookup, ht.typeIs, ?_⟩
  by_cases hw : HT.sIx xs.length 0 lo = 0 ∧ HT.sIx xs.length xs.length hi = xs.length
  · exact getItem_tuple_whole ht hs pl pu (by rw [hlen]; exact hw) ⟨.ref a, H, I, rfl, q1 hw⟩
  · refine HT.getItem_tuple_cut ht hs pl pu (by rw [hlen]; exact hw) ?_ (by rw [hlen]; exact hz)
    rw [hlen]
    exact new_tup I ((r.drop (HT.sIx xs.length 0 lo)).take (HT.sIx xs.length xs.length hi - HT.sIx xs.length 0 lo)) (Nat.le_trans (cutV_length xs lo hi) hz) (q2 hw)
/-- tuple(list), tuple(tuple) -/
def rTupOfP (K : PySem.W.Frag) : List V → Hp → VK → Prop := fun xs H Q => ∃ p ys, xs = [.ref p] ∧ ((SqL K H p ys ∧ NewT ys H Q) ∨ (SqT K H p ys ∧ Q (.ref p) H))
theorem call_tupleP : CallR X (.type "tuple") (rTupOfP X.K) := by
  intro pins s σ H xs us Q I r h
  obtain ⟨p, ys, rfl, h⟩ := h
  obtain ⟨u, rfl, rx⟩ := vals1 r
  cases rx
  rcases h with ⟨hq, q⟩ | ⟨hq, q⟩
  · obtain ⟨its, r', pl, hz⟩ := I.list hq
    have hlen := r'.length
    refine call_tuple_list pl.isList (fun h' kp => ?_) (by simp only [List.size_toArray] <;> omega)
    have I1 : Inv X pins σ H { s with heap := h' } := I.kept (t' := s.toks) kp
    exact new_tup I1 r' hz q
  · obtain ⟨its, r', pl, hz⟩ := I.tuple hq
    exact call_tuple_same pl ⟨.ref p, H, I, rfl, q⟩
/-- t * 1 is t -/
theorem tuple_mul1 (l : Addr) (items : Array Value) (n : Nat) (sl : Array (Option Value)) (u : Tok) (hne : items.isEmpty = false) :
    Meets (Builtin.«tuple.__mul__» ⟨[.ref l, .int 1 u], []⟩) (fun _ R s => s.heap.get? l = some { cls := .type "tuple", dict := none, data := .seq items n, slots := sl } ∧ R (.ok (.ret (.ref l))) s) :=
  .of_wp fun prog w A R s h => by
    obtain ⟨hp, g, d, tk, os⟩ := s
    obtain ⟨hl, h⟩ := h
    have f1 := AutoSeq1.idx_int
    have c1 : (items.isEmpty || (1 : Int) == 1) = true := by rw [Bool.or_eq_true]; exact .inr (by decide)
    wp_walk using wpAny_loadPart' hl
    repeat (first
      | (refine wpAny_ite_true (decide_eq_true c1) ?_; wp_walk using wpAny_loadPart' hl)
      | (refine wpAny_ite_true c1 ?_; wp_walk using wpAny_loadPart' hl))
    exact ⟨_, rfl, h⟩
/-- t * k, once or more -/
def rRepP (K : PySem.W.Frag) : R2 := fun x y H Q => ∃ l k xs o, x = .ref l ∧ y = .int k ∧ H l = some (tp o xs) ∧ o.dict = none ∧ xs ≠ [] ∧ 1 ≤ k ∧ k ≤ 1000 ∧ xs.length ≤ 1000 ∧ (k = 1 → Q (.ref l) H) ∧ (2 ≤ k → NewT (List.replicate k.toNat xs).flatten H Q)
theorem op_repP : OpR X (binaryOp .Mult) (rRepP X.K) := by
  intro pins s σ H x y v u Q I rx ry h
  obtain ⟨l, k, xs, o, rfl, rfl, hT, hdn, hne, h1, h2, hz, q1, q2⟩ := h
  cases rx
  obtain ⟨t, rfl⟩ := ry
  obtain ⟨ho, hs, its, r, o', ho', hc, n, hd⟩ := I.hok l _ hT
  have eo : o = o' := Option.some.inj (ho.symm.trans ho')
  subst eo
  obtain ⟨cls, dd, data, sl⟩ := o
  simp only at hc hd hdn
  subst hc hd hdn
  have hle : its.length = xs.length := r.length.symm
  have hpos : 0 < xs.length := List.length_pos_iff.mpr hne
  have hi : its.toArray.isEmpty = false := by
    cases its with
    | nil =>
      rw [List.length_nil] at hle
      omega
    | cons a b => rfl
  have hsz0 : its.toArray.size = xs.length := by rw [List.size_toArray, hle]
  refine wpAny_binaryOp_repeat_ref (T := "tuple") (U := "int") (by decide) ⟨_, ho, rfl⟩ (fun s' => typeIs_int s' k t) noFill_tuple_mul F.fills_int_mul F.slot_int_rmul repeat_tuple F.slot_int_index.lookup
    (call_meets F.slot_int_rmul (typeIs_int s k t) F.entry_int_rmul (F.args_int_rmul_2 _ _) (int_rmul_tuple k t l its.toArray n none sl) ⟨ho, rfl, ⟨_, ho, rfl⟩, ?_⟩)
  by_cases hk : k = 1
  · subst hk
    exact call_meets F.slot_tuple_mul ⟨_, ho, rfl⟩ F.entry_tuple_mul (F.args_tuple_mul_2 _ _) (tuple_mul1 l its.toArray n sl t hi) ⟨ho, ⟨.ref l, H, I, rfl, q1 rfl⟩⟩
  · have h1' : 2 ≤ k := by omega
    have a0 : k.toNat * xs.length ≤ 1000 * 1000 := Nat.mul_le_mul (by omega) hz
    have hm : ((its.toArray.size : Nat) : Int) * k ≤ 1000000 := by
      have a1 : ((xs.length : Nat) : Int) * k ≤ 1000 * k := Int.mul_le_mul_of_nonneg_right (by omega) (by omega)
      rw [hsz0]
      omega
    have flen : (List.replicate k.toNat its).flatten.length ≤ sizeLine := by
      rw [PyProof.Rows.lm_len_rep_flat, hle, sizeLine_eq]
      omega
    refine call_meets F.slot_tuple_mul ⟨_, ho, rfl⟩ F.entry_tuple_mul (F.args_tuple_mul_2 _ _) (tuple_mulW l its.toArray n none sl k t ?_ ?_ ?_ (by omega) ?_ (by rw [size_rep, List.size_toArray]; exact flen)) ⟨ho, ?_⟩
    · rw [decide_eq_false (show ¬ k < -(2 ^ 63) by omega), decide_eq_false (show ¬ k ≥ 2 ^ 63 by omega)] <;> rfl
    · rw [hi, Bool.false_or]
      exact beq_eq_false_iff_ne.mpr hk
    · rw [hi, Bool.or_false]
      exact decide_eq_false (by omega)
    · show decide _ = false
      rw [sizeLine_eq]
      exact decide_eq_false (by omega)
    · rw [size_rep]
      exact new_tup I (r.rep k.toNat) (by rw [PyProof.Rows.lm_len_rep_flat, sizeLine_eq]; omega) (q2 h1')
/-- t.index(x), the first place; flat things -/
def tTix (K : PySem.W.Frag) (to te : TE) : TE := fun σ H Q => to σ H fun x H1 => ∃ a o ys, x = .ref a ∧ H1 a = some (tp o ys) ∧ o.dict = none ∧ te σ H1 fun y H2 => ∃ j z, H2 a = some (tp o ys) ∧ flatV y = true ∧ ys.all flatV = true ∧ ys[j]? = some z ∧ eqV z y = true ∧
  (∀ (m : Nat) (z' : V), m < j → ys[m]? = some z' → eqV z' y = false) ∧ Q (.int (j : Nat)) H2
theorem pe_tix {o e : Expr} {to te : TE} {apos cpos : Pos} (ho : PE X o to) (he : PE X e te)
    (hbase : attributeBase o "index" X.env (eval o X.env) = eval o X.env := by rfl)
    (hfew : ((backTo cpos (starEach [e] X.env)).all (fun x => !x.1) && (backToKw cpos (keywordEach [] X.env)).all (fun x => x.1.isSome)
      && decide ([e].length + ([] : List Keyword).length + (if ([] : List Keyword).isEmpty then 0 else 1) < 30)) = true := by rfl)
    (hline : (apos.endLine == cpos.line) = true := by rfl) (hs : starEach [e] X.env = (false, eval e X.env) :: starEach [] X.env := by rfl) (hplain : (backTo cpos (starEach [] X.env)).any (·.1) = false := by rfl) :
    PE X (.Call (.Attribute o "index" apos) [e] [] cpos) (tTix X.K to te) := by
  refine ⟨fun pins s σ H Q I h => ?_⟩
  refine wpAny_Call_method_late hbase hfew hline rfl (thn (ho.run pins s σ H _ I h) fun v s1 ⟨x, H1, I1, r1, a, ob, ys, ex, hT, hdn, q1⟩ => ?_)
  subst ex
  cases r1
  obtain ⟨hob, _, _, _, ob', hob', hc', _⟩ := I1.hok a _ hT
  have eo : ob = ob' := Option.some.inj (hob.symm.trans hob')
  subst eo
  refine ⟨"tuple", "tuple.index", F.plainAttrs_tuple, F.slot_tuple_index, F.type_tuple_index, ⟨_, hob, hc'⟩, fun b eb => ?_, ?_⟩
  · cases eb
    exact ⟨ob, hob, hdn⟩
  · have hA := (pa_cons he pa_nil hs).run cpos pins s1 σ H1 (fun vs H2 => match vs with
      | [y] => ∃ j z, H2 a = some (tp ob ys) ∧ flatV y = true ∧ ys.all flatV = true ∧ ys[j]? = some z ∧ eqV z y = true ∧ (∀ (m : Nat) (z' : V), m < j → ys[m]? = some z' → eqV z' y = false) ∧ Q (.int (j : Nat)) H2
      | _ => False) I1 q1
    rw [hs] at hA ⊢
    refine Calls.callWith_builtin (by show (false || (backTo cpos (starEach [] X.env)).any (·.1)) = false; rw [hplain] <;> rfl) (Calls.evalArgs_plain ?_)
    refine thn hA fun us s2 ⟨vs, H2, I2, r2, q2⟩ => ?_
    match vs, r2, q2 with
    | [], _, q2 => exact q2.elim
    | _ :: _ :: _, _, q2 => exact q2.elim
    | [y], r2, q2 =>
    obtain ⟨j, z, hT2, fy, fys, hz, hzj, hno, q3⟩ := q2
    obtain ⟨u, rfl, r3⟩ := vals1 r2
    obtain ⟨hob2, _, its, rv, ob2, hob2', hc2, n, hd2⟩ := I2.hok a _ hT2
    have eo2 : ob = ob2 := Option.some.inj (hob2.symm.trans hob2')
    subst eo2
    obtain ⟨cls, dd, data, sl⟩ := ob
    simp only at hc2 hd2
    subst hc2 hd2
    obtain ⟨w', hw', rw'⟩ := rv.get hz
    obtain ⟨hjl, hje⟩ := List.getElem?_eq_some_iff.mp hw'
    have hvl := rv.length
    have hj : j < its.toArray.size := by simpa using hjl
    refine call_meets F.slot_tuple_index ⟨_, hob2, rfl⟩ F.entry_tuple_index (F.args_tuple_index_2 _ _) (TI.tuple_indexAt a its.toArray n dd sl u (eqU y) j hj ?_ ?_)
      ⟨hob2, fun u' hu' => mem_eqAt r3 fy rv fys u' (by simpa using hu'), ⟨.int (j : Nat), H2, I2.tok _, ⟨_, rfl⟩, q3⟩⟩
    · have e1 : its.toArray[j] = w' := by simpa using hje
      rw [e1, eqU_of rw' (flat_at fys hz)]
      exact hzj
    · intro m hm hmj
      have hmy : m < ys.length := by
        rw [hvl]
        simpa using hm
      have hy' : ys[m]? = some ys[m] := List.getElem?_eq_getElem hmy
      obtain ⟨u2, hu2, ru2⟩ := rv.get hy'
      obtain ⟨_, hme⟩ := List.getElem?_eq_some_iff.mp hu2
      have e1 : its.toArray[m] = u2 := by simpa using hme
      rw [e1, eqU_of ru2 (flat_at fys hy')]
      exact hno m _ hmj hy'
end
end K48
/-! Data in the layer's heap, and what expressions evaluate to, told by data. -/
namespace K48
open PySem L2 Evl
abbrev S := L2.St

theorem st_tp {K : PySem.W.Frag} {H : Hp} {a : Addr} {o : Obj} {xs : List V} (h : H a = some (tp o xs)) : SqT K H a xs := .inl (.inr ⟨o, h⟩)

/-! ### data -/
mutual
/-- the value v stands for the data d -/
inductive Rp (H : Hp) : V → PyData → Prop
  | non : Rp H .non .none
  | bl (b : Bool) : Rp H (.bl b) (.bool b)
  | int (i : Int) : Rp H (.int i) (.int i)
  | str (x : Str) : Rp H (.str x) (.str x)
  | lst {a : Addr} {xs : List V} {ds : List PyData} : H a = some (.lst xs) → Rps H xs ds → Rp H (.ref a) (.list ds)
  | tup {a : Addr} {o : Obj} {xs : List V} {ds : List PyData} : H a = some (tp o xs) → o.dict = none → Rps H xs ds → Rp H (.ref a) (.tuple ds)
inductive Rps (H : Hp) : List V → List PyData → Prop
  | nil : Rps H [] []
  | cons {v : V} {vs : List V} {d : PyData} {ds : List PyData} : Rp H v d → Rps H vs ds → Rps H (v :: vs) (d :: ds)
end
mutual
/-- no list within -/
def tupD : PyData → Bool
  | .none => true
  | .bool _ => true
  | .int _ => true
  | .str _ => true
  | .tuple ds => tupDs ds
  | .list _ => false
  | .dict _ => false
def tupDs : List PyData → Bool
  | [] => true
  | d :: ds => tupD d && tupDs ds
end
theorem tupDs_iff : ∀ {ds : List PyData}, tupDs ds = true ↔ ∀ d ∈ ds, tupD d = true
  | [] => by
    constructor
    · intro _ d h
      exact absurd h (by simp)
    · intro _
      rfl
  | d :: ds => by
    rw [tupDs, Bool.and_eq_true, tupDs_iff (ds := ds)]
    constructor
    · rintro ⟨h1, h2⟩ e he
      rcases List.mem_cons.mp he with rfl | he
      · exact h1
      · exact h2 e he
    · intro h
      exact ⟨h d (List.mem_cons_self ..), fun e he => h e (List.mem_cons_of_mem _ he)⟩
section
variable {H H' : Hp}
mutual
theorem Rp.ex (e : Ex H H') : ∀ {v : V} (d : PyData), Rp H v d → Rp H' v d
  | _, .none, .non => .non
  | _, .bool _, .bl b => .bl b
  | _, .int _, .int i => .int i
  | _, .str _, .str x => .str x
  | _, .list ds, .lst h r => .lst (e _ _ h) (Rps.ex e ds r)
  | _, .tuple ds, .tup h n r => .tup (e _ _ h) n (Rps.ex e ds r)
theorem Rps.ex (e : Ex H H') : ∀ {vs : List V} (ds : List PyData), Rps H vs ds → Rps H' vs ds
  | _, [], .nil => .nil
  | _, d :: ds, .cons h r => .cons (Rp.ex e d h) (Rps.ex e ds r)
end
theorem Rp.up {v : V} {d : PyData} (r : Rp H v d) (e : Ex H H') : Rp H' v d := Rp.ex e d r
theorem Rps.up {vs : List V} {ds : List PyData} (r : Rps H vs ds) (e : Ex H H') : Rps H' vs ds := Rps.ex e ds r
/-- all tuples stay -/
def Tk (H H' : Hp) : Prop := ∀ a o xs, H a = some (tp o xs) → H' a = some (tp o xs)
theorem Tk.refl (H : Hp) : Tk H H := fun _ _ _ h => h
theorem Tk.trans {H1 : Hp} (a : Tk H H1) (b : Tk H1 H') : Tk H H' := fun x o xs h => b x o xs (a x o xs h)
theorem Tk.ex (e : Ex H H') : Tk H H' := fun a o xs h => e a _ h
theorem Tk.upd {l : Addr} {o : HO} {xs : List V} (h : H l = some (.lst xs)) : Tk H (L2.upd H l o) := fun a ob ys e => by
  by_cases q : a = l
  · rw [q, h] at e
    cases e
  · rw [upd_ne q]
    exact e
mutual
theorem Rp.tk (e : Tk H H') : ∀ {v : V} (d : PyData), tupD d = true → Rp H v d → Rp H' v d
  | _, .none, _, .non => .non
  | _, .bool _, _, .bl b => .bl b
  | _, .int _, _, .int i => .int i
  | _, .str _, _, .str x => .str x
  | _, .tuple ds, t, .tup h n r => .tup (e _ _ _ h) n (Rps.tk e ds (by rw [tupD] at t; exact t) r)
theorem Rps.tk (e : Tk H H') : ∀ {vs : List V} (ds : List PyData), tupDs ds = true → Rps H vs ds → Rps H' vs ds
  | _, [], _, .nil => .nil
  | _, d :: ds, t, .cons h r => by
    rw [tupDs, Bool.and_eq_true] at t
    exact .cons (Rp.tk e d t.1 h) (Rps.tk e ds t.2 r)
end
mutual
theorem Rp.dp {K : PySem.W.Frag} : ∀ {v : V} (d : PyData), Rp H v d → Dp K H v d
  | _, .none, .non => .non
  | _, .bool _, .bl b => .bl b
  | _, .int _, .int i => .int i
  | _, .str _, .str x => .str x
  | _, .list ds, .lst h r => .lst (sq_of h) (Rps.dp ds r)
  | _, .tuple ds, .tup h _ r => .tup (st_tp h) (Rps.dp ds r)
theorem Rps.dp {K : PySem.W.Frag} : ∀ {vs : List V} (ds : List PyData), Rps H vs ds → DpAll K H vs ds
  | _, [], .nil => .nil
  | _, d :: ds, .cons h r => .cons (Rp.dp d h) (Rps.dp ds r)
end
theorem Rps.len : ∀ {vs : List V} {ds : List PyData}, Rps H vs ds → vs.length = ds.length
  | _, _, .nil => rfl
  | _, _, .cons _ r => congrArg Nat.succ (Rps.len r)
theorem Rps.get : ∀ {vs : List V} {ds : List PyData} {i : Nat} {d : PyData}, Rps H vs ds → ds[i]? = some d → ∃ v, vs[i]? = some v ∧ Rp H v d
  | _, _, _, _, .nil, e => by simp at e
  | _, _, 0, _, .cons h _, e => by
    simp at e
    subst e
    exact ⟨_, rfl, h⟩
  | _, _, i + 1, d, .cons _ r, e => by
    obtain ⟨v, h1, h2⟩ := Rps.get (i := i) (d := d) r (by simpa using e)
    exact ⟨v, by simpa using h1, h2⟩
theorem Rps.getV : ∀ {vs : List V} {ds : List PyData} {i : Nat} {v : V}, Rps H vs ds → vs[i]? = some v → ∃ d, ds[i]? = some d ∧ Rp H v d
  | _, _, _, _, .nil, e => by simp at e
  | _, _, 0, _, .cons h _, e => by
    simp at e
    subst e
    exact ⟨_, rfl, h⟩
  | _, _, i + 1, v, .cons _ r, e => by
    obtain ⟨d, h1, h2⟩ := Rps.getV (i := i) (v := v) r (by simpa using e)
    exact ⟨d, by simpa using h1, h2⟩
theorem Rps.append : ∀ {vs ws : List V} {ds es : List PyData}, Rps H vs ds → Rps H ws es → Rps H (vs ++ ws) (ds ++ es)
  | _, _, _, _, .nil, s => s
  | _, _, _, _, .cons r t, s => .cons r (Rps.append t s)
theorem Rps.take : ∀ {vs : List V} {ds : List PyData} (n : Nat), Rps H vs ds → Rps H (vs.take n) (ds.take n)
  | _, _, 0, _ => by rw [List.take_zero, List.take_zero]; exact .nil
  | _, _, _ + 1, .nil => .nil
  | _, _, n + 1, .cons r t => .cons r (Rps.take n t)
theorem Rps.drop : ∀ {vs : List V} {ds : List PyData} (n : Nat), Rps H vs ds → Rps H (vs.drop n) (ds.drop n)
  | _, _, 0, r => r
  | _, _, _ + 1, .nil => .nil
  | _, _, n + 1, .cons _ t => Rps.drop n t
theorem Rps.set {v : V} {d : PyData} (r : Rp H v d) : ∀ {vs : List V} {ds : List PyData} (i : Nat), Rps H vs ds → Rps H (vs.set i v) (ds.set i d)
  | _, _, _, .nil => .nil
  | _, _, 0, .cons _ t => .cons r t
  | _, _, i + 1, .cons q t => .cons q (Rps.set r i t)
theorem Rps.replicate {v : V} {d : PyData} (r : Rp H v d) : ∀ n, Rps H (List.replicate n v) (List.replicate n d)
  | 0 => .nil
  | n + 1 => .cons r (Rps.replicate r n)
theorem Rps.one {v : V} {d : PyData} (r : Rp H v d) : Rps H [v] [d] := .cons r .nil
theorem Rp.int_inv {v : V} {i : Int} (r : Rp H v (.int i)) : v = .int i := by cases r; rfl
theorem Rp.bool_inv {v : V} {b : Bool} (r : Rp H v (.bool b)) : v = .bl b := by cases r; rfl
theorem Rp.none_inv {v : V} (r : Rp H v .none) : v = .non := by cases r; rfl
theorem Rp.tup_inv {v : V} {ds : List PyData} (r : Rp H v (.tuple ds)) : ∃ a o xs, v = .ref a ∧ H a = some (tp o xs) ∧ o.dict = none ∧ Rps H xs ds := by
  cases r with
  | tup h n r => exact ⟨_, _, _, rfl, h, n, r⟩
/-- a new tuple is new data -/
theorem newT {xs : List V} {ds : List PyData} {Q : VK} (r : Rps H xs ds) (q : ∀ v H', Ex H H' → Rp H' v (.tuple ds) → Q v H') : NewT xs H Q := fun _ _ hp hn => q _ _ (Ex.new hp) (.tup upd_same hn (r.up (Ex.new hp)))
theorem Rp.lst_inv {v : V} {ds : List PyData} (r : Rp H v (.list ds)) : ∃ a xs, v = .ref a ∧ H a = some (.lst xs) ∧ Rps H xs ds := by
  cases r with
  | lst h r => exact ⟨_, _, rfl, h, r⟩
theorem Rps.ints : ∀ {vs : List V} {ns : List Int}, Rps H vs (ns.map .int) → vs = ns.map V.int
  | _, [], .nil => rfl
  | _, n :: ns, .cons h r => by
    have e := h.int_inv
    subst e
    rw [Rps.ints r]
    rfl
theorem Rps.of_ints : ∀ (ns : List Int), Rps H (ns.map V.int) (ns.map .int)
  | [] => .nil
  | n :: ns => .cons (.int n) (Rps.of_ints ns)
end

/-! ### what evaluates to what data -/
def EvD (te : TE) (σ : S) (H : Hp) (d : PyData) : Prop := ∀ H1, Ex H H1 → ∀ Q : VK, (∀ v H2, Ex H1 H2 → Rp H2 v d → Q v H2) → te σ H1 Q
def EvDs (ta : TA) (σ : S) (H : Hp) (ds : List PyData) : Prop := ∀ H1, Ex H H1 → ∀ Q : List V → Hp → Prop, (∀ vs H2, Ex H1 H2 → Rps H2 vs ds → Q vs H2) → ta σ H1 Q
/-- a new list -/
def EvN (te : TE) (σ : S) (H : Hp) (ds : List PyData) : Prop := ∀ H1, Ex H H1 → ∀ Q : VK, (∀ p xs H2, H1 p = none → Ex H1 H2 → H2 p = some (.lst xs) → Rps H2 xs ds → Q (.ref p) H2) → te σ H1 Q
/-- a call on values -/
def RCD (r : List V → Hp → VK → Prop) (ds : List PyData) (H : Hp) (d : PyData) : Prop := ∀ vs H1, Ex H H1 → Rps H1 vs ds → ∀ Q : VK, (∀ v H2, Ex H1 H2 → Rp H2 v d → Q v H2) → r vs H1 Q
def RCN (r : List V → Hp → VK → Prop) (ds : List PyData) (H : Hp) (es : List PyData) : Prop := ∀ vs H1, Ex H H1 → Rps H1 vs ds → ∀ Q : VK, (∀ p xs H2, H1 p = none → Ex H1 H2 → H2 p = some (.lst xs) → Rps H2 xs es → Q (.ref p) H2) → r vs H1 Q
def R2D (r : R2) (d e : PyData) (H : Hp) (f : PyData) : Prop := ∀ x y H1, Ex H H1 → Rp H1 x d → Rp H1 y e → ∀ Q : VK, (∀ v H2, Ex H1 H2 → Rp H2 v f → Q v H2) → r x y H1 Q

section
variable {K : PySem.W.Frag} {σ : S} {H H' : Hp} {ta tb tc te tx : TE} {t u : TT} {v : V} {d e f : PyData} {ds es fs : List PyData}
theorem EvD.mono (x : Ex H H') (h : EvD te σ H d) : EvD te σ H' d := fun H1 a Q q => h H1 (x.trans a) Q q
theorem EvDs.mono {ta : TA} (x : Ex H H') (h : EvDs ta σ H ds) : EvDs ta σ H' ds := fun H1 a Q q => h H1 (x.trans a) Q q
theorem EvN.mono (x : Ex H H') (h : EvN te σ H ds) : EvN te σ H' ds := fun H1 a Q q => h H1 (x.trans a) Q q
theorem EvN.toD (h : EvN te σ H ds) : EvD te σ H (.list ds) := fun H1 a Q q => h H1 a Q fun p xs H2 _ e2 hp r => q _ H2 e2 (.lst hp r)
theorem EvD.is (h : EvD te σ H d) (x : d = e) : EvD te σ H e := x ▸ h
theorem EvN.is (h : EvN te σ H ds) (x : ds = es) : EvN te σ H es := x ▸ h
theorem EvD.of_ev (h : Ev te σ H v) (r : ∀ H1, Ex H H1 → Rp H1 v d) : EvD te σ H d := fun H1 a Q q => h H1 a Q fun H2 e2 => q v H2 e2 (r H2 (a.trans e2))
theorem evd_var {i : Nat} (h : σ[i]? = some (some v)) (r : Rp H v d) : EvD (tVar i) σ H d := fun H1 a Q q => ⟨v, h, q v H1 (Ex.refl H1) (r.up a)⟩
theorem evd_int {i : Int} : EvD (tC (.int i)) σ H (.int i) := fun H1 _ Q q => q _ H1 (Ex.refl H1) (.int i)
theorem evd_bl {b : Bool} : EvD (tC (.bl b)) σ H (.bool b) := fun H1 _ Q q => q _ H1 (Ex.refl H1) (.bl b)
theorem evd_non : EvD (tC .non) σ H .none := fun H1 _ Q q => q _ H1 (Ex.refl H1) .non
theorem evd_str {x : Str} : EvD (tC (.str x)) σ H (.str x) := fun H1 _ Q q => q _ H1 (Ex.refl H1) (.str x)
theorem evds_nil : EvDs tNil σ H [] := fun H1 _ Q q => q _ H1 (Ex.refl H1) .nil
theorem evds_cons {tr : TA} (h : EvD te σ H d) (hr : EvDs tr σ H ds) : EvDs (tCons te tr) σ H (d :: ds) := fun H1 a Q q =>
  h H1 a _ fun v H2 e2 r2 => hr H2 (a.trans e2) _ fun vs H3 e3 r3 => q _ H3 (e2.trans e3) (.cons (r2.up e3) r3)
theorem evd_tup {ta : TA} (h : EvDs ta σ H ds) (hl : ds.length ≤ 100000 := by exact Nat.le_of_ble_eq_true rfl) : EvD (tTupP ta) σ H (.tuple ds) := fun H1 a Q q =>
  h H1 a _ fun vs H2 e2 r2 => ⟨sz_of (by rw [r2.len]; exact hl), newT r2 fun v H' e r => q _ _ (e2.trans e) r⟩
theorem evn_lst {ta : TA} (h : EvDs ta σ H ds) (hl : ds.length ≤ 100000 := by exact Nat.le_of_ble_eq_true rfl) : EvN (tLst ta) σ H ds := fun H1 a Q q =>
  h H1 a _ fun vs H2 e2 r2 => ⟨sz_of (by rw [r2.len]; exact hl), fun p hp => q _ _ _ (fresh_back e2 hp) (e2.trans (Ex.new hp)) upd_same (r2.up (Ex.new hp))⟩
theorem evd_op {r : R2} (ha : EvD ta σ H d) (hb : EvD tb σ H e) (hr : R2D r d e H f) : EvD (tOp r ta tb) σ H f := fun H1 a Q q =>
  ha H1 a _ fun x H2 e2 rx => hb H2 (a.trans e2) _ fun y H3 e3 ry => hr x y H3 ((a.trans e2).trans e3) (rx.up e3) ry Q fun z H4 e4 rz => q z H4 ((e2.trans e3).trans e4) rz
theorem evd_cb {r : List V → Hp → VK → Prop} {ta : TA} (h : EvDs ta σ H ds) (hr : RCD r ds H d) : EvD (tCB r ta) σ H d := fun H1 a Q q =>
  h H1 a _ fun vs H2 e2 r2 => hr vs H2 (a.trans e2) r2 Q fun v H3 e3 r3 => q v H3 (e2.trans e3) r3
theorem evn_cb {r : List V → Hp → VK → Prop} {ta : TA} (h : EvDs ta σ H ds) (hr : RCN r ds H es) : EvN (tCB r ta) σ H es := fun H1 a Q q =>
  h H1 a _ fun vs H2 e2 r2 => hr vs H2 (a.trans e2) r2 Q fun p xs H3 hp e3 h3 r3 => q p xs H3 (fresh_back e2 hp) (e2.trans e3) h3 r3

/-! ints -/
theorem r2d_I0 {g : Int → Int → V} {i j : Int} (h : ∀ H, Rp H (g i j) f) : R2D (rI0 g) (.int i) (.int j) H f := fun x y H1 _ rx ry Q q => by
  rw [rx.int_inv, ry.int_inv]
  exact ⟨i, j, rfl, rfl, q _ H1 (Ex.refl H1) (h H1)⟩
theorem r2d_I {C : Int → Int → Prop} {g : Int → Int → V} {i j : Int} (hc : C i j) (h : ∀ H, Rp H (g i j) f) : R2D (rI C g) (.int i) (.int j) H f := fun x y H1 _ rx ry Q q => by
  rw [rx.int_inv, ry.int_inv]
  exact ⟨i, j, rfl, rfl, hc, q _ H1 (Ex.refl H1) (h H1)⟩
abbrev rAddI : R2 := rI0 fun i j => .int (i + j)
abbrev rSubI : R2 := rI0 fun i j => .int (i - j)
abbrev rLtI : R2 := rI0 fun i j => .bl (decide (i < j))
abbrev rLeI : R2 := rI0 fun i j => .bl (decide (i ≤ j))
abbrev rGtI : R2 := rI0 fun i j => .bl (decide (j < i))
abbrev rGeI : R2 := rI0 fun i j => .bl (decide (j ≤ i))
theorem evd_add {i j : Int} (ha : EvD ta σ H (.int i)) (hb : EvD tb σ H (.int j)) : EvD (tOp rAddI ta tb) σ H (.int (i + j)) := evd_op ha hb (r2d_I0 fun _ => .int _)
theorem evd_sub {i j : Int} (ha : EvD ta σ H (.int i)) (hb : EvD tb σ H (.int j)) : EvD (tOp rSubI ta tb) σ H (.int (i - j)) := evd_op ha hb (r2d_I0 fun _ => .int _)
theorem evd_lt {i j : Int} (ha : EvD ta σ H (.int i)) (hb : EvD tb σ H (.int j)) : EvD (tOp rLtI ta tb) σ H (.bool (decide (i < j))) := evd_op ha hb (r2d_I0 fun _ => .bl _)
theorem evd_le {i j : Int} (ha : EvD ta σ H (.int i)) (hb : EvD tb σ H (.int j)) : EvD (tOp rLeI ta tb) σ H (.bool (decide (i ≤ j))) := evd_op ha hb (r2d_I0 fun _ => .bl _)
theorem evd_gt {i j : Int} (ha : EvD ta σ H (.int i)) (hb : EvD tb σ H (.int j)) : EvD (tOp rGtI ta tb) σ H (.bool (decide (j < i))) := evd_op ha hb (r2d_I0 fun _ => .bl _)
theorem evd_ge {i j : Int} (ha : EvD ta σ H (.int i)) (hb : EvD tb σ H (.int j)) : EvD (tOp rGeI ta tb) σ H (.bool (decide (j ≤ i))) := evd_op ha hb (r2d_I0 fun _ => .bl _)
theorem evd_eqI {i j : Int} (ha : EvD ta σ H (.int i)) (hb : EvD tb σ H (.int j)) : EvD (tOp rEq ta tb) σ H (.bool (decide (i = j))) := evd_op ha hb fun x y H1 _ rx ry Q q => by
  rw [rx.int_inv, ry.int_inv]
  have : decide (V.int i = V.int j) = decide (i = j) := by
    by_cases h : i = j
    · rw [h, decide_eq_true rfl, decide_eq_true rfl]
    · rw [decide_eq_false h, decide_eq_false (fun z => h (V.int.inj z))]
  exact ⟨rfl, by rw [this]; exact q _ H1 (Ex.refl H1) (.bl _)⟩
theorem evd_neI {i j : Int} (ha : EvD ta σ H (.int i)) (hb : EvD tb σ H (.int j)) : EvD (tOp rNe ta tb) σ H (.bool (!decide (i = j))) := evd_op ha hb fun x y H1 _ rx ry Q q => by
  rw [rx.int_inv, ry.int_inv]
  have : decide (V.int i = V.int j) = decide (i = j) := by
    by_cases h : i = j
    · rw [h, decide_eq_true rfl, decide_eq_true rfl]
    · rw [decide_eq_false h, decide_eq_false (fun z => h (V.int.inj z))]
  exact ⟨rfl, by rw [this]; exact q _ H1 (Ex.refl H1) (.bl _)⟩
theorem evd_neg {i : Int} (ha : EvD ta σ H (.int i)) : EvD (tUn (rU fun i => .int (-i)) ta) σ H (.int (-i)) := fun H1 a Q q => ha H1 a _ fun x H2 e2 rx => by
  rw [rx.int_inv]
  exact ⟨i, rfl, q _ H2 e2 (.int _)⟩

/-! tests -/
theorem evt_test {b : Bool} (h : EvD te σ H (.bool b)) : EvT (tTest te) σ H b := fun H1 a Q q => h H1 a _ fun v H2 e2 r => by
  rw [r.bool_inv]
  exact ⟨b, rfl, q H2 e2⟩
theorem evt_B {b : Bool} (h : EvD te σ H (.bool b)) : EvT (tB te) σ H b := fun H1 a Q q => h H1 a _ fun v H2 e2 r => by
  rw [r.bool_inv]
  exact ⟨b, rfl, q H2 e2⟩
theorem evd_andV {a b : Bool} (h1 : EvD ta σ H (.bool a)) (h2 : a = true → EvD tb σ H (.bool b)) : EvD (tAndV ta tb) σ H (.bool (a && b)) := fun H1 e Q q => h1 H1 e _ fun v H2 e2 r => by
  rw [r.bool_inv]
  refine ⟨a, rfl, ?_⟩
  cases a with
  | true =>
    show tb σ H2 Q
    exact h2 rfl H2 (e.trans e2) Q fun w H3 e3 r3 => q w H3 (e2.trans e3) r3
  | false =>
    show Q (.bl false) H2
    exact q _ H2 e2 (.bl _)
theorem evd_orV {a b : Bool} (h1 : EvD ta σ H (.bool a)) (h2 : a = false → EvD tb σ H (.bool b)) : EvD (tOrV ta tb) σ H (.bool (a || b)) := fun H1 e Q q => h1 H1 e _ fun v H2 e2 r => by
  rw [r.bool_inv]
  refine ⟨a, rfl, ?_⟩
  cases a with
  | true =>
    show Q (.bl true) H2
    exact q _ H2 e2 (.bl _)
  | false =>
    show tb σ H2 Q
    exact h2 rfl H2 (e.trans e2) Q fun w H3 e3 r3 => q w H3 (e2.trans e3) r3
theorem evd_notV {a : Bool} (h1 : EvD ta σ H (.bool a)) : EvD (tNotV ta) σ H (.bool (!a)) := fun H1 e Q q => h1 H1 e _ fun v H2 e2 r => by
  rw [r.bool_inv]
  exact ⟨a, rfl, q _ H2 e2 (.bl _)⟩
theorem evd_if {b : Bool} (h : EvT t σ H b) (h1 : b = true → EvD ta σ H d) (h2 : b = false → EvD tb σ H d) : EvD (tIf t ta tb) σ H d := fun H1 e Q q => h H1 e _ fun H2 e2 => by
  cases b with
  | true =>
    show ta σ H2 Q
    exact h1 rfl H2 (e.trans e2) Q fun w H3 e3 r => q w H3 (e2.trans e3) r
  | false =>
    show tb σ H2 Q
    exact h2 rfl H2 (e.trans e2) Q fun w H3 e3 r => q w H3 (e2.trans e3) r
abbrev rIsN0 : R2 := fun x y H Q => y = .non ∧ Q (.bl (decide (x = .non))) H
abbrev rNotN0 : R2 := fun x y H Q => y = .non ∧ Q (.bl (!decide (x = .non))) H
def isNone : PyData → Bool
  | .none => true
  | _ => false
theorem Rp.isN {v : V} {d : PyData} (r : Rp H v d) : decide (v = V.non) = isNone d := by cases r <;> rfl
theorem evd_notN (h : EvD ta σ H d) : EvD (tOp rNotN0 ta (tC .non)) σ H (.bool (!isNone d)) := fun H1 e Q q => h H1 e _ fun v H2 e2 r => by
  refine ⟨rfl, ?_⟩
  rw [r.isN]
  exact q _ H2 e2 (.bl _)
theorem evd_isN (h : EvD ta σ H d) : EvD (tOp rIsN0 ta (tC .non)) σ H (.bool (isNone d)) := fun H1 e Q q => h H1 e _ fun v H2 e2 r => by
  refine ⟨rfl, ?_⟩
  rw [r.isN]
  exact q _ H2 e2 (.bl _)
end
end K48
/-! More of the same: sequences, calls, targets, statements, loops, comprehensions. -/
namespace K48
open PySem L2 Evl
section
variable {K : PySem.W.Frag} {σ : S} {H H' : Hp} {ta tb tc te tx tl : TE} {t u : TT} {v : V} {d e f : PyData} {ds es fs : List PyData}

/-! ### items, lengths, slices -/
theorem atI_get {α : Type} {xs : List α} {i : Int} {x : α} (h : atI xs i = some x) : ∃ j, ixN xs.length i = some j ∧ xs[j]? = some x := by
  unfold atI at h
  cases q : ixN xs.length i with
  | none => rw [q] at h; cases h
  | some j => rw [q] at h; exact ⟨j, rfl, h⟩
theorem Rps.atI {vs : List V} {i : Int} (r : Rps H vs ds) (h : atI ds i = some d) : ∃ v, L2.atI vs i = some v ∧ Rp H v d := by
  obtain ⟨j, h1, h2⟩ := atI_get h
  obtain ⟨v, h3, h4⟩ := r.get h2
  refine ⟨v, ?_, h4⟩
  unfold L2.atI
  rw [r.len, h1]
  exact h3
theorem evd_ixT {i : Int} (ha : EvD ta σ H (.tuple ds)) (hb : EvD tb σ H (.int i)) (h : atI ds i = some d) : EvD (tOp (rIxT K) ta tb) σ H d := evd_op ha hb fun x y H1 _ rx ry Q q => by
  obtain ⟨a, o, xs, rfl, hx, hn, rs⟩ := rx.tup_inv
  rw [ry.int_inv]
  obtain ⟨v, hv, rv⟩ := rs.atI h
  exact ⟨a, xs, i, v, rfl, rfl, st_tp hx, hv, q v H1 (Ex.refl H1) rv⟩
theorem evd_ixL {i : Int} (ha : EvD ta σ H (.list ds)) (hb : EvD tb σ H (.int i)) (h : atI ds i = some d) : EvD (tOp (rIxL K) ta tb) σ H d := evd_op ha hb fun x y H1 _ rx ry Q q => by
  obtain ⟨a, xs, rfl, hx, rs⟩ := rx.lst_inv
  rw [ry.int_inv]
  obtain ⟨v, hv, rv⟩ := rs.atI h
  exact ⟨a, xs, i, v, rfl, rfl, sq_of hx, hv, q v H1 (Ex.refl H1) rv⟩
abbrev rLenQ (K : PySem.W.Frag) : List V → Hp → VK → Prop := fun xs H Q => ∃ p ys, xs = [.ref p] ∧ (SqL K H p ys ∨ SqT K H p ys) ∧ Q (.int ys.length) H
theorem evd_lenT (ha : EvD ta σ H (.tuple ds)) : EvD (tCB (rLenQ K) (tCons ta tNil)) σ H (.int ds.length) := evd_cb (evds_cons ha evds_nil) fun vs H1 _ r Q q => by
  cases r with
  | cons r1 r2 =>
    cases r2
    obtain ⟨a, o, xs, rfl, hx, hn, rs⟩ := r1.tup_inv
    exact ⟨a, xs, rfl, .inr (st_tp hx), by rw [rs.len]; exact q _ H1 (Ex.refl H1) (.int _)⟩
theorem evd_lenL (ha : EvD ta σ H (.list ds)) : EvD (tCB (rLenQ K) (tCons ta tNil)) σ H (.int ds.length) := evd_cb (evds_cons ha evds_nil) fun vs H1 _ r Q q => by
  cases r with
  | cons r1 r2 =>
    cases r2
    obtain ⟨a, xs, rfl, hx, rs⟩ := r1.lst_inv
    exact ⟨a, xs, rfl, .inl (sq_of hx), by rw [rs.len]; exact q _ H1 (Ex.refl H1) (.int _)⟩
/-- a slice -/
def cutD {α : Type} (xs : List α) (lo hi : Option Int) : List α := (xs.drop (HT.sIx xs.length 0 lo)).take (HT.sIx xs.length xs.length hi - HT.sIx xs.length 0 lo)
theorem Rps.cut {vs : List V} (r : Rps H vs ds) (lo hi : Option Int) : Rps H (cutV vs lo hi) (cutD ds lo hi) := by
  unfold cutV cutD
  rw [r.len]
  exact (r.drop _).take _
theorem cut_whole {α : Type} {xs : List α} {lo hi : Option Int} (h : HT.sIx xs.length 0 lo = 0 ∧ HT.sIx xs.length xs.length hi = xs.length) : cutD xs lo hi = xs := by
  unfold cutD
  rw [h.1, h.2, List.drop_zero, Nat.sub_zero, List.take_length]
def EvdO (to : TO) (σ : S) (H : Hp) (o : Option Int) : Prop := ∀ H1, Ex H H1 → ∀ Q : Option Int → Hp → Prop, (∀ H2, Ex H1 H2 → Q o H2) → to σ H1 Q
theorem evdo_none : EvdO tNoPart σ H none := fun H1 _ _ q => q H1 (Ex.refl H1)
theorem evdo_some {i : Int} (h : EvD te σ H (.int i)) : EvdO (tPart te) σ H (some i) := fun H1 a _ q => h H1 a _ fun v H2 e2 r => ⟨i, r.int_inv, q H2 e2⟩
theorem evd_slT {tl th : TO} {lo hi : Option Int} (h : EvD te σ H (.tuple ds)) (h1 : EvdO tl σ H lo) (h2 : EvdO th σ H hi) : EvD (tSl (rSlP K) te tl th) σ H (.tuple (cutD ds lo hi)) := fun H1 a Q q =>
  h H1 a _ fun v H2 e2 r => h1 H2 (a.trans e2) _ fun H3 e3 => h2 H3 ((a.trans e2).trans e3) _ fun H4 e4 => by
    obtain ⟨p, o, xs, rfl, hp, hn, rs⟩ := r.tup_inv
    have hp4 := e4 _ _ (e3 _ _ hp)
    have rs4 := (rs.up e3).up e4
    refine ⟨p, xs, rfl, st_tp hp4, fun hw => ?_, fun hw => ?_⟩
    · refine q _ H4 ((e2.trans e3).trans e4) ?_
      rw [cut_whole (by rw [← rs.len]; exact hw)]
      exact .tup hp4 hn rs4
    · exact newT (rs4.cut lo hi) (fun v H' e r => q _ _ (((e2.trans e3).trans e4).trans e) r)
theorem evn_slL {tl th : TO} {lo hi : Option Int} (h : EvD te σ H (.list ds)) (h1 : EvdO tl σ H lo) (h2 : EvdO th σ H hi) : EvN (tSl (rSlL K) te tl th) σ H (cutD ds lo hi) := fun H1 a Q q =>
  h H1 a _ fun v H2 e2 r => h1 H2 (a.trans e2) _ fun H3 e3 => h2 H3 ((a.trans e2).trans e3) _ fun H4 e4 => by
    obtain ⟨p, xs, rfl, hp, rs⟩ := r.lst_inv
    have hp4 := e4 _ _ (e3 _ _ hp)
    have rs4 := (rs.up e3).up e4
    refine ⟨p, xs, rfl, sq_of hp4, fun p' hp' => ?_⟩
    exact q _ _ _ (fresh_back ((e2.trans e3).trans e4) hp') (((e2.trans e3).trans e4).trans (Ex.new hp')) upd_same ((rs4.up (Ex.new hp')).cut lo hi)
/-- joins -/
theorem evd_catT (ha : EvD ta σ H (.tuple ds)) (hb : EvD tb σ H (.tuple es)) (hz : ds.length + es.length ≤ 1000000 := by exact Nat.le_of_ble_eq_true rfl) : EvD (tOp (rCatP K) ta tb) σ H (.tuple (ds ++ es)) := evd_op ha hb fun x y H1 _ rx ry Q q => by
  obtain ⟨a, o, xs, rfl, hx, hn, rs⟩ := rx.tup_inv
  obtain ⟨b, o2, ys, rfl, hy, hn2, rt⟩ := ry.tup_inv
  refine ⟨a, b, xs, ys, rfl, rfl, st_tp hx, st_tp hy, ?_, fun z => ?_, fun _ z => ?_, fun _ _ => ?_⟩
  · rw [rs.len, rt.len, sizeLine_eq]
    omega
  · have e1 := rs.len
    rw [z] at e1
    have e2 : ds = [] := List.eq_nil_of_length_eq_zero e1.symm
    refine q _ H1 (Ex.refl H1) ?_
    rw [e2, List.nil_append]
    exact .tup hy hn2 rt
  · have e1 := rt.len
    rw [z] at e1
    have e2 : es = [] := List.eq_nil_of_length_eq_zero e1.symm
    refine q _ H1 (Ex.refl H1) ?_
    rw [e2, List.append_nil]
    exact .tup hx hn rs
  · exact newT (rs.append rt) q
theorem evn_catL (ha : EvD ta σ H (.list ds)) (hb : EvD tb σ H (.list es)) (hz : ds.length + es.length ≤ 1000000 := by exact Nat.le_of_ble_eq_true rfl) : EvN (tOp rCat ta tb) σ H (ds ++ es) := fun H1 a Q q =>
  ha H1 a _ fun x H2 e2 rx => hb H2 (a.trans e2) _ fun y H3 e3 ry => by
    obtain ⟨p, xs, rfl, hx, rs⟩ := (rx.up e3).lst_inv
    obtain ⟨b, ys, rfl, hy, rt⟩ := ry.lst_inv
    refine ⟨p, b, xs, ys, rfl, rfl, hx, hy, ?_, fun p' hp' => ?_⟩
    · rw [rs.len, rt.len, sizeLine_eq]
      omega
    · exact q _ _ _ (fresh_back (e2.trans e3) hp') ((e2.trans e3).trans (Ex.new hp')) upd_same ((rs.up (Ex.new hp')).append (rt.up (Ex.new hp')))
theorem evd_tupL (ha : EvD ta σ H (.list ds)) : EvD (tCB (rTupOfP K) (tCons ta tNil)) σ H (.tuple ds) := evd_cb (evds_cons ha evds_nil) fun vs H1 _ r Q q => by
  cases r with
  | cons r1 r2 =>
    cases r2
    obtain ⟨a, xs, rfl, hx, rs⟩ := r1.lst_inv
    exact ⟨a, xs, rfl, .inl ⟨sq_of hx, newT rs q⟩⟩
theorem evd_tupT (ha : EvD ta σ H (.tuple ds)) : EvD (tCB (rTupOfP K) (tCons ta tNil)) σ H (.tuple ds) := evd_cb (evds_cons ha evds_nil) fun vs H1 _ r Q q => by
  cases r with
  | cons r1 r2 =>
    cases r2
    obtain ⟨a, o, xs, rfl, hx, hn, rs⟩ := r1.tup_inv
    exact ⟨a, xs, rfl, .inr ⟨st_tp hx, q _ H1 (Ex.refl H1) (.tup hx hn rs)⟩⟩
abbrev rLstOf (K : PySem.W.Frag) : List V → Hp → VK → Prop := fun xs H Q => ∃ p ys, xs = [.ref p] ∧ (SqL K H p ys ∨ SqT K H p ys) ∧ ∀ l, H l = none → Q (.ref l) (upd H l (.lst ys))
theorem evn_lstT (ha : EvD ta σ H (.tuple ds)) : EvN (tCB (rLstOf K) (tCons ta tNil)) σ H ds := evn_cb (evds_cons ha evds_nil) fun vs H1 _ r Q q => by
  cases r with
  | cons r1 r2 =>
    cases r2
    obtain ⟨a, o, xs, rfl, hx, hn, rs⟩ := r1.tup_inv
    exact ⟨a, xs, rfl, .inr (st_tp hx), fun l hl => q _ _ _ hl (Ex.new hl) upd_same (rs.up (Ex.new hl))⟩

/-! ### equality, in -/
theorem evd_eqD (ha : EvD ta σ H d) (hb : EvD tb σ H e) (sd : SeqAt.shaped d = true) (se : SeqAt.shaped e = true) : EvD (tOp (rEqD K) ta tb) σ H (.bool (PyData.eqv d e)) := evd_op ha hb fun x y H1 _ rx ry Q q =>
  ⟨d, e, rx.dp d, ry.dp e, sd, se, q _ H1 (Ex.refl H1) (.bl _)⟩
theorem evd_neD (ha : EvD ta σ H d) (hb : EvD tb σ H e) (sd : SeqAt.shaped d = true) (se : SeqAt.shaped e = true) : EvD (tOp (rNeD K) ta tb) σ H (.bool (!PyData.eqv d e)) := evd_op ha hb fun x y H1 _ rx ry Q q =>
  ⟨d, e, rx.dp d, ry.dp e, sd, se, q _ H1 (Ex.refl H1) (.bl _)⟩
theorem evd_inD (ha : EvD ta σ H d) (hb : EvD tb σ H (.list es)) (sd : SeqAt.shaped d = true) (se : SeqAt.shaped (.list es) = true) : EvD (tOp (rInD K) ta tb) σ H (.bool (es.any fun z => PyData.eqv z d)) := evd_op ha hb fun x y H1 _ rx ry Q q =>
  ⟨d, es, rx.dp d, ry.dp _, sd, se, q _ H1 (Ex.refl H1) (.bl _)⟩
theorem evd_niD (ha : EvD ta σ H d) (hb : EvD tb σ H (.list es)) (sd : SeqAt.shaped d = true) (se : SeqAt.shaped (.list es) = true) : EvD (tOp (rNotInD K) ta tb) σ H (.bool (!es.any fun z => PyData.eqv z d)) := evd_op ha hb fun x y H1 _ rx ry Q q =>
  ⟨d, es, rx.dp d, ry.dp _, sd, se, q _ H1 (Ex.refl H1) (.bl _)⟩
/-- flat data -/
def flatD : PyData → Bool
  | .none => true
  | .bool _ => true
  | .int _ => true
  | .str _ => true
  | _ => false
theorem Rp.flat {v : V} (r : Rp H v d) (h : flatD d = true) : flatV v = true := by
  cases r with
  | lst _ _ => cases h
  | tup _ _ _ => cases h
  | _ => rfl
theorem Rps.flat : ∀ {vs : List V} {ds : List PyData}, Rps H vs ds → (∀ d ∈ ds, flatD d = true) → vs.all flatV = true
  | _, _, .nil, _ => rfl
  | _, _, .cons r t, h => by
    rw [List.all_cons, r.flat (h _ (List.mem_cons_self ..)), Rps.flat t fun d hd => h d (List.mem_cons_of_mem _ hd)]
    rfl
theorem eqV_eqv {x y : V} (rx : Rp H x d) (ry : Rp H y e) (h : flatD d = true) : eqV x y = PyData.eqv d e := by
  cases rx with
  | lst _ _ => cases h
  | tup _ _ _ => cases h
  | non => cases ry <;> rfl
  | bl b => cases ry <;> rfl
  | int i => cases ry <;> rfl
  | str z =>
    cases ry with
    | str w =>
      show _ = (z == w)
      simp [eqV]
    | _ => rfl
theorem inV_any {x : V} (rx : Rp H x e) : ∀ {vs : List V} {ds : List PyData}, Rps H vs ds → (∀ d ∈ ds, flatD d = true) → inV x vs = ds.any fun z => PyData.eqv z e
  | _, _, .nil, _ => rfl
  | _, _, .cons r t, h => by
    have ih := inV_any rx t fun d hd => h d (List.mem_cons_of_mem _ hd)
    unfold inV at ih ⊢
    rw [List.any_cons, List.any_cons, ih, eqV_eqv r rx (h _ (List.mem_cons_self ..))]
theorem evd_inT {neg : Bool} (ha : EvD ta σ H d) (hb : EvD tb σ H (.tuple es)) (fd : flatD d = true) (fe : ∀ z ∈ es, flatD z = true) : EvD (tOp (rIn K neg) ta tb) σ H (.bool (if neg then !(es.any fun z => PyData.eqv z d) else es.any fun z => PyData.eqv z d)) :=
  evd_op ha hb fun x y H1 _ rx ry Q q => by
    obtain ⟨b, o2, ys, rfl, hy, hn2, rt⟩ := ry.tup_inv
    refine ⟨b, ys, rfl, .inr (st_tp hy), rx.flat fd, rt.flat fe, ?_⟩
    rw [inV_any rx rt fe]
    exact q _ H1 (Ex.refl H1) (.bl _)
theorem evd_inL {neg : Bool} (ha : EvD ta σ H d) (hb : EvD tb σ H (.list es)) (fd : flatD d = true) (fe : ∀ z ∈ es, flatD z = true) : EvD (tOp (rIn K neg) ta tb) σ H (.bool (if neg then !(es.any fun z => PyData.eqv z d) else es.any fun z => PyData.eqv z d)) :=
  evd_op ha hb fun x y H1 _ rx ry Q q => by
    obtain ⟨b, ys, rfl, hy, rt⟩ := ry.lst_inv
    refine ⟨b, ys, rfl, .inl (sq_of hy), rx.flat fd, rt.flat fe, ?_⟩
    rw [inV_any rx rt fe]
    exact q _ H1 (Ex.refl H1) (.bl _)

/-! ### isinstance -/
/-- a value's class by its data -/
def tyD : PyData → String
  | .none => "NoneType"
  | .bool _ => "bool"
  | .int _ => "int"
  | .str _ => "str"
  | .list _ => "list"
  | .tuple _ => "tuple"
  | .dict _ => "dict"
theorem Rp.tyX {v : V} (r : Rp H v d) : TyX K H v (.type (tyD d)) := by
  cases r with
  | non => exact .base .non
  | bl b => exact .base (.bl b)
  | int i => exact .base (.int i)
  | str x => exact .base (.str x)
  | lst h _ => exact .base (.lst h)
  | tup h _ _ => exact .fTuple h
theorem evd_isi {T : String} {b : Bool} (h : EvD te σ H d) (hb : kitB (tyD d) T = some b) : EvD (tCB (rIsi K) (tCons te (tCons (tC (.ty T)) tNil))) σ H (.bool b) := fun H1 a Q q =>
  h H1 a _ fun v H2 e2 r => ⟨v, .ty T, _, .type T, b, rfl, .ty T, r.tyX, kit_ty hb, q _ H2 e2 (.bl b)⟩
theorem evd_isi2 {T U : String} {b : Bool} (h : EvD te σ H d) (hb : ∀ K : PySem.W.Frag, PySem.W.kitAny K (.type (tyD d)) [.type T, .type U] = some b) : EvD (tCB (rIsiT K) (tCons te (tCons (tTup (tCons (tC (.ty T)) (tCons (tC (.ty U)) tNil))) tNil))) σ H (.bool b) := fun H1 a Q q =>
  h H1 a _ fun v H2 e2 r => ⟨by show 2 ≤ sizeLine; decide, fun p hp =>
    ⟨v, p, [.ty T, .ty U], _, [.type T, .type U], b, rfl, upd_same, .cons (.ty T) (.cons (.ty U) .nil), (r.up (Ex.new hp)).tyX, hb K, q _ _ (e2.trans (Ex.new hp)) (.bl b)⟩⟩

/-! ### calls of defs -/
/-- from data to data: whatever the promise says of E -/
def SpD (sp : Sp) (E : XK) (ds : List PyData) (H : Hp) (d : PyData) : Prop := ∀ vs H1, Ex H H1 → Rps H1 vs ds → ∀ Q : VK, (∀ v H2, Ex H1 H2 → Rp H2 v d → Q v H2) → sp vs H1 Q E
def SpN (sp : Sp) (E : XK) (ds : List PyData) (H : Hp) (es : List PyData) : Prop := ∀ vs H1, Ex H H1 → Rps H1 vs ds → ∀ Q : VK, (∀ p xs H2, H1 p = none → Ex H1 H2 → H2 p = some (.lst xs) → Rps H2 xs es → Q (.ref p) H2) → sp vs H1 Q E
theorem evd_call {sp : Sp} {E : XK} {ta : TA} (h : EvDs ta σ H ds) (hs : SpD sp E ds H d) : EvD (tCall sp [] E ta) σ H d := fun H1 a Q q =>
  h H1 a _ fun vs H2 e2 r2 => by
    show sp (vs ++ []) H2 Q E
    rw [List.append_nil]
    exact hs vs H2 (a.trans e2) r2 Q fun v H3 e3 r3 => q v H3 (e2.trans e3) r3
theorem evn_call {sp : Sp} {E : XK} {ta : TA} (h : EvDs ta σ H ds) (hs : SpN sp E ds H es) : EvN (tCall sp [] E ta) σ H es := fun H1 a Q q =>
  h H1 a _ fun vs H2 e2 r2 => by
    show sp (vs ++ []) H2 Q E
    rw [List.append_nil]
    exact hs vs H2 (a.trans e2) r2 Q fun p xs H3 hp e3 h3 r3 => q p xs H3 (fresh_back e2 hp) (e2.trans e3) h3 r3
/-- the promise of a def that makes data of data -/
def spD (R : List PyData → PyData → Prop) : Sp := fun vs H Q _ => ∃ ds d, Rps H vs ds ∧ R ds d ∧ ∀ v H', Ex H H' → Rp H' v d → Q v H'
/-- .. a new list -/
def spN (R : List PyData → List PyData → Prop) : Sp := fun vs H Q _ => ∃ ds es, Rps H vs ds ∧ R ds es ∧ ∀ p xs H', H p = none → Ex H H' → H' p = some (.lst xs) → Rps H' xs es → Q (.ref p) H'
theorem spD_d {R : List PyData → PyData → Prop} {E : XK} (h : R ds d) : SpD (spD R) E ds H d := fun _ _ _ r _ q => ⟨ds, d, r, h, q⟩
theorem spN_n {R : List PyData → List PyData → Prop} {E : XK} (h : R ds es) : SpN (spN R) E ds H es := fun _ _ _ r _ q => ⟨ds, es, r, h, q⟩

/-! ### targets -/
theorem g_two {i j : Nat} {σ' : S} {d1 d2 : PyData} {Q : S → Hp → Prop} (r : Rp H v (.tuple [d1, d2])) (q : ∀ v1 v2, Rp H v1 d1 → Rp H v2 d2 → Q ((σ'.set i (some v1)).set j (some v2)) H) :
    gTup K 2 (gCons (gName i) (gCons (gName j) gNil)) v σ' H Q := by
  obtain ⟨a, o, xs, rfl, hx, hn, rs⟩ := r.tup_inv
  cases rs with
  | cons r1 rs => cases rs with
    | cons r2 rs => cases rs; exact ⟨a, _, rfl, st_tp hx, rfl, _, _, rfl, _, _, rfl, rfl, q _ _ r1 r2⟩
theorem g_three {i j k : Nat} {σ' : S} {d1 d2 d3 : PyData} {Q : S → Hp → Prop} (r : Rp H v (.tuple [d1, d2, d3])) (q : ∀ v1 v2 v3, Rp H v1 d1 → Rp H v2 d2 → Rp H v3 d3 → Q (((σ'.set i (some v1)).set j (some v2)).set k (some v3)) H) :
    gTup K 3 (gCons (gName i) (gCons (gName j) (gCons (gName k) gNil))) v σ' H Q := by
  obtain ⟨a, o, xs, rfl, hx, hn, rs⟩ := r.tup_inv
  cases rs with
  | cons r1 rs => cases rs with
    | cons r2 rs => cases rs with
      | cons r3 rs => cases rs; exact ⟨a, _, rfl, st_tp hx, rfl, _, _, rfl, _, _, rfl, _, _, rfl, rfl, q _ _ _ r1 r2 r3⟩
theorem g_four {i j k l : Nat} {σ' : S} {d1 d2 d3 d4 : PyData} {Q : S → Hp → Prop} (r : Rp H v (.tuple [d1, d2, d3, d4])) (q : ∀ v1 v2 v3 v4, Rp H v1 d1 → Rp H v2 d2 → Rp H v3 d3 → Rp H v4 d4 → Q ((((σ'.set i (some v1)).set j (some v2)).set k (some v3)).set l (some v4)) H) :
    gTup K 4 (gCons (gName i) (gCons (gName j) (gCons (gName k) (gCons (gName l) gNil)))) v σ' H Q := by
  obtain ⟨a, o, xs, rfl, hx, hn, rs⟩ := r.tup_inv
  cases rs with
  | cons r1 rs => cases rs with
    | cons r2 rs => cases rs with
      | cons r3 rs => cases rs with
        | cons r4 rs => cases rs; exact ⟨a, _, rfl, st_tp hx, rfl, _, _, rfl, _, _, rfl, _, _, rfl, _, _, rfl, rfl, q _ _ _ _ r1 r2 r3 r4⟩

/-! ### statements -/
variable {D : Ends} {g : TG} {tu tw tz : TS}
theorem d_asg {i : Nat} (h : EvD te σ H d) (k : ∀ v H1, Ex H H1 → Rp H1 v d → D.nx (σ.set i (some v)) H1) : tAsg te (gName i) D σ H := h H (Ex.refl H) _ k
theorem d_asgN {i : Nat} (h : EvN te σ H ds) (k : ∀ p xs H1, H p = none → Ex H H1 → H1 p = some (.lst xs) → Rps H1 xs ds → D.nx (σ.set i (some (.ref p))) H1) : tAsg te (gName i) D σ H := h H (Ex.refl H) _ k
theorem d_asgG (h : EvD te σ H d) (k : ∀ v H1, Ex H H1 → Rp H1 v d → g v σ H1 D.nx) : tAsg te g D σ H := h H (Ex.refl H) _ k
theorem d_seq (h : tu { D with nx := tz D } σ H) : tSeq tu tz D σ H := h
theorem d_ret (h : EvD te σ H d) (k : ∀ v H1, Ex H H1 → Rp H1 v d → D.rt v H1) : tRet te D σ H := h H (Ex.refl H) _ k
theorem d_retN (h : EvN te σ H ds) (k : ∀ p xs H1, H p = none → Ex H H1 → H1 p = some (.lst xs) → Rps H1 xs ds → D.rt (.ref p) H1) : tRet te D σ H := h H (Ex.refl H) _ k
theorem d_aug {i : Nat} {f : Int → Int → Int} {a b : Int} (hx : σ[i]? = some (some (.int a))) (h : EvD te σ H (.int b)) (k : ∀ H1, Ex H H1 → D.nx (σ.set i (some (.int (f a b)))) H1) : tAug i te (ipI f) D σ H :=
  ⟨.int a, hx, h H (Ex.refl H) _ fun v H1 e r => ⟨a, b, rfl, r.int_inv, k H1 e⟩⟩
/-- xs.append(e) -/
theorem d_app {l : Addr} {xs : List V} (hl : H l = some (.lst xs)) (ha : Ev ta σ H (.ref l)) (h : EvD te σ H d) (hz : xs.length < 1000000) (k : ∀ v H1, Ex H H1 → Rp H1 v d → D.nx σ (upd H1 l (.lst (xs ++ [v])))) :
    tDrop (tBM K "list" rAppend ta (tCons te tNil)) D σ H := ha H (Ex.refl H) _ fun H1 e1 =>
  ⟨.inl ⟨rfl, xs, sq_of (e1 l _ hl)⟩, h H1 e1 _ fun v H2 e2 r => ⟨l, xs, v, rfl, rfl, e2 l _ (e1 l _ hl), by rw [sizeLine_eq]; omega, k v H2 (e1.trans e2) r⟩⟩
/-- xs.extend(e), e a list -/
theorem d_ext {l : Addr} {xs : List V} (hl : H l = some (.lst xs)) (ha : Ev ta σ H (.ref l)) (h : EvD te σ H (.list ds)) (hz : xs.length + ds.length < 1000000) (k : ∀ ys H1, Ex H H1 → Rps H1 ys ds → D.nx σ (upd H1 l (.lst (xs ++ ys)))) :
    tDrop (tBM K "list" rExtend ta (tCons te tNil)) D σ H := ha H (Ex.refl H) _ fun H1 e1 =>
  ⟨.inl ⟨rfl, xs, sq_of (e1 l _ hl)⟩, h H1 e1 _ fun v H2 e2 r => by
    obtain ⟨b, ys, rfl, hb, rs⟩ := r.lst_inv
    exact ⟨l, b, xs, ys, rfl, rfl, e2 l _ (e1 l _ hl), hb, by rw [rs.len, sizeLine_eq]; omega, k ys H2 (e1.trans e2) rs⟩⟩
theorem ev_slot {i : Nat} {v : V} (h : σ[i]? = some (some v)) : Ev (tVar i) σ H v := ev_var h

end
end K48
/-! Loops and comprehensions over data. -/
namespace K48
open PySem L2 Evl
/-- all but these addresses stay -/
def But (ls : List Addr) (H H' : Hp) : Prop := ∀ a o, a ∉ ls → H a = some o → H' a = some o
section
variable {H H1 H' : Hp} {ls : List Addr}
theorem But.refl : But ls H H := fun _ _ _ h => h
theorem But.trans (a : But ls H H1) (b : But ls H1 H') : But ls H H' := fun x o n h => b x o n (a x o n h)
theorem But.ex (e : Ex H H') : But ls H H' := fun a o _ h => e a o h
theorem But.upd {l : Addr} {o : HO} (h : l ∈ ls) : But ls H (L2.upd H l o) := fun a u n e => by
  have q : a ≠ l := fun q => n (by rw [q]; exact h)
  rw [upd_ne q]
  exact e
theorem But.go {a : Addr} {o : HO} (b : But ls H H') (n : a ∉ ls) (h : H a = some o) : H' a = some o := b a o n h
/-- what may be changed is no tuple -/
def NoT (ls : List Addr) (H : Hp) : Prop := ∀ l ∈ ls, ∀ o xs, H l ≠ some (tp o xs)
theorem But.tk (b : But ls H H') (n : NoT ls H) : Tk H H' := fun a o xs h => b a _ (fun q => n a q o xs h) h
theorem noT_one {l : Addr} {xs : List V} (h : H l = some (.lst xs)) : NoT [l] H := fun a ha o ys e => by
  rw [List.mem_singleton.mp ha, h] at e
  cases e
/-- nothing that was there before -/
theorem But.to_ex (b : But ls H H') (n : ∀ l ∈ ls, H l = none) : Ex H H' := fun a o h => b a o (fun q => by rw [n a q] at h; cases h) h
/-- behind an extension in which l is new, l alone may have changed -/
theorem _root_.Evl.Ex.trans_but {H2 : Hp} {l : Addr} (e : Ex H H1) (b : But [l] H1 H2) (h : H l = none) : Ex H H2 := fun a o ha => b a o (by
  rw [List.mem_singleton]
  rintro rfl
  rw [h] at ha
  cases ha) (e a o ha)
theorem tup_ne {a l : Addr} {o : Obj} {xs ys : List V} (h : H a = some (tp o xs)) (h2 : H l = some (.lst ys)) : a ≠ l := ne_of h h2 (by intro z; cases z)
end
section
variable {K : PySem.W.Frag} {σ : S} {H H' : Hp} {ta tb tc te tx tl : TE} {t u tt : TT} {v : V} {d e f : PyData} {ds es fs : List PyData} {D : Ends} {g : TG} {tu tw tz : TS}

/-! ### for -/
theorem d_forN (h : EvN tl σ H ds) (k : ∀ p xs H1, H p = none → Ex H H1 → H1 p = some (.lst xs) → Rps H1 xs ds → ∃ Pv : Nat → S → Hp → Prop, Pv 0 σ H1 ∧ (∀ i σ' H', Pv i σ' H' → H' p = some (.lst xs)) ∧
    (∀ i v σ' H', xs[i]? = some v → Pv i σ' H' → g v σ' H' fun σ2 H2 => tu { D with nx := Pv (i + 1), ct := Pv (i + 1), bk := D.nx } σ2 H2) ∧ ∀ σ' H', Pv xs.length σ' H' → D.nx σ' H') : tFor (iList K tl) g tu D σ H :=
  h H (Ex.refl H) _ fun p xs H1 hp e h1 r => by
    obtain ⟨Pv, h0, hl, hs, hd⟩ := k p xs H1 hp e h1 r
    exact ⟨p, rfl, ⟨xs, sq_of h1⟩, for_list (xs := xs) Pv h0 (fun i σ' H' _ q => sq_of (hl i σ' H' q)) (fun i x σ' H' hx q => hs i x σ' H' hx q) hd⟩
theorem d_forR1 {ta : TA} {j : Nat} {n : Int} (h : EvDs ta σ H [.int n]) (hn : 0 ≤ n ∧ n ≤ 1000000) (Pv : Nat → S → Hp → Prop) (h0 : ∀ H1, Ex H H1 → Pv 0 σ H1)
    (hs : ∀ (i : Nat) σ' H', (i : Int) < n → Pv i σ' H' → tu { D with nx := Pv (i + 1), ct := Pv (i + 1), bk := D.nx } (σ'.set j (some (.int (i : Int)))) H') (hd : ∀ σ' H', Pv n.toNat σ' H' → D.nx σ' H') : tFor (iRng1 ta) (gName j) tu D σ H :=
  h H (Ex.refl H) _ fun vs H1 e r => by
    cases r with
    | cons r1 r2 =>
      cases r2
      rw [r1.int_inv]
      refine ⟨n, rfl, by omega, by omega, for_range (lo := 0) (n := n.toNat) Pv (h0 H1 e) (fun i σ' H' hi p => ?_) hd⟩
      have e0 : (0 : Int) + (i : Int) = (i : Int) := Int.zero_add _
      show tu { D with nx := Pv (i + 1), ct := Pv (i + 1), bk := D.nx } (σ'.set j (some (.int ((0 : Int) + (i : Int))))) H'
      rw [e0]
      exact hs i σ' H' (by omega) p
/-- for x in a list that stands -/
theorem d_forL {p : Addr} {xs : List V} (h : Ev tl σ H (.ref p)) (hp : H p = some (.lst xs)) (Pv : Nat → S → Hp → Prop) (h0 : ∀ H1, Ex H H1 → Pv 0 σ H1) (hl : ∀ i σ' H', Pv i σ' H' → H' p = some (.lst xs))
    (hs : ∀ i v σ' H', xs[i]? = some v → Pv i σ' H' → g v σ' H' fun σ2 H2 => tu { D with nx := Pv (i + 1), ct := Pv (i + 1), bk := D.nx } σ2 H2) (hd : ∀ σ' H', Pv xs.length σ' H' → D.nx σ' H') : tFor (iList K tl) g tu D σ H :=
  s_forL h (sq_of hp) Pv h0 (fun i σ' H' _ q => sq_of (hl i σ' H' q)) hs hd
/-- for x in a tuple -/
theorem d_forT {p : Addr} {xs : List V} (h : Ev tl σ H (.ref p)) (o : Obj) (hp : H p = some (tp o xs)) (Pv : Nat → S → Hp → Prop) (h0 : ∀ H1, Ex H H1 → Pv 0 σ H1) (hl : ∀ i σ' H', Pv i σ' H' → H' p = some (tp o xs))
    (hs : ∀ i v σ' H', xs[i]? = some v → Pv i σ' H' → g v σ' H' fun σ2 H2 => tu { D with nx := Pv (i + 1), ct := Pv (i + 1), bk := D.nx } σ2 H2) (hd : ∀ σ' H', Pv xs.length σ' H' → D.nx σ' H') : tFor (iTup K tl) g tu D σ H :=
  s_forT h (st_tp hp) Pv h0 (fun i σ' H' _ q => st_tp (hl i σ' H' q)) hs hd
/-- while: a word with a measure -/
theorem d_while (W : Nat → S → Hp → Prop) (m0 : Nat) (h0 : W m0 σ H)
    (hs : ∀ m σ' H', W m σ' H' → ∃ b, EvT t σ' H' b ∧ (b = true → ∀ H1, Ex H' H1 → ∃ N : S → Hp → Prop, (∀ σ2 H2, N σ2 H2 → ∃ m', m' < m ∧ W m' σ2 H2) ∧ tu { D with nx := N, ct := N, bk := D.nx } σ' H1) ∧ (b = false → ∀ H1, Ex H' H1 → D.nx σ' H1)) : tWhile t tu D σ H := s_while W m0 h0 hs
theorem d_if {b : Bool} (h : EvT t σ H b) (h1 : b = true → ∀ H1, Ex H H1 → tu D σ H1) (h2 : b = false → ∀ H1, Ex H H1 → tw D σ H1) : tIfS t tu tw D σ H := s_if h h1 h2
theorem d_when {b : Bool} (h : EvT t σ H b) (h1 : b = true → ∀ H1, Ex H H1 → tu D σ H1) (h2 : b = false → ∀ H1, Ex H H1 → D.nx σ H1) : tIfS t tu tNext D σ H := s_if h h1 h2

/-! ### comprehensions -/
/-- the turn of a comprehension whose parts leave all that stands -/
theorem lc_turn {G HD : Hp} {Dl : Addr} {σ2 : S} {p : PyData → Bool} {f : PyData → PyData} {i : Nat} {d : PyData} {acc : List V} (hG : G Dl = none) (hD : HD Dl = some (.lst acc)) (hE : Ex G HD) (hr : Rps HD acc (((ds.take i).filter p).map f)) (hi : ds[i]? = some d) (hz : ds.length ≤ 1000000)
    (ht : EvT t σ2 HD (p d)) (he : p d = true → EvD te σ2 HD (f d)) (hf : ∀ d ∈ ds, p d = true → tupD (f d) = true) :
    t σ2 HD fun b H3 => if b = true then te σ2 H3 fun y H4 => ∃ acc, H4 Dl = some (.lst acc) ∧ acc.length < sizeLine ∧ (∃ acc', L2.upd H4 Dl (.lst (acc ++ [y])) Dl = some (.lst acc') ∧ Ex G (L2.upd H4 Dl (.lst (acc ++ [y]))) ∧ Rps (L2.upd H4 Dl (.lst (acc ++ [y]))) acc' (((ds.take (i + 1)).filter p).map f))
      else ∃ acc', H3 Dl = some (.lst acc') ∧ Ex G H3 ∧ Rps H3 acc' (((ds.take (i + 1)).filter p).map f) := by
  have htk : ds.take (i + 1) = ds.take i ++ [d] := by rw [List.take_add_one, hi]; rfl
  have hall : tupDs (((ds.take i).filter p).map f) = true := by
    rw [tupDs_iff]
    intro x hx
    obtain ⟨y, hy, rfl⟩ := List.mem_map.mp hx
    obtain ⟨h1, h2⟩ := List.mem_filter.mp hy
    exact hf y (List.mem_of_mem_take h1) h2
  have hlen : acc.length ≤ ds.length := by
    rw [hr.len, List.length_map]
    refine Nat.le_trans (List.length_filter_le _ _) ?_
    rw [List.length_take]
    omega
  refine ht HD (Ex.refl _) _ fun H3 e3 => ?_
  cases hp : p d with
  | true =>
    show te σ2 H3 _
    refine he hp H3 e3 _ fun y H4 e4 r4 => ?_
    have h4 : H4 Dl = some (.lst acc) := e4 _ _ (e3 _ _ hD)
    refine ⟨acc, h4, by rw [sizeLine_eq]; omega, _, upd_same, Ex.mut ((hE.trans e3).trans e4) hG, ?_⟩
    have tk := Tk.upd (o := .lst (acc ++ [y])) h4
    rw [htk, List.filter_append, List.map_append, List.filter_cons_of_pos hp]
    refine Rps.append (Rps.tk tk _ hall ((hr.up e3).up e4)) (.cons (Rp.tk tk _ (hf d (List.mem_of_getElem? hi) hp) r4) .nil)
  | false =>
    show ∃ acc', _
    refine ⟨acc, e3 _ _ hD, hE.trans e3, ?_⟩
    rw [htk, List.filter_append, List.filter_cons_of_neg (by rw [hp]; decide)]
    show Rps H3 acc ((List.filter p (List.take i ds) ++ []).map f)
    rw [List.append_nil]
    exact hr.up e3
/-- over a tuple, the target as it comes -/
theorem evn_lcTg {vs : List Nat} (p : PyData → Bool) (f : PyData → PyData) (h : EvD tl σ H (.tuple ds)) (hz : ds.length ≤ 1000000) (hf : ∀ d ∈ ds, p d = true → tupD (f d) = true)
    (hg : ∀ d v H1, d ∈ ds → Ex H H1 → Rp H1 v d → ∀ Q : S → Hp → Prop, (∀ σ2, wipe σ2 vs = wipe σ vs → EvT tt σ2 H1 (p d) → (p d = true → EvD te σ2 H1 (f d)) → Q σ2 H1) → g v (wipe σ vs) H1 Q) :
    EvN (tLc (iTup K tl) g tt te vs) σ H ((ds.filter p).map f) := fun H0 e0 Q q => h H0 e0 _ fun v H1 e1 r1 => by
  obtain ⟨a, o, xs, rfl, hx, hn, rs⟩ := r1.tup_inv
  refine ⟨a, rfl, ⟨xs, st_tp hx⟩, fun Dl hD => ?_⟩
  have nx : Ex H1 (L2.upd H1 Dl (.lst [])) := Ex.new hD
  refine lc_tup (xs := xs) (fun i H' => ∃ acc, H' Dl = some (.lst acc) ∧ Ex H1 H' ∧ Rps H' acc (((ds.take i).filter p).map f)) ⟨[], upd_same, nx, .nil⟩ (fun i H' _ ⟨_, _, e, _⟩ => st_tp (e _ _ hx)) (fun i x H' hi ⟨acc, hd, e, r⟩ => ?_) (fun H' ⟨acc, hd, e, r⟩ => ?_)
  · obtain ⟨d, hd', rd⟩ := rs.getV hi
    refine hg d x H' (List.mem_of_getElem? hd') ((e0.trans e1).trans e) (rd.up e) _ fun σ2 hw ht he => ⟨hw, ?_⟩
    exact lc_turn (G := H1) hD hd e r hd' hz ht he hf
  · rw [rs.len, List.take_length] at r
    exact q Dl acc H' (fresh_back e1 hD) (e1.trans e) hd r
/-- over a list -/
theorem evn_lcLg {vs : List Nat} (p : PyData → Bool) (f : PyData → PyData) (h : EvD tl σ H (.list ds)) (hz : ds.length ≤ 1000000) (hf : ∀ d ∈ ds, p d = true → tupD (f d) = true)
    (hg : ∀ d v H1, d ∈ ds → Ex H H1 → Rp H1 v d → ∀ Q : S → Hp → Prop, (∀ σ2, wipe σ2 vs = wipe σ vs → EvT tt σ2 H1 (p d) → (p d = true → EvD te σ2 H1 (f d)) → Q σ2 H1) → g v (wipe σ vs) H1 Q) :
    EvN (tLc (iList K tl) g tt te vs) σ H ((ds.filter p).map f) := fun H0 e0 Q q => h H0 e0 _ fun v H1 e1 r1 => by
  obtain ⟨a, xs, rfl, hx, rs⟩ := r1.lst_inv
  refine ⟨a, rfl, ⟨xs, sq_of hx⟩, fun Dl hD => ?_⟩
  have nx : Ex H1 (L2.upd H1 Dl (.lst [])) := Ex.new hD
  refine lc_list (xs := xs) (fun i H' => ∃ acc, H' Dl = some (.lst acc) ∧ Ex H1 H' ∧ Rps H' acc (((ds.take i).filter p).map f)) ⟨[], upd_same, nx, .nil⟩ (fun i H' _ ⟨_, _, e, _⟩ => sq_of (e _ _ hx)) (fun i x H' hi ⟨acc, hd, e, r⟩ => ?_) (fun H' ⟨acc, hd, e, r⟩ => ?_)
  · obtain ⟨d, hd', rd⟩ := rs.getV hi
    refine hg d x H' (List.mem_of_getElem? hd') ((e0.trans e1).trans e) (rd.up e) _ fun σ2 hw ht he => ⟨hw, ?_⟩
    exact lc_turn (G := H1) hD hd e r hd' hz ht he hf
  · rw [rs.len, List.take_length] at r
    exact q Dl acc H' (fresh_back e1 hD) (e1.trans e) hd r
theorem evn_lcT {vs : List Nat} {j : Nat} (p : PyData → Bool) (f : PyData → PyData) (h : EvD tl σ H (.tuple ds)) (hz : ds.length ≤ 1000000) (hf : ∀ d ∈ ds, p d = true → tupD (f d) = true) (hw : ∀ x, wipe ((wipe σ vs).set j (some x)) vs = wipe σ vs)
    (hs : ∀ d v H1, d ∈ ds → Ex H H1 → Rp H1 v d → EvT tt ((wipe σ vs).set j (some v)) H1 (p d) ∧ (p d = true → EvD te ((wipe σ vs).set j (some v)) H1 (f d))) :
    EvN (tLc (iTup K tl) (gName j) tt te vs) σ H ((ds.filter p).map f) := evn_lcTg p f h hz hf fun d v H1 hd e r Q q => q _ (hw v) (hs d v H1 hd e r).1 (hs d v H1 hd e r).2
theorem evn_lcL {vs : List Nat} {j : Nat} (p : PyData → Bool) (f : PyData → PyData) (h : EvD tl σ H (.list ds)) (hz : ds.length ≤ 1000000) (hf : ∀ d ∈ ds, p d = true → tupD (f d) = true) (hw : ∀ x, wipe ((wipe σ vs).set j (some x)) vs = wipe σ vs)
    (hs : ∀ d v H1, d ∈ ds → Ex H H1 → Rp H1 v d → EvT tt ((wipe σ vs).set j (some v)) H1 (p d) ∧ (p d = true → EvD te ((wipe σ vs).set j (some v)) H1 (f d))) :
    EvN (tLc (iList K tl) (gName j) tt te vs) σ H ((ds.filter p).map f) := evn_lcLg p f h hz hf fun d v H1 hd e r Q q => q _ (hw v) (hs d v H1 hd e r).1 (hs d v H1 hd e r).2
/-- without a test -/
theorem evt_yes : EvT tYes σ H true := fun H1 _ _ q => q H1 (Ex.refl H1)
theorem filter_yes {α : Type} (l : List α) : l.filter (fun _ => true) = l := by
  rw [List.filter_eq_self]
  intro _ _
  rfl
theorem evn_mapT {vs : List Nat} {j : Nat} (f : PyData → PyData) (h : EvD tl σ H (.tuple ds)) (hz : ds.length ≤ 1000000) (hf : ∀ d ∈ ds, tupD (f d) = true) (hw : ∀ x, wipe ((wipe σ vs).set j (some x)) vs = wipe σ vs)
    (hs : ∀ d v H1, d ∈ ds → Ex H H1 → Rp H1 v d → EvD te ((wipe σ vs).set j (some v)) H1 (f d)) : EvN (tLc (iTup K tl) (gName j) tYes te vs) σ H (ds.map f) := by
  have h2 := evn_lcT (K := K) (tt := tYes) (te := te) (fun _ => true) f h hz (fun d hd _ => hf d hd) hw fun d v H1 hd e r => ⟨evt_yes, fun _ => hs d v H1 hd e r⟩
  rw [filter_yes] at h2
  exact h2
theorem evn_mapL {vs : List Nat} {j : Nat} (f : PyData → PyData) (h : EvD tl σ H (.list ds)) (hz : ds.length ≤ 1000000) (hf : ∀ d ∈ ds, tupD (f d) = true) (hw : ∀ x, wipe ((wipe σ vs).set j (some x)) vs = wipe σ vs)
    (hs : ∀ d v H1, d ∈ ds → Ex H H1 → Rp H1 v d → EvD te ((wipe σ vs).set j (some v)) H1 (f d)) : EvN (tLc (iList K tl) (gName j) tYes te vs) σ H (ds.map f) := by
  have h2 := evn_lcL (K := K) (tt := tYes) (te := te) (fun _ => true) f h hz (fun d hd _ => hf d hd) hw fun d v H1 hd e r => ⟨evt_yes, fun _ => hs d v H1 hd e r⟩
  rw [filter_yes] at h2
  exact h2
/-- over range(n) -/
theorem evn_lcR {ta : TA} {vs : List Nat} {j : Nat} {n : Nat} (p : PyData → Bool) (f : PyData → PyData) (h : EvDs ta σ H [.int n]) (hz : n ≤ 1000000) (hf : ∀ i, i < n → p (.int (i : Nat)) = true → tupD (f (.int (i : Nat))) = true) (hw : ∀ x, wipe ((wipe σ vs).set j (some x)) vs = wipe σ vs)
    (hs : ∀ (i : Nat) H1, i < n → Ex H H1 → EvT tt ((wipe σ vs).set j (some (.int (i : Nat)))) H1 (p (.int (i : Nat))) ∧ (p (.int (i : Nat)) = true → EvD te ((wipe σ vs).set j (some (.int (i : Nat)))) H1 (f (.int (i : Nat))))) :
    EvN (tLc (iRng1 ta) (gName j) tt te vs) σ H ((((List.range n).map fun i : Nat => PyData.int (i : Nat)).filter p).map f) := fun H0 e0 Q q => h H0 e0 _ fun ws H1 e1 r1 => by
  cases r1 with
  | cons r1 r2 =>
    cases r2
    rw [r1.int_inv]
    refine ⟨(n : Int), rfl, by omega, by omega, fun Dl hD => ?_⟩
    have nx : Ex H1 (L2.upd H1 Dl (.lst [])) := Ex.new hD
    have hget : ∀ i, i < n → ((List.range n).map fun i : Nat => PyData.int (i : Nat))[i]? = some (.int (i : Nat)) := fun i hi => by
      rw [List.getElem?_map, List.getElem?_range hi]
      rfl
    refine lc_range (lo := 0) (n := (n : Int).toNat) (fun i H' => ∃ acc, H' Dl = some (.lst acc) ∧ Ex H1 H' ∧ Rps H' acc (((((List.range n).map fun i : Nat => PyData.int (i : Nat)).take i).filter p).map f)) ⟨[], upd_same, nx, by rw [List.take_zero]; exact .nil⟩ (fun i H' hi ⟨acc, hd, e, r⟩ => ?_) (fun H' ⟨acc, hd, e, r⟩ => ?_)
    · have hin : i < n := by omega
      have e00 : (0 : Int) + (i : Int) = (i : Int) := Int.zero_add _
      rw [e00]
      refine ⟨hw _, ?_⟩
      obtain ⟨ht, he⟩ := hs i H' hin ((e0.trans e1).trans e)
      refine lc_turn (G := H1) hD hd e r (hget i hin) (by simpa using hz) ht he fun d hd hp => ?_
      obtain ⟨i2, hi2, rfl⟩ := List.mem_map.mp hd
      exact hf i2 (List.mem_range.mp hi2) hp
    · have en : (n : Int).toNat = n := by omega
      rw [en, List.take_of_length_le (by simp)] at r
      exact q Dl acc H' (fresh_back e1 hD) (e1.trans e) hd r
end
end K48
/-! The text by places; each def's names by slots. Printed by gen_b3.py. -/
namespace K48
open PySem L2 Evl
def top (i : Nat) : Stmt := PySem.Challenge.pw_leastpromise_k48_whole_ages_that_a_cache.main.body.getD i (.Pass ⟨0, 0, 0, 0⟩)
abbrev s_is_integer : Stmt := top 6
abbrev s_is_number : Stmt := top 7
abbrev s_is_below : Stmt := top 8
abbrev s_is_sequence : Stmt := top 9
abbrev s_need_many : Stmt := top 10
abbrev s_is_control : Stmt := top 14
abbrev s_need_cache : Stmt := top 15
abbrev s_need_accesses : Stmt := top 16
abbrev s_accessed : Stmt := top 17
abbrev s_filled_states : Stmt := top 18
abbrev s_stay_starts : Stmt := top 19
abbrev s_stay_steps : Stmt := top 20
abbrev s_all_stays : Stmt := top 21
abbrev s_most_met : Stmt := top 22
abbrev s_stay_most : Stmt := top 23
abbrev s_least_cap : Stmt := top 24
abbrev s_access_ages : Stmt := top 26
abbrev s_next_lines : Stmt := top 27
abbrev s_renamed_stay : Stmt := top 28
abbrev s_begin_walks : Stmt := top 29
abbrev s_met_names : Stmt := top 30
abbrev s_staying_key : Stmt := top 31
abbrev s_staying_row : Stmt := top 32
abbrev s_further_stays : Stmt := top 33
abbrev s_unlike_stays : Stmt := top 34
abbrev s_same_met : Stmt := top 35
abbrev s_cap_rows : Stmt := top 36
abbrev s__law_draw : Stmt := top 38
abbrev s__law_any : Stmt := top 39
abbrev s__law_of : Stmt := top 40
abbrev s__law_cache : Stmt := top 41
abbrev s__law_walk : Stmt := top 42
abbrev s__law_tried : Stmt := top 43
abbrev s__law_wrong_cache : Stmt := top 44
abbrev s__law_wrong_row : Stmt := top 45
abbrev s__law_ages : Stmt := top 46
abbrev s__law_rows : Stmt := top 47
abbrev s__law_keeps : Stmt := top 48
abbrev s__law_told : Stmt := top 49
abbrev s_law : Stmt := top 50
abbrev s_initC : Stmt := inClass (top 2) 0
abbrev s_initI : Stmt := inClass (top 3) 0
abbrev s_initZ : Stmt := inClass (top 4) 0
abbrev N_is_integer : List Str := ["value"]
theorem sc_is_integer : FnScope N_is_integer ["value"] (defScope s_is_integer) := ⟨rfl, rfl, rfl, by decide +kernel, rfl, by decide +kernel, by decide +kernel⟩
abbrev N_is_number : List Str := ["value"]
theorem sc_is_number : FnScope N_is_number ["value"] (defScope s_is_number) := ⟨rfl, rfl, rfl, by decide +kernel, rfl, by decide +kernel, by decide +kernel⟩
abbrev N_is_below : List Str := ["value", "many"]
theorem sc_is_below : FnScope N_is_below ["value", "many"] (defScope s_is_below) := ⟨rfl, rfl, rfl, by decide +kernel, rfl, by decide +kernel, by decide +kernel⟩
abbrev N_is_sequence : List Str := ["value"]
theorem sc_is_sequence : FnScope N_is_sequence ["value"] (defScope s_is_sequence) := ⟨rfl, rfl, rfl, by decide +kernel, rfl, by decide +kernel, by decide +kernel⟩
abbrev N_need_many : List Str := ["value", "word", "least"]
theorem sc_need_many : FnScope N_need_many ["value", "word", "least"] (defScope s_need_many) := ⟨rfl, rfl, rfl, by decide +kernel, rfl, by decide +kernel, by decide +kernel⟩
abbrev N_is_control : List Str := ["value", "lines", "controls", "one"]
theorem sc_is_control : FnScope N_is_control ["value", "lines", "controls"] (defScope s_is_control) := ⟨rfl, rfl, rfl, by decide +kernel, rfl, by decide +kernel, by decide +kernel⟩
abbrev N_need_cache : List Str := ["value", "first", "lines", "at", "control"]
theorem sc_need_cache : FnScope N_need_cache ["value"] (defScope s_need_cache) := ⟨rfl, rfl, rfl, by decide +kernel, rfl, by decide +kernel, by decide +kernel⟩
abbrev N_need_accesses : List Str := ["value", "at", "name"]
theorem sc_need_accesses : FnScope N_need_accesses ["value"] (defScope s_need_accesses) := ⟨rfl, rfl, rfl, by decide +kernel, rfl, by decide +kernel, by decide +kernel⟩
abbrev N_accessed : List Str := ["cache", "control", "lines", "name", "hits", "line", "following"]
theorem sc_accessed : FnScope N_accessed ["cache", "control", "lines", "name"] (defScope s_accessed) := ⟨rfl, rfl, rfl, by decide +kernel, rfl, by decide +kernel, by decide +kernel⟩
abbrev N_filled_states : List Str := ["cache", "found", "at", "control", "filled", "hits", "line", "following", "one", "nexts"]
theorem sc_filled_states : FnScope N_filled_states ["cache"] (defScope s_filled_states) := ⟨rfl, rfl, rfl, by decide +kernel, rfl, by decide +kernel, by decide +kernel⟩
abbrev N_stay_starts : List Str := ["cache", "starts", "control", "filled", "hits", "line", "following", "one"]
theorem sc_stay_starts : FnScope N_stay_starts ["cache"] (defScope s_stay_starts) := ⟨rfl, rfl, rfl, by decide +kernel, rfl, by decide +kernel, by decide +kernel⟩
abbrev N_stay_steps : List Str := ["cache", "stay", "control", "filled", "held", "met", "hits", "line", "following", "steps", "one", "more"]
theorem sc_stay_steps : FnScope N_stay_steps ["cache", "stay"] (defScope s_stay_steps) := ⟨rfl, rfl, rfl, by decide +kernel, rfl, by decide +kernel, by decide +kernel⟩
abbrev N_all_stays : List Str := ["cache", "found", "at", "stay", "known", "many"]
theorem sc_all_stays : FnScope N_all_stays ["cache"] (defScope s_all_stays) := ⟨rfl, rfl, rfl, by decide +kernel, rfl, by decide +kernel, by decide +kernel⟩
abbrev N_most_met : List Str := ["cache", "stays", "stay", "many", "turn", "later", "gain", "further"]
theorem sc_most_met : FnScope N_most_met ["cache"] (defScope s_most_met) := ⟨rfl, rfl, rfl, by decide +kernel, rfl, by decide +kernel, by decide +kernel⟩
abbrev N_stay_most : List Str := ["cache"]
theorem sc_stay_most : FnScope N_stay_most ["cache"] (defScope s_stay_most) := ⟨rfl, rfl, rfl, by decide +kernel, rfl, by decide +kernel, by decide +kernel⟩
abbrev N_least_cap : List Str := ["cache", "most"]
theorem sc_least_cap : FnScope N_least_cap ["cache"] (defScope s_least_cap) := ⟨rfl, rfl, rfl, by decide +kernel, rfl, by decide +kernel, by decide +kernel⟩
abbrev N_access_ages : List Str := ["row", "cap", "ages", "at", "name", "last", "place"]
theorem sc_access_ages : FnScope N_access_ages ["row", "cap"] (defScope s_access_ages) := ⟨rfl, rfl, rfl, by decide +kernel, rfl, by decide +kernel, by decide +kernel⟩
abbrev N_next_lines : List Str := ["cache", "walk", "row", "control", "lines", "found", "name", "view", "following", "later"]
theorem sc_next_lines : FnScope N_next_lines ["cache", "walk"] (defScope s_next_lines) := ⟨rfl, rfl, rfl, by decide +kernel, rfl, by decide +kernel, by decide +kernel⟩
abbrev N_renamed_stay : List Str := ["walk", "row", "control", "lines", "name"]
theorem sc_renamed_stay : FnScope N_renamed_stay ["walk"] (defScope s_renamed_stay) := ⟨rfl, rfl, rfl, by decide +kernel, rfl, by decide +kernel, by decide +kernel⟩
abbrev N_begin_walks : List Str := ["cache", "found", "known", "at", "walk"]
theorem sc_begin_walks : FnScope N_begin_walks ["cache"] (defScope s_begin_walks) := ⟨rfl, rfl, rfl, by decide +kernel, rfl, by decide +kernel, by decide +kernel⟩
abbrev N_met_names : List Str := ["row", "name", "last", "at", "one"]
theorem sc_met_names : FnScope N_met_names ["row", "name"] (defScope s_met_names) := ⟨rfl, rfl, rfl, by decide +kernel, rfl, by decide +kernel, by decide +kernel⟩
abbrev N_staying_key : List Str := ["walk", "name", "row", "control", "lines", "met", "one"]
theorem sc_staying_key : FnScope N_staying_key ["walk", "name"] (defScope s_staying_key) := ⟨rfl, rfl, rfl, by decide +kernel, rfl, by decide +kernel, by decide +kernel⟩
abbrev N_staying_row : List Str := ["cache", "many", "layer", "walk", "further", "turn", "name"]
theorem sc_staying_row : FnScope N_staying_row ["cache", "many"] (defScope s_staying_row) := ⟨rfl, rfl, rfl, by decide +kernel, rfl, by decide +kernel, by decide +kernel⟩
abbrev N_further_stays : List Str := ["cache", "layer", "found", "walk", "name", "further"]
theorem sc_further_stays : FnScope N_further_stays ["cache", "layer"] (defScope s_further_stays) := ⟨rfl, rfl, rfl, by decide +kernel, rfl, by decide +kernel, by decide +kernel⟩
abbrev N_unlike_stays : List Str := ["pairs", "found", "walk", "name"]
theorem sc_unlike_stays : FnScope N_unlike_stays ["pairs"] (defScope s_unlike_stays) := ⟨rfl, rfl, rfl, by decide +kernel, rfl, by decide +kernel, by decide +kernel⟩
abbrev N_same_met : List Str := ["cache", "layer", "found", "at", "walk", "name", "known", "further", "same", "key"]
theorem sc_same_met : FnScope N_same_met ["cache", "layer"] (defScope s_same_met) := ⟨rfl, rfl, rfl, by decide +kernel, rfl, by decide +kernel, by decide +kernel⟩
abbrev N_cap_rows : List Str := ["cache", "cap", "found", "walk", "name", "row"]
theorem sc_cap_rows : FnScope N_cap_rows ["cache", "cap"] (defScope s_cap_rows) := ⟨rfl, rfl, rfl, by decide +kernel, rfl, by decide +kernel, by decide +kernel⟩
abbrev N__law_draw : List Str := ["_law_script", "_law_salt", "_law_cell", "_law_cells", "_law_blend"]
theorem sc__law_draw : FnScope N__law_draw ["_law_script", "_law_salt"] (defScope s__law_draw) := ⟨rfl, rfl, rfl, by decide +kernel, rfl, by decide +kernel, by decide +kernel⟩
abbrev N__law_any : List Str := ["_law_deal", "_law_bound", "_law_rest"]
theorem sc__law_any : FnScope N__law_any ["_law_deal", "_law_bound"] (defScope s__law_any) := ⟨rfl, rfl, rfl, by decide +kernel, rfl, by decide +kernel, by decide +kernel⟩
abbrev N__law_of : List Str := ["_law_deal", "_law_some"]
theorem sc__law_of : FnScope N__law_of ["_law_deal", "_law_some"] (defScope s__law_of) := ⟨rfl, rfl, rfl, by decide +kernel, rfl, by decide +kernel, by decide +kernel⟩
abbrev N__law_cache : List Str := ["_law_deal", "_law_lines", "_law_controls", "_law_kind", "_law_found", "_law_control", "_law_line", "_law_hits", "_law_following"]
theorem sc__law_cache : FnScope N__law_cache ["_law_deal"] (defScope s__law_cache) := ⟨rfl, rfl, rfl, by decide +kernel, rfl, by decide +kernel, by decide +kernel⟩
abbrev N__law_walk : List Str := ["_law_cache_here", "_law_row", "_law_control", "_law_held", "_law_views", "_law_name"]
theorem sc__law_walk : FnScope N__law_walk ["_law_cache_here", "_law_row"] (defScope s__law_walk) := ⟨rfl, rfl, rfl, by decide +kernel, rfl, by decide +kernel, by decide +kernel⟩
abbrev N__law_tried : List Str := ["_law_work", "e"]
theorem sc__law_tried : FnScope N__law_tried ["_law_work"] (defScope s__law_tried) := ⟨rfl, rfl, rfl, by decide +kernel, rfl, by decide +kernel, by decide +kernel⟩
abbrev N__law_wrong_cache : List Str := ["_law_deal", "_law_cache_here", "_law_lines", "_law_many", "_law_good", "_law_wrong"]
theorem sc__law_wrong_cache : FnScope N__law_wrong_cache ["_law_deal", "_law_cache_here"] (defScope s__law_wrong_cache) := ⟨rfl, rfl, rfl, by decide +kernel, rfl, by decide +kernel, by decide +kernel⟩
abbrev N__law_wrong_row : List Str := ["_law_deal"]
theorem sc__law_wrong_row : FnScope N__law_wrong_row ["_law_deal"] (defScope s__law_wrong_row) := ⟨rfl, rfl, rfl, by decide +kernel, rfl, by decide +kernel, by decide +kernel⟩
abbrev N__law_ages : List Str := ["_law_row", "_law_cap", "_law_ages_here", "_law_at", "_law_name", "_law_met", "_law_age", "_law_place"]
theorem sc__law_ages : FnScope N__law_ages ["_law_row", "_law_cap"] (defScope s__law_ages) := ⟨rfl, rfl, rfl, by decide +kernel, rfl, by decide +kernel, by decide +kernel⟩
abbrev N__law_rows : List Str := ["_law_many", "_law_rows_here", "_law_turn", "_law_longer", "_law_row", "_law_name"]
theorem sc__law_rows : FnScope N__law_rows ["_law_many"] (defScope s__law_rows) := ⟨rfl, rfl, rfl, by decide +kernel, rfl, by decide +kernel, by decide +kernel⟩
abbrev N__law_keeps : List Str := ["_law_cache_here", "_law_cap", "_law_many", "_law_seen", "_law_row", "_law_views"]
theorem sc__law_keeps : FnScope N__law_keeps ["_law_cache_here", "_law_cap", "_law_many"] (defScope s__law_keeps) := ⟨rfl, rfl, rfl, by decide +kernel, rfl, by decide +kernel, by decide +kernel⟩
abbrev N__law_told : List Str := ["_law_cache_here", "_law_cap", "_law_told_here", "_law_row", "_law_name"]
theorem sc__law_told : FnScope N__law_told ["_law_cache_here", "_law_cap", "_law_told_here"] (defScope s__law_told) := ⟨rfl, rfl, rfl, by decide +kernel, rfl, by decide +kernel, by decide +kernel⟩
abbrev N_law : List Str := ["_law_script", "_law_deal", "_law_least", "_law_at", "_law_cap", "_law_spot", "_law_bad", "_law_cache_here", "_law_odd", "_law_row", "_law_wrong"]
theorem sc_law : FnScope N_law ["_law_script"] (defScope s_law) := ⟨rfl, rfl, rfl, by decide +kernel, rfl, by decide +kernel, by decide +kernel⟩
end K48
/-! The small defs: words.py, accessed. -/
namespace K48
open PySem L2 Evl
/-- what the top leaves of built-in names -/
structure Mg (mg : Str → Option Value) : Prop where
  isinstance : mg "isinstance" = none
  int : mg "int" = none
  bool : mg "bool" = none
  list : mg "list" = none
  tuple : mg "tuple" = none
  len : mg "len" = none
  all : mg "all" = none
  enumerate : mg "enumerate" = none
  sorted : mg "sorted" = none
  set : mg "set" = none
  range : mg "range" = none
  max : mg "max" = none
  min : mg "min" = none
  abs : mg "abs" = none
  super : mg "super" = none
/-- a def that may be called: its promise, where it stands -/
structure Cal (P : Program) (w : World) (K : PySem.W.Frag) (mg : Str → Option Value) (base : Heap) (CX : CXT) (k : Nat) (x : Str) (ps : List Str) (sp : Sp) : Prop where
  ex : ∃ f fd, FnOk P w K mg base CX k f fd ps sp ∧ mg x = some (.ref f) ∧ PySem.W.keepIn K (.ref f) = true ∧ Binds K fd ps []
theorem pe_cal {X : Cx} {k j : Nat} {x : Str} {ps : List Str} {sp : Sp} {p pos : Pos} {e : Expr} {es : List Expr} {t : TA} (c : Cal X.prog X.w X.K X.mg X.base CX0 k x ps sp) (hr : Room j X.A) (hkj : k ≤ j) (hg : Gl X x) (ha : PA X (e :: es) t)
    (hdb : (x == ("__debug__" : Str)) = false := by decide) (he : starEach (e :: es) X.env = (false, eval e X.env) :: starEach es X.env := by rfl) (hpl : (backTo pos (starEach es X.env)).any (·.1) = false := by rfl) :
    PE X (.Call (.Name x p) (e :: es) [] pos) (tCall sp [] E0 t) := by
  obtain ⟨f, fd, F, hm, hk, hb⟩ := c.ex
  exact pe_call F (hr.mono hkj) hg hm hk hb .nil pass0 ha hdb he hpl
section
variable {P : Program} {w : World} {K : PySem.W.Frag} {mg : Str → Option Value} {base : Heap}

/-! ### is_integer, is_number, is_below, is_sequence -/
def isIntD : PyData → Bool
  | .int _ => true
  | _ => false
def intB : PyData → Bool
  | .int _ => true
  | .bool _ => true
  | _ => false
def boolB : PyData → Bool
  | .bool _ => true
  | _ => false
def tupB : PyData → Bool
  | .tuple _ => true
  | _ => false
def lstB : PyData → Bool
  | .list _ => true
  | _ => false
theorem isInt_kit (d : PyData) : kitB (tyD d) "int" = some (intB d) := by
  cases d with
  | none => exact (show kitB "NoneType" "int" = some false by decide +kernel)
  | bool _ => exact (show kitB "bool" "int" = some true by decide +kernel)
  | int _ => exact (show kitB "int" "int" = some true by decide +kernel)
  | str _ => exact (show kitB "str" "int" = some false by decide +kernel)
  | list _ => exact (show kitB "list" "int" = some false by decide +kernel)
  | tuple _ => exact (show kitB "tuple" "int" = some false by decide +kernel)
  | dict _ => exact (show kitB "dict" "int" = some false by decide +kernel)
theorem isBool_kit (d : PyData) : kitB (tyD d) "bool" = some (boolB d) := by
  cases d with
  | none => exact (show kitB "NoneType" "bool" = some false by decide +kernel)
  | bool _ => exact (show kitB "bool" "bool" = some true by decide +kernel)
  | int _ => exact (show kitB "int" "bool" = some false by decide +kernel)
  | str _ => exact (show kitB "str" "bool" = some false by decide +kernel)
  | list _ => exact (show kitB "list" "bool" = some false by decide +kernel)
  | tuple _ => exact (show kitB "tuple" "bool" = some false by decide +kernel)
  | dict _ => exact (show kitB "dict" "bool" = some false by decide +kernel)
theorem isTuple_kit (d : PyData) : kitB (tyD d) "tuple" = some (tupB d) := by
  cases d with
  | none => exact (show kitB "NoneType" "tuple" = some false by decide +kernel)
  | bool _ => exact (show kitB "bool" "tuple" = some false by decide +kernel)
  | int _ => exact (show kitB "int" "tuple" = some false by decide +kernel)
  | str _ => exact (show kitB "str" "tuple" = some false by decide +kernel)
  | list _ => exact (show kitB "list" "tuple" = some false by decide +kernel)
  | tuple _ => exact (show kitB "tuple" "tuple" = some true by decide +kernel)
  | dict _ => exact (show kitB "dict" "tuple" = some false by decide +kernel)
theorem isList_kit (d : PyData) : kitB (tyD d) "list" = some (lstB d) := by
  cases d with
  | none => exact (show kitB "NoneType" "list" = some false by decide +kernel)
  | bool _ => exact (show kitB "bool" "list" = some false by decide +kernel)
  | int _ => exact (show kitB "int" "list" = some false by decide +kernel)
  | str _ => exact (show kitB "str" "list" = some false by decide +kernel)
  | list _ => exact (show kitB "list" "list" = some true by decide +kernel)
  | tuple _ => exact (show kitB "tuple" "list" = some false by decide +kernel)
  | dict _ => exact (show kitB "dict" "list" = some false by decide +kernel)
def RisInt (ds : List PyData) (d : PyData) : Prop := ∃ x, ds = [x] ∧ d = .bool (isIntD x)
theorem ok_is_integer {f : Addr} {fd : FuncData} (F : Fun K "is_integer" "is_integer" s_is_integer f fd) (T : Mg mg) : FnOk P w K mg base CX0 1 f fd ["value"] (spD RisInt) := by
  refine F.ok sc_is_integer (fun vs H Q E h => ?_) (fun cdv A outer s H vs Q E hr h => ?_)
  · obtain ⟨ds, d, r, ⟨x, rfl, _⟩, _⟩ := h
    exact r.len
  · obtain ⟨ds, d, r, ⟨x, rfl, rfl⟩, q⟩ := h
    cases r with
    | cons r1 r2 =>
    cases r2
    refine ⟨_, pss_one (ps_ret (pe_and (pe_callB call_isi (by rfl) T.isinstance (by decide +kernel) (pa_cons (pv 0) (pa_cons (pe_bltn (v := .ty "int") (by rfl) T.int (by decide +kernel) rfl) pa_nil)))
      (pe_one (pe_not (pe_callB call_isi (by rfl) T.isinstance (by decide +kernel) (pa_cons (pv 0) (pa_cons (pe_bltn (v := .ty "bool") (by rfl) T.bool (by decide +kernel) rfl) pa_nil))))))), ?_⟩
    refine d_ret (evd_andV (evd_isi (evd_var rfl r1) (isInt_kit x)) fun _ => evd_notV (evd_isi (evd_var rfl r1) (isBool_kit x))) fun v H1 e r => ?_
    refine q v H1 e ?_
    have : isIntD x = (intB x && !boolB x) := by cases x <;> rfl
    rw [this]
    exact r
theorem spD_len {R : List PyData → PyData → Prop} {n : Nat} {vs : List V} {H : Hp} {Q : VK} {E : XK} (h : spD R vs H Q E) (hR : ∀ ds d, R ds d → ds.length = n) : vs.length = n := by
  obtain ⟨ds, d, r, hr, _⟩ := h
  rw [r.len]
  exact hR ds d hr
theorem spN_len {R : List PyData → List PyData → Prop} {n : Nat} {vs : List V} {H : Hp} {Q : VK} {E : XK} (h : spN R vs H Q E) (hR : ∀ ds d, R ds d → ds.length = n) : vs.length = n := by
  obtain ⟨ds, d, r, hr, _⟩ := h
  rw [r.len]
  exact hR ds d hr
def isNumD : PyData → Bool
  | .int i => decide (0 ≤ i)
  | _ => false
def RisNum (ds : List PyData) (d : PyData) : Prop := ∃ x, ds = [x] ∧ d = .bool (isNumD x)
theorem ok_is_number {f : Addr} {fd : FuncData} (F : Fun K "is_number" "is_number" s_is_number f fd) (c1 : Cal P w K mg base CX0 1 "is_integer" ["value"] (spD RisInt)) : FnOk P w K mg base CX0 2 f fd ["value"] (spD RisNum) := by
  refine F.ok sc_is_number (fun vs H Q E h => spD_len h fun ds d ⟨x, e, _⟩ => by rw [e]; rfl) (fun cdv A outer s H vs Q E hr h => ?_)
  obtain ⟨ds, d, r, ⟨x, rfl, rfl⟩, q⟩ := h
  cases r with
  | cons r1 r2 =>
  cases r2
  refine ⟨_, pss_one (ps_ret (pe_and (pe_cal c1 hr (by decide) (by rfl) (pa_cons (pv 0) pa_nil)) (pe_one (pe_cmpR op_ge (pv 0) pe_int (nomark _))))), ?_⟩
  have e1 : isNumD x = (isIntD x && isNumD x) := by cases x <;> rfl
  rw [e1] at q
  refine d_ret (evd_andV (evd_call (evds_cons (evd_var rfl r1) evds_nil) (spD_d ⟨x, rfl, rfl⟩)) fun hx => ?_) q
  cases x with
  | int i => exact evd_ge (evd_var rfl r1) evd_int
  | _ => cases hx
def isBelowD (n : Int) : PyData → Bool
  | .int i => decide (0 ≤ i) && decide (i < n)
  | _ => false
def RisBelow (ds : List PyData) (d : PyData) : Prop := ∃ x n, ds = [x, .int n] ∧ d = .bool (isBelowD n x)
theorem ok_is_below {f : Addr} {fd : FuncData} (F : Fun K "is_below" "is_below" s_is_below f fd) (c1 : Cal P w K mg base CX0 2 "is_number" ["value"] (spD RisNum)) : FnOk P w K mg base CX0 3 f fd ["value", "many"] (spD RisBelow) := by
  refine F.ok sc_is_below (fun vs H Q E h => spD_len h fun ds d ⟨x, n, e, _⟩ => by rw [e]; rfl) (fun cdv A outer s H vs Q E hr h => ?_)
  obtain ⟨ds, d, r, ⟨x, n, rfl, rfl⟩, q⟩ := h
  cases r with
  | cons r1 r2 =>
  cases r2 with
  | cons r2 r3 =>
  cases r3
  refine ⟨_, pss_one (ps_ret (pe_and (pe_cal c1 hr (by decide) (by rfl) (pa_cons (pv 0) pa_nil)) (pe_one (pe_cmpR op_lt (pv 0) (pv 1) (nomark _))))), ?_⟩
  have e1 : isBelowD n x = (isNumD x && (match x with | .int i => decide (i < n) | _ => false)) := by cases x <;> rfl
  rw [e1] at q
  refine d_ret (evd_andV (evd_call (evds_cons (evd_var rfl r1) evds_nil) (spD_d ⟨x, rfl, rfl⟩)) fun hx => ?_) q
  cases x with
  | int i => exact evd_lt (evd_var rfl r1) (evd_var rfl r2)
  | _ => cases hx
def seqB : PyData → Bool
  | .list _ => true
  | .tuple _ => true
  | _ => false
theorem seq_kit (d : PyData) (K : PySem.W.Frag) : PySem.W.kitAny K (.type (tyD d)) [.type "list", .type "tuple"] = some (seqB d) := by
  refine kitAny_cons (kit_ty (isList_kit d)) (fun h => kitAny_cons (kit_ty (isTuple_kit d)) (fun h2 => ?_) fun h2 => ?_) fun h => ?_
  · rw [kitAny_nil]
    cases d <;> simp_all [lstB, tupB, seqB]
  · cases d <;> simp_all [lstB, tupB, seqB]
  · cases d <;> simp_all [lstB, tupB, seqB]
def RisSeq (ds : List PyData) (d : PyData) : Prop := ∃ x, ds = [x] ∧ d = .bool (seqB x)
theorem ok_is_sequence {f : Addr} {fd : FuncData} (F : Fun K "is_sequence" "is_sequence" s_is_sequence f fd) (T : Mg mg) : FnOk P w K mg base CX0 1 f fd ["value"] (spD RisSeq) := by
  refine F.ok sc_is_sequence (fun vs H Q E h => spD_len h fun ds d ⟨x, e, _⟩ => by rw [e]; rfl) (fun cdv A outer s H vs Q E hr h => ?_)
  obtain ⟨ds, d, r, ⟨x, rfl, rfl⟩, q⟩ := h
  cases r with
  | cons r1 r2 =>
  cases r2
  refine ⟨_, pss_one (ps_ret (pe_callB call_isiT (by rfl) T.isinstance (by decide +kernel) (pa_cons (pv 0) (pa_cons (pe_tup (pa_cons (pe_bltn (v := .ty "list") (by rfl) T.list (by decide +kernel) rfl) (pa_cons (pe_bltn (v := .ty "tuple") (by rfl) T.tuple (by decide +kernel) rfl) pa_nil))) pa_nil)))), ?_⟩
  exact d_ret (evd_isi2 (evd_var rfl r1) (seq_kit x)) q
end
end K48
/-! The mathematics' things as data. -/
namespace K48
open PySem L2 Evl K48M
def dI (n : Nat) : PyData := .int (n : Int)
def dNs (l : List Nat) : PyData := .tuple (l.map dI)
def dCtl (x : Ctl) : PyData := .tuple [dNs x.hits, dI x.line, dI x.nxt]
def dCache (k : Cache) : PyData := .tuple (k.map dCtl)
def dO : Option Nat → PyData
  | none => .none
  | some n => dI n
def dLs (ls : Lines) : PyData := .tuple (ls.map dO)
def dBs (F : List Bool) : PyData := .tuple (F.map .bool)
abbrev Wk := List Nat × Nat × Lines
def dW (w : Wk) : PyData := .tuple [dNs w.1, dI w.2.1, dLs w.2.2]
/-! no lists within -/
theorem tupDs_map {α : Type} {f : α → PyData} (h : ∀ a, tupD (f a) = true) (l : List α) : tupDs (l.map f) = true := by
  rw [tupDs_iff]
  intro d hd
  obtain ⟨a, _, rfl⟩ := List.mem_map.mp hd
  exact h a
theorem tupD_I (n : Nat) : tupD (dI n) = true := rfl
theorem tupD_Ns (l : List Nat) : tupD (dNs l) = true := by unfold dNs; rw [tupD]; exact tupDs_map tupD_I l
theorem tupD_Ctl (x : Ctl) : tupD (dCtl x) = true := by
  unfold dCtl
  rw [tupD, tupDs, tupDs, tupDs, tupD_Ns, tupD_I, tupD_I]
  rfl
theorem tupD_Cache (k : Cache) : tupD (dCache k) = true := by unfold dCache; rw [tupD]; exact tupDs_map tupD_Ctl k
theorem tupD_O (o : Option Nat) : tupD (dO o) = true := by cases o <;> rfl
theorem tupD_Ls (l : Lines) : tupD (dLs l) = true := by unfold dLs; rw [tupD]; exact tupDs_map tupD_O l
theorem tupD_Bs (l : List Bool) : tupD (dBs l) = true := by unfold dBs; rw [tupD]; exact tupDs_map (fun _ => rfl) l
theorem tupD_W (x : Wk) : tupD (dW x) = true := by
  unfold dW
  rw [tupD, tupDs, tupDs, tupDs, tupD_Ns, tupD_I, tupD_Ls]
  rfl
/-! flat ones -/
theorem flat_I (n : Nat) : flatD (dI n) = true := rfl
theorem flat_O (o : Option Nat) : flatD (dO o) = true := by cases o <;> rfl
theorem flat_Is (l : List Nat) : ∀ z ∈ l.map dI, flatD z = true := fun z hz => by
  obtain ⟨a, _, rfl⟩ := List.mem_map.mp hz
  rfl
theorem flat_Os (l : Lines) : ∀ z ∈ l.map dO, flatD z = true := fun z hz => by
  obtain ⟨a, _, rfl⟩ := List.mem_map.mp hz
  exact flat_O a
/-! == -/
theorem eqv_I (a b : Nat) : PyData.eqv (dI a) (dI b) = decide (a = b) := by
  unfold dI
  rw [PyData.eqv]
  by_cases h : a = b
  · simp [h]
  · have : ¬ (a : Int) = (b : Int) := by omega
    rw [decide_eq_false h]
    exact beq_eq_false_iff_ne.mpr this
theorem idxOf_le {α : Type} [BEq α] [LawfulBEq α] {a : α} : ∀ {l : List α} {m : Nat}, l[m]? = some a → l.idxOf a ≤ m
  | [], _, h => by simp at h
  | b :: l, 0, h => by
    have e : b = a := by simpa using h
    rw [e, List.idxOf_cons_self]
    exact Nat.le_refl _
  | b :: l, m + 1, h => by
    have ih := idxOf_le (l := l) (m := m) (by simpa using h)
    rw [List.idxOf_cons]
    cases (b == a) with
    | true => exact Nat.zero_le _
    | false => exact Nat.succ_le_succ ih
theorem eqv_O (a b : Option Nat) : PyData.eqv (dO a) (dO b) = decide (a = b) := by
  cases a with
  | none =>
    cases b with
    | none => rfl
    | some b => rfl
  | some a =>
    cases b with
    | none => rfl
    | some b =>
      show PyData.eqv (dI a) (dI b) = _
      rw [eqv_I]
      simp
theorem eqvAll_map {α : Type} [DecidableEq α] {f : α → PyData} (h : ∀ a b, PyData.eqv (f a) (f b) = decide (a = b)) : ∀ l m : List α, PyData.eqvAll (l.map f) (m.map f) = decide (l = m)
  | [], [] => by simp [PyData.eqvAll]
  | [], b :: m => by simp [PyData.eqvAll]
  | a :: l, [] => by simp [PyData.eqvAll]
  | a :: l, b :: m => by
    rw [List.map_cons, List.map_cons, PyData.eqvAll, h, eqvAll_map h l m]
    by_cases h1 : a = b
    · by_cases h2 : l = m
      · simp [h1, h2]
      · simp [h1, h2]
    · simp [h1]
theorem eqv_Ns (a b : List Nat) : PyData.eqv (dNs a) (dNs b) = decide (a = b) := by
  unfold dNs
  rw [PyData.eqv, eqvAll_map eqv_I]
theorem eqv_bool (a b : Bool) : PyData.eqv (.bool a) (.bool b) = decide (a = b) := by cases a <;> cases b <;> rfl
theorem eqv_Bs (a b : List Bool) : PyData.eqv (dBs a) (dBs b) = decide (a = b) := by
  unfold dBs
  rw [PyData.eqv, eqvAll_map eqv_bool]
theorem any_I (l : List Nat) (x : Nat) : ((l.map dI).any fun z => PyData.eqv z (dI x)) = decide (x ∈ l) := by
  induction l with
  | nil => simp
  | cons a l ih =>
    rw [List.map_cons, List.any_cons, ih, eqv_I]
    by_cases h : a = x
    · simp [h]
    · have : ¬ x = a := fun e => h e.symm
      simp [h, this]
theorem any_O (l : Lines) (x : Nat) : ((l.map dO).any fun z => PyData.eqv z (dI x)) = decide (some x ∈ l) := by
  induction l with
  | nil => simp
  | cons a l ih =>
    rw [List.map_cons, List.any_cons, ih, show dI x = dO (some x) from rfl, eqv_O]
    by_cases h : a = some x
    · simp [h]
    · have : ¬ some x = a := fun e => h e.symm
      simp [h, this]
/-! places -/
theorem atI_nat' {α : Type} {xs : List α} {j : Nat} {v : α} (h : xs[j]? = some v) : atI xs (j : Int) = some v := by
  have hj := (List.getElem?_eq_some_iff.mp h).1
  unfold atI
  rw [ixN_nat hj]
  exact h
theorem atI_map {α : Type} {f : α → PyData} {xs : List α} {j : Nat} {v : α} (h : xs[j]? = some v) : atI (xs.map f) (j : Int) = some (f v) := atI_nat' (by rw [List.getElem?_map, h]; rfl)
theorem sIx_nat' (n d j : Nat) : HT.sIx n d (some (j : Int)) = min j n := HT.sIx_nat n d j
theorem cut_to {α : Type} (xs : List α) {j : Nat} (h : j ≤ xs.length) : cutD xs none (some (j : Int)) = xs.take j := by
  unfold cutD
  rw [HT.sIx_none, sIx_nat', List.drop_zero, Nat.sub_zero, Nat.min_eq_left h]
theorem cut_from {α : Type} (xs : List α) {j : Nat} (h : j ≤ xs.length) : cutD xs (some (j : Int)) none = xs.drop j := by
  unfold cutD
  rw [HT.sIx_none, sIx_nat', Nat.min_eq_left h, List.take_of_length_le (by rw [List.length_drop]; exact Nat.le_refl _)]
theorem cut_mid {α : Type} (xs : List α) {i j : Nat} (h : i ≤ j) (h2 : j ≤ xs.length) : cutD xs (some (i : Int)) (some (j : Int)) = (xs.drop i).take (j - i) := by
  unfold cutD
  rw [sIx_nat', sIx_nat', Nat.min_eq_left (Nat.le_trans h h2), Nat.min_eq_left h2]
theorem set_cat {α : Type} (xs : List α) {l : Nat} (h : l < xs.length) (x : α) : xs.take l ++ [x] ++ xs.drop (l + 1) = xs.set l x := by
  rw [List.append_assoc]
  apply List.ext_getElem?
  intro i
  by_cases h1 : i < l
  · rw [List.getElem?_append_left (by rw [List.length_take]; omega), List.getElem?_take_of_lt h1, List.getElem?_set_ne (by omega)]
  · rw [List.getElem?_append_right (by rw [List.length_take]; omega), List.length_take, Nat.min_eq_left (Nat.le_of_lt h)]
    by_cases h2 : i = l
    · subst h2
      rw [Nat.sub_self, List.getElem?_set_self h]
      rfl
    · have e : i - l = (i - l - 1) + 1 := by omega
      rw [e, List.getElem?_set_ne (by omega)]
      show (xs.drop (l + 1))[i - l - 1]? = _
      rw [List.getElem?_drop]
      congr 1
      omega
/-- t.index(x) -/
theorem evd_tix {K : PySem.W.Frag} {σ : S} {H : Hp} {to te : TE} {ds : List PyData} {d z : PyData} {j : Nat} (h : EvD to σ H (.tuple ds)) (hx : EvD te σ H d) (fd : flatD d = true) (fs : ∀ z ∈ ds, flatD z = true) (hz : ds[j]? = some z) (he : PyData.eqv z d = true)
    (hno : ∀ (m : Nat) (z' : PyData), m < j → ds[m]? = some z' → PyData.eqv z' d = false) : EvD (tTix K to te) σ H (.int (j : Nat)) := fun H1 a Q q => h H1 a _ fun v H2 e2 r2 => by
  obtain ⟨b, o, ys, rfl, hb, hn, rs⟩ := r2.tup_inv
  refine ⟨b, o, ys, rfl, hb, hn, hx H2 (a.trans e2) _ fun y H3 e3 r3 => ?_⟩
  obtain ⟨w, hw, rw_⟩ := rs.get hz
  refine ⟨j, w, e3 _ _ hb, r3.flat fd, rs.flat fs, hw, ?_, fun m z' hm hz' => ?_, q _ H3 (e2.trans e3) (.int _)⟩
  · rw [eqV_eqv (rw_.up e3) r3 (fs z (List.mem_of_getElem? hz))]
    exact he
  · obtain ⟨d', hd', rd'⟩ := rs.getV hz'
    rw [eqV_eqv (rd'.up e3) r3 (fs d' (List.mem_of_getElem? hd'))]
    exact hno m d' hm hd'
theorem first_O {ls : Lines} {x : Nat} (h : some x ∈ ls) : (ls.map dO)[ls.idxOf (some x)]? = some (dI x) ∧ ∀ (m : Nat) (z' : PyData), m < ls.idxOf (some x) → (ls.map dO)[m]? = some z' → PyData.eqv z' (dI x) = false := by
  refine ⟨by rw [List.getElem?_map, get_of_mem h]; rfl, fun m z' hm hz' => ?_⟩
  rw [List.getElem?_map] at hz'
  cases q : ls[m]? with
  | none => rw [q] at hz'; cases hz'
  | some o =>
    rw [q] at hz'
    have e : dO o = z' := Option.some.inj hz'
    rw [← e, show dI x = dO (some x) from rfl, eqv_O]
    refine decide_eq_false fun e2 => ?_
    have := idxOf_le (q.trans (congrArg some e2))
    omega
end K48
/-! accessed. -/
namespace K48
open PySem L2 Evl K48M
section
variable {P : Program} {w : World} {K : PySem.W.Frag} {mg : Str → Option Value} {base : Heap}
theorem ctl_get {C L : Nat} {k : Cache} (o : Ok C L k) {c : Nat} (h : c < C) : k[c]? = some (ctl k c) := by
  have hl : c < k.length := by rw [o.len]; exact h
  unfold ctl
  rw [List.getD_eq_getElem?_getD, List.getElem?_eq_getElem hl]
  rfl
theorem hit_get {C L : Nat} {k : Cache} (o : Ok C L k) {c j : Nat} (h : c < C) (hj : j < L) : (ctl k c).hits[j]? = some (hit k c j) := by
  have hl : j < (ctl k c).hits.length := by rw [o.hlen c h]; exact hj
  unfold hit
  rw [List.getD_eq_getElem?_getD, List.getElem?_eq_getElem hl]
  rfl
def Racc (C L : Nat) (ds : List PyData) (d : PyData) : Prop := ∃ k c ls x, ds = [dCache k, dI c, dLs ls, dI x] ∧ Ok C L k ∧ c < C ∧ ls.length = L ∧ L ≤ 1000 ∧
  d = .tuple [dI (go k (c, ls) x).1, dI (go k (c, ls) x).2.1, dLs (go k (c, ls) x).2.2]
theorem ok_accessed {C L : Nat} {f : Addr} {fd : FuncData} (F : Fun K "accessed" "accessed" s_accessed f fd) : FnOk P w K mg base CX0 1 f fd ["cache", "control", "lines", "name"] (spD (Racc C L)) := by
  refine F.ok sc_accessed (fun vs H Q E h => spD_len h fun ds d ⟨k, c, ls, x, e, _⟩ => by rw [e]; rfl) (fun cdv A outer s H vs Q E hr h => ?_)
  obtain ⟨ds, d, r, ⟨k, c, ls, x, rfl, o, hc, hl, hL, rfl⟩, q⟩ := h
  cases r with
  | cons r1 r => cases r with
  | cons r2 r => cases r with
  | cons r3 r => cases r with
  | cons r4 r =>
  cases r
  refine ⟨_, pss_cons (ps_asg (pe_ix ix_tup (pv 0) (pv 1) (fun _ _ => rfl)) (pg_tup rfl (pgs_cons (pg_name (i := 4) sc_accessed.nd rfl (.inl rfl)) (pgs_cons (pg_name (i := 5) sc_accessed.nd rfl (.inl rfl)) (pgs_cons (pg_name (i := 6) sc_accessed.nd rfl (.inl rfl)) pgs_nil)))))
    (pss_cons (ps_if (pt_cmpR op_in_seq (pv 3) (pv 2) (by rfl))
      (pss_one (ps_ret (pe_tupP (pa_cons pe_int (pa_cons (pe_ix ix_tup (pv 4) (pe_tix (pv 2) (pv 3)) (fun _ _ => rfl)) (pa_cons (pv 2) pa_nil)))))) pss_nil)
    (pss_one (ps_ret (pe_tupP (pa_cons pe_int (pa_cons (pv 6) (pa_cons (pe_op op_catP (pe_op op_catP (pe_slice sl_tupP (pv 2) po_none (po_some (pv 5))) (pe_tupP (pa_cons (pv 3) pa_nil))) (pe_slice sl_tupP (pv 2) (po_some (pe_op op_add (pv 5) pe_int)) po_none)) pa_nil))))))), ?_⟩
  refine d_seq (d_asgG (evd_ixT (evd_var rfl r1) (evd_var rfl r2) (atI_map (ctl_get o hc))) fun v H1 e1 rv => ?_)
  refine g_three rv fun v1 v2 v3 h1 h2 h3 => ?_
  refine d_seq (d_when (b := decide (some x ∈ ls)) (evt_test ((evd_inT (neg := false) (evd_var rfl (r4.up e1)) (evd_var rfl (r3.up e1)) (flat_I x) (flat_Os ls)).is (by rw [← any_O]; rfl))) (fun hb H2 e2 => ?_) (fun hb H2 e2 => ?_))
  · have hm : some x ∈ ls := of_decide_eq_true hb
    have hj := get_of_mem hm
    have hjl : ls.idxOf (some x) < L := by
      rw [← hl]
      exact (List.getElem?_eq_some_iff.mp hj).1
    have hfi := first_O hm
    refine d_ret (evd_tup (evds_cons evd_int (evds_cons (evd_ixT (evd_var rfl (h1.up e2)) (evd_tix (evd_var rfl (r3.up (e1.trans e2))) (evd_var rfl (r4.up (e1.trans e2))) (flat_I x) (flat_Os ls) hfi.1 (by rw [eqv_I]; exact decide_eq_true rfl) hfi.2) (atI_map (hit_get o hc hjl))) (evds_cons (evd_var rfl (r3.up (e1.trans e2))) evds_nil)))) fun v H3 e3 rr => q v H3 ((e1.trans e2).trans e3) ?_
    have eg : go k (c, ls) x = (1, (hit k c (ls.idxOf (some x)), ls)) := if_pos hm
    rw [eg]
    exact rr
  · have hm : ¬ some x ∈ ls := of_decide_eq_false hb
    have hll : (ctl k c).line < ls.length := by
      rw [hl]
      exact o.lin c hc
    have eadd : ((ctl k c).line : Int) + 1 = (((ctl k c).line + 1 : Nat) : Int) := by omega
    refine d_ret (evd_tup (evds_cons evd_int (evds_cons (evd_var rfl (h3.up e2)) (evds_cons (evd_catT (evd_catT (evd_slT (evd_var rfl (r3.up (e1.trans e2))) evdo_none (evdo_some (evd_var rfl (h2.up e2)))) (evd_tup (evds_cons (evd_var rfl (r4.up (e1.trans e2))) evds_nil)) ?z1) (evd_slT (evd_var rfl (r3.up (e1.trans e2))) (evdo_some ((evd_add (evd_var rfl (h2.up e2)) evd_int).is (congrArg PyData.int eadd))) evdo_none) ?z2) evds_nil)))) fun v H3 e3 rr => q v H3 ((e1.trans e2).trans e3) ?_
    case z1 =>
      rw [cut_to _ (by rw [List.length_map]; omega)]
      simp only [List.length_take, List.length_map, List.length_cons, List.length_nil]
      omega
    case z2 =>
      rw [cut_to _ (by rw [List.length_map]; omega), cut_from _ (by rw [List.length_map]; omega)]
      simp only [List.length_append, List.length_take, List.length_drop, List.length_map, List.length_cons, List.length_nil]
      omega
    have eg : go k (c, ls) x = (0, ((ctl k c).nxt, ls.set (ctl k c).line (some x))) := if_neg hm
    rw [eg]
    rw [cut_to _ (by rw [List.length_map]; omega), cut_from _ (by rw [List.length_map]; omega), set_cat (ls.map dO) (by rw [List.length_map]; exact hll) (dI x)] at rr
    have em : (ls.map dO).set (ctl k c).line (dI x) = (ls.set (ctl k c).line (some x)).map dO := by
      rw [List.map_set]
      rfl
    rw [em] at rr
    exact rr
end
end K48
/-! set(t), sorted(set(t)), len(set(t)): t a tuple of ints. -/
namespace K48
open PySem PySem.Spec PyProof.Rows L2 Evl
/-- the same members, each once -/
def Same2 (l ns : List Int) : Prop := l.Nodup ∧ ∀ k, k ∈ l ↔ k ∈ ns
theorem nodup_len : ∀ {l m : List Int}, l.Nodup → m.Nodup → (∀ k, k ∈ l ↔ k ∈ m) → l.length = m.length := fun {l m} h1 h2 h => ((List.perm_ext_iff_of_nodup h1 h2).mpr h).length_eq
theorem lt_uniq : ∀ {l m : List Int}, l.Pairwise (· < ·) → m.Pairwise (· < ·) → (∀ k, k ∈ l ↔ k ∈ m) → l = m := fun {l m} h1 h2 h =>
  List.Perm.eq_of_pairwise (le := (· < ·)) (fun a b _ _ h1 h2 => by omega) h1 h2 ((List.perm_ext_iff_of_nodup (h1.imp fun {a b} h => Int.ne_of_lt h) (h2.imp fun {a b} h => Int.ne_of_lt h)).mpr h)
section
variable {prog : Program} {w : World} {A : Around} {E : Value → Shared → Prop} {s : Shared} {a : Addr}
/-- sorted of a set of ints, any number of them -/
theorem sorted_set_any {S : Int → Bool} {n : Nat} {Q : Value → Shared → Prop} (R : SetR w s.heap a S n) (hh : A.handled = none)
    (hQ : ∀ s' p (out : Array Value) (c : Nat) (ns : List Int), (∀ b o, s.heap.get? b = some o → s'.heap.get? b = some o) → s'.gens = s.gens → s'.os = s.os → s.heap.objs.size ≤ p →
      s'.heap.get? p = some (seqObj "list" out c) → IntsAre out.toList ns → ns.Pairwise (· < ·) → (∀ k, k ∈ ns ↔ S k = true) → ns.length = n → Q (.ref p) s') :
    wpAny (model prog w) A (call (.builtin "sorted") [.ref a]) Q E s := by
  obtain ⟨o, es, ep, t, ho, hex, hd, g, nd, hm, hb, hf, hn, hr, hl⟩ := R
  refine Calls.call_function_entry kind_sorted plain_sorted entry_sorted (args_sorted1 _) ?_
  unfold Builtin.«sorted»
  refine wpAny_bind (m := checkCount "sorted" 1 1 _) (wpAny_pure ?_)
  refine wpAny_bind (collect_set (A := A.in1) hh ⟨o, ho, hex.1, hd⟩ hf hb hr hl fun s1 vs k1 hz g1 o1 pm => ?_)
  have hvl : vs.length = es.size := by rw [pm.length_eq, List.length_map, Array.length_toList]
  have hI : IntsAre vs (vs.map Builtin.Re.reRawOf) := ints_of vs fun v hv => by
    obtain ⟨e, he, q⟩ := List.mem_map.mp (pm.mem_iff.mp hv)
    obtain ⟨k, tk, h1, _⟩ := g e he
    exact ⟨k, tk, by rw [← q]; exact h1⟩
  have pk : (vs.map Builtin.Re.reRawOf).Perm (es.toList.map keyOf) := by
    have q := pm.map Builtin.Re.reRawOf
    rw [List.map_map] at q
    exact q
  have hvz : vs.length ≤ sizeLine := by rw [hvl]; exact fits_of_scanBound hb
  refine wpAny_bind (wpAny_newList ?_ hvz)
  have hoL : (s1.heap.push (seqObj "list" vs.toArray 0)).get? s1.heap.objs.size = some (seqObj "list" vs.toArray 0) := Heap.get?_push_size _ rfl
  refine wpAny_bind (wpAny_holding (wpAny_call_entry slot_list_sort ⟨_, hoL, rfl⟩ entry_list_sort
    (SrtO.list_sort_ord SrtO.swo_int (s := { s1 with heap := s1.heap.push (seqObj "list" vs.toArray 0) }) hoL hvz (fun h2 => SrtO.ints_sortable hI h2) fun out h1 h2 => ⟨_, rfl, ?_⟩) (args_list_sort _)))
  obtain ⟨c, hc⟩ := sortedHeap_at (vs := vs) (out := out.toArray) hoL
  obtain ⟨a1, a2, a3⟩ := SrtO.ints_out hI h1 h2
  have pn : (out.map SrtO.iv).Perm (es.toList.map keyOf) := a2.trans pk
  refine wpAny_pure ⟨_, rfl, hQ _ s1.heap.objs.size out.toArray c (out.map SrtO.iv) (fun b u e => ?_) g1 o1 hz hc a1 (lt_of_le_nodup _ a3 (pn.nodup_iff.mpr nd)) (fun k => by rw [pn.mem_iff, ← hm k]) ?_⟩
  · have q := k1 b u e
    have hlt := Heap.lt_size q
    show (sortedHeap (s1.heap.push (seqObj "list" vs.toArray 0)) s1.heap.objs.size vs out.toArray).get? b = some u
    rw [sortedHeap_old (Nat.ne_of_lt hlt) (by rw [size_push']; exact Nat.lt_succ_of_lt hlt)]
    exact Heap.get?_push_of_some _ q
  · rw [pn.length_eq, List.length_map, Array.length_toList]
    exact hn
end
section
variable {X : Cx}
/-- set(t) -/
def rSetTI (K : PySem.W.Frag) (w : World) : List V → Hp → VK → Prop := fun vs H Q => ∃ (p : Addr) (ns : List Int), vs = [.ref p] ∧ SqT K H p (ns.map V.int) ∧ ns.length ≤ 4000 ∧
  ∀ a S l, H a = none → Same2 l ns → (∀ k, S k = true ↔ k ∈ l) → Q (.ref a) (upd H a (SetO w a S l.length))
theorem cr_setTI (hc : X.calm = true) : CallR X (.type "set") (rSetTI X.K X.w) := by
  intro pins s σ H vs us Q I r h
  obtain ⟨p, ns, rfl, hq, hl, q⟩ := h
  obtain ⟨u, rfl, ru⟩ := vals1 r
  cases ru
  obtain ⟨its, rv, pt, hz⟩ := I.tuple hq
  have hi : IntsAre its.toArray.toList ns := ints_of_vals rv
  refine call_set_tupI ns (I.ok.hd hc) (show s.heap.IsTuple p its.toArray from pt) hi (by unfold scanBound; omega) fun h' tk c R1 hcn k => ?_
  have hn : H s.heap.objs.size = none := I.hok.fresh (Nat.le_refl _)
  obtain ⟨o, es, ep, t, ho, hex, hdt, g, nd, hm2, hb, hf, hnn, hr, hl2⟩ := id R1
  have en : (es.toList.map keyOf).length = c := by rw [List.length_map, Array.length_toList]; exact hnn
  have hS : Same2 (es.toList.map keyOf) ns := ⟨nd, fun j => by rw [← hm2 j, decide_eq_true_eq]⟩
  rw [← en] at R1
  exact ⟨.ref s.heap.objs.size, upd H s.heap.objs.size (SetO X.w s.heap.objs.size (fun j => decide (j ∈ ns)) (es.toList.map keyOf).length), I.laid (t' := tk) k (Nat.le_refl _) (setO_new R1), rfl, q _ _ _ hn hS fun j => by rw [decide_eq_true_eq, hS.2 j]⟩
/-- len(a set of ints) -/
def rLenSetO (w : World) : List V → Hp → VK → Prop := fun vs H Q => ∃ (a : Addr) (S : Int → Bool) (n : Nat), vs = [.ref a] ∧ H a = some (SetO w a S n) ∧ Q (.int n) H
theorem cr_lenSetO : CallR X (.builtin "len") (rLenSetO X.w) := by
  intro pins s σ H vs us Q I r h
  obtain ⟨a, S, n, rfl, ha, q⟩ := h
  obtain ⟨u, rfl, ru⟩ := vals1 r
  cases ru
  obtain ⟨o, es, ep, t, ho, hex, hdt, g, nd, hm2, hb, hf, hnn, hr, hl2⟩ := setO_get I ha
  refine call_len_set ho hex hdt hf (by have := hb; unfold scanBound at this; omega) ⟨.int (n : Nat), H, I.tok _, ⟨_, by rw [hnn]⟩, q⟩
/-- sorted(a set of ints) -/
def rSortSetO (w : World) : List V → Hp → VK → Prop := fun vs H Q => ∃ (a : Addr) (S : Int → Bool) (n : Nat), vs = [V.ref a] ∧ H a = some (SetO w a S n) ∧
  ∀ (ns : List Int) (p : Addr), ns.Pairwise (· < ·) → (∀ k : Int, k ∈ ns ↔ S k = true) → H p = none → Q (.ref p) (upd H p (.lst (ns.map V.int)))
theorem cr_sortSetO (hc : X.calm = true) : CallR X (.builtin "sorted") (rSortSetO X.w) := by
  intro pins s σ H vs us Q I r h
  obtain ⟨a, S, n, rfl, ha, q⟩ := h
  have R := setO_get I ha
  have hn4 : n ≤ sizeLine := by
    obtain ⟨o, es, ep, t, ho, hex, hdt, g, nd, hm2, hb, hf, hnn, hr, hl2⟩ := id R
    rw [← hnn]
    exact fits_of_scanBound hb
  rw [Vals.ref1 r]
  refine sorted_set_any R (I.ok.hd hc) fun s' p out c ns k g o hp hg hi hs hm hl => ?_
  have hlen : (ns.map V.int).length ≤ sizeLine := by rw [List.length_map, hl]; exact hn4
  have hn : H p = none := I.hok.fresh hp
  have J : Inv X pins σ (upd H p (.lst (ns.map V.int))) { s with heap := s'.heap, gens := s'.gens, drawn := s'.drawn, toks := s'.toks } :=
    I.call (ch := []) (Un.laid k hp hn) (I.hok.laid k hp ⟨hlen, out.toList, c, vals_of_ints hi, hg⟩) (by rw [g]; exact I.bare) (fun _ z => nomatch z)
  have e : s' = { s with heap := s'.heap, gens := s'.gens, drawn := s'.drawn, toks := s'.toks } := by
    cases s'
    cases s
    cases o
    rfl
  rw [e]
  exact ⟨.ref p, _, J, rfl, q ns p hs hm hn⟩
end
section
variable {K : PySem.W.Frag} {w : World} {σ : S} {H : Hp} {ta : TE}
/-- sorted(set(t)) -/
theorem evn_sortset {ns l : List Int} (h : EvD ta σ H (.tuple (ns.map .int))) (hz : ns.length ≤ 4000) (hs : l.Pairwise (· < ·)) (hm : ∀ k, k ∈ l ↔ k ∈ ns) :
    EvN (tCB (rSortSetO w) (tCons (tCB (rSetTI K w) (tCons ta tNil)) tNil)) σ H (l.map .int) := fun H1 a Q q => h H1 a _ fun v H2 e2 r2 => by
  obtain ⟨b, o, xs, rfl, hx, hn, rs⟩ := r2.tup_inv
  have ex := rs.ints
  subst ex
  refine ⟨b, ns, rfl, st_tp hx, hz, fun c S l2 hc h2 hS => ?_⟩
  refine ⟨c, S, l2.length, rfl, upd_same, fun ns' p hlt hmem hp => ?_⟩
  have e : ns' = l := lt_uniq hlt hs fun k => by rw [hmem, hS, h2.2, hm]
  subst e
  have e3 : Ex H1 (upd (upd H2 c (SetO w c S l2.length)) p (.lst (ns'.map V.int))) := (e2.trans (Ex.new hc)).trans (Ex.new hp)
  exact q p _ _ (fresh_back e2 (fresh_back (Ex.new hc) hp)) e3 upd_same (Rps.of_ints ns')
/-- len(set(t)) -/
theorem evd_lenset {ns l : List Int} (h : EvD ta σ H (.tuple (ns.map .int))) (hz : ns.length ≤ 4000) (hs : Same2 l ns) :
    EvD (tCB (rLenSetO w) (tCons (tCB (rSetTI K w) (tCons ta tNil)) tNil)) σ H (.int l.length) := fun H1 a Q q => h H1 a _ fun v H2 e2 r2 => by
  obtain ⟨b, o, xs, rfl, hx, hn, rs⟩ := r2.tup_inv
  have ex := rs.ints
  subst ex
  refine ⟨b, ns, rfl, st_tp hx, hz, fun c S l2 hc h2 hS => ?_⟩
  refine ⟨c, S, l2.length, rfl, upd_same, ?_⟩
  have e : l2.length = l.length := nodup_len h2.1 hs.1 fun k => by rw [h2.2, hs.2]
  rw [e]
  exact q _ _ (e2.trans (Ex.new hc)) (.int _)
end
end K48
/-! stay_steps. -/
namespace K48
open PySem L2 Evl K48M
/-! ### sorted places of true flags -/
theorem trues_lt (F : List Bool) : (trues F).Pairwise (· < ·) := by
  unfold trues
  exact List.Pairwise.filter _ List.pairwise_lt_range
theorem dNs_int (l : List Nat) : l.map dI = (l.map fun n : Nat => (n : Int)).map .int := by
  rw [List.map_map]
  rfl
theorem ints_lt {l : List Nat} (h : l.Pairwise (· < ·)) : (l.map fun n : Nat => (n : Int)).Pairwise (· < ·) := by
  rw [List.pairwise_map]
  exact h.imp fun {a b} h => by omega
theorem mem_ints {l : List Nat} {k : Int} : k ∈ (l.map fun n : Nat => (n : Int)) ↔ ∃ n ∈ l, (n : Int) = k := List.mem_map
theorem set_true {F : List Bool} {j i : Nat} (hj : j < F.length) : (F.set j true)[i]? = some true ↔ i = j ∨ F[i]? = some true := by
  by_cases e : i = j
  · subst e
    rw [List.getElem?_set_self hj]
    simp
  · rw [List.getElem?_set_ne (Ne.symm e)]
    simp [e]
theorem trues_len (F : List Bool) : (trues F).length ≤ F.length := by
  unfold trues
  refine Nat.le_trans (List.length_filter_le _ _) ?_
  rw [List.length_range]
  exact Nat.le_refl _
section
variable {K : PySem.W.Frag} {w : World} {σ : S} {H : Hp} {ta tb : TE}
abbrev tSrt (K : PySem.W.Frag) (w : World) (ta : TE) : TE := tCB (rTupOfP K) (tCons (tCB (rSortSetO w) (tCons (tCB (rSetTI K w) (tCons ta tNil)) tNil)) tNil)
/-- tuple(sorted(set(places + (j,)))) -/
theorem evd_ins {F : List Bool} {j : Nat} (ha : EvD ta σ H (dNs (trues F))) (hb : EvD tb σ H (dI j)) (hj : j < F.length) (hF : F.length ≤ 1000) : EvD (tSrt K w (tOp (rCatP K) ta (tTupP (tCons tb tNil)))) σ H (dNs (trues (F.set j true))) := by
  have hl := trues_len F
  have h1 : EvD (tOp (rCatP K) ta (tTupP (tCons tb tNil))) σ H (.tuple ((trues F ++ [j]).map dI)) := by
    rw [List.map_append]
    exact evd_catT ha (evd_tup (evds_cons hb evds_nil)) (by rw [List.length_map]; show _ + 1 ≤ _; omega)
  rw [dNs_int] at h1
  have h2 := evn_sortset (K := K) (w := w) (l := (trues (F.set j true)).map fun n : Nat => (n : Int)) h1 (by rw [List.length_map, List.length_append]; show _ + 1 ≤ _; omega) (ints_lt (trues_lt _)) fun k => by
    rw [mem_ints, mem_ints]
    constructor
    · rintro ⟨n, hn, e⟩
      refine ⟨n, ?_, e⟩
      rcases (set_true hj).mp (mem_trues.mp hn) with q | q
      · exact List.mem_append_right _ (List.mem_singleton.mpr q)
      · exact List.mem_append_left _ (mem_trues.mpr q)
    · rintro ⟨n, hn, e⟩
      refine ⟨n, mem_trues.mpr ((set_true hj).mpr ?_), e⟩
      rcases List.mem_append.mp hn with q | q
      · exact .inr (mem_trues.mp q)
      · exact .inl (List.mem_singleton.mp q)
  have h3 := evd_tupL (K := K) h2.toD
  rw [← dNs_int] at h3
  exact h3
abbrev rInt1 : List V → Hp → VK → Prop := fun xs H Q => (∃ i, xs = [.int i] ∧ Q (.int i) H) ∨ ∃ k, xs = [.bl k] ∧ Q (.int (if k then 1 else 0)) H
theorem evd_intB {b : Bool} (h : EvD ta σ H (.bool b)) : EvD (tCB rInt1 (tCons ta tNil)) σ H (.int (if b then 1 else 0)) := fun H1 a Q q => h H1 a _ fun v H2 e2 r => by
  rw [r.bool_inv]
  exact .inr ⟨b, rfl, q _ H2 e2 (.int _)⟩
theorem evd_intI {i : Int} (h : EvD ta σ H (.int i)) : EvD (tCB rInt1 (tCons ta tNil)) σ H (.int i) := fun H1 a Q q => h H1 a _ fun v H2 e2 r => by
  rw [r.int_inv]
  exact .inl ⟨i, rfl, q _ H2 e2 (.int _)⟩
end
def dStay (s : Stay) : PyData := .tuple [dI s.1, dNs (trues s.2.1), dI s.2.2.1, dNs (trues s.2.2.2)]
def dGain (p : Nat × Stay) : PyData := .tuple [dI p.1, dStay p.2]
theorem tupD_Stay (s : Stay) : tupD (dStay s) = true := by
  unfold dStay
  rw [tupD, tupDs, tupDs, tupDs, tupDs, tupD_Ns, tupD_Ns, tupD_I, tupD_I]
  rfl
theorem tupD_Gain (p : Nat × Stay) : tupD (dGain p) = true := by
  unfold dGain
  rw [tupD, tupDs, tupDs, tupD_Stay, tupD_I]
  rfl
/-- a right stay -/
structure SOk (C L : Nat) (s : Stay) : Prop where
  c : s.1 < C
  f : s.2.1.length = L
  h : s.2.2.1 < L
  m : s.2.2.2.length = L
def hitStep (k : Cache) (s : Stay) (j : Nat) : Nat × Stay := ((if s.2.2.2.getD j false then 0 else 1), (hit k s.1 j, s.2.1, s.2.2.1, s.2.2.2.set j true))
theorem notin_trues (M : List Bool) (j : Nat) : (if (!(decide (j ∈ trues M))) then (1 : Int) else 0) = (((if M.getD j false then 0 else 1) : Nat) : Int) := by
  have : decide (j ∈ trues M) = M.getD j false := by
    rw [List.getD_eq_getElem?_getD]
    cases q : M[j]? with
    | none =>
      refine decide_eq_false fun h => ?_
      rw [mem_trues, q] at h
      cases h
    | some b =>
      cases b with
      | true => exact decide_eq_true (mem_trues.mpr q)
      | false =>
        refine decide_eq_false fun h => ?_
        rw [mem_trues, q] at h
        cases h
  rw [this]
  cases M.getD j false <;> rfl
section
variable {P : Program} {w : World} {K : PySem.W.Frag} {mg : Str → Option Value} {base : Heap}
def Rsteps (C L : Nat) (ds es : List PyData) : Prop := ∃ k s, ds = [dCache k, dStay s] ∧ Ok C L k ∧ SOk C L s ∧ L ≤ 1000 ∧ es = (succ k s).map dGain
theorem ok_stay_steps {C L : Nat} {f : Addr} {fd : FuncData} (F : Fun K "stay_steps" "stay_steps" s_stay_steps f fd) (T : Mg mg) : FnOk P w K mg base CX0 1 f fd ["cache", "stay"] (spN (Rsteps C L)) := by
  refine F.ok sc_stay_steps (fun vs H Q E h => spN_len h fun ds d ⟨k, s, e, _⟩ => by rw [e]; rfl) (fun cdv A outer sh H vs Q E hr h => ?_)
  obtain ⟨ds, es, r, ⟨k, ⟨c, FF, hh, M⟩, rfl, o, ⟨hc, hF, hh', hM⟩, hL, rfl⟩, q⟩ := h
  cases r with
  | cons r1 r => cases r with
  | cons r2 r =>
  cases r
  simp only at hc hF hh' hM
  refine ⟨_, pss_cons (ps_asg (pv 1) (pg_tup rfl (pgs_cons (pg_name (i := 2) sc_stay_steps.nd rfl (.inl rfl)) (pgs_cons (pg_name (i := 3) sc_stay_steps.nd rfl (.inl rfl)) (pgs_cons (pg_name (i := 4) sc_stay_steps.nd rfl (.inl rfl)) (pgs_cons (pg_name (i := 5) sc_stay_steps.nd rfl (.inl rfl)) pgs_nil))))))
    (pss_cons (ps_asg (pe_ix ix_tup (pv 0) (pv 2) (fun _ _ => rfl)) (pg_tup rfl (pgs_cons (pg_name (i := 6) sc_stay_steps.nd rfl (.inl rfl)) (pgs_cons (pg_name (i := 7) sc_stay_steps.nd rfl (.inl rfl)) (pgs_cons (pg_name (i := 8) sc_stay_steps.nd rfl (.inl rfl)) pgs_nil)))))
    (pss_cons (ps_set (i := 9) sc_stay_steps.nd rfl (.inl rfl) (pe_lst pa_nil))
    (pss_cons (ps_for PassesOwn.never rfl (pi_tup (pv 3)) (pg_name (i := 10) sc_stay_steps.nd rfl (.inl rfl))
      (pss_one (ps_if (pt_cmpR op_ne (pv 10) (pv 4) (nomark _))
        (pss_one (ps_expr (pe_bm PySem.F.plainAttrs_list PySem.F.slot_list_append PySem.F.type_list_append mt_append (pv 9)
          (pa_cons (pe_tupP (pa_cons (pe_callTy call_int1 (by rfl) T.int (by decide +kernel) (pa_cons (pe_cmpR op_notIn_seq (pv 10) (pv 5) (by rfl)) pa_nil))
            (pa_cons (pe_tupP (pa_cons (pe_ix ix_tup (pv 6) (pv 10) (fun _ _ => rfl)) (pa_cons (pv 3) (pa_cons (pv 4)
              (pa_cons (pe_callTy call_tupleP (by rfl) T.tuple (by decide +kernel) (pa_cons (pe_callB (cr_sortSetO rfl) (by rfl) T.sorted (by decide +kernel) (pa_cons (pe_callTy (cr_setTI rfl) (by rfl) T.set (by decide +kernel) (pa_cons (pe_op op_catP (pv 5) (pe_tupP (pa_cons (pv 10) pa_nil))) pa_nil)) pa_nil)) pa_nil)) pa_nil))))) pa_nil))) pa_nil)))) pss_nil)))
    (pss_cons (ps_if (pt_cmpR op_ne (pv 7) (pv 4) (nomark _))
      (pss_cons (ps_set (i := 11) sc_stay_steps.nd rfl (.inl rfl) (pe_tupP (pa_cons (pv 8)
        (pa_cons (pe_callTy call_tupleP (by rfl) T.tuple (by decide +kernel) (pa_cons (pe_callB (cr_sortSetO rfl) (by rfl) T.sorted (by decide +kernel) (pa_cons (pe_callTy (cr_setTI rfl) (by rfl) T.set (by decide +kernel) (pa_cons (pe_op op_catP (pv 3) (pe_tupP (pa_cons (pv 7) pa_nil))) pa_nil)) pa_nil)) pa_nil))
        (pa_cons (pv 4)
        (pa_cons (pe_callTy call_tupleP (by rfl) T.tuple (by decide +kernel) (pa_cons (pe_callB (cr_sortSetO rfl) (by rfl) T.sorted (by decide +kernel) (pa_cons (pe_callTy (cr_setTI rfl) (by rfl) T.set (by decide +kernel) (pa_cons (pe_op op_catP (pv 5) (pe_tupP (pa_cons (pv 7) pa_nil))) pa_nil)) pa_nil)) pa_nil))
        pa_nil))))))
      (pss_one (ps_expr (pe_bm PySem.F.plainAttrs_list PySem.F.slot_list_append PySem.F.type_list_append mt_append (pv 9) (pa_cons (pe_tupP (pa_cons pe_int (pa_cons (pv 11) pa_nil))) pa_nil))))) pss_nil)
    (pss_one (ps_ret (pv 9))))))), ?_⟩
  -- control, filled, held, met = stay
  refine d_seq (d_asgG (evd_var rfl r2) fun v0 H0 e0 rv0 => ?_)
  refine g_four rv0 fun v2 v3 v4 v5 h2 h3 h4 h5 => ?_
  refine d_seq (d_asgG (evd_ixT (evd_var rfl (r1.up e0)) (evd_var rfl h2) (atI_map (ctl_get o hc))) fun v1 H1 e1 rv1 => ?_)
  refine g_three rv1 fun v6 v7 v8 h6 h7 h8 => ?_
  refine d_seq (d_asgN (evn_lst evds_nil) fun l xs H2 nl e2 hl rl => ?_)
  cases rl
  have h3' := (h3.up e1).up e2
  obtain ⟨p, op, ys, rfl, hp, hpn, rys⟩ := h3'.tup_inv
  have e02 : Ex H H2 := (e0.trans e1).trans e2
  refine d_seq (d_forT (ev_slot rfl) op hp (fun i σ' H' => ∃ u acc, σ' = [some _, some _, some v2, some (.ref p), some v4, some v5, some v6, some v7, some v8, some (.ref l), u, none] ∧ But [l] H2 H' ∧ H' l = some (.lst acc) ∧
      Rps H' acc ((((trues FF).take i).filter fun j => decide (j ≠ hh)).map fun j => dGain (hitStep k (c, FF, hh, M) j))) (fun H3 e3 => ⟨none, [], rfl, But.ex e3, e3 _ _ hl, by rw [List.take_zero]; exact .nil⟩)
    (fun i σ' H' ⟨u, acc, _, b, _, _⟩ => b.go (by rw [List.mem_singleton]; exact tup_ne hp hl) hp) (fun i v σ' H' hi ⟨u, acc, es, b, hlH, rac⟩ => ?_) (fun σ' H' ⟨u, acc, es, b, hlH, rac⟩ => ?_))
  · subst es
    obtain ⟨d, hd, rv⟩ := rys.getV hi
    rw [List.getElem?_map] at hd
    obtain ⟨j, hj, rfl⟩ := Option.map_eq_some_iff.mp hd
    have hjF : j < L := by
      have := mem_trues.mp (List.mem_of_getElem? hj)
      rw [← hF]
      exact (List.getElem?_eq_some_iff.mp this).1
    have tk := b.tk (noT_one hl)
    have rvj : Rp H' v (dI j) := Rp.tk tk _ (tupD_I j) rv
    have k4 : Rp H' v4 (dI hh) := Rp.tk tk _ (tupD_I _) ((h4.up e1).up e2)
    have k3 : Rp H' (.ref p) (dNs (trues FF)) := Rp.tk tk _ (tupD_Ns _) h3'
    have k5 : Rp H' v5 (dNs (trues M)) := Rp.tk tk _ (tupD_Ns _) ((h5.up e1).up e2)
    have k6 : Rp H' v6 (dNs (ctl k c).hits) := Rp.tk tk _ (tupD_Ns _) (h6.up e2)
    have htk : (trues FF).take (i + 1) = (trues FF).take i ++ [j] := by rw [List.take_add_one, hj]; rfl
    have hlen : acc.length ≤ 1000 := by
      rw [rac.len, List.length_map]
      refine Nat.le_trans (List.length_filter_le _ _) (Nat.le_trans (List.length_take_le' _ _) ?_)
      have := trues_len FF
      omega
    show tIfS _ _ _ _ _ _
    refine d_when (b := decide (j ≠ hh)) (evt_test ((evd_neI (evd_var rfl rvj) (evd_var rfl k4)).is ?_)) (fun hb H3 e3 => ?_) (fun hb H3 e3 => ?_)
    · congr 1
      by_cases q : j = hh
      · simp [q]
      · have : ¬ (j : Int) = (hh : Int) := by omega
        simp [q, this]
    · refine d_app (e3 _ _ hlH) (ev_slot rfl) (d := dGain (hitStep k (c, FF, hh, M) j)) (evd_tup (evds_cons ((evd_intB ((evd_inT (neg := true) (evd_var rfl (rvj.up e3)) (evd_var rfl (k5.up e3)) (flat_I j) (flat_Is _)).is (by rw [any_I]; rfl))).is (congrArg PyData.int (notin_trues M j)))
        (evds_cons (evd_tup (evds_cons (evd_ixT (evd_var rfl (k6.up e3)) (evd_var rfl (rvj.up e3)) (atI_map (hit_get o hc hjF))) (evds_cons (evd_var rfl (k3.up e3)) (evds_cons (evd_var rfl (k4.up e3))
          (evds_cons (evd_ins (F := M) (evd_var rfl (k5.up e3)) (evd_var rfl (rvj.up e3)) (by omega) (by omega)) evds_nil))))) evds_nil))) (by omega) fun v' H4 e4 r4 => ?_
      refine ⟨some v, _, rfl, (b.trans (But.ex (e3.trans e4))).trans (But.upd (List.mem_singleton.mpr rfl)), upd_same, ?_⟩
      have hl4 := e4 _ _ (e3 _ _ hlH)
      rw [htk, List.filter_append, List.map_append, List.filter_cons_of_pos (p := fun j => decide (j ≠ hh)) hb]
      refine Rps.append (Rps.tk (Tk.upd hl4) _ (tupDs_map (fun _ => tupD_Gain _) _) ((rac.up e3).up e4)) (.cons (Rp.tk (Tk.upd hl4) _ (tupD_Gain _) r4) .nil)
    · refine ⟨some v, acc, rfl, b.trans (But.ex e3), e3 _ _ hlH, ?_⟩
      rw [htk, List.filter_append, List.filter_cons_of_neg (p := fun j => decide (j ≠ hh)) (by rw [hb]; decide)]
      show Rps H3 acc ((List.filter _ (List.take i (trues FF)) ++ []).map _)
      rw [List.append_nil]
      exact rac.up e3
  · subst es
    have hys : ys.length = (trues FF).length := by rw [rys.len, List.length_map]
    rw [hys, List.take_length] at rac
    have tk := b.tk (noT_one hl)
    have hlen : acc.length ≤ 1000 := by
      rw [rac.len, List.length_map]
      refine Nat.le_trans (List.length_filter_le _ _) ?_
      have := trues_len FF
      omega
    have k4 : Rp H' v4 (dI hh) := Rp.tk tk _ (tupD_I _) ((h4.up e1).up e2)
    have k3 : Rp H' (.ref p) (dNs (trues FF)) := Rp.tk tk _ (tupD_Ns _) h3'
    have k5 : Rp H' v5 (dNs (trues M)) := Rp.tk tk _ (tupD_Ns _) ((h5.up e1).up e2)
    have k7 : Rp H' v7 (dI (ctl k c).line) := Rp.tk tk _ (tupD_I _) (h7.up e2)
    have k8 : Rp H' v8 (dI (ctl k c).nxt) := Rp.tk tk _ (tupD_I _) (h8.up e2)
    have hlin := o.lin c hc
    have ls : H l = none := fresh_back e0 (fresh_back e1 nl)
    have fin : ∀ H3, But [l] H2 H3 → Ex H H3 := fun H3 b3 => (e02.trans (Ex.refl _)).trans_but b3 ls
    refine d_seq (d_when (b := decide ((ctl k c).line ≠ hh)) (evt_test ((evd_neI (evd_var rfl k7) (evd_var rfl k4)).is ?_)) (fun hb H3 e3 => ?_) (fun hb H3 e3 => ?_))
    · congr 1
      by_cases q : (ctl k c).line = hh
      · simp [q]
      · have : ¬ ((ctl k c).line : Int) = (hh : Int) := by omega
        simp [q, this]
    · refine d_seq (d_asg (evd_tup (evds_cons (evd_var rfl (k8.up e3)) (evds_cons (evd_ins (evd_var rfl (k3.up e3)) (evd_var rfl (k7.up e3)) (by omega) (by omega)) (evds_cons (evd_var rfl (k4.up e3)) (evds_cons (evd_ins (evd_var rfl (k5.up e3)) (evd_var rfl (k7.up e3)) (by omega) (by omega)) evds_nil))))) fun v11 H4 e4 r4 => ?_)
      have hl4 := e4 _ _ (e3 _ _ hlH)
      refine d_app hl4 (ev_slot rfl) (d := dGain (1, ((ctl k c).nxt, FF.set (ctl k c).line true, hh, M.set (ctl k c).line true))) (evd_tup (evds_cons evd_int (evds_cons (evd_var rfl r4) evds_nil))) (by omega) fun v' H5 e5 r5 => ?_
      have hl5 := e5 _ _ hl4
      refine ⟨.ref l, rfl, q l _ _ ls (fin _ (((b.trans (But.ex ((e3.trans e4).trans e5)))).trans (But.upd (List.mem_singleton.mpr rfl)))) upd_same ?_⟩
      have hs : (if (ctl k c).line ≠ hh then [((1 : Nat), (((ctl k c).nxt, FF.set (ctl k c).line true, hh, M.set (ctl k c).line true) : Stay))] else []) = [(1, ((ctl k c).nxt, FF.set (ctl k c).line true, hh, M.set (ctl k c).line true))] := if_pos (of_decide_eq_true hb)
      unfold succ
      rw [hs, List.map_append, List.map_map]
      exact Rps.append (Rps.tk (Tk.upd hl5) _ (tupDs_map (fun _ => tupD_Gain _) _) (((rac.up e3).up e4).up e5)) (.cons (Rp.tk (Tk.upd hl5) _ (tupD_Gain _) r5) .nil)
    · refine ⟨.ref l, rfl, q l acc H3 ls (fin _ (b.trans (But.ex e3))) (e3 _ _ hlH) ?_⟩
      unfold succ
      have hs : (if (ctl k c).line ≠ hh then [((1 : Nat), (((ctl k c).nxt, FF.set (ctl k c).line true, hh, M.set (ctl k c).line true) : Stay))] else []) = [] := if_neg (of_decide_eq_false hb)
      rw [hs, List.append_nil, List.map_map]
      exact rac.up e3
end
end K48
/-! Dicts whose keys are nested tuples. -/
namespace K48
open PySem PySem.Spec PyProof.Rows L2 Evl
mutual
/-- data as a key -/
def nk : PyData → NestedKey
  | .none => .none
  | .bool b => .num (if b = true then 1 else 0)
  | .int i => .num i
  | .str x => .text x
  | .tuple ds => .tup (nks ds)
  | .list _ => .none
  | .dict _ => .none
def nks : List PyData → List NestedKey
  | [] => []
  | d :: ds => nk d :: nks ds
end
section
variable {P : Program} {w : World} {H : Hp} {h : Heap}
mutual
theorem nested_of (ok : HOk P w H h) : ∀ {v : V} (d : PyData), tupD d = true → Rp H v d → ∀ u, RelV v u → NestedIs h (nk d) u
  | _, .none, _, .non, u, ru => by
    cases ru
    rw [nk]
    exact .none
  | _, .bool b, _, .bl _, u, ru => by
    cases ru
    rw [nk]
    exact .bool rfl
  | _, .int i, _, .int _, u, ru => by
    obtain ⟨t, rfl⟩ := ru
    rw [nk]
    exact .int i t
  | _, .str x, _, .str _, u, ru => by
    obtain ⟨t, rfl⟩ := ru
    rw [nk]
    exact .text x t
  | _, .tuple ds, t, .tup ha hn r, u, ru => by
    cases ru
    rw [nk]
    rw [tupD] at t
    obtain ⟨hob, _, its, rv, ob, hob', hc, n, hd⟩ := ok _ _ ha
    exact .tup hob' hc hd (by simpa using nesteds_of ok ds t r its rv)
theorem nesteds_of (ok : HOk P w H h) : ∀ {vs : List V} (ds : List PyData), tupDs ds = true → Rps H vs ds → ∀ us, Vals vs us → NestedAll h (nks ds) us
  | _, [], _, .nil, _, r => by
    cases r
    rw [nks]
    exact .nil
  | _, d :: ds, t, .cons r1 r2, _, r => by
    cases r with
    | cons a b =>
      rw [nks]
      rw [tupDs, Bool.and_eq_true] at t
      exact .cons (nested_of ok d t.1 r1 _ a) (nesteds_of ok ds t.2 r2 _ b)
end
end
/-- at b stands a tuple that is the key k -/
def KeyAt (H : Hp) (b : Addr) (k : NestedKey) : Prop := ∃ d, tupD d = true ∧ nk d = k ∧ k.depth ≤ 8 ∧ Rp H (.ref b) d
theorem KeyAt.tk {H H' : Hp} {b : Addr} {k : NestedKey} (x : KeyAt H b k) (t : Tk H H') : KeyAt H' b k := by
  obtain ⟨d, h1, h2, h3, r⟩ := x
  exact ⟨d, h1, h2, h3, Rp.tk t d h1 r⟩
theorem KeyAt.is {P : Program} {w : World} {H : Hp} {h : Heap} {b : Addr} {k : NestedKey} (ok : HOk P w H h) (x : KeyAt H b k) : (nestedKind P w).is h k b := by
  obtain ⟨d, h1, h2, h3, r⟩ := x
  subst h2
  exact ⟨nested_of ok d h1 r _ rfl, h3⟩
abbrev KRow := NestedKey × Addr × V
def NdR (P : Program) (w : World) (a : Addr) (xs : List KRow) (h : Heap) : Prop := (a == sysModules) = false ∧ xs.length ≤ 1000000 ∧ ∃ ys : List (NestedKey × Addr × Value), Paired (fun p q => p.1 = q.1 ∧ p.2.1 = q.2.1 ∧ RelV p.2.2 q.2.2) xs ys ∧
  ∃ o es ep, h.get? a = some o ∧ o.ExactDict ∧ o.data = .dict es ep ∧ es.toList = ys.map (entryOfKey (nestedKind P w)) ∧ (ys.map (·.1)).Nodup
def NdO (P : Program) (w : World) (a : Addr) (xs : List KRow) : HO := .ext (NdR P w a xs)
theorem ndO_ok {P : Program} {w : World} {H : Hp} {h : Heap} {a : Addr} {xs : List KRow} (x : NdR P w a xs h) : ObjOk P w H h a (NdO P w a xs) := by
  obtain ⟨h1, h2, ys, r, o, es, ep, e, c⟩ := id x
  refine ⟨x, ⟨o, e⟩, fun g1 g2 y k => ?_⟩
  obtain ⟨h1, h2, ys, r, o, es, ep, e, c⟩ := y
  exact ⟨h1, h2, ys, r, o, es, ep, k _ e, c⟩
abbrev Tbl := List (NestedKey × V)
/-- at a stands a dict with these keys and values -/
def Dd (P : Program) (w : World) (H : Hp) (a : Addr) (kvs : Tbl) : Prop := ∃ xs : List KRow, H a = some (NdO P w a xs) ∧ Paired (fun p x => p.1 = x.1 ∧ p.2 = x.2.2 ∧ KeyAt H x.2.1 x.1) kvs xs
theorem Dd.tk {P : Program} {w : World} {H H' : Hp} {a : Addr} {kvs : Tbl} (x : Dd P w H a kvs) (t : Tk H H') (e : H' a = H a) : Dd P w H' a kvs := by
  obtain ⟨xs, h, r⟩ := x
  exact ⟨xs, e.trans h, Paired.mapP r fun p q z => ⟨z.1, z.2.1, z.2.2.tk t⟩⟩
theorem Dd.up {P : Program} {w : World} {H H' : Hp} {a : Addr} {kvs : Tbl} (x : Dd P w H a kvs) (e : Ex H H') : Dd P w H' a kvs := by
  obtain ⟨xs, h, r⟩ := id x
  exact x.tk (Tk.ex e) ((e _ _ h).trans h.symm)
theorem Dd.go {P : Program} {w : World} {H H' : Hp} {a : Addr} {kvs : Tbl} {ls : List Addr} (x : Dd P w H a kvs) (b : But ls H H') (n : a ∉ ls) (t : NoT ls H) : Dd P w H' a kvs := by
  obtain ⟨xs, h, r⟩ := id x
  exact x.tk (b.tk t) ((b.go n h).trans h.symm)
theorem Dd.noT {P : Program} {w : World} {H : Hp} {a : Addr} {kvs : Tbl} (x : Dd P w H a kvs) : NoT [a] H := fun l hl o ys e => by
  obtain ⟨xs, h, r⟩ := x
  rw [List.mem_singleton.mp hl, h] at e
  cases e
theorem Dd.ne_lst {P : Program} {w : World} {H : Hp} {a l : Addr} {kvs : Tbl} {ys : List V} (x : Dd P w H a kvs) (e : H l = some (.lst ys)) : a ≠ l := fun q => by
  obtain ⟨xs, h, r⟩ := x
  rw [q, e] at h
  cases h
theorem Dd.ne_tup {P : Program} {w : World} {H : Hp} {a l : Addr} {kvs : Tbl} {o : Obj} {ys : List V} (x : Dd P w H a kvs) (e : H l = some (tp o ys)) : a ≠ l := fun q => by
  obtain ⟨xs, h, r⟩ := x
  rw [q, e] at h
  cases h
abbrev KN (H : Hp) : Tbl → List (NestedKey × Addr × Value) → Prop := Paired fun p q => p.1 = q.1 ∧ KeyAt H q.2.1 q.1 ∧ RelV p.2 q.2.2
theorem KN.val {H : Hp} {kvs : Tbl} {xs : List (NestedKey × Addr × Value)} (r : KN H kvs xs) (k : NestedKey) : RelO (valV kvs k) ((atKey xs k).map (·.2)) := by
  induction r with
  | nil => exact True.intro
  | @cons p q ps qs h t ih =>
    obtain ⟨h1, _, h2⟩ := h
    by_cases e : p.1 = k
    · have e' : q.1 = k := h1.symm.trans e
      have b : atKey (q :: qs) k = some q.2 := by simp [atKey, List.find?_cons, e']
      rw [valV_pos e, b]; exact h2
    · have e' : ¬ q.1 = k := fun z => e (h1.trans z)
      have b : atKey (q :: qs) k = atKey qs k := by simp [atKey, List.find?_cons, e']
      rw [valV_neg e, b]; exact ih
theorem KN.repl {H : Hp} {kvs : Tbl} {xs : List (NestedKey × Addr × Value)} (r : KN H kvs xs) (k : NestedKey) {y : V} {u : Value} (ry : RelV y u) :
    KN H (kvs.map fun kv => if kv.1 = k then (kv.1, y) else kv) (xs.map (putAt k u)) := by
  induction r with
  | nil => exact .nil
  | @cons p q ps qs h t ih =>
    rw [List.map_cons, List.map_cons]
    refine .cons ?_ ih
    obtain ⟨h1, h2, h3⟩ := h
    unfold putAt
    by_cases e : p.1 = k
    · rw [if_pos e, if_pos (h1.symm.trans e)]; exact ⟨h1, h2, ry⟩
    · rw [if_neg e, if_neg (fun z => e (h1.trans z))]; exact ⟨h1, h2, h3⟩
theorem KN.put {H : Hp} {kvs : Tbl} {xs : List (NestedKey × Addr × Value)} (r : KN H kvs xs) (k : NestedKey) {b : Addr} {y : V} {u : Value} (hb : KeyAt H b k) (ry : RelV y u) :
    KN H (putK kvs k y) (storedH xs k b u) := by
  have e : (kvs.any fun kv => decide (kv.1 = k)) = (atKey xs k).isSome := by
    rw [valV_any, (r.val k).isSome_eq, Option.isSome_map]
  unfold putK storedH
  rw [e]
  by_cases q : (atKey xs k).isSome = true
  · rw [if_pos q, if_pos q]; exact r.repl k ry
  · rw [if_neg q, if_neg q]; exact Paired.snoc r ⟨rfl, hb, ry⟩
theorem KN.rows {H : Hp} {kvs : Tbl} {ys : List (NestedKey × Addr × Value)} (r : KN H kvs ys) : ∃ xs : List KRow, Paired (fun p x => p.1 = x.1 ∧ p.2 = x.2.2 ∧ KeyAt H x.2.1 x.1) kvs xs ∧ Paired (fun p q => p.1 = q.1 ∧ p.2.1 = q.2.1 ∧ RelV p.2.2 q.2.2) xs ys := by
  induction r with
  | nil => exact ⟨[], .nil, .nil⟩
  | @cons p q ps qs h t ih =>
    obtain ⟨xs, h1, h2⟩ := ih
    exact ⟨(q.1, q.2.1, p.2) :: xs, .cons ⟨h.1, rfl, h.2.1⟩ h1, .cons ⟨rfl, rfl, h.2.2⟩ h2⟩
theorem KN.of_rows {H : Hp} {kvs : Tbl} {xs : List KRow} (r1 : Paired (fun p x => p.1 = x.1 ∧ p.2 = x.2.2 ∧ KeyAt H x.2.1 x.1) kvs xs) : ∀ {ys : List (NestedKey × Addr × Value)}, Paired (fun p q => p.1 = q.1 ∧ p.2.1 = q.2.1 ∧ RelV p.2.2 q.2.2) xs ys → KN H kvs ys := by
  induction r1 with
  | nil =>
    intro ys r
    cases r
    exact .nil
  | @cons p x ps xs h t ih =>
    intro ys r
    cases r with
    | @cons _ q _ qs g s =>
      obtain ⟨a1, a2, a3⟩ := h
      obtain ⟨b1, b2, b3⟩ := g
      refine .cons ⟨a1.trans b1, ?_, ?_⟩ (ih s)
      · rw [← b1, ← b2]
        exact a3
      · rw [a2]
        exact b3
theorem KN.vals {H : Hp} {kvs : Tbl} {ys : List (NestedKey × Addr × Value)} (r : KN H kvs ys) : Vals (kvs.map (·.2)) (ys.map (·.2.2)) := by
  induction r with
  | nil => exact .nil
  | cons h t ih => exact .cons h.2.2 ih
section
variable {P : Program} {w : World} {H : Hp} {h : Heap} {a : Addr} {kvs : Tbl}
theorem nd_of (ok : HOk P w H h) (x : Dd P w H a kvs) : (a == sysModules) = false ∧ kvs.length ≤ 1000000 ∧ ∃ ys, KN H kvs ys ∧ h.DictOfH (nestedKind P w) a ys := by
  obtain ⟨xs, e, r⟩ := x
  obtain ⟨⟨h1, h2, ys, r2, o, es, ep, g, c1, c2, c3, c4⟩, _, _⟩ := (show ObjOk P w H h a (NdO P w a xs) from ok a _ e)
  have kn := KN.of_rows r r2
  refine ⟨h1, by rw [Paired.length r]; exact h2, ys, kn, o, es, ep, g, c1, c2, c3, ?_, c4⟩
  intro y hy
  have all : ∀ {l : Tbl} {m : List (NestedKey × Addr × Value)}, KN H l m → ∀ x ∈ m, (nestedKind P w).is h x.1 x.2.1 := by
    intro l m q
    induction q with
    | nil => intro x hx; exact nomatch hx
    | @cons p q ps qs hq t ih =>
      intro x hx
      rcases List.mem_cons.mp hx with e | hx
      · rw [e]
        exact hq.2.1.is ok
      · exact ih x hx
  exact all kn y hy
end
section
variable {X : Cx} {pins : List (Addr × Obj)} {σ : L2.St} {H : Hp} {s : Shared} {a : Addr} {kvs : Tbl}
theorem Dd.mut {P : Program} {w : World} (x : Dd P w H a kvs) : Mut (H a) := by
  obtain ⟨xs, e, _⟩ := x
  rw [e]
  exact True.intro
/-- a dict's object is replaced -/
theorem nd_write {kvs' : Tbl} {ys : List (NestedKey × Addr × Value)} {h' : Heap} {t' : Nat} (I : Inv X pins σ H s) (x : Dd X.prog X.w H a kvs) (hd : (a == sysModules) = false) (hl : kvs'.length ≤ 1000000) (kn : KN H kvs' ys) (d : h'.DictOfH (nestedKind X.prog X.w) a ys) (hs : Heap.SameBut a s.heap h') :
    ∃ H', Dd X.prog X.w H' a kvs' ∧ But [a] H H' ∧ Inv X pins σ H' { s with heap := h', toks := t' } := by
  obtain ⟨xs, r1, r2⟩ := kn.rows
  obtain ⟨o, es, ep, g, c1, c2, c3, _, c4⟩ := d
  have tk : Tk H (upd H a (NdO X.prog X.w a xs)) := fun b ob zs e => by
    rw [upd_ne (fun q => ?_)]
    · exact e
    · rw [q] at e
      exact x.noT a (List.mem_singleton.mpr rfl) _ _ e
  have nd : NdR X.prog X.w a xs h' := ⟨hd, by rw [← Paired.length r1]; exact hl, ys, r2, o, es, ep, g, c1, c2, c3, c4⟩
  exact ⟨upd H a (NdO X.prog X.w a xs), ⟨xs, upd_same, Paired.mapP r1 fun p q z => ⟨z.1, z.2.1, z.2.2.tk tk⟩⟩, But.upd (List.mem_singleton.mpr rfl), d_write I x.mut hs ⟨o, g⟩ (ndO_ok nd)⟩
/-- d[k] = v -/
theorem nd_setItem {E : Value → Shared → Prop} {A : Around} {b : Addr} {k : NestedKey} {v : V} {r : Value} {Q : Unit → Shared → Prop} (hu : A.units + 64 < cLine) (I : Inv X pins σ H s) (x : Dd X.prog X.w H a kvs) (kb : KeyAt H b k) (hz : kvs.length < 900000) (rv : RelV v r)
    (h : ∀ H' s', Inv X pins σ H' s' → Dd X.prog X.w H' a (putK kvs k v) → But [a] H H' → Q () s') : wpAny (model X.prog X.w) A (setItem (.ref a) (.ref b) r) Q E s := by
  obtain ⟨hd, hl, ys, kn, dd⟩ := nd_of I.hok x
  have hz2 : ys.length ≤ sizeLine := by rw [← Paired.length kn, sizeLine_eq]; omega
  refine wpAny_setItem_heap (hsz := hz2) (show A.in1.units + 8 < cLine by rw [Around.in1_units]; omega) (kb.is I.hok) dd fun h' dd' hs => ?_
  obtain ⟨H', d', b', I'⟩ := nd_write (t' := s.toks + (nestedKind X.prog X.w).draws k) I x hd (by have := length_putK kvs k v; omega) (kn.put k kb rv) dd' hs
  exact h H' _ I' d' b'
end

/-! ### rules -/
section
variable {X : Cx} {o i e value : Expr} {pos pos' tpos : Pos} {td ty tv : TE}
/-- {} -/
def tNNew (P : Program) (w : World) : TE := fun _ H Q => ∀ p H', H p = none → Ex H H' → Dd P w H' p [] → Q (.ref p) H'
theorem nd_empty {P : Program} {w : World} {h : Heap} (hb : sysModules < h.objs.size) : NdR P w h.objs.size [] (h.push { cls := .type "dict", data := .dict #[] }) :=
  ⟨beq_eq_false_iff_ne.mpr (Ne.symm (Nat.ne_of_lt hb)), Nat.zero_le _, [], .nil, _, #[], 0, Heap.get?_push_size _ rfl, ⟨rfl, rfl, rfl⟩, rfl, rfl, List.nodup_nil⟩
theorem pe_nnew : PE X (.Dict [] [] pos) (tNNew X.prog X.w) := ⟨fun pins s σ H Q I h =>
  wpAny_Dict_empty ⟨.ref s.heap.objs.size, _, I.laid (a := s.heap.objs.size) (o := NdO X.prog X.w s.heap.objs.size []) (t' := s.toks) (fun _ _ q => Heap.get?_push_of_some _ q) (Nat.le_refl _) (ndO_ok (nd_empty I.big)), rfl,
    h _ _ (I.hok.fresh (Nat.le_refl _)) (Ex.new (I.hok.fresh (Nat.le_refl _))) ⟨[], upd_same, .nil⟩⟩⟩
/-- k not in d -/
def rNiN (P : Program) (w : World) : R2 := fun y x H Q => ∃ a b k kvs, x = .ref a ∧ y = .ref b ∧ Dd P w H a kvs ∧ KeyAt H b k ∧ Q (.bl (!(valV kvs k).isSome)) H
theorem op_niN (hu : X.A.units + 64 < cLine) : OpR X (compareOp .NotIn) (rNiN X.prog X.w) := by
  intro pins s σ H y x v u Q I ry rx h
  obtain ⟨a, b, k, kvs, rfl, rfl, d, kb, q⟩ := h
  obtain rfl : v = Value.ref b := ry
  obtain rfl : u = Value.ref a := rx
  obtain ⟨hd, hl, ys, kn, dd⟩ := nd_of I.hok d
  refine wpAny_notIn_heap (show X.A.in1.units + 8 < cLine by rw [Around.in1_units]; omega) (kb.is I.hok) hd dd ?_
  have e := (kn.val k).isSome_eq
  rw [Option.isSome_map] at e
  rw [← e]
  exact ⟨.bl _, H, I.tok _, rfl, q⟩
/-- d[k] -/
def tNGet (P : Program) (w : World) (td ty : TE) : TE := fun σ H Q => td σ H fun x H1 => ty σ H1 fun y H2 => ∃ a b k kvs v, x = .ref a ∧ y = .ref b ∧ Dd P w H2 a kvs ∧ KeyAt H2 b k ∧ valV kvs k = some v ∧ Q v H2
theorem pe_nget (hu : X.A.units + 64 < cLine) (ho : PE X o td) (hi : PE X i ty) (hs : NoSl i) : PE X (.Subscript o i pos) (tNGet X.prog X.w td ty) := by
  refine ⟨fun pins s σ H Q I h => ?_⟩
  refine subD_of PySem.F.slot_dict_getitem.lookup hs (thn (ho.run pins s σ H _ I h) fun u s1 ⟨x, H1, I1, rx, q1⟩ => thn (hi.run pins s1 σ H1 _ I1 q1) fun iv s2 ⟨y, H2, I2, ry, a, b, k, kvs, v, ex, ey, d, kb, hv, q2⟩ => ?_)
  subst ex ey
  obtain rfl : u = Value.ref a := rx
  obtain rfl : iv = Value.ref b := ry
  obtain ⟨hd, hl, ys, kn, dd⟩ := nd_of I2.hok d
  obtain ⟨w', hw, rw'⟩ := RelO.some_of (v := v) (o := (atKey ys k).map (·.2)) (by rw [← hv]; exact kn.val k)
  obtain ⟨p, hp, hp2⟩ := Option.map_eq_some_iff.mp hw
  refine ⟨dd.typeIs, wpAny_getItem_heap (show X.A.in1.units + 8 < cLine by rw [Around.in1_units]; omega) (kb.is I2.hok) dd hp ?_⟩
  rw [hp2]
  exact ⟨v, H2, I2.tok _, rw', q2⟩
/-- d[k] = v -/
def sNPut (P : Program) (w : World) (td ty tv : TE) : TS := fun D σ H => tv σ H fun v H1 => td σ H1 fun x H2 => ty σ H2 fun y H3 => ∃ a b k kvs, x = .ref a ∧ y = .ref b ∧ Dd P w H3 a kvs ∧ KeyAt H3 b k ∧ kvs.length < 900000 ∧ ∀ H4, Dd P w H4 a (putK kvs k v) → But [a] H3 H4 → D.nx σ H4
theorem ps_nput (hu : X.A.units + 64 < cLine) (ho : PE X o td) (hi : PE X i ty) (hv : PE X value tv) (hs : swapsWith value (some (.Subscript o i pos')) pos.line X.env = pure false) :
    PS X (.Assign [.Subscript o i pos'] value pos) (sNPut X.prog X.w td ty tv) := by
  refine ⟨fun pins s σ H D I h => ?_⟩
  refine wpAny_Assign_Subscript (thn (hv.run pins s σ H _ I h) fun r s1 ⟨v, H1, I1, rv, q1⟩ => thn (ho.run pins s1 σ H1 _ I1 q1) fun u s2 ⟨x, H2, I2, rx, q2⟩ => thn (hi.run pins s2 σ H2 _ I2 q2) fun iv s3 ⟨y, H3, I3, ry, a, b, k, kvs, ex, ey, d, kb, hz, q3⟩ => ?_) hs
  subst ex ey
  obtain rfl : u = Value.ref a := rx
  obtain rfl : iv = Value.ref b := ry
  exact nd_setItem hu I3 d kb hz rv fun H4 s4 I4 d4 b4 => ⟨σ, H4, I4, q3 H4 d4 b4⟩
/-- d.setdefault(k, v) -/
def tNSet (P : Program) (w : World) (td ty tv : TE) : TE := fun σ H Q => td σ H fun x H1 => ∃ a kvs0, x = .ref a ∧ Dd P w H1 a kvs0 ∧ ty σ H1 fun y H2 => tv σ H2 fun v H3 => ∃ b k kvs, y = .ref b ∧ Dd P w H3 a kvs ∧ KeyAt H3 b k ∧ kvs.length < 900000 ∧
  (∀ u, valV kvs k = some u → Q u H3) ∧ (valV kvs k = none → ∀ H4, Dd P w H4 a (putK kvs k v) → But [a] H3 H4 → Q v H4)
theorem pe_nset {f : Expr} {apos cpos : Pos} (hu : X.A.units + 64 < cLine) (ho : PE X o td) (he : PE X e ty) (hf : PE X f tv) (m : M2 X o "setdefault" apos e f cpos) : PE X (.Call (.Attribute o "setdefault" apos) [e, f] [] cpos) (tNSet X.prog X.w td ty tv) := by
  refine ⟨fun pins s σ H Q I h => ?_⟩
  refine wpAny_Call_method m.base m.few m.line PySem.F.plainAttrs_dict PySem.F.slot_dict_setdefault PySem.F.type_dict_setdefault (thn (ho.run pins s σ H _ I h) fun u s1 ⟨x, H1, I1, rx, a, kvs0, ex, d0, q1⟩ => ?_)
  subst ex
  obtain rfl : u = Value.ref a := rx
  obtain ⟨_, _, _, _, dd0⟩ := nd_of I1.hok d0
  refine ⟨dd0.typeIs, fun b q => ?_, ?_⟩
  · cases q
    obtain ⟨ob, _, _, h1, h2, _⟩ := dd0
    exact ⟨ob, h1, h2.2.1⟩
  rw [m.trees]
  refine Calls.callWith_builtin rfl (Calls.evalArgs_plain (Calls.spliced_cons (thn (he.run pins s1 σ H1 _ I1 q1) fun iv s2 ⟨y, H2, I2, ry, q2⟩ =>
    Calls.spliced_cons (thn (hf.run pins s2 σ H2 _ I2 q2) fun fv s3 ⟨z, H3, I3, rz, b, k, kvs, ey, d, kb, hz, w1, w2⟩ => Calls.spliced_nil ?_))))
  subst ey
  obtain rfl : iv = Value.ref b := ry
  obtain ⟨hd, hl, ys, kn, dd⟩ := nd_of I3.hok d
  have rr := kn.val k
  have hz2 : ys.length ≤ sizeLine := by rw [← Paired.length kn, sizeLine_eq]; omega
  refine call_setdefault_heap (hsz := hz2) (show X.A.in1.units + 8 < cLine by rw [Around.in1_units]; omega) (kb.is I3.hok) hd dd (fun p hp => ?_) (fun hn h' dd' hs => ?_)
  · rw [hp] at rr
    cases hv : valV kvs k with
    | none => rw [hv] at rr; exact False.elim rr
    | some v0 =>
      rw [hv] at rr
      exact ⟨v0, H3, I3.tok _, rr, w1 v0 hv⟩
  · rw [hn] at rr
    cases hv : valV kvs k with
    | some v0 => rw [hv] at rr; exact False.elim rr
    | none =>
      obtain ⟨H', d', b', I'⟩ := nd_write (t' := s3.toks + (nestedKind X.prog X.w).draws k) I3 d hd (by have := length_putK kvs k z; omega) (kn.put k kb rz) dd' hs
      exact ⟨z, H', I', rz, w2 hv H' d' b'⟩
/-- list(d.values()) -/
def valsO (p a : Addr) : HO := .ext fun h => h.IsValuesView p a
def tNVals (P : Program) (w : World) (td : TE) : TE := fun σ H Q => td σ H fun x H1 => ∃ a kvs, x = .ref a ∧ Dd P w H1 a kvs ∧ ∀ p, H1 p = none → Q (.ref p) (upd H1 p (valsO p a))
theorem pe_nvals {apos cpos : Pos} (he : PE X e td) (hbase : attributeBase e "values" X.env (eval e X.env) = eval e X.env := by rfl) (hline : (apos.endLine == cpos.line) = true := by rfl) :
    PE X (.Call (.Attribute e "values" apos) [] [] cpos) (tNVals X.prog X.w td) := by
  refine ⟨fun pins s σ H Q I h => ?_⟩
  refine wpAny_Call_method (T := "dict") (id := "dict.values") hbase rfl hline F.plainAttrs_dict F.slot_dict_values F.type_dict_values (thn (he.run pins s σ H _ I h) fun u s1 ⟨x, H1, I1, rx, a, kvs, ex, d, q⟩ => ?_)
  subst ex
  obtain rfl : u = Value.ref a := rx
  obtain ⟨hd, _, ys, kn, dd⟩ := nd_of I1.hok d
  obtain ⟨es, ep, hraw, hsz, _⟩ := dd.raw
  refine ⟨dd.typeIs, fun b q => ?_, ?_⟩
  · cases q
    obtain ⟨ob, _, _, h1, h2, _⟩ := dd
    exact ⟨ob, h1, h2.2.1⟩
  show wpAny _ _ (callWith cpos (.builtin "dict.values") [.ref a] [] []) _ X.xe s1
  have hn := I1.hok.fresh (Nat.le_refl s1.heap.objs.size)
  have ev : (s1.heap.push { cls := .type "dict_values", data := .fields #[.ref a] }).IsValuesView s1.heap.objs.size a := ⟨_, Heap.get?_push_size _ rfl, rfl, rfl⟩
  refine method_meetsIn F.slot_dict_values F.entry_dict_values rfl (PySem.evalArgs_none ⟨rfl, dd.typeIs, F.args_dict_values_1 _, _, meets_dict_values_raw a hd, ⟨es, ep, hraw⟩, ?_⟩)
  refine ⟨.ref s1.heap.objs.size, _, I1.laid (a := s1.heap.objs.size) (o := valsO s1.heap.objs.size a) (t' := s1.toks) (fun b ob q => Heap.get?_push_of_some _ q) (Nat.le_refl _) ⟨ev, ⟨_, Heap.get?_push_size _ rfl⟩, fun h1 h2 x k => ?_⟩, rfl, q _ hn⟩
  obtain ⟨o, g, c⟩ := x
  exact ⟨o, k _ g, c⟩
def rListVals (P : Program) (w : World) : List V → Hp → VK → Prop := fun vs H Q => ∃ p a kvs, vs = [.ref p] ∧ H p = some (valsO p a) ∧ Dd P w H a kvs ∧ ∀ l, H l = none → Q (.ref l) (upd H l (.lst (kvs.map (·.2))))
theorem cr_listVals (hc : X.calm = true) : CallR X (.type "list") (rListVals X.prog X.w) := by
  intro pins s σ H vs us Q I r h
  obtain ⟨p, a, kvs, rfl, hp, d, q⟩ := h
  obtain ⟨u, rfl, ru⟩ := vals1 r
  cases ru
  obtain ⟨hd, hl, ys, kn, dd⟩ := nd_of I.hok d
  obtain ⟨es, ep, hraw, hsz, hat⟩ := dd.raw
  have hv : s.heap.IsValuesView p a := (show ObjOk X.prog X.w H s.heap p (valsO p a) from I.hok p _ hp).1
  have hly : ys.length = kvs.length := (Paired.length kn).symm
  have hsl : es.size ≤ sizeLine := by rw [hsz, hly, sizeLine_eq]; omega
  refine PySem.W.kdl_call (KdlSrc.rawValues (prog := X.prog) (w := X.w) (r := p) (d := a) (es := es) (ep := ep)) (I.ok.hd hc) ⟨hv, hraw⟩ hsl fun h' tk acc c k hg hit => ?_
  have hn := I.hok.fresh (Nat.le_refl s.heap.objs.size)
  have hsz' : acc.size = ys.length := by rw [← hsz]; exact hit.1
  have eacc : acc.toList = ys.map (·.2.2) := by
    apply List.ext_getElem?
    intro i
    rw [List.getElem?_map]
    by_cases hi : i < acc.size
    · have e1 : acc.toList[i]? = some acc[i] := by rw [Array.getElem?_toList]; exact Array.getElem?_eq_getElem hi
      obtain ⟨hi2, e2⟩ := hit.2 i acc[i] (Array.getElem?_eq_getElem hi)
      obtain ⟨y, hy, _, h2, _⟩ := hat i hi2
      rw [e1, hy, e2, h2]
      rfl
    · rw [List.getElem?_eq_none (by rw [Array.length_toList]; omega), List.getElem?_eq_none (by omega)]
      rfl
  refine ⟨.ref s.heap.objs.size, _, I.laid (a := s.heap.objs.size) (o := .lst (kvs.map (·.2))) (t' := tk) k (Nat.le_refl _) ⟨?_, acc.toList, c, ?_, ?_⟩, rfl, q _ hn⟩
  · rw [List.length_map, sizeLine_eq]
    omega
  · rw [eacc]
    exact kn.vals
  · rw [Array.toArray_toList]
    exact hg
end
end K48
/-! Dicts with nested keys: comprehensions, ==. -/
namespace K48
open PySem PySem.Spec PyProof.Rows L2 Evl PySem.W PySem.Calls
section
variable {X : Cx} {pins : List (Addr × Obj)} {σ : L2.St} {H : Hp} {s : Shared} {a : Addr} {kvs : Tbl}
theorem nd_dictSet {E : Value → Shared → Prop} {b : Addr} {k : NestedKey} {v : V} {r : Value} {Q : Unit → Shared → Prop} (hu : X.A.units + 64 < cLine) (I : Inv X pins σ H s) (x : Dd X.prog X.w H a kvs) (kb : KeyAt H b k) (hz : kvs.length < 900000) (rv : RelV v r)
    (h : ∀ H' s', Inv X pins σ H' s' → Dd X.prog X.w H' a (putK kvs k v) → But [a] H H' → Q () s') : wpAny (model X.prog X.w) X.A (dictSet a (.ref b) r) Q E s := by
  obtain ⟨hd, hl, ys, kn, dd⟩ := nd_of I.hok x
  have hz2 : ys.length ≤ sizeLine := by rw [← Paired.length kn, sizeLine_eq]; omega
  refine wpAny_dictSet_heap (hsz := hz2) (show X.A.units + 8 < cLine by omega) (kb.is I.hok) dd fun h' dd' hs => ?_
  obtain ⟨H', d', b', I'⟩ := nd_write (t' := s.toks + (nestedKind X.prog X.w).draws k) I x hd (by have := length_putK kvs k v; omega) (kn.put k kb rv) dd' hs
  exact h H' _ I' d' b'
end
section
variable {X : Cx}
/-- {k: v for target in iter}: D the new dict -/
def tNDc (P : Program) (w : World) (wi : TI) (g : TG) (tt : TT) (tk tv : TE) (vs : List Nat) : TE := fun σ H Q => wi σ H fun J H1 => ∀ D H0, H1 D = none → Ex H1 H0 → Dd P w H0 D [] → ∃ W : Nat → Nat → Hp → Prop, (∃ m, W 0 m H0) ∧ ∀ i m H, W i m H →
  (J.stop i H ∧ Q (.ref D) H) ∨ (J.go i H ∧ ∃ Nx : Hp → Prop, (∀ H', Nx H' → ∃ m', m' < m ∧ W (i + 1) m' H') ∧ ∀ x H', J.yld i H x H' → g x (wipe σ vs) H' fun σ2 H2 => wipe σ2 vs = wipe σ vs ∧ tt σ2 H2 fun b H3 =>
    if b = true then tk σ2 H3 fun y H4 => tv σ2 H4 fun z H5 => ∃ kvs c k, y = .ref c ∧ Dd P w H5 D kvs ∧ KeyAt H5 c k ∧ kvs.length < 900000 ∧ ∀ H6, Dd P w H6 D (putK kvs k z) → But [D] H5 H6 → Nx H6 else Nx H3)
theorem ndc_core {pins : List (Addr × Obj)} {s : Shared} {σ : L2.St} {H : Hp} {Q : VK} {kx vx tg iter : Expr} {ifs : List Expr} {scope : Scope} {own : List (Str × Nat)} {pos pos' : Pos} {wi : TI} {g : TG} {tt : TT} {tk tv : TE} {use : Option (Value → Sem Unit)} {Qf : Value → Shared → Prop} (hu : X.A.units + 64 < cLine) (hc : X.calm = true) (hN : X.N.Nodup) (I : Inv X pins σ H s) (hi : PI X tg iter wi) (ok : BlkOk X.N X.env.scope scope own)
    (hg : ∀ (s : Shared) (H : Hp) (C : Addr) (cl : List (Str × Addr)) (fp : List Addr), PG (X.blk s H scope (compEnvC scope cl C X.env) fp) tg g) (ht : ∀ (s : Shared) (H : Hp) (C : Addr) (cl : List (Str × Addr)) (fp : List Addr), PTs (X.blk s H scope (compEnvC scope cl C X.env) fp) ifs tt)
    (hk : ∀ (s : Shared) (H : Hp) (C : Addr) (cl : List (Str × Addr)) (fp : List Addr), PE (X.blk s H scope (compEnvC scope cl C X.env) fp) kx tk)
    (he : ∀ (s : Shared) (H : Hp) (C : Addr) (cl : List (Str × Addr)) (fp : List Addr), PE (X.blk s H scope (compEnvC scope cl C X.env) fp) vx tv) (hs : ∀ x, foldedSetIterable iter X.env x = pure x)
    (h : tNDc X.prog X.w wi g tt tk tv (own.map (·.2)) σ H Q)
    (hRR : ∀ D C s' m H', Inv X pins σ H' s' → Q (.ref D) H' → s'.heap.Ns C m → FpOk X pins H' C → compPost (model X.prog X.w) X.A X.xe use Qf (.ref D) C (.ok .next) s') :
    wpAny (model X.prog X.w) X.A (comprehension (.DictComp kx vx [⟨tg, iter, ifs, 0⟩] scope pos) scope X.env pos' newDict false (eval iter X.env) use) Qf X.xe s := by
  have hfree : ∀ y ∈ scope.names, y.2 = .free → ∃ c, X.env.cells.lookup y.1 = some c := fun y hy e => by
    rcases ok.free y hy e with k | k
    · exact I.ok.has _ (.inl k)
    · exact I.ok.has _ (.inr k)
  refine wpAny_comprehension_free (use := use) rfl hs (closure_ok hfree) ok.kind (fun y hy e => by rw [ok.uniq y hy, e])
    (thn (hi.run pins s σ H _ I h) fun xv s1 hx => thn hx fun itv s2 h2 => ?_)
  obtain ⟨it, fp, tn, J, H2, e, I2, T, st2, f2, q⟩ := h2
  subst e
  refine wpAny_newObj_type (newEnv_comp ?_)
  generalize hD : s2.heap.objs.size = D
  have hDn : H2 D = none := I2.hok.fresh (Nat.le_of_eq hD)
  obtain ⟨W, ⟨m0, w0⟩, turn⟩ := q D (upd H2 D (NdO X.prog X.w D [])) hDn (Ex.new hDn) ⟨[], upd_same, .nil⟩
  generalize hs3 : ({ s2 with heap := s2.heap.push { cls := .type "dict", data := .dict #[] } } : Shared) = s3
  have I3 : Inv X pins σ (upd H2 D (NdO X.prog X.w D [])) s3 := by
    rw [← hs3]
    refine I2.laid (t' := s2.toks) (fun b o e => Heap.get?_push_of_some _ e) (Nat.le_of_eq hD) ?_
    rw [← hD]
    exact ndO_ok (nd_empty I2.big)
  have h3 : s3.heap = s2.heap.push { cls := .type "dict", data := .dict #[] } := by rw [← hs3]
  have sz : ∀ b ∈ fp, b < s2.heap.objs.size := fun b hb => by
    obtain ⟨o, e, _⟩ := T.obj _ _ st2 b hb
    exact Heap.lt_size e
  have f3 : ∀ b ∈ fp, FpOk X pins (upd H2 D (NdO X.prog X.w D [])) b ∧ b < s3.heap.objs.size := fun b hb => by
    have hlt := sz b hb
    refine ⟨⟨?_, (f2 b hb).2⟩, by rw [h3, Heap.size_push]; exact Nat.lt_succ_of_lt hlt⟩
    rw [upd_ne (by rw [← hD]; exact Nat.ne_of_lt hlt)]
    exact (f2 b hb).1
  have st3 : tn 0 s3.heap := T.keep _ _ _ st2 fun b _ o e => by rw [h3]; exact Heap.get?_push_of_some _ e
  have I4 := block_start I3 ok hN f3
  have pg := hg s3 (upd H2 D (NdO X.prog X.w D [])) s3.heap.objs.size (cellsFrom (s3.heap.objs.size + 1) scope.names (cloFrom X.env.cells scope.names [])) fp
  have pt := ht s3 (upd H2 D (NdO X.prog X.w D [])) s3.heap.objs.size (cellsFrom (s3.heap.objs.size + 1) scope.names (cloFrom X.env.cells scope.names [])) fp
  have pk := hk s3 (upd H2 D (NdO X.prog X.w D [])) s3.heap.objs.size (cellsFrom (s3.heap.objs.size + 1) scope.names (cloFrom X.env.cells scope.names [])) fp
  have pe := he s3 (upd H2 D (NdO X.prog X.w D [])) s3.heap.objs.size (cellsFrom (s3.heap.objs.size + 1) scope.names (cloFrom X.env.cells scope.names [])) fp
  show codeAny _ _ (.compStart (.DictComp kx vx [⟨tg, iter, ifs, 0⟩] scope pos) 0 (.ref it) (.ref D) (compEnvC scope (cellsFrom (s3.heap.objs.size + 1) scope.names (cloFrom X.env.cells scope.names [])) s3.heap.objs.size X.env)) (compPost (model X.prog X.w) X.A X.xe use Qf (.ref D) s3.heap.objs.size) { s3 with heap := pushCells (s3.heap.push { cls := .type "dict", data := .dict #[] }) scope.names }
  have nfp : ∀ b ∈ fp, (upd H2 D (NdO X.prog X.w D [])) b = none := fun b hb => (f3 b hb).1.1
  generalize hce : compEnvC scope (cellsFrom (s3.heap.objs.size + 1) scope.names (cloFrom X.env.cells scope.names [])) s3.heap.objs.size X.env = ce at I4 pg pt pk pe ⊢
  have cL : ce.locals = s3.heap.objs.size := by subst hce; rfl
  generalize hH3 : upd H2 D (NdO X.prog X.w D []) = H3 at I3 I4 pg pt pk pe w0 nfp f3
  generalize hs4 : ({ s3 with heap := pushCells (s3.heap.push { cls := .type "dict", data := .dict #[] }) scope.names } : Shared) = s4 at I4 ⊢
  have st4 : tn 0 s4.heap := T.keep _ _ _ st3 fun b _ o e => by rw [← hs4]; exact pushCells_keeps _ _ _ _ (Heap.get?_push_of_some _ e)
  have stat : ∀ {σ' : L2.St} {H' : Hp} {s' : Shared}, Inv (X.blk s3 H3 scope ce fp) [] σ' H' s' → (∀ b ∈ fp, H' b = none) → ∀ b ∈ fp, FpOk (X.blk s3 H3 scope ce fp) [] H' b := fun {σ' H' s'} I' hn b hb =>
    ⟨hn b hb, (I'.ok.exf b hb).1, I'.ok.exfs b hb, .inl hb, fun x c e => (I'.ok.exf b hb).2 x c e, fun p hp => absurd (show p ∈ ([] : List (Addr × Obj)) ++ [] from hp) (by simp)⟩
  refine codeAny_compStart_dict ?_ (T.self X.A 0 _ _ _ st4 ?_)
  all_goals
    refine compLoop_anyD (fun n s' => ∃ i H', Inv (X.blk s3 H3 scope ce fp) [] (wipe σ (own.map (·.2))) H' s' ∧ tn i s'.heap ∧ (∀ b ∈ fp, H' b = none) ∧ W i n H') ?_ m0 ⟨0, H3, I4, st4, nfp, w0⟩
    rintro n s5 ⟨i, H5, I5, st5, n5, w5⟩
    rcases turn i n H5 w5 with ⟨stop, qq⟩ | ⟨go, Nx, hNx, step⟩
    · have td := T.done (X.blk s3 H3 scope ce fp) rfl rfl rfl hc i [] s5 _ H5 (fun _ _ => False) I5 (stat I5 n5) st5 stop
      refine thnF td fun r s6 ⟨hr, I6⟩ => ?_
      subst hr
      have I7 : Inv X pins σ H5 s6 := I3.call' (ch := fp) I6.os I6.base I6.hok I6.bare fun b hb => ⟨(f3 b hb).1.2.2.2.1, (f3 b hb).1.2.1, (f3 b hb).1.2.2.2.2.1, (f3 b hb).1.2.2.2.2.2⟩
      have nC : H5 s3.heap.objs.size = none := by
        have z : H5 ce.locals = none := I6.free
        rw [cL] at z
        exact z
      obtain ⟨m, hn, _⟩ := I6.loc
      have hn : s6.heap.Ns ce.locals m := hn
      rw [cL] at hn
      exact hRR D s3.heap.objs.size s6 m H5 I7 qq hn (I3.fpOk (Nat.le_refl _) nC)
    · have ti := T.item (X.blk s3 H3 scope ce fp) rfl rfl rfl hc i [] s5 _ H5 (fun _ _ => False) I5 (stat I5 n5) st5 go
      refine thnF ti fun r s6 ⟨u, hr, h6⟩ => ?_
      subst hr
      refine thnF h6 fun _ s7 ⟨x, H7, I7, r7, y7, st7, n7⟩ => ?_
      have I7' := I7.pinned (stat I7 n7) (T.obj _ _ st7)
      refine thnF (pg.run _ s7 _ H7 x u _ I7' r7 (step x H7 y7)) fun _ s8 ⟨σ8, H8, I8, hw8, q8⟩ => ?_
      refine thnF (pt.run _ s8 σ8 H8 _ I8 q8) fun b s9 ⟨H9, I9, q9⟩ => ?_
      have fin : ∀ {s' : Shared} {H' : Hp}, Inv (X.blk s3 H3 scope ce fp) ([] ++ pinsAt fp s7.heap) σ8 H' s' → Nx H' → ∃ m, m < n ∧ ∃ i H', Inv (X.blk s3 H3 scope ce fp) [] (wipe σ (own.map (·.2))) H' s' ∧ tn i s'.heap ∧ (∀ b ∈ fp, H' b = none) ∧ W i m H' := fun {s' H'} I' nx => by
        obtain ⟨m', hm, w'⟩ := hNx H' nx
        have pin' : ∀ b ∈ fp, ∀ o, s7.heap.get? b = some o → s'.heap.get? b = some o ∧ H' b = none := fun b hb o e =>
          let z := I'.pin (b, o) (List.mem_append_right _ (List.mem_append_right _ (mem_pinsAt hb e)))
          ⟨z.1, z.2.1⟩
        have hl : (wipe σ (own.map (·.2))).length = σ8.length := by rw [← hw8, wipe_length]
        refine ⟨m', hm, i + 1, H', (I'.unpinned (pins := [])).weak hl (fun j v e => ?_), T.keep _ _ _ st7 fun b hb o e => (pin' b hb o e).1, fun b hb => ?_, w'⟩
        · rw [← hw8] at e
          exact (wipe_some e).1
        · obtain ⟨o, e, _⟩ := T.obj _ _ st7 b hb
          exact (pin' b hb o e).2
      cases b with
      | false =>
        simp only [Bool.false_eq_true, if_false] at q9 ⊢
        exact fin I9 q9
      | true =>
        simp only [if_true] at q9 ⊢
        refine thnF (pk.run _ s9 σ8 H9 _ I9 q9) fun z s10 ⟨yk, H10, I10, r10, q10⟩ => ?_
        refine thnF (pe.run _ s10 σ8 H10 _ I10 q10) fun z2 s11 ⟨yv, H11, I11, r11, kvs, c, k, ek, hD11, kb11, hz11, nx⟩ => ?_
        subst ek
        obtain rfl : z = Value.ref c := r10
        exact nd_dictSet (X := X.blk s3 H3 scope ce fp) hu I11 hD11 kb11 hz11 r11 fun H12 s12 I12 d12 b12 => fin I12 (nx H12 d12 b12)
theorem pe_ndc {kx vx tg iter : Expr} {ifs : List Expr} {scope : Scope} {own : List (Str × Nat)} {pos : Pos} {wi : TI} {g : TG} {tt : TT} {tk tv : TE} (hu : X.A.units + 64 < cLine) (hc : X.calm = true) (hN : X.N.Nodup) (hi : PI X tg iter wi) (ok : BlkOk X.N X.env.scope scope own)
    (hg : ∀ (s : Shared) (H : Hp) (C : Addr) (cl : List (Str × Addr)) (fp : List Addr), PG (X.blk s H scope (compEnvC scope cl C X.env) fp) tg g) (ht : ∀ (s : Shared) (H : Hp) (C : Addr) (cl : List (Str × Addr)) (fp : List Addr), PTs (X.blk s H scope (compEnvC scope cl C X.env) fp) ifs tt)
    (hk : ∀ (s : Shared) (H : Hp) (C : Addr) (cl : List (Str × Addr)) (fp : List Addr), PE (X.blk s H scope (compEnvC scope cl C X.env) fp) kx tk)
    (he : ∀ (s : Shared) (H : Hp) (C : Addr) (cl : List (Str × Addr)) (fp : List Addr), PE (X.blk s H scope (compEnvC scope cl C X.env) fp) vx tv) (hs : ∀ x, foldedSetIterable iter X.env x = pure x := by intro _; rfl) :
    PE X (.DictComp kx vx [⟨tg, iter, ifs, 0⟩] scope pos) (tNDc X.prog X.w wi g tt tk tv (own.map (·.2))) := by
  refine ⟨fun pins s σ H Q I h => ?_⟩
  rw [arm_eval_DictComp]
  refine ndc_core hu hc hN I hi ok hg ht hk he hs h fun D C s' m H' I' q hn f => ⟨m, hn, fun h'' sb => ?_⟩
  obtain ⟨f0, f1, f2, f3, f4, f5⟩ := f
  exact ⟨.ref D, H', I'.turned (t' := s'.toks) (fun b o hb e => (sb.2 b hb).trans e) f0 f1 f3 f4 f5, rfl, q⟩
/-- name = {..} on one line, the name a local -/
theorem ps_setNdc {i : Nat} {y : Str} {py : Pos} {kx vx tg iter : Expr} {ifs : List Expr} {scope : Scope} {own : List (Str × Nat)} {pos spos : Pos} {wi : TI} {g : TG} {tt : TT} {tk tv : TE} (hu : X.A.units + 64 < cLine) (hc : X.calm = true) (hN : X.N.Nodup) (hy : X.N[i]? = some y) (hyl : X.env.scope.names.lookup y = some .local)
    (hsw : swapsWith (.DictComp kx vx [⟨tg, iter, ifs, 0⟩] scope pos) (some (.Name y py)) spos.line X.env = pure true) (hi : PI X tg iter wi) (ok : BlkOk X.N X.env.scope scope own)
    (hg : ∀ (s : Shared) (H : Hp) (C : Addr) (cl : List (Str × Addr)) (fp : List Addr), PG (X.blk s H scope (compEnvC scope cl C X.env) fp) tg g) (ht : ∀ (s : Shared) (H : Hp) (C : Addr) (cl : List (Str × Addr)) (fp : List Addr), PTs (X.blk s H scope (compEnvC scope cl C X.env) fp) ifs tt)
    (hk : ∀ (s : Shared) (H : Hp) (C : Addr) (cl : List (Str × Addr)) (fp : List Addr), PE (X.blk s H scope (compEnvC scope cl C X.env) fp) kx tk)
    (he : ∀ (s : Shared) (H : Hp) (C : Addr) (cl : List (Str × Addr)) (fp : List Addr), PE (X.blk s H scope (compEnvC scope cl C X.env) fp) vx tv) (hs : ∀ x, foldedSetIterable iter X.env x = pure x := by intro _; rfl) :
    PS X (.Assign [.Name y py] (.DictComp kx vx [⟨tg, iter, ifs, 0⟩] scope pos) spos) (tAsg (tNDc X.prog X.w wi g tt tk tv (own.map (·.2))) (gName i)) := by
  refine ⟨fun pins s σ H D I h => ?_⟩
  rw [exec_Assign_Name_used _ _ _ _ hsw]
  refine wpAny_bind (wpAny_standAt (wpAny_bind ?_))
  show wpAny _ X.A (do let _ ← comprehension (.DictComp kx vx [⟨tg, iter, ifs, 0⟩] scope pos) scope X.env (firstIterPos [⟨tg, iter, ifs, 0⟩] pos) newDict false (eval iter X.env) (some (assign (.Name y py) X.env))) _ _ s
  have h : tNDc X.prog X.w wi g tt tk tv (own.map (·.2)) σ H (fun x H1 => gName i x σ H1 D.nx) := h
  refine wpAny_bind (thn (ndc_core (Qf := fun _ s' => SP X pins D .next s') hu hc hN I hi ok hg ht hk he hs h fun L C s' m H' I' q hn f => ?_) fun _ s' hq => wpAny_pure (wpAny_pure hq))
  show wpAny _ _ (assign (.Name y py) X.env (.ref L)) _ _ _
  refine wpAny_assign_Name (store_ok2 (v := V.ref L) I' hN hy (.inl hyl) rfl (fun s2 I2 ⟨a, sb, ha⟩ => ?_) (.inr hyl))
  obtain ⟨f0, f1, f2, f3, f4, f5⟩ := f
  have haC : C ≠ a := by
    rcases ha with z | z
    · rw [z]; exact f1
    · exact fun e => f4 y a z e.symm
  refine ⟨m, hn.sameBut sb haC, fun h3 sb3 => ?_⟩
  exact ⟨_, H', I2.turned (t' := s2.toks) (fun b o hb e => (sb3.2 b hb).trans e) f0 f1 f3 f4 f5, q⟩
theorem sw_trueD {kx vx : Expr} {gs : List Comprehension} {scope : Scope} {pos py : Pos} {y : Str} {l : Nat} {env : Env} (hk : env.scope.kind = .function) (hy : env.scope.names.lookup y = some .local) (hl : (py.line == pos.line) = true)
    (ha : (scope.names.any fun (n, k) => n == y && (k == .local || k == .cell)) = false) : swapsWith (.DictComp kx vx gs scope pos) (some (.Name y py)) l env = pure true := by
  have ky : env.kindOf y = some .local := hy
  have hb : env.blockKind = .function := by unfold Env.blockKind; rw [hk]; rfl
  unfold swapsWith
  simp only [hb, ky, ha, Expr.pos, hl]
  rfl
end
/-! ### == -/
section
variable {prog : Program} {w : World} {A : Around} {E : Value → Shared → Prop} {s : Shared}
theorem nd_samePairs {K : Type} [DecidableEq K] {knd : HeapKind prog w K} {nm : String} {a b : Addr} {xs ys : List (K × Addr × Value)} {Q : Bool → Shared → Prop} (hu : knd.room A) (ha : (a == sysModules) = false) (hb : (b == sysModules) = false)
    (da : s.heap.DictOfH knd a xs) (db : s.heap.DictOfH knd b ys) (hl : xs.length = ys.length) (r : Bool) (q : Nat → Bool)
    (hk : ∀ (i : Nat) x, xs[i]? = some x → ∃ y, ys[i]? = some y ∧ x.1 = y.1 ∧ SeqAt.EqAt A s x.2.2 y.2.2 (q i)) (hr : (r = true ↔ ∀ i, i < xs.length → q i = true)) (h : Q r s) :
    wpAny (model prog w) A (Builtin.Dict.samePairs nm a b) Q E s := by
  obtain ⟨oa, es, ep, hoa, _, hda, hea, hia, hna⟩ := da
  obtain ⟨ob, es', ep', hob, _, hdb, heb, hib, hnb⟩ := db
  have hla : es.size = xs.length := size_of_entries hea
  have hlb : es'.size = ys.length := size_of_entries heb
  have hsz : es.size = es'.size := by rw [hla, hlb, hl]
  unfold Builtin.Dict.samePairs Builtin.Dict.showsAll
  rw [if_neg (show ¬ (a == sysModules) = true by rw [ha]; exact Bool.false_ne_true), if_neg (show ¬ (b == sysModules) = true by rw [hb]; exact Bool.false_ne_true)]
  refine wpAny_bind (wpAny_pure (wpAny_bind (wpAny_pure ?_)))
  refine wpAny_bind (wpAny_dictEntries hoa hda ?_)
  dsimp only
  refine wpAny_bind (wpAny_dictEntries hob hdb ?_)
  rw [if_neg (by rw [hsz]; simp)]
  refine wpAny_bind (wpAny_dictEpoch hoa hda ?_)
  refine wpAny_bind ?_
  rw [Std.Legacy.Range.forIn_eq_forIn_range']
  simp only [Std.Legacy.Range.size, Nat.sub_zero, Nat.add_sub_cancel, Nat.div_one]
  refine wpAny_forIn_list _
    (fun rest z s' => s' = s ∧ z = (none, ()) ∧ ∃ i, rest = List.range' i (es.size - i) ∧ i ≤ es.size ∧ ∀ j, j < i → q j = true)
    _ ?_ ?_ _ _ ⟨rfl, rfl, 0, by simp, Nat.zero_le _, fun j hj => absurd hj (Nat.not_lt_zero _)⟩
  · rintro x rest z s' ⟨rfl, rfl, i, hrr, hi, hpre⟩
    have hlt : i < es.size := by
      rcases Nat.lt_or_ge i es.size with h | h
      · exact h
      · rw [Nat.sub_eq_zero_of_le h] at hrr; simp at hrr
    obtain ⟨rfl, hrest⟩ : x = i ∧ rest = List.range' (i + 1) (es.size - (i + 1)) := by
      have e : es.size - i = (es.size - (i + 1)) + 1 := by omega
      rw [e, List.range'_succ] at hrr
      injection hrr with h1 h2
      exact ⟨h1, h2⟩
    refine wpAny_bind (wpAny_dictEntries hoa hda ?_)
    rw [Array.getElem?_eq_getElem hlt]
    have hx : x < xs.length := by rw [← hla]; exact hlt
    obtain ⟨y, hy, hkey, heq⟩ := hk x xs[x] (List.getElem?_eq_getElem hx)
    have ex : es[x] = entryOfKey knd xs[x] := by
      have e := entry_at hea x
      rw [Array.getElem?_eq_getElem hlt, List.getElem?_eq_getElem hx, Option.map_some] at e
      exact Option.some.inj e
    have hlt' : x < es'.size := by rw [← hsz]; exact hlt
    have ey : es'[x] = entryOfKey knd y := by
      have e := entry_at heb x
      rw [Array.getElem?_eq_getElem hlt', hy, Option.map_some] at e
      exact Option.some.inj e
    show wpAny _ _ (holding [es[x].key, es[x].val] _ >>= _) _ _ _
    rw [ex]
    refine wpAny_bind (wpAny_holding (wpAny_bind (wpAny_dictFind_heap (k := (xs[x]).1) hu (hia _ (List.getElem_mem hx)) hob hdb heb hib hnb (fun hno => ?_) (fun j p hj => ?_))))
    · exact absurd (by rw [hy, hkey]) (hno x (y.2))
    · have ej : j = x := idxH_unique hnb hj (by rw [hy, hkey] : ys[x]? = some ((xs[x]).1, y.2))
      subst ej
      refine wpAny_bind (wpAny_dictEntries hob hdb ?_)
      rw [Array.getElem?_eq_getElem hlt', ey]
      refine wpAny_holding (heq prog w _ _ ?_)
      cases hq : q j with
      | false =>
        have er : r = false := by
          cases r with
          | false => rfl
          | true =>
            have := (hr.mp rfl) j hx
            rw [hq] at this
            cases this
        rw [er] at h
        show wpAny _ _ (if (!false) = true then _ else _) _ _ _
        rw [if_pos (by decide)]
        exact wpAny_pure (wpAny_pure h)
      | true =>
        show wpAny _ _ (if (!true) = true then _ else _) _ _ _
        rw [if_neg (by decide)]
        refine wpAny_bind (wpAny_dictEpoch hoa hda ?_)
        rw [if_neg (by simp)]
        refine wpAny_pure ⟨rfl, rfl, j + 1, hrest, hlt, fun m hm => ?_⟩
        by_cases e : m = j
        · rw [e]
          exact hq
        · exact hpre m (by omega)
  · rintro z s' ⟨rfl, rfl, i, hrr, hi, hpre⟩
    have hin : i = es.size := by
      rcases Nat.lt_or_ge i es.size with h | h
      · have e : es.size - i = (es.size - (i + 1)) + 1 := by omega
        rw [e, List.range'_succ] at hrr; exact nomatch hrr
      · exact Nat.le_antisymm hi h
    refine wpAny_pure ?_
    have er : r = true := hr.mpr fun j hj => hpre j (by omega)
    rw [er] at h
    exact h
end
section
variable {X : Cx}
theorem KN.at {H : Hp} : ∀ {kvs : Tbl} {ys : List (NestedKey × Addr × Value)} {i : Nat} {y : NestedKey × Addr × Value}, KN H kvs ys → ys[i]? = some y → ∃ p, kvs[i]? = some p ∧ p.1 = y.1 ∧ RelV p.2 y.2.2
  | _, _, _, _, .nil, e => by simp at e
  | _, _, 0, _, .cons h _, e => by
    have e := Option.some.inj e
    subst e
    exact ⟨_, rfl, h.1, h.2.2⟩
  | _, _, i + 1, y, .cons _ t, e => by
    obtain ⟨p, h1, h2⟩ := KN.at (i := i) (y := y) t (by simpa using e)
    exact ⟨p, by simpa using h1, h2⟩
/-- d == e, values ints, the same keys in the same order -/
def rEqN (P : Program) (w : World) : R2 := fun x y H Q => ∃ (a b : Addr) (ks : List NestedKey) (ms ns : List Int), x = .ref a ∧ y = .ref b ∧ ms.length = ks.length ∧ ns.length = ks.length ∧ Dd P w H a (ks.zip (ms.map V.int)) ∧ Dd P w H b (ks.zip (ns.map V.int)) ∧ Q (.bl (decide (ms = ns))) H
theorem op_eqN (hu : X.A.units + 64 < cLine) : OpR X (compareOp .Eq) (rEqN X.prog X.w) := by
  intro pins s σ H x y v u Q I rx ry h
  obtain ⟨a, b, ks, ms, ns, rfl, rfl, hm, hn, da, db, q⟩ := h
  obtain rfl : v = Value.ref a := rx
  obtain rfl : u = Value.ref b := ry
  obtain ⟨ha, _, xs, ka, dda⟩ := nd_of I.hok da
  obtain ⟨hb, _, ys, kb, ddb⟩ := nd_of I.hok db
  have lx : xs.length = ks.length := by rw [← Paired.length ka, List.length_zip, List.length_map, hm, Nat.min_self]
  have ly : ys.length = ks.length := by rw [← Paired.length kb, List.length_zip, List.length_map, hn, Nat.min_self]
  refine wpAny_richCompare_same_room (op := .Eq) dda.typeIs ddb.typeIs PySem.F.slot_dict_eq (wpAny_call_entry PySem.F.slot_dict_eq dda.typeIs PySem.F.entry_dict_eq ?_ (PySem.F.args_dict_eq_2 _ _)) (show X.A.units < cLine by omega)
  show wpAny _ _ (Builtin.Dict.dictSlotArgs "__eq__" ⟨[.ref a, .ref b], []⟩ >>= _) _ _ s
  refine wpAny_bind ?_
  unfold Builtin.Dict.dictSlotArgs
  refine wpAny_bind (wpAny_notOrdered_dict dda.typeIs ?_)
  show wpAny _ _ (pure (Value.ref a, Value.ref b)) _ _ s
  refine wpAny_pure ?_
  refine wpAny_bind (wpAny_isInstance (T := "dict") ddb.typeIs PySem.F.sub_dict_dict ?_)
  simp only [Bool.not_true, Bool.false_eq_true, if_false]
  refine wpAny_bind (wpAny_pure (wpAny_bind (wpAny_pure ?_)))
  refine wpAny_bind (nd_samePairs (knd := nestedKind X.prog X.w) (show X.A.in1.units + 8 < cLine by rw [Around.in1_units]; omega) ha hb dda ddb (lx.trans ly.symm) (decide (ms = ns)) (fun i => ms.getD i 0 == ns.getD i 0) (fun i x hx => ?_) ?_ ?_)
  · have hi : i < ks.length := by
      rw [← lx]
      exact (List.getElem?_eq_some_iff.mp hx).1
    have hy : i < ys.length := by omega
    obtain ⟨p, hp, p1, p2⟩ := ka.at hx
    obtain ⟨p', hp', p1', p2'⟩ := kb.at (List.getElem?_eq_getElem hy)
    refine ⟨ys[i], List.getElem?_eq_getElem hy, ?_, ?_⟩
    all_goals
      rw [List.getElem?_eq_getElem (by rw [List.length_zip, List.length_map]; omega), List.getElem_zip, List.getElem_map] at hp
      rw [List.getElem?_eq_getElem (by rw [List.length_zip, List.length_map]; omega), List.getElem_zip, List.getElem_map] at hp'
      have hp := Option.some.inj hp
      have hp' := Option.some.inj hp'
      rw [← hp] at p1 p2
      rw [← hp'] at p1' p2'
    · exact p1.symm.trans p1'
    · obtain ⟨t, ht⟩ := p2
      obtain ⟨t', ht'⟩ := p2'
      rw [ht, ht']
      have e1 : ms.getD i 0 = ms[i]'(by omega) := by rw [List.getD_eq_getElem?_getD, List.getElem?_eq_getElem (by omega)]; rfl
      have e2 : ns.getD i 0 = ns[i]'(by omega) := by rw [List.getD_eq_getElem?_getD, List.getElem?_eq_getElem (by omega)]; rfl
      rw [e1, e2]
      exact SeqAt.EqAt.int_int _ _ _ _
  · rw [decide_eq_true_eq]
    constructor
    · rintro rfl i _
      exact beq_self_eq_true _
    · intro hall
      apply List.ext_getElem (by omega)
      intro i h1 h2
      have := hall i (by omega)
      rw [beq_iff_eq] at this
      have e1 : ms.getD i 0 = ms[i] := by rw [List.getD_eq_getElem?_getD, List.getElem?_eq_getElem h1]; rfl
      have e2 : ns.getD i 0 = ns[i] := by rw [List.getD_eq_getElem?_getD, List.getElem?_eq_getElem h2]; rfl
      rw [← e1, ← e2]
      exact this
  · refine wpAny_pure ⟨_, rfl, ?_, ?_⟩
    · exact fun x => nomatch x
    · rw [beq_true]
      exact ⟨.bl _, H, I, rfl, q⟩
end
end K48
/-! set(list of nested tuples), sorted(set): fewer than 63 different ones. The line of proof is the library's own for flat tuples of ints, told anew for nested keys. -/
namespace K48
open PySem PySem.Spec PyProof.Rows L2 Evl
abbrev nhash (P : Program) (w : World) (k : NestedKey) : Int := (nestedKind P w).hash k
abbrev IsN (P : Program) (w : World) (h : Heap) (k : NestedKey) (a : Addr) : Prop := (nestedKind P w).is h k a
section
variable {P : Program} {w : World} {A : Around} {E : Value → Shared → Prop} {s : Shared}
mutual
theorem ofAClass_key : ∀ (k : NestedKey) (v : Value) (n : Nat) (s : Shared), NestedIs s.heap k v → k.depth ≤ n → ∀ (A : Around) (E : Value → Shared → Prop) (Q : Bool → Shared → Prop), Q false s → wpAny (model P w) A (ofAClassStatement n v) Q E s
  | .none, _, n, s, x, _, A, E, Q, h => by
    cases x
    have e : ofAClassStatement n .none = pure false := by cases n <;> rfl
    rw [e]
    exact wpAny_pure h
  | .num i, _, n, s, x, _, A, E, Q, h => by
    cases x with
    | int _ t =>
      have e : ofAClassStatement n (.int i t) = pure false := by cases n <;> rfl
      rw [e]
      exact wpAny_pure h
    | @bool b _ _ =>
      have e : ofAClassStatement n (.bool b) = pure false := by cases n <;> rfl
      rw [e]
      exact wpAny_pure h
  | .text y, _, n, s, x, _, A, E, Q, h => by
    cases x with
    | text _ t =>
      have e : ofAClassStatement n (.str y t) = pure false := by cases n <;> rfl
      rw [e]
      exact wpAny_pure h
  | .tup ks, _, n, s, x, hn, A, E, Q, h => by
    cases x with
    | @tup a o items m _ ho hc hd hi =>
      simp only [NestedKey.depth] at hn
      cases n with
      | zero => omega
      | succ n =>
        unfold ofAClassStatement
        refine wpAny_bind (wpAny_typeOf (T := "tuple") ⟨o, ho, hc⟩ ?_)
        dsimp only
        have e : (("tuple" : String) == "tuple") = true := by decide
        simp only [e, if_true, Bool.not_true, Bool.false_eq_true, if_false]
        try refine wpAny_bind (wpAny_pure ?_)
        try simp only [Bool.not_true, Bool.false_eq_true, if_false]
        show wpAny _ _ (seqItems? (.ref a) >>= _) _ _ s
        refine wpAny_bind (wpAny_seqItems ho hd ?_)
        dsimp only
        refine wpAny_bind ?_
        show wpAny _ _ (forIn items _ _) _ _ s
        rw [← Array.forIn_toList]
        refine wpAny_forIn_list _ (fun rest r s' => r.1 = none ∧ s' = s ∧ ∀ v ∈ rest, ∀ (A : Around) (E : Value → Shared → Prop) (Q : Bool → Shared → Prop), Q false s → wpAny (model P w) A (ofAClassStatement n v) Q E s) _ ?_ ?_ _ _ ⟨rfl, rfl, ofAClass_keys ks _ n s hi (by omega)⟩
        · rintro v rest r s' ⟨hr, rfl, hall⟩
          refine wpAny_bind (hall v List.mem_cons_self _ _ _ ?_)
          simp only [Bool.false_eq_true, if_false]
          exact wpAny_pure ⟨rfl, rfl, fun u hu' => hall u (List.mem_cons_of_mem _ hu')⟩
        · rintro ⟨r1, r2⟩ s' ⟨hr, rfl, _⟩
          simp only at hr
          subst hr
          exact wpAny_pure h
theorem ofAClass_keys : ∀ (ks : List NestedKey) (vs : List Value) (n : Nat) (s : Shared), NestedAll s.heap ks vs → NestedKey.depthAll ks ≤ n → ∀ v ∈ vs, ∀ (A : Around) (E : Value → Shared → Prop) (Q : Bool → Shared → Prop), Q false s → wpAny (model P w) A (ofAClassStatement n v) Q E s
  | [], _, n, s, x, _, v, hv => by cases x; cases hv
  | k :: ks, _, n, s, x, hn, v, hv => by
    cases x with
    | cons x1 x2 =>
      simp only [NestedKey.depthAll] at hn
      rcases List.mem_cons.mp hv with e | hv
      · rw [e]; exact ofAClass_key k _ n s x1 (by omega)
      · exact ofAClass_keys ks _ n s x2 (by omega) v hv
end
/-- no texts within -/
def noText : NestedKey → Bool
  | .text _ => false
  | .tup ks => noTexts ks
  | .none => true
  | .num _ => true
where noTexts : List NestedKey → Bool
  | [] => true
  | k :: ks => noText k && noTexts ks
mutual
theorem hashBy_key : ∀ (k : NestedKey) (v : Value) (n : Nat) (s : Shared), NestedIs s.heap k v → noText k = true → k.depth ≤ n → ∀ (A : Around) (E : Value → Shared → Prop) (Q : Bool → Shared → Prop), Q true s → wpAny (model P w) A (hashByValue n v) Q E s
  | .none, _, n, s, x, _, _, A, E, Q, h => by
    cases x
    have e : hashByValue n .none = pure true := by cases n <;> rfl
    rw [e]
    exact wpAny_pure h
  | .num i, _, n, s, x, _, _, A, E, Q, h => by
    cases x with
    | int _ t =>
      have e : hashByValue n (.int i t) = pure true := by cases n <;> rfl
      rw [e]
      exact wpAny_pure h
    | @bool b _ _ =>
      have e : hashByValue n (.bool b) = pure true := by cases n <;> rfl
      rw [e]
      exact wpAny_pure h
  | .text y, _, n, s, x, nt, _, A, E, Q, h => by cases nt
  | .tup ks, _, n, s, x, nt, hn, A, E, Q, h => by
    cases x with
    | @tup a o items m _ ho hc hd hi =>
      simp only [NestedKey.depth] at hn
      cases n with
      | zero => omega
      | succ n =>
        unfold hashByValue
        refine wpAny_bind (wpAny_specialOf (T := "tuple") ⟨o, ho, hc⟩ F.slot_tuple_hash.lookup ?_)
        show wpAny _ _ (seqItems? (.ref a) >>= _) _ _ s
        refine wpAny_bind (wpAny_seqItems ho hd ?_)
        refine wpAny_bind ?_
        show wpAny _ _ (forIn items _ _) _ _ s
        rw [← Array.forIn_toList]
        refine wpAny_forIn_list _ (fun rest r s' => r.1 = none ∧ s' = s ∧ ∀ v ∈ rest, ∀ (A : Around) (E : Value → Shared → Prop) (Q : Bool → Shared → Prop), Q true s → wpAny (model P w) A (hashByValue n v) Q E s) _ ?_ ?_ _ _ ⟨rfl, rfl, hashBy_keys ks _ n s hi nt (by omega)⟩
        · rintro v rest r s' ⟨hr, rfl, hall⟩
          refine wpAny_bind (hall v List.mem_cons_self _ _ _ ?_)
          simp only [Bool.not_true, Bool.false_eq_true, if_false]
          exact wpAny_pure ⟨rfl, rfl, fun u hu' => hall u (List.mem_cons_of_mem _ hu')⟩
        · rintro ⟨r1, r2⟩ s' ⟨hr, rfl, _⟩
          simp only at hr
          subst hr
          exact wpAny_pure h
theorem hashBy_keys : ∀ (ks : List NestedKey) (vs : List Value) (n : Nat) (s : Shared), NestedAll s.heap ks vs → noText.noTexts ks = true → NestedKey.depthAll ks ≤ n → ∀ v ∈ vs, ∀ (A : Around) (E : Value → Shared → Prop) (Q : Bool → Shared → Prop), Q true s → wpAny (model P w) A (hashByValue n v) Q E s
  | [], _, n, s, x, _, _, v, hv => by cases x; cases hv
  | k :: ks, _, n, s, x, nt, hn, v, hv => by
    cases x with
    | cons x1 x2 =>
      simp only [NestedKey.depthAll] at hn
      rw [noText.noTexts, Bool.and_eq_true] at nt
      rcases List.mem_cons.mp hv with e | hv
      · rw [e]; exact hashBy_key k _ n s x1 nt.1 (by omega)
      · exact hashBy_keys ks _ n s x2 nt.2 (by omega) v hv
end
/-- a search among tuples shows nothing -/
theorem seen_nk {k : NestedKey} {b : Addr} {Q : Bool → Shared → Prop} (hk : IsN P w s.heap k b) {ys : List Value} (hy : ∀ y ∈ ys, ∃ k' c, y = Value.ref c ∧ IsN P w s.heap k' c) (h : Q false s) :
    wpAny (model P w) A (searchCouldBeSeen (.ref b) ys) Q E s := by
  unfold searchCouldBeSeen
  refine wpAny_bind ?_
  refine wpAny_forIn_list _ (fun rest r s' => r.1 = none ∧ s' = s ∧ ∀ y ∈ rest, ∃ k' c, y = Value.ref c ∧ IsN P w s.heap k' c) _ ?_ ?_ _ _ ⟨rfl, rfl, hy⟩
  · rintro v rest r s' ⟨hr, rfl, hall⟩
    obtain ⟨k', c, rfl, hc⟩ := hall v List.mem_cons_self
    have rest' : ∀ y ∈ rest, ∃ k' c, y = Value.ref c ∧ IsN P w s'.heap k' c := fun u hu' => hall u (List.mem_cons_of_mem _ hu')
    dsimp only
    by_cases hv : (b == c || (carriedByValue (.ref b) && carriedByValue (.ref c))) = true
    · refine wp_if_pos hv ?_
      exact wpAny_pure ⟨rfl, rfl, rest'⟩
    · refine wp_if_neg hv ?_
      refine wpAny_bind ((nestedKind P w).quiet hk ?_)
      simp only [Bool.not_true, Bool.false_eq_true, if_false]
      refine wpAny_bind ((nestedKind P w).quiet hc ?_)
      simp only [Bool.not_true, Bool.false_eq_true, if_false]
      refine wpAny_bind (ofAClass_key k _ 8 s' hk.1 hk.2 _ _ _ ?_)
      simp only [Bool.false_eq_true, if_false]
      refine wpAny_bind (ofAClass_key k' _ 8 s' hc.1 hc.2 _ _ _ ?_)
      simp only [Bool.false_eq_true, if_false]
      exact wpAny_pure ⟨rfl, rfl, rest'⟩
  · rintro ⟨r1, r2⟩ s' ⟨hr, rfl, _⟩
    simp only at hr
    subst hr
    exact wpAny_pure h
/-! ### the set of tuples -/
def rowsN (P : Program) (w : World) (L : List (Addr × NestedKey)) : List (Int × Value) := L.map fun p => (nhash P w p.2, Value.ref p.1)
structure SetNR (P : Program) (w : World) (h : Heap) (a : Addr) (L : List (Addr × NestedKey)) (es : Array (Int × Value)) (ep : Nat) (t : SetTable) : Prop where
  ob : ∃ o, h.get? a = some o ∧ o.ExactSet ∧ o.data = .set es ep t
  rows : es.toList = rowsN P w L
  tab : TabOk t (L.map fun p => nhash P w p.2)
  nd : (L.map (·.2)).Nodup
  tup : ∀ p ∈ L, IsN P w h p.2 p.1
  plain : t.plain = true
  led : w.params.followText "set-order" = true ∨ t.led = true
  room : L.length * 5 < t.mask * 3
  few : L.length < 64
variable {a : Addr} {L : List (Addr × NestedKey)} {es : Array (Int × Value)} {ep : Nat} {t : SetTable}
theorem SetNR.size (R : SetNR P w s.heap a L es ep t) : es.size = L.length := by
  have h := congrArg List.length R.rows
  unfold rowsN at h
  rw [Array.length_toList, List.length_map] at h
  exact h
theorem SetNR.fits (R : SetNR P w s.heap a L es ep t) : t.fits es.size = true := by
  have h1 := R.tab.sz
  rw [List.length_map] at h1
  have h2 := R.size
  have h3 := R.room
  unfold SetTable.fits SetTable.fill
  rw [R.tab.dm, Bool.and_eq_true, beq_iff_eq, decide_eq_true_eq]
  show t.place.size = es.size ∧ t.place.size + 0 ≤ t.mask
  omega
theorem SetNR.entry (R : SetNR P w s.heap a L es ep t) {i : Nat} {p : Addr × NestedKey} (h : L[i]? = some p) : es[i]? = some (nhash P w p.2, Value.ref p.1) := by
  rw [← Array.getElem?_toList, R.rows]
  unfold rowsN
  rw [List.getElem?_map, h] <;> rfl
theorem SetNR.gw (R : SetNR P w s.heap a L es ep t) : ¬ t.gaveWay = true := by
  unfold SetTable.gaveWay
  rw [mask_odd R.tab.mok]
  decide
/-- THE SEARCH: from the c-th step of the way on -/
theorem search_from (R : SetNR P w s.heap a L es ep t) {x : Addr} {k : NestedKey} (hx : IsN P w s.heap k x) (hu : A.units + 8 < cLine) {K : Nat} (hKf : K < 10 * SetTable.turns t.mask)
    (hK : way t.mask (nhash P w k) K ∉ t.place.toList) (hKb : ∀ c, c < K → way t.mask (nhash P w k) c ∈ t.place.toList) {Q : SetFound → Shared → Prop}
    (hin : k ∈ L.map (·.2) → Q (.there none) s) (hout : k ∉ L.map (·.2) → Q (.free (way t.mask (nhash P w k) K) false) s) :
    ∀ (f c : Nat) (stand : Option SetTable.Probe), stand.getD (t.probeStart (nhash P w k)) = nth t.mask (runAt t.mask (SetTable.bits (nhash P w k) % (t.mask + 1)) (SetTable.bits (nhash P w k))) c → c ≤ K → K - c < f →
      (∀ (i : Nat) p, L[i]? = some p → p.2 = k → ∃ c', c ≤ c' ∧ c' < K ∧ t.place.toList[i]? = some (way t.mask (nhash P w k) c')) →
      wpAny (model P w) A (setSearchFrom a (.ref x) (nhash P w k) true f stand) Q E s
  | 0, c, stand, _, _, hf, _ => absurd hf (Nat.not_lt_zero _)
  | f + 1, c, stand, hst, hc, hf, hre => by
    obtain ⟨o, ho, hex, hd⟩ := R.ob
    rw [setSearchFrom_succ]
    refine wpAny_bind (wpAny_setState_of ho hd R.fits ?_)
    dsimp only
    refine wp_if_neg R.gw ?_
    try refine wpAny_bind (wpAny_pure ?_)
    have hnd : (nth t.mask (runAt t.mask (SetTable.bits (nhash P w k) % (t.mask + 1)) (SetTable.bits (nhash P w k))) c).dummy = none := by
      have key : ∀ (n : Nat) (p : SetTable.Probe), p.dummy = none → (nth t.mask p n).dummy = none := by
        intro n
        induction n with
        | zero => intro p h; exact h
        | succ n ih =>
          intro p h
          refine ih (adv t.mask p) ?_
          unfold adv
          split <;> exact h
      exact key c _ rfl
    have sh : ∀ q, nth t.mask (nth t.mask (runAt t.mask (SetTable.bits (nhash P w k) % (t.mask + 1)) (SetTable.bits (nhash P w k))) c) q = nth t.mask (runAt t.mask (SetTable.bits (nhash P w k) % (t.mask + 1)) (SetTable.bits (nhash P w k))) (c + q) := fun q => (nth_add t.mask c _ q).symm
    have e1 : ∀ q, (nth t.mask (nth t.mask (runAt t.mask (SetTable.bits (nhash P w k) % (t.mask + 1)) (SetTable.bits (nhash P w k))) c) q).j = way t.mask (nhash P w k) (c + q) := fun q => congrArg SetTable.Probe.j (sh q)
    have spec := go_spec t R.tab.ris R.tab.dm (fun i => (es[i]?.map (·.1)).getD 0) (nhash P w k) (10 * SetTable.turns t.mask) (K - c) _ hnd (by omega)
      (fun q hq => by rw [e1]; exact hKb (c + q) (by omega)) (by rw [e1, show c + (K - c) = K by omega]; exact hK)
    have hashAt : ∀ (i : Nat) p, L[i]? = some p → (fun i => (es[i]?.map (·.1)).getD 0) i = nhash P w p.2 := fun i p hp => by
      show (es[i]?.map (·.1)).getD 0 = _
      rw [R.entry hp] <;> rfl
    rcases spec with ⟨q, i, hq, hi, hh, hno, hpr⟩ | ⟨hno, hpr⟩
    · -- a candidate
      have hpr' : t.probe (fun i => (es[i]?.map (·.1)).getD 0) (nhash P w k) (stand.getD (t.probeStart (nhash P w k))) = some (.candidate (way t.mask (nhash P w k) (c + q)) i (nth t.mask (runAt t.mask (SetTable.bits (nhash P w k) % (t.mask + 1)) (SetTable.bits (nhash P w k))) (c + (q + 1)))) := by
        rw [hst, ← e1, ← sh]
        exact hpr
      rw [hpr']
      dsimp only
      rw [e1] at hi
      -- the entry
      have hil : i < L.length := by
        have h1 : i < t.place.toList.length := (List.getElem?_eq_some_iff.mp hi).1
        have h2 := R.tab.sz
        rw [List.length_map] at h2
        rw [Array.length_toList] at h1
        omega
      have hp : L[i]? = some L[i] := List.getElem?_eq_getElem hil
      generalize hpe : L[i] = p at hp
      have hmem : p ∈ L := List.mem_of_getElem? hp
      have hpt := R.tup p hmem
      have rest : wpAny (model P w) A (searchRest a (.ref x) (nhash P w k) true f es t (way t.mask (nhash P w k) (c + q)) i (nth t.mask (runAt t.mask (SetTable.bits (nhash P w k) % (t.mask + 1)) (SetTable.bits (nhash P w k))) (c + (q + 1)))) Q E s := by
        unfold searchRest
        rw [R.entry hp]
        dsimp only
        refine wpAny_bind (wpAny_holding ((nestedKind P w).eqBool hu hpt hx ?_))
        refine wpAny_bind (wpAny_setState_of ho hd R.fits ?_)
        dsimp only
        by_cases hkk : p.2 = k
        · refine wp_if_pos (by simp [hkk]) ?_
          refine wpAny_pure (hin ?_)
          exact List.mem_map.mpr ⟨p, hmem, hkk⟩
        · refine wp_if_neg (by simp [hkk]) ?_
          try refine wpAny_bind (wpAny_pure ?_)
          rw [sameMem]
          dsimp only
          have hsl : t.slot (way t.mask (nhash P w k) (c + q)) = .live i := slot_live R.tab.ris hi
          simp only [if_true, hsl, R.entry hp]
          refine wpAny_bind (wpAny_isSame_ref_self (wpAny_bind (wpAny_pure ?_)))
          simp only [if_true]
          refine wp_if_neg (by simp [hkk]) ?_
          refine search_from R hx hu hKf hK hKb hin hout f (c + (q + 1)) _ rfl (by omega) (by omega) fun i0 p0 h0 hk0 => ?_
          obtain ⟨c', a1, a2, a3⟩ := hre i0 p0 h0 hk0
          refine ⟨c', ?_, a2, a3⟩
          -- it isn't passed
          rcases Nat.lt_or_ge c' (c + q) with z | z
          · exfalso
            refine hno (c' - c) i0 (by omega) (by rw [e1, show c + (c' - c) = c' by omega]; exact a3) ?_
            exact (hashAt i0 p0 h0).trans (congrArg (nhash P w) hk0)
          · rcases Nat.lt_or_ge (c + q) c' with y | y
            · omega
            · exfalso
              have ec : c' = c + q := Nat.le_antisymm y z
              rw [ec] at a3
              have s0 := slot_live R.tab.ris a3
              rw [hsl] at s0
              injection s0 with s0
              rw [← s0, hp] at h0
              exact hkk ((congrArg Prod.snd (Option.some.inj h0)).trans hk0)
      by_cases hl : t.led = true
      · refine wp_if_neg (by simp [hl]) ?_
        try refine wpAny_bind (wpAny_pure ?_)
        exact rest
      · refine wp_if_pos (by simp [hl]) ?_
        refine wpAny_bind (seen_nk hx (fun y hy => ?_) ?_)
        · obtain ⟨e, he, ee⟩ := List.mem_map.mp hy
          have he1 : e ∈ es ∧ e.1 = nhash P w k := by simpa using he
          have he2 : e ∈ es.toList := by simpa using he1.1
          rw [R.rows] at he2
          obtain ⟨p2, hp2, e2⟩ := List.mem_map.mp he2
          refine ⟨p2.2, p2.1, ?_, R.tup p2 hp2⟩
          rw [← ee, ← e2]
        · refine wp_if_neg (by decide) ?_
          try refine wpAny_bind (wpAny_pure ?_)
          exact rest
    · -- the empty slot
      have hpr' : t.probe (fun i => (es[i]?.map (·.1)).getD 0) (nhash P w k) (stand.getD (t.probeStart (nhash P w k))) = some (.empty (way t.mask (nhash P w k) K) none) := by
        have e2 : way t.mask (nhash P w k) K = (nth t.mask (nth t.mask (runAt t.mask (SetTable.bits (nhash P w k) % (t.mask + 1)) (SetTable.bits (nhash P w k))) c) (K - c)).j := by
          rw [e1, show c + (K - c) = K by omega]
        rw [hst, e2]
        exact hpr
      rw [hpr']
      dsimp only
      refine wpAny_pure (hout fun hm => ?_)
      obtain ⟨p0, h0, hk0⟩ := List.mem_map.mp hm
      obtain ⟨i0, hi0, e0⟩ := List.getElem_of_mem h0
      have h00 : L[i0]? = some p0 := by rw [List.getElem?_eq_getElem hi0, e0]
      obtain ⟨c', a1, a2, a3⟩ := hre i0 p0 h00 hk0
      refine hno (c' - c) i0 (by omega) (by rw [e1, show c + (c' - c) = c' by omega]; exact a3) ?_
      exact (hashAt i0 p0 h00).trans (congrArg (nhash P w) hk0)

/-- the search as adding asks for it -/
theorem search_at (R : SetNR P w s.heap a L es ep t) {x : Addr} {k : NestedKey} (hx : IsN P w s.heap k x) (hu : A.units + 8 < cLine) {Q : SetFound → Shared → Prop}
    (hin : k ∈ L.map (·.2) → Q (.there none) s)
    (hout : ∀ K, k ∉ L.map (·.2) → way t.mask (nhash P w k) K ∉ t.place.toList → (∀ c, c < K → way t.mask (nhash P w k) c ∈ t.place.toList) → Q (.free (way t.mask (nhash P w k) K) false) s) :
    wpAny (model P w) A (setSearch a (.ref x) (nhash P w k) true) Q E s := by
  have hroom := R.room
  obtain ⟨K, hKf, hK, hKb⟩ := R.tab.first (by rw [List.length_map]; omega) (nhash P w k)
  have hbig : K < 100000 := by
    have : 10 * SetTable.turns t.mask ≤ 1420 := by
      unfold SetTable.turns
      rcases R.tab.mok with e | e | e <;> omega
    omega
  unfold setSearch
  refine search_from R hx hu hKf hK hKb hin (fun hn => hout K hn hK hKb) 100000 0 none rfl (Nat.zero_le _) (by omega) fun i p hp hk => ?_
  have hi : (L.map fun p => nhash P w p.2)[i]? = some (nhash P w k) := by rw [List.getElem?_map, hp, ← hk] <;> rfl
  have hil : i < t.place.toList.length := by
    have h1 : i < L.length := (List.getElem?_eq_some_iff.mp hp).1
    have h2 := R.tab.sz
    rw [List.length_map] at h2
    rw [Array.length_toList]
    omega
  have hj := List.getElem?_eq_getElem hil
  obtain ⟨c, hc, e⟩ := R.tab.before hK hi hj
  exact ⟨c, Nat.zero_le _, hc, by rw [hj, e]⟩
/-- a tuple isn't the set -/
theorem isN_same {h h' : Heap} {k : NestedKey} {a b : Addr} {o : Obj} {es : Array (Int × Value)} {ep : Nat} {t : SetTable} (hb : IsN P w h k b) (ho : h.get? a = some o) (hd : o.data = .set es ep t) (hs : Heap.SameBut a h h') : IsN P w h' k b :=
  ⟨NestedIs.at (fun c oc vs n hc hdc => (hs.2 c (fun e => by
    rw [e, ho] at hc
    cases hc
    rw [hd] at hdc
    cases hdc)).trans hc) k _ hb.1, hb.2⟩
theorem rowsN_put (L : List (Addr × NestedKey)) (p : Nat) (x : Addr) (k : NestedKey) : rowsN P w (L.take p ++ (x, k) :: L.drop p) = (rowsN P w L).take p ++ (nhash P w k, Value.ref x) :: (rowsN P w L).drop p := by
  unfold rowsN
  rw [List.map_append, List.map_cons, List.map_take, List.map_drop]
theorem orderN_rows (L : List (Addr × NestedKey)) (es : Array (Int × Value)) (order : Array Nat) (hr : es.toList = rowsN P w L) (hp : order.toList.Perm (List.range L.length)) :
    ∃ L2, (order.filterMap (es[·]?)).toList = rowsN P w L2 ∧ L2.Perm L ∧ (L2.map fun p => nhash P w p.2) = order.toList.map fun i => (es.map (·.1)).getD i 0 := by
  have hsz : es.size = L.length := by
    have h := congrArg List.length hr
    unfold rowsN at h
    rw [Array.length_toList, List.length_map] at h
    exact h
  have ent : ∀ i (h : i < L.length), es[i]? = some (nhash P w (L[i]).2, Value.ref (L[i]).1) := fun i h => by
    rw [← Array.getElem?_toList, hr]
    unfold rowsN
    rw [List.getElem?_map, List.getElem?_eq_getElem h] <;> rfl
  have key : ∀ l : List Nat, (∀ i ∈ l, i < L.length) → ∃ L2 : List (Addr × NestedKey), l.filterMap (fun i => es[i]?) = rowsN P w L2 ∧ L2 = l.filterMap (fun i => L[i]?) ∧ (L2.map fun p => nhash P w p.2) = l.map fun i => (es.map (·.1)).getD i 0 := by
    intro l
    induction l with
    | nil => intro _; exact ⟨[], rfl, rfl, rfl⟩
    | cons i l ih =>
      intro hl
      have hi := hl i List.mem_cons_self
      obtain ⟨L2, e1, e2, e3⟩ := ih fun j hj => hl j (List.mem_cons_of_mem _ hj)
      refine ⟨L[i] :: L2, ?_, ?_, ?_⟩
      · rw [List.filterMap_cons_some (ent i hi), e1] <;> rfl
      · rw [List.filterMap_cons_some (List.getElem?_eq_getElem hi), e2]
      · rw [List.map_cons, List.map_cons, e3]
        have hi2 : i < (es.map (·.1)).size := by rw [Array.size_map, hsz]; exact hi
        have e4 : (es.map (·.1)).getD i 0 = nhash P w (L[i]).2 := by
          have e5 : (es.map (·.1))[i]? = some (nhash P w (L[i]).2) := by rw [Array.getElem?_map, ent i hi] <;> rfl
          simp [Array.getD_eq_getD_getElem?, e5]
        rw [e4]
  obtain ⟨L2, e1, e2, e3⟩ := key order.toList fun i hi => List.mem_range.mp (hp.mem_iff.mp hi)
  refine ⟨L2, by first | (rw [Array.toList_filterMap]; exact e1) | simpa using e1, ?_, e3⟩
  have h1 : L2.Perm ((List.range L.length).filterMap fun i => L[i]?) := by
    rw [e2]
    exact hp.filterMap _
  have h2 : (List.range L.length).filterMap (fun i => L[i]?) = L := by
    have key2 : ∀ n, n ≤ L.length → (List.range n).filterMap (fun i => L[i]?) = L.take n := by
      intro n
      induction n with
      | zero => intro _; rfl
      | succ n ih =>
        intro hn
        have hlt : n < L.length := hn
        rw [List.range_succ, List.filterMap_append, ih (Nat.le_of_lt hlt), List.take_succ, List.getElem?_eq_getElem hlt]
        rw [List.filterMap_cons_some (List.getElem?_eq_getElem hlt)] <;> rfl
    rw [key2 L.length (Nat.le_refl _), List.take_length]
  rw [h2] at h1
  exact h1

variable {a : Addr} {L : List (Addr × NestedKey)} {es : Array (Int × Value)} {ep : Nat} {t : SetTable}
/-- the table laid anew, larger -/
theorem relay_at {o : Obj} (ho : s.heap.get? a = some o) (hex : o.ExactSet) (hd : o.data = .set es ep t) (hrows : es.toList = rowsN P w L) (hsz : t.place.size = es.size) (hdm : t.dummies = #[]) (hfl : es.size ≤ t.mask)
    (nd : (L.map (·.2)).Nodup) (tup : ∀ p ∈ L, IsN P w s.heap p.2 p.1) (pl : t.plain = true) (ld : w.params.followText "set-order" = true ∨ t.led = true) (few : L.length < 64) {wanted M : Nat}
    (hw : SetTable.sizeAbove wanted - 1 = M) (hM : MaskOk M) (hw2 : SetTable.sizeAbove wanted ≤ 128) (hn : L.length * 5 < M * 3) {Q : Unit → Shared → Prop}
    (hQ : ∀ h' L' es' ep' t', Heap.SameBut a s.heap h' → SetNR P w h' a L' es' ep' t' → L'.Perm L → Q () { s with heap := h' }) : wpAny (model P w) A (setRelay a wanted) Q E s := by
  have hsl : es.size = L.length := by
    have h := congrArg List.length hrows
    unfold rowsN at h
    rw [Array.length_toList, List.length_map] at h
    exact h
  have hfits : t.fits es.size = true := by
    unfold SetTable.fits SetTable.fill
    rw [hdm, Bool.and_eq_true, beq_iff_eq, decide_eq_true_eq]
    show t.place.size = es.size ∧ t.place.size + 0 ≤ t.mask
    omega
  obtain ⟨t', order, e, hp, T, em, el, ep', ed⟩ := relaid_ok t (hs := es.map (·.1)) (wanted := wanted) hw hM (by rw [Array.size_map, hsl]; omega)
  rw [Array.size_map, hsl] at hp
  obtain ⟨L2, r1, r2, r3⟩ := orderN_rows L es order hrows hp
  rw [← r3] at T
  have hs2 : (order.filterMap (es[·]?)).size = es.size := by
    have h := congrArg List.length r1
    unfold rowsN at h
    rw [Array.length_toList, List.length_map, r2.length_eq] at h
    rw [h, hsl]
  rw [setRelay_eq]
  refine wpAny_bind (wpAny_setState_of ho hd hfits ?_)
  dsimp only
  refine wp_if_neg (by rw [sizeLine_eq]; omega) ?_
  try refine wpAny_bind (wpAny_pure ?_)
  rw [e]
  dsimp only
  refine wpAny_bind ?_
  refine wp_if_neg (by rw [hs2]; simp) ?_
  try refine wpAny_bind (wpAny_pure ?_)
  refine wpAny_pure ?_
  dsimp only
  refine wpAny_storeSet_of ho hd ?_ (by rw [hs2, hsl, sizeLine_eq]; omega)
  have sb : Heap.SameBut a s.heap (s.heap.update a (Obj.putSet (order.filterMap (es[·]?)) t')) := Heap.SameBut.update ..
  refine hQ _ L2 (order.filterMap (es[·]?)) (ep + 1) t' sb ?_ r2
  refine ⟨⟨_, store_at ho hd, ⟨hex.1, hex.2.1, hex.2.2⟩, rfl⟩, r1, T, ?_, fun p hpm => isN_same (tup p (r2.mem_iff.mp hpm)) ho hd sb, by rw [ep']; exact pl, by rw [el]; exact ld, ?_, by rw [r2.length_eq]; exact few⟩
  · exact (r2.map (·.2)).nodup_iff.mpr nd
  · rw [r2.length_eq, em]
    exact hn

/-- ADDING -/
theorem add_at (R : SetNR P w s.heap a L es ep t) {x : Addr} {k : NestedKey} (hx : IsN P w s.heap k x) (hnt : noText k = true) (hu : A.units + 8 < cLine) (hfew : L.length + 1 < 64) {Q : Bool → Shared → Prop}
    (hQ : ∀ b h' L' es' ep' t', Heap.SameBut a s.heap h' → SetNR P w h' a L' es' ep' t' → (k ∈ L.map (·.2) → L' = L) → (k ∉ L.map (·.2) → L'.Perm ((x, k) :: L)) → Q b { s with heap := h' }) :
    wpAny (model P w) A (setAddHashed a (.ref x) (nhash P w k)) Q E s := by
  obtain ⟨o, ho, hex, hd⟩ := R.ob
  have hsl := R.size
  have hroom := R.room
  unfold setAddHashed
  refine wpAny_holding ?_
  rw [show (100000 : Nat) = 99999 + 1 from rfl, setAddHashedIn_succ]
  refine wpAny_bind (wpAny_setState_of ho hd R.fits ?_)
  dsimp only
  refine wp_if_neg (by simp [byScan, Value.scannable]) ?_
  try refine wpAny_bind (wpAny_pure ?_)
  refine wpAny_bind (search_at R hx hu (fun hm => ?_) fun K hm hK hb => ?_)
  · dsimp only
    exact wpAny_pure (hQ false s.heap L es ep t (Heap.SameBut.refl a s.heap) R (fun _ => rfl) fun z => absurd hm z)
  · dsimp only
    refine wpAny_bind (wpAny_setState_of ho hd R.fits ?_)
    dsimp only
    obtain ⟨q1, q2, q3, q4, q5, q6, q7, q8, q9⟩ := R.tab.put hK hb
    have hp1 : (t.put (way t.mask (nhash P w k) K)).1.plain = true := by rw [q6]; exact R.plain
    generalize hpt : t.put (way t.mask (nhash P w k) K) = pt at q1 q3 q4 q5 q6 q7 q8 q9 hp1 ⊢
    obtain ⟨t1, p⟩ := pt
    dsimp only at q1 q3 q4 q5 q6 q7 q8 q9 hp1 ⊢
    subst q1
    first
      | (refine wpAny_bind ?_; refine wp_if_pos hp1 ?_; refine hashBy_key k _ 8 _ hx.1 hnt hx.2 _ _ _ ?_)
      | refine wp_if_pos hp1 (wpAny_bind (hashBy_key k _ 8 _ hx.1 hnt hx.2 _ _ _ ?_))
    simp only [if_true]
    have hin : (SetTable.insertAt es (SetTable.below t.place (way t.mask (nhash P w k) K)) (nhash P w k, Value.ref x)).toList = rowsN P w (L.take (SetTable.below t.place (way t.mask (nhash P w k) K)) ++ (x, k) :: L.drop (SetTable.below t.place (way t.mask (nhash P w k) K))) := by
      rw [SetTable.toList_insertAt, rowsN_put, R.rows]
    generalize hpp : SetTable.below t.place (way t.mask (nhash P w k) K) = p at q2 q3 hin ⊢
    have pm := put_perm L p (x, k)
    have hlen : (L.take p ++ (x, k) :: L.drop p).length = L.length + 1 := pm.length_eq
    have hhs : (L.take p ++ (x, k) :: L.drop p).map (fun p => nhash P w p.2) = (L.map fun p => nhash P w p.2).take p ++ nhash P w k :: (L.map fun p => nhash P w p.2).drop p := by
      rw [List.map_append, List.map_cons, List.map_take, List.map_drop]
    rw [← hhs] at q3
    have nd1 : ((L.take p ++ (x, k) :: L.drop p).map (·.2)).Nodup := by
      refine (pm.map (·.2)).nodup_iff.mpr ?_
      rw [List.map_cons]
      exact List.nodup_cons.mpr ⟨hm, R.nd⟩
    have hes : (SetTable.insertAt es p (nhash P w k, Value.ref x)).size = L.length + 1 := by
      have h := congrArg List.length hin
      unfold rowsN at h
      rw [Array.length_toList, List.length_map, hlen] at h
      exact h
    generalize SetTable.insertAt es p (nhash P w k, Value.ref x) = es1 at hin hes ⊢
    generalize L.take p ++ (x, k) :: L.drop p = L1 at pm hlen q3 nd1 hin
    refine wpAny_bind (wpAny_storeSet_of ho hd ?_ (by rw [hes, sizeLine_eq]; omega))
    have sb : Heap.SameBut a s.heap (s.heap.update a (Obj.putSet es1 t1)) := Heap.SameBut.update ..
    have ho1 := store_at (es' := es1) (t' := t1) ho hd
    generalize s.heap.update a (Obj.putSet es1 t1) = h1 at sb ho1 ⊢
    have tup1 : ∀ p ∈ L1, IsN P w h1 p.2 p.1 := fun p hp => by
      rcases List.mem_cons.mp (pm.mem_iff.mp hp) with e | hp
      · rw [e]; exact isN_same hx ho hd sb
      · exact isN_same (R.tup p hp) ho hd sb
    have ld1 : w.params.followText "set-order" = true ∨ t1.led = true := by rw [q5]; exact R.led
    by_cases hf : t1.tooFull = true
    · first
        | (refine wpAny_bind ?_; refine wp_if_pos (by simp [hf]) ?_)
        | (refine wp_if_pos (by simp [hf]) ?_; refine wpAny_bind ?_)
      have hfull : (L.length + 1) * 5 ≥ t1.mask * 3 := by
        have h := hf
        unfold SetTable.tooFull at h
        rw [decide_eq_true_eq, q9, List.length_map] at h
        exact h
      rw [hsl]
      have hsz1 : t1.place.size = es1.size := by
        have h := q3.sz
        rw [List.length_map, hlen] at h
        rw [h, hes]
      have cases2 : (t.mask = 7 ∧ L.length = 4) ∨ (t.mask = 31 ∧ L.length = 18) := by
        rcases R.tab.mok with e | e | e
        · left; rw [q4, e] at hfull; rw [e] at hroom; exact ⟨e, by omega⟩
        · right; rw [q4, e] at hfull; rw [e] at hroom; exact ⟨e, by omega⟩
        · exfalso; rw [q4, e] at hfull; omega
      have go : ∀ M, SetTable.sizeAbove (SetTable.grown (L.length + 1)) - 1 = M → MaskOk M → SetTable.sizeAbove (SetTable.grown (L.length + 1)) ≤ 128 → (L.length + 1) * 5 < M * 3 →
          wpAny (model P w) A (setRelay a (SetTable.grown (L.length + 1))) (fun _ s' => wpAny (model P w) A (pure true) Q E s') E { s with heap := h1 } := fun M h1' h2' h3' h4' => by
        refine relay_at (s := { s with heap := h1 }) ho1 ⟨hex.1, hex.2.1, hex.2.2⟩ rfl hin hsz1 q3.dm (by rw [hes, q4]; rcases cases2 with ⟨e, e2⟩ | ⟨e, e2⟩ <;> omega) nd1 tup1 hp1 ld1 (by rw [hlen]; exact hfew) h1' h2' h3' (by rw [hlen]; exact h4') ?_
        intro h2 L2 es2 ep2 t2 sb2 R2 pm2
        refine wpAny_pure (hQ true h2 L2 es2 ep2 t2 (sb.trans sb2) R2 (fun z => absurd z hm) fun _ => pm2.trans pm)
      rcases cases2 with ⟨_, e2⟩ | ⟨_, e2⟩
      · refine go 31 (by rw [e2, size_20]) (.inr (.inl rfl)) (by rw [e2, size_20]; decide) (by omega)
      · refine go 127 (by rw [e2, size_76]) (.inr (.inr rfl)) (by rw [e2, size_76]; decide) (by omega)
    · first
        | refine wp_if_neg (by simp [hf]) ?_
        | (refine wpAny_bind ?_; refine wp_if_neg (by simp [hf]) ?_; refine wpAny_pure ?_)
      refine wpAny_pure (hQ true h1 L1 es1 (ep + 1) t1 sb ⟨⟨_, ho1, ⟨hex.1, hex.2.1, hex.2.2⟩, rfl⟩, hin, q3, nd1, tup1, hp1, ld1, ?_, by rw [hlen]; exact hfew⟩ (fun z => absurd z hm) fun _ => pm)
      have h := hf
      unfold SetTable.tooFull at h
      rw [decide_eq_true_eq, q9, List.length_map] at h
      rw [hlen]
      omega
/-- what the set has got from the first i items -/
structure GotN (ks : List (Addr × NestedKey)) (i : Nat) (L : List (Addr × NestedKey)) : Prop where
  sub : ∀ p ∈ L, p ∈ ks.take i
  all : ∀ p ∈ ks.take i, p.2 ∈ L.map (·.2)
  len : L.length ≤ i
theorem GotN.zero (ks : List (Addr × NestedKey)) : GotN ks 0 [] := ⟨fun p h => (by cases h), fun p h => (by simp at h), Nat.le_refl _⟩
theorem GotN.same {ks L : List (Addr × NestedKey)} {i : Nat} {x : Addr × NestedKey} (g : GotN ks i L) (h : ks[i]? = some x) (hm : x.2 ∈ L.map (·.2)) : GotN ks (i + 1) L := by
  refine ⟨fun p hp => ?_, fun p hp => ?_, Nat.le_succ_of_le g.len⟩
  · rw [take_next h]
    exact List.mem_append_left _ (g.sub p hp)
  · rw [take_next h] at hp
    rcases List.mem_append.mp hp with z | z
    · exact g.all p z
    · rw [List.mem_singleton.mp z]; exact hm
theorem GotN.more {ks L L' : List (Addr × NestedKey)} {i : Nat} {x : Addr × NestedKey} (g : GotN ks i L) (h : ks[i]? = some x) (pm : L'.Perm (x :: L)) : GotN ks (i + 1) L' := by
  refine ⟨fun p hp => ?_, fun p hp => ?_, ?_⟩
  · rw [take_next h]
    rcases List.mem_cons.mp (pm.mem_iff.mp hp) with e | z
    · rw [e]; exact List.mem_append_right _ (List.mem_singleton.mpr rfl)
    · exact List.mem_append_left _ (g.sub p z)
  · rw [(pm.map (·.2)).mem_iff, List.map_cons]
    rw [take_next h] at hp
    rcases List.mem_append.mp hp with z | z
    · exact List.mem_cons_of_mem _ (g.all p z)
    · rw [List.mem_singleton.mp z]; exact List.mem_cons_self
  · rw [pm.length_eq, List.length_cons]
    exact Nat.succ_le_succ g.len

theorem isN_keep {h h' : Heap} {k : NestedKey} {b : Addr} (x : IsN P w h k b) (hk : ∀ c o, h.get? c = some o → h'.get? c = some o) : IsN P w h' k b := ⟨NestedIs.at (fun c o _ _ hc _ => hk c o hc) k _ x.1, x.2⟩
theorem SetNR.keep {h h' : Heap} {a : Addr} {L : List (Addr × NestedKey)} {es : Array (Int × Value)} {ep : Nat} {t : SetTable} (R : SetNR P w h a L es ep t) (ha : ∀ o, h.get? a = some o → h'.get? a = some o) (ht : ∀ p ∈ L, IsN P w h' p.2 p.1) : SetNR P w h' a L es ep t := by
  obtain ⟨o, ho, r⟩ := R.ob
  exact ⟨⟨o, ha o ho, r⟩, R.rows, R.tab, R.nd, ht, R.plain, R.led, R.room, R.few⟩
/-- a new set -/
theorem setTR_fresh {h : Heap} {a : Addr} (ho : h.get? a = some { cls := .type "set", dict := none, data := .set #[] 0 (.fresh 0 0 (!w.params.followText "set-order")) }) : SetNR P w h a [] #[] 0 (.fresh 0 0 (!w.params.followText "set-order")) where
  ob := ⟨_, ho, ⟨rfl, rfl, rfl⟩, rfl⟩
  rows := rfl
  tab := ⟨List.Pairwise.nil, rfl, rfl, .inl rfl, fun x hx => (by cases hx), fun i h j hi => (by simp at hi)⟩
  nd := List.nodup_nil
  tup := fun p hp => (by cases hp)
  plain := rfl
  led := by
    show _ ∨ (!w.params.followText "set-order") = true
    cases w.params.followText "set-order"
    · exact .inr rfl
    · exact .inl rfl
  room := by
    show 0 * 5 < 7 * 3
    decide
  few := by
    show 0 < 64
    decide

theorem nodup_le {α : Type} [DecidableEq α] : ∀ {l U : List α}, l.Nodup → (∀ x ∈ l, x ∈ U) → l.length ≤ U.length
  | [], _, _, _ => Nat.zero_le _
  | a :: l, U, nd, h => by
    obtain ⟨n1, n2⟩ := List.nodup_cons.mp nd
    have ha := h a List.mem_cons_self
    have ih := nodup_le (l := l) (U := U.erase a) n2 fun x hx => (List.mem_erase_of_ne (fun e => n1 (by rw [← e]; exact hx))).mpr (h x (List.mem_cons_of_mem _ hx))
    have h3 := List.length_erase_of_mem ha
    have h4 : 0 < U.length := List.length_pos_of_mem ha
    rw [List.length_cons]
    omega
theorem few_of {L : List (Addr × NestedKey)} {U : List NestedKey} (nd : (L.map (·.2)).Nodup) (h : ∀ q ∈ L, q.2 ∈ U) : L.length ≤ U.length := by
  have h2 : (L.map (·.2)).length ≤ U.length := nodup_le nd fun k hk => by
    obtain ⟨q, hq, e⟩ := List.mem_map.mp hk
    rw [← e]
    exact h q hq
  rw [List.length_map] at h2
  exact h2
/-- set.update's loop -/
theorem set_update_tups {I : Addr} {fp wr : List Addr} {G : Array GenState → Array GenState → Prop} {n : Nat} {Pv : Nat → Value → Prop} {St : Nat → Shared → Prop} {R : Result → Shared → Prop}
    (W : WalksS P w A.in1 I fp wr G n Pv St) (S : Addr) (hSf : S ∉ fp) (ks : List (Addr × NestedKey)) (hn : n = ks.length) (U : List NestedKey) (hU : ∀ p ∈ ks, p.2 ∈ U ∧ noText p.2 = true) (hfew : U.length ≤ 62) (hval : ∀ i v, Pv i v → ∃ p, ks[i]? = some p ∧ v = .ref p.1)
    (h0 : Heap) (hk : ∀ p ∈ ks, IsN P w h0 p.2 p.1) (hS0 : h0.get? S = none) (hw0 : ∀ b ∈ wr, h0.get? b = none) (hu : A.in1.units + 8 < cLine) :
    ∀ (k i : Nat) (s : Shared), n - i = k → i ≤ n → St i s → (∀ b o, h0.get? b = some o → s.heap.get? b = some o) → (∃ L es ep t, SetNR P w s.heap S L es ep t ∧ GotN ks i L) →
      (∀ s' L es ep t, Moved (S :: wr) G s s' → SetNR P w s'.heap S L es ep t → GotN ks n L → (∀ b o, h0.get? b = some o → s'.heap.get? b = some o) → R (.ok (.ret .none)) s') →
      codeAny (model P w) A (.builtin "set.update.loop" ⟨[.ref S, .ref I], []⟩) R s := by
  have hSw : S ∉ wr := fun h => hSf (W.sub _ h)
  have hsub : ∀ b ∈ wr, b ∈ S :: wr := fun b hb => List.mem_cons_of_mem _ hb
  have keepM : ∀ {s s' : Shared}, Moved wr G s s' → (∀ b o, h0.get? b = some o → s.heap.get? b = some o) → ∀ b o, h0.get? b = some o → s'.heap.get? b = some o := fun hm hkp b o e =>
    hm.heap b o (fun hb => by rw [hw0 b hb] at e; cases e) (hkp b o e)
  intro k
  induction k with
  | zero =>
    intro i s hk' hi hst hkp ⟨L, es, ep, t, hS, g⟩ hR
    have hin : i = n := by omega
    subst hin
    refine codeAny_builtin F.entry_set_update_loop ?_
    rw [Around.under_plainId F.plain_set_update_loop _]
    show wpAny _ A.in1 (pyNext (.ref I) >>= _) _ _ s
    refine wpAny_bind (W.done s _ _ hst fun s' hm => ?_)
    show wpAny _ A.in1 (ret Value.none) _ _ s'
    have hkp' := keepM hm hkp
    have sub : ∀ p ∈ L, p ∈ ks := fun p hp => List.mem_of_mem_take (g.sub p hp)
    exact wpAny_pure (hR s' L es ep t (hm.mono hsub) (hS.keep (fun o e => hm.heap S o hSw e) fun p hp => isN_keep (hk p (sub p hp)) hkp') g hkp')
  | succ k ih =>
    intro i s hk' hi hst hkp ⟨L, es, ep, t, hS, g⟩ hR
    have hlt : i < n := by omega
    refine codeAny_builtin F.entry_set_update_loop ?_
    rw [Around.under_plainId F.plain_set_update_loop _]
    show wpAny _ A.in1 (pyNext (.ref I) >>= _) _ _ s
    refine wpAny_bind (W.item i s _ _ hlt hst fun v s' hP hst' hm => ?_)
    obtain ⟨p, hp, rfl⟩ := hval i v hP
    have hkp' := keepM hm hkp
    have sub : ∀ p ∈ L, p ∈ ks := fun p hp => List.mem_of_mem_take (g.sub p hp)
    have hS' : SetNR P w s'.heap S L es ep t := hS.keep (fun o e => hm.heap S o hSw e) fun q hq => isN_keep (hk q (sub q hq)) hkp'
    have hx : IsN P w s'.heap p.2 p.1 := isN_keep (hk p (List.mem_of_getElem? hp)) hkp'
    show wpAny _ A.in1 (holding [Value.ref p.1] (setAdd S (.ref p.1)) >>= _) _ _ s'
    refine wpAny_bind (wpAny_holding ?_)
    unfold setAdd
    refine wpAny_holding ?_
    refine wpAny_bind ((nestedKind P w).pyHash hu hx ?_)
    refine add_at (s := { s' with toks := s'.toks + (nestedKind P w).draws p.2 }) hS' hx (hU p (List.mem_of_getElem? hp)).2 hu (by have := few_of hS'.nd (fun q hq => (hU q (sub q hq)).1); omega) fun b h' L' es' ep' t' hsb hS2 c1 c2 => ?_
    have g' : GotN ks (i + 1) L' := by
      rcases Classical.em (p.2 ∈ L.map (·.2)) with c | c
      · rw [c1 c]; exact g.same hp c
      · exact g.more hp (c2 c)
    have hkp2 : ∀ b o, h0.get? b = some o → h'.get? b = some o := fun b o e => (hsb.2 b (fun z => by rw [z, hS0] at e; cases e)).trans (hkp' b o e)
    refine wpAny_pure ⟨plainId_quiet F.plain_set_update_loop _, ih (i + 1) _ (by omega) hlt (W.frame _ s' _ _ hst' (Nat.le_add_right _ _) fun b hb o e => ?_) hkp2 ⟨L', es', ep', t', hS2, g'⟩ fun s'' L2 es2 ep2 t2 hm'' hS'' g'' hkp'' => ?_⟩
    · rw [hsb.2 b (fun h : b = S => hSf (by rw [← h]; exact hb))]; exact e
    · refine hR s'' L2 es2 ep2 t2 (Moved.trans W.gtrans ((hm.mono hsub).then_heap (Nat.le_add_right _ _) fun b o hb e => ?_) hm'') hS'' g'' hkp''
      rw [hsb.2 b (fun h : b = S => hb (by rw [h]; exact List.mem_cons_self))]; exact e

set_option maxRecDepth 100000 in
set_option maxHeartbeats 3200000 in
/-- set(xs) -/
theorem call_set_tups {l : Addr} {items : Array Value} (ks : List (Addr × NestedKey)) {Q : Value → Shared → Prop} (hh : A.handled = none) (hl : s.heap.IsList l items) (hit : items.toList = ks.map fun p => Value.ref p.1)
    (hk : ∀ p ∈ ks, IsN P w s.heap p.2 p.1) (U : List NestedKey) (hU : ∀ p ∈ ks, p.2 ∈ U ∧ noText p.2 = true) (hfew : U.length ≤ 62) (hu : A.units + 16 < cLine)
    (h : ∀ (h' : Heap) (tk : Nat) L es ep t, SetNR P w h' s.heap.objs.size L es ep t → GotN ks ks.length L → (∀ b o, s.heap.get? b = some o → h'.get? b = some o) → Q (.ref s.heap.objs.size) { s with heap := h', toks := tk }) :
    wpAny (model P w) A (call (.type "set") [.ref l]) Q E s := by
  have hisz : items.size = ks.length := by
    have q := congrArg List.length hit
    rw [Array.length_toList, List.length_map] at q
    exact q
  obtain ⟨c, tl, hmro⟩ := F.called_set.mro
  have hmade := F.called_set.made
  have hsub := F.called_set.sub
  refine wpAny_call (codeAny_of_tree ?_)
  show wpAny _ _ (callAny (.type "set") _) _ _ _
  refine wpAny_pure ⟨Code.quiet_builtin _ (by decide +kernel), codeAny_builtin F.entry_type_call ?_⟩
  rw [Around.under_plain (weight_type_call_type "set" [.ref l] []) rfl]
  have h1 := F.called_set.notType
  have h2 := F.called_set.canCreate
  have hct := F.typeCall_set_1 (.ref l)
  repeat (any_goals (first | assumption | wp_step))

  refine codeAny_mono (code_set_led1 (.ref l) (E := E) (Q₁ := fun obj s₁ => obj = .ref s.heap.objs.size ∧ s₁ = { s with heap := s.heap.push { cls := .type "set", dict := none, data := .set #[] 0 (.fresh 0 0 (!w.params.followText "set-order")) } }) ⟨rfl, rfl⟩) fun r s₁ hr => ?_
  cases r with
  | error e => exact hr
  | ok fl =>
    cases fl with
    | ret obj =>
      obtain ⟨rfl, rfl⟩ := hr
      have hS : (s.heap.push { cls := .type "set", dict := none, data := .set #[] 0 (.fresh 0 0 (!w.params.followText "set-order")) }).get? s.heap.objs.size = some { cls := .type "set", dict := none, data := .set #[] 0 (.fresh 0 0 (!w.params.followText "set-order")) } := Heap.get?_push_size _ rfl
      have hT : Shared.TypeIs { s with heap := s.heap.push { cls := .type "set", dict := none, data := .set #[] 0 (.fresh 0 0 (!w.params.followText "set-order")) } } (.ref s.heap.objs.size) "set" := ⟨_, hS, rfl⟩
      have hli := F.called_set.init.lookup
      have hbi := F.called_set.init.bind (.ref s.heap.objs.size)
      repeat (any_goals (first | assumption | wp_step))

      refine codeAny_mono (codeAny_call_builtin (R := wants (fun r s₂ => r = .none ∧ ∃ h' tk L es ep t, s₂ = { s with heap := h', toks := tk } ∧ SetNR P w h' s.heap.objs.size L es ep t ∧ GotN ks ks.length L ∧
          (∀ b o, s.heap.get? b = some o → h'.get? b = some o)) E) F.called_set.init.plain F.entry_set_init (check_set_init_1 hT ?_)) fun r₂ s₂ hr₂ => ?_
      · obtain ⟨ol, hol, hcl, nl, hdl⟩ := hl
        obtain ⟨ocls, odict, odata, oslots⟩ := ol
        simp only at hcl hdl
        subst hcl; subst hdl
        have hol' : (s.heap.push { cls := .type "set", dict := none, data := .set #[] 0 (.fresh 0 0 (!w.params.followText "set-order")) }).get? l = some { cls := .type "list", dict := odict, data := .seq items nl, slots := oslots } := Heap.get?_push_of_some _ hol
        have hsls := F.sub_list_set
        have hslf := F.sub_list_frozenset
        have hne : (Value.type "list" == Value.type "dict") = false := by decide
        have hl1 : (s.heap.push { cls := .type "set", dict := none, data := .set #[] 0 (.fresh 0 0 (!w.params.followText "set-order")) }).IsList l items := ⟨_, hol', rfl, nl, rfl⟩
        unfold Builtin.«set.__init__» noKeywords Builtin.Frozenset.updateFrom
        generalize hPI : pyIter = PI
        wp_walk
        subst hPI

        refine wpAny_pyIter_list hl1 ?_
        refine wpAny_bind (wpAny_runValue ?_)
        have hlS : l < s.heap.objs.size := Heap.lt_size hol
        have hh3 : A.in1.in1.in1.handled = none := by simp [hh]
        have hz1 : (s.heap.push { cls := .type "set", dict := none, data := .set #[] 0 (.fresh 0 0 (!w.params.followText "set-order")) }).objs.size = s.heap.objs.size + 1 := Heap.size_push ..
        have hneI : l ≠ (s.heap.push { cls := .type "set", dict := none, data := .set #[] 0 (.fresh 0 0 (!w.params.followText "set-order")) }).objs.size := by
          rw [Heap.size_push]; exact Nat.ne_of_lt (Nat.lt_succ_of_lt hlS)
        have hSf : s.heap.objs.size ∉ [(s.heap.push { cls := .type "set", dict := none, data := .set #[] 0 (.fresh 0 0 (!w.params.followText "set-order")) }).objs.size, l] := by
          rw [Heap.size_push]; simp only [List.mem_cons, List.mem_singleton, List.not_mem_nil, or_false, not_or]
          exact ⟨Nat.ne_of_lt (Nat.lt_succ_self _), Nat.ne_of_gt hlS⟩
        have hval : ∀ (i : Nat) (v : Value), items[i]? = some v → ∃ p, ks[i]? = some p ∧ v = .ref p.1 := fun i v hv => by
          have q : items.toList[i]? = some v := by rw [Array.getElem?_toList]; exact hv
          rw [hit, List.getElem?_map] at q
          cases hq : ks[i]? with
          | none => rw [hq] at q; cases q
          | some p =>
            rw [hq] at q
            exact ⟨p, rfl, (Option.some.inj q).symm⟩
        have none_of : ∀ b, s.heap.objs.size ≤ b → s.heap.get? b = none := fun b hb => by
          cases q : s.heap.get? b with
          | none => rfl
          | some o => exact absurd (Nat.lt_of_lt_of_le (Heap.lt_size q) hb) (Nat.lt_irrefl _)
        refine set_update_tups ((Walks.list hh3 _ l hneI items).toS) s.heap.objs.size
          hSf ks hisz U hU hfew hval s.heap hk (none_of _ (Nat.le_refl _)) (fun b hb => none_of b (by
            rw [List.mem_singleton.mp hb, Heap.size_push]
            exact Nat.le_succ _)) (by simp only [Around.in1_units]; omega) (items.size - 0) 0 _ (by omega) (Nat.zero_le _)
          ⟨⟨_, Heap.get?_push_size _ rfl, rfl, rfl⟩, (hl1.push _)⟩ (fun b o e => Heap.get?_push_of_some _ (Heap.get?_push_of_some _ e)) ?hS0 ?hR
        case hS0 =>
          have hget : ((s.heap.push { cls := .type "set", dict := none, data := .set #[] 0 (.fresh 0 0 (!w.params.followText "set-order")) }).push { cls := .type "list_iterator", data := .fields #[.ref l, .int 0 0] }).get? s.heap.objs.size
              = some { cls := .type "set", dict := none, data := .set #[] 0 (.fresh 0 0 (!w.params.followText "set-order")) } := Heap.get?_push_of_some _ hS
          exact ⟨[], #[], 0, _, setTR_fresh hget, GotN.zero ks⟩
        case hR =>
          intro s' L es ep t hm hS' g' hkp
          obtain ⟨h', g2, d', tk', os'⟩ := s'
          have eg : g2 = s.gens := hm.gens
          have ed : d' = s.drawn := hm.drawn
          have eo : os' = s.os := hm.os
          subst eg; subst ed; subst eo
          show wpAny _ _ _ _ _ _
          refine wpAny_pure ?_
          show wpAny _ _ (ret Value.none) _ _ _
          rw [hisz] at g'
          exact wpAny_pure ⟨rfl, h', tk', L, es, ep, t, rfl, hS', g', hkp⟩

      · cases r₂ with
        | error e => exact hr₂
        | ok fl₂ =>
          cases fl₂ with
          | ret r =>
            obtain ⟨rfl, h', tk, L, es, ep, t, rfl, hS', g', hk'⟩ := hr₂
            repeat (any_goals (first | assumption | wp_step))
            exact h _ _ _ _ _ _ hS' g' hk'
          | _ => exact hr₂.elim
    | _ => exact hr.elim


end
end K48
/-! set(list of nested tuples) and sorted(set) as rules of the layer. -/
namespace K48
open PySem PySem.Spec PyProof.Rows L2 Evl
open PySem.W (EachIs AllAlike dataLe)
section
variable {P : Program} {w : World} {H : Hp} {h : Heap}
mutual
theorem reads_of (ok : HOk P w H h) : ∀ {v : V} (d : PyData), tupD d = true → Rp H v d → ∀ u, RelV v u → Reads h u d []
  | _, .none, _, .non, u, ru => by
    cases ru
    exact .none
  | _, .bool b, _, .bl _, u, ru => by
    cases ru
    exact .bool b
  | _, .int i, _, .int _, u, ru => by
    obtain ⟨t, rfl⟩ := ru
    exact .int i t
  | _, .str x, _, .str _, u, ru => by
    obtain ⟨t, rfl⟩ := ru
    exact .str x t
  | _, .tuple ds, t, .tup ha hn r, u, ru => by
    cases ru
    rw [tupD] at t
    obtain ⟨hob, _, its, rv, ob, hob', hc, n, hd⟩ := ok _ _ ha
    exact .tuple hob' hc hd (by simpa using readss_of ok ds t r its rv)
theorem readss_of (ok : HOk P w H h) : ∀ {vs : List V} (ds : List PyData), tupDs ds = true → Rps H vs ds → ∀ us, Vals vs us → ReadsAll h us ds []
  | _, [], _, .nil, _, r => by
    cases r
    exact .nil
  | _, d :: ds, t, .cons r1 r2, _, r => by
    cases r with
    | cons a b =>
      rw [tupDs, Bool.and_eq_true] at t
      exact ReadsAll.cons (as := []) (bs := []) (reads_of ok d t.1 r1 _ a) (readss_of ok ds t.2 r2 _ b)
end
end
/-- the set at a, without the tuples themselves -/
def NSet0 (P : Program) (w : World) (a : Addr) (L : List (Addr × NestedKey)) (h : Heap) : Prop := ∃ (es : Array (Int × Value)) (ep : Nat) (t : SetTable), (∃ o, h.get? a = some o ∧ o.ExactSet ∧ o.data = .set es ep t) ∧ es.toList = rowsN P w L ∧ TabOk t (L.map fun p => nhash P w p.2) ∧ (L.map (·.2)).Nodup ∧ t.plain = true ∧
    (w.params.followText "set-order" = true ∨ t.led = true) ∧ L.length * 5 < t.mask * 3 ∧ L.length < 64
def NSetO (P : Program) (w : World) (a : Addr) (L : List (Addr × NestedKey)) : HO := .ext (NSet0 P w a L)
theorem nset_ok {P : Program} {w : World} {H : Hp} {h : Heap} {a : Addr} {L : List (Addr × NestedKey)} (R : NSet0 P w a L h) : ObjOk P w H h a (NSetO P w a L) := by
  obtain ⟨es, ep, t, ⟨o, ho, r⟩, q⟩ := id R
  refine ⟨R, ⟨o, ho⟩, fun h1 h2 x k => ?_⟩
  obtain ⟨es, ep, t, ⟨o, ho, r⟩, q⟩ := x
  exact ⟨es, ep, t, ⟨o, k _ ho, r⟩, q⟩
section
variable {X : Cx}
theorem refs_eq : ∀ {ks : List (Addr × NestedKey)} {us : List Value}, Vals (ks.map fun p => V.ref p.1) us → us = ks.map fun p => Value.ref p.1
  | [], _, .nil => rfl
  | p :: ks, _, .cons r t => by
    cases r
    rw [refs_eq t] <;> rfl
/-- set(xs) -/
def rSetN (P : Program) (w : World) : List V → Hp → VK → Prop := fun xs H Q => ∃ (l : Addr) (ks : List (Addr × NestedKey)) (U : List NestedKey), xs = [V.ref l] ∧ H l = some (.lst (ks.map fun p => V.ref p.1)) ∧ (∀ p ∈ ks, KeyAt H p.1 p.2) ∧ (∀ p ∈ ks, p.2 ∈ U ∧ noText p.2 = true) ∧ U.length ≤ 62 ∧
  ∀ a L, H a = none → (∀ p ∈ L, p ∈ ks) → (∀ p ∈ ks, p.2 ∈ L.map (·.2)) → (L.map (·.2)).Nodup → Q (.ref a) (upd H a (NSetO P w a L))
theorem cr_setN (hc : X.calm = true) (hu : X.A.units + 64 < cLine) : CallR X (.type "set") (rSetN X.prog X.w) := by
  intro pins s σ H xs us Q I r h
  obtain ⟨l, ks, U, rfl, hl, hk, hU, hf, q⟩ := h
  rw [Vals.ref1 r]
  obtain ⟨z, its, n, rv, e⟩ := (show ObjOk X.prog X.w H s.heap l (.lst _) from I.hok l _ hl)
  have hn : H s.heap.objs.size = none := I.hok.fresh (Nat.le_refl _)
  refine call_set_tups (P := X.prog) (w := X.w) ks (I.ok.hd hc) (show s.heap.IsList l its.toArray from ⟨_, e, rfl, n, rfl⟩) (by simpa using refs_eq rv) (fun p hp => (hk p hp).is I.hok) U hU hf (by omega) fun h' tk L es ep t R g k => ?_
  have R0 : NSet0 X.prog X.w s.heap.objs.size L h' := ⟨es, ep, t, R.ob, R.rows, R.tab, R.nd, R.plain, R.led, R.room, R.few⟩
  refine ⟨.ref s.heap.objs.size, upd H s.heap.objs.size (NSetO X.prog X.w s.heap.objs.size L), I.laid (t' := tk) k (Nat.le_refl _) (nset_ok R0), rfl, q _ L hn (fun p hp => ?_) (fun p hp => ?_) R.nd⟩
  · exact List.mem_of_mem_take (g.sub p hp)
  · exact g.all p (by rw [List.take_length]; exact hp)
/-- sorted(set) -/
def rSortN (P : Program) (w : World) : List V → Hp → VK → Prop := fun vs H Q => ∃ (a : Addr) (L : List (Addr × NestedKey)) (f : Addr → PyData), vs = [V.ref a] ∧ H a = some (NSetO P w a L) ∧ (∀ p ∈ L, tupD (f p.1) = true ∧ Rp H (.ref p.1) (f p.1) ∧ (f p.1).depth ≤ 8 ∧ ∃ x r, f p.1 = .tuple (x :: r)) ∧
  (∀ p ∈ L, ∀ q ∈ L, PySem.W.alike (f p.1) (f q.1) = true) ∧
  ∀ (bs : List Addr) (p : Addr), bs.Perm (L.map (·.1)) → H p = none → Q (.ref p) (upd H p (.lst (bs.map V.ref)))
theorem refs_list : ∀ {vs : List Value} {S : Addr → Prop}, (∀ v ∈ vs, ∃ b, v = Value.ref b ∧ S b) → ∃ bs : List Addr, vs = bs.map Value.ref ∧ ∀ b ∈ bs, S b
  | [], _, _ => ⟨[], rfl, fun b hb => by cases hb⟩
  | v :: vs, S, h => by
    obtain ⟨b, e, hb⟩ := h v List.mem_cons_self
    obtain ⟨bs, e2, h2⟩ := refs_list (vs := vs) (S := S) fun u hu => h u (List.mem_cons_of_mem _ hu)
    refine ⟨b :: bs, by rw [e, e2]; rfl, fun c hc => ?_⟩
    rcases List.mem_cons.mp hc with rfl | hc
    · exact hb
    · exact h2 c hc
theorem vals_refsN : ∀ (bs : List Addr), Vals (bs.map V.ref) (bs.map Value.ref)
  | [] => .nil
  | b :: bs => .cons rfl (vals_refsN bs)
theorem each_refs {R : Value → Addr → Prop} : ∀ {bs : List Addr}, (∀ b ∈ bs, R (.ref b) b) → EachIs R (bs.map Value.ref) bs
  | [], _ => .nil
  | b :: bs, h => .cons (h b List.mem_cons_self) (each_refs fun c hc => h c (List.mem_cons_of_mem _ hc))
theorem each_right {α β : Type} {R : α → β → Prop} : ∀ {as : List α} {bs : List β}, EachIs R as bs → ∀ b ∈ bs, ∃ a ∈ as, R a b
  | _, _, .nil, _, hb => absurd hb (by simp)
  | _, _, .cons (a := a) h t, b, hb => by
    rcases List.mem_cons.mp hb with rfl | hb
    · exact ⟨a, List.mem_cons_self .., h⟩
    · obtain ⟨a', ha, hr⟩ := each_right t b hb
      exact ⟨a', List.mem_cons_of_mem _ ha, hr⟩
theorem cr_sortN (hc : X.calm = true) (hu : X.A.units + 64 < cLine) : CallR X (.builtin "sorted") (rSortN X.prog X.w) := by
  intro pins s σ H vs us Q I r h
  obtain ⟨a, L, f, rfl, ha, hk, hal, q⟩ := h
  rw [Vals.ref1 r]
  obtain ⟨es, ep, t, ⟨o, ho, hex, hd⟩, hrows, htab, hnd, hpl, hled, hroom, hfew⟩ := (show ObjOk X.prog X.w H s.heap a (NSetO X.prog X.w a L) from I.hok a _ ha).1
  have hsz : es.size = L.length := by
    have h := congrArg List.length hrows
    unfold rowsN at h
    rw [Array.length_toList, List.length_map] at h
    exact h
  have hfits : t.fits es.size = true := by
    have h1 := htab.sz
    rw [List.length_map] at h1
    unfold SetTable.fits SetTable.fill
    rw [htab.dm, Bool.and_eq_true, beq_iff_eq, decide_eq_true_eq]
    show t.place.size = es.size ∧ t.place.size + 0 ≤ t.mask
    omega
  refine Calls.call_function_entry kind_sorted plain_sorted entry_sorted (args_sorted1 _) ?_
  unfold Builtin.«sorted»
  refine wpAny_bind (m := checkCount "sorted" 1 1 _) (wpAny_pure ?_)
  refine wpAny_bind (collect_set (A := X.A.in1) (I.ok.hd hc) ⟨o, ho, hex.1, hd⟩ hfits (by unfold scanBound; omega) htab.ris hled fun s1 vs k1 hz g1 o1 pm => ?_)
  have hes : es.toList.map (·.2) = L.map fun q => Value.ref q.1 := by
    rw [hrows]
    unfold rowsN
    rw [List.map_map] <;> rfl
  rw [hes] at pm
  have hvl : vs.length < 64 := by rw [pm.length_eq, List.length_map]; exact hfew
  obtain ⟨bs, rfl, hbs⟩ := refs_list (vs := vs) (S := fun b => ∃ q ∈ L, q.1 = b) fun v hv => by
    obtain ⟨q, hq, e⟩ := List.mem_map.mp (pm.mem_iff.mp hv)
    exact ⟨q.1, e.symm, q, hq, rfl⟩
  rw [List.length_map] at hvl
  refine wpAny_bind (wpAny_newList ?_ (by rw [List.length_map, sizeLine_eq]; omega))
  have hoL : (s1.heap.push (seqObj "list" (bs.map Value.ref).toArray 0)).get? s1.heap.objs.size = some (seqObj "list" (bs.map Value.ref).toArray 0) := Heap.get?_push_size _ rfl
  have rd : ∀ b ∈ bs, Reads (s1.heap.push (seqObj "list" (bs.map Value.ref).toArray 0)) (.ref b) (f b) [] := fun b hb => by
    obtain ⟨q, hq, rfl⟩ := hbs b hb
    obtain ⟨h1, h2, _⟩ := hk q hq
    exact PyProof.Rows.Reads.keeps (fun c oc e => Heap.get?_push_of_some _ (k1 c oc e)) (reads_of I.hok _ h1 h2 _ rfl)
  refine wpAny_bind (wpAny_holding (PySem.W.list_sort_data (s := { s1 with heap := s1.heap.push (seqObj "list" (bs.map Value.ref).toArray 0) }) (R := fun v b => v = .ref b ∧ b ∈ bs) (enc := f) (bs := bs) hoL (each_refs fun b hb => ⟨rfl, hb⟩)
    (each_refs fun b hb => ⟨[], rd b hb, by simp⟩) ?_ ?_ (by rw [sizeLine_eq]; omega) ?_ fun out hlen he => ?_))
  · intro d hd' d' hd2
    obtain ⟨b, hb, rfl⟩ := List.mem_map.mp hd'
    obtain ⟨b', hb', rfl⟩ := List.mem_map.mp hd2
    obtain ⟨q, hq, rfl⟩ := hbs b hb
    obtain ⟨q', hq', rfl⟩ := hbs b' hb'
    exact hal q hq q' hq'
  · refine .inl fun d hd' => ?_
    obtain ⟨b, hb, rfl⟩ := List.mem_map.mp hd'
    obtain ⟨q, hq, rfl⟩ := hbs b hb
    exact (hk q hq).2.2.2
  · intro b hb
    obtain ⟨q, hq, rfl⟩ := hbs b hb
    have := (hk q hq).2.2.1
    simp only [Around.in1_units]
    omega
  · obtain ⟨c, hcc⟩ := sortedHeap_at (vs := bs.map Value.ref) (out := out.toArray) hoL
    have hout : out = (bs.mergeSort (dataLe false f)).map Value.ref := by
      have key : ∀ {as : List Value} {cs : List Addr}, EachIs (fun v b => v = Value.ref b ∧ b ∈ bs) as cs → as = cs.map Value.ref := by
        intro as cs h
        induction h with
        | nil => rfl
        | cons h t ih => rw [List.map_cons, ← ih, h.1]
      exact key he
    have hperm : (bs.mergeSort (dataLe false f)).Perm (L.map (·.1)) := by
      have h1 : bs.Perm (L.map (·.1)) := by
        have key : ∀ {l m : List Addr}, (l.map Value.ref).Perm (m.map Value.ref) → l.Perm m := by
          intro l m h
          have h2 := h.map fun v => match v with
            | Value.ref b => b
            | _ => 0
          rw [List.map_map, List.map_map] at h2
          have e : ∀ l : List Addr, l.map ((fun v => match v with | Value.ref b => b | _ => 0) ∘ Value.ref) = l := fun l => by
            rw [show ((fun v => match v with | Value.ref b => b | _ => 0) ∘ Value.ref) = (id : Addr → Addr) from rfl, List.map_id]
          rw [e, e] at h2
          exact h2
        refine key ?_
        rw [List.map_map]
        exact pm
      exact (List.mergeSort_perm bs _).trans h1
    generalize bs.mergeSort (dataLe false f) = cs at hout hperm
    subst hout
    have hn : H s1.heap.objs.size = none := I.hok.fresh hz
    have hcl : cs.length = bs.length := by rw [List.length_map] at hlen; exact hlen
    have kk : ∀ b u, s.heap.get? b = some u → (sortedHeap (s1.heap.push (seqObj "list" (bs.map Value.ref).toArray 0)) s1.heap.objs.size (bs.map Value.ref) (cs.map Value.ref).toArray).get? b = some u := fun b u e => by
      have q := k1 b u e
      have hlt := Heap.lt_size q
      rw [sortedHeap_old (Nat.ne_of_lt hlt) (by rw [size_push']; exact Nat.lt_succ_of_lt hlt)]
      exact Heap.get?_push_of_some _ q
    have J : Inv X pins σ (upd H s1.heap.objs.size (.lst (cs.map V.ref))) { s with heap := sortedHeap (s1.heap.push (seqObj "list" (bs.map Value.ref).toArray 0)) s1.heap.objs.size (bs.map Value.ref) (cs.map Value.ref).toArray, gens := s1.gens, drawn := s1.drawn, toks := s1.toks } :=
      I.call (ch := []) (Un.laid kk hz hn) (I.hok.laid kk hz ⟨by rw [List.length_map, sizeLine_eq]; omega, cs.map Value.ref, c, vals_refsN cs, hcc⟩) (by rw [g1]; exact I.bare) (fun _ z => nomatch z)
    have e : ({ s1 with heap := sortedHeap (s1.heap.push (seqObj "list" (bs.map Value.ref).toArray 0)) s1.heap.objs.size (bs.map Value.ref) (cs.map Value.ref).toArray } : Shared) = { s with heap := sortedHeap (s1.heap.push (seqObj "list" (bs.map Value.ref).toArray 0)) s1.heap.objs.size (bs.map Value.ref) (cs.map Value.ref).toArray, gens := s1.gens, drawn := s1.drawn, toks := s1.toks } := by
      cases s1
      cases s
      cases o1
      rfl
    refine wpAny_pure ⟨_, rfl, ?_⟩
    show EP X pins σ Q _ ({ s1 with heap := sortedHeap (s1.heap.push (seqObj "list" (bs.map Value.ref).toArray 0)) s1.heap.objs.size (bs.map Value.ref) (cs.map Value.ref).toArray } : Shared)
    rw [e]
    exact ⟨.ref s1.heap.objs.size, _, J, rfl, q cs _ hperm hn⟩
end
/-! ### sorted(set(xs)) by data -/
section
variable {P : Program} {w : World} {σ : S} {H : Hp} {ta : TE}
theorem refs_tup {H : Hp} : ∀ {vs : List V} {ds : List PyData}, Rps H vs ds → (∀ d ∈ ds, ∃ es, d = .tuple es) → ∃ as : List Addr, vs = as.map V.ref ∧ as.length = ds.length
  | _, _, .nil, _ => ⟨[], rfl, rfl⟩
  | _, _, .cons r t, h => by
    obtain ⟨as, e, hl⟩ := refs_tup t fun d hd => h d (List.mem_cons_of_mem _ hd)
    obtain ⟨es, he⟩ := h _ (List.mem_cons_self ..)
    subst he
    obtain ⟨a, o, xs, rfl, _⟩ := r.tup_inv
    exact ⟨a :: as, by rw [e]; rfl, by rw [List.length_cons, List.length_cons, hl]⟩
/-- the data at an address -/
theorem Rp.uniq {H : Hp} : ∀ {v : V} (d : PyData) {e : PyData}, Rp H v d → Rp H v e → d = e := by
  have key : ∀ (n : Nat) (d : PyData) (v : V) (e : PyData), sizeOf d ≤ n → Rp H v d → Rp H v e → d = e := by
    intro n
    induction n with
    | zero => intro d v e hn _ _; cases d <;> simp at hn
    | succ n ih =>
      have all : ∀ (vs : List V) (ds es : List PyData), sizeOf ds ≤ n → Rps H vs ds → Rps H vs es → ds = es := by
        intro vs ds
        induction ds generalizing vs with
        | nil =>
          intro es _ r1 r2
          cases r1
          cases r2
          rfl
        | cons d ds ihl =>
          intro es hn r1 r2
          cases r1 with
          | cons a b =>
            cases r2 with
            | cons a' b' =>
              simp only [List.cons.sizeOf_spec] at hn
              rw [ih d _ _ (by omega) a a', ihl _ _ (by omega) b b']
      intro d v e hn r1 r2
      cases r1 with
      | non => cases r2; rfl
      | bl _ => cases r2; rfl
      | int _ => cases r2; rfl
      | str _ => cases r2; rfl
      | lst h1 q1 =>
        cases r2 with
        | lst h2 q2 =>
          rw [h1] at h2
          cases h2
          rw [all _ _ _ (by simp only [PyData.list.sizeOf_spec] at hn; omega) q1 q2]
        | tup h2 _ _ =>
          rw [h1] at h2
          cases h2
      | tup h1 _ q1 =>
        cases r2 with
        | lst h2 q2 =>
          rw [h1] at h2
          cases h2
        | tup h2 _ q2 =>
          rw [h1] at h2
          cases h2
          rw [all _ _ _ (by simp only [PyData.tuple.sizeOf_spec] at hn; omega) q1 q2]
  exact fun {v} d {e} r1 r2 => key _ d _ e (Nat.le_refl _) r1 r2
/-- what evaluates to a new list of data of which a property is true -/
def EvM (te : TE) (σ : S) (H : Hp) (R : List PyData → Prop) : Prop := ∀ H1, Ex H H1 → ∀ Q : VK, (∀ p xs es H2, H1 p = none → Ex H1 H2 → H2 p = some (.lst xs) → Rps H2 xs es → R es → Q (.ref p) H2) → te σ H1 Q
/-- sorted(set(xs)) -/
theorem evm_sortset {ds : List PyData} (U : List NestedKey) (h : EvD ta σ H (.list ds)) (ht : ∀ d ∈ ds, tupD d = true ∧ (nk d).depth ≤ 8 ∧ nk d ∈ U ∧ noText (nk d) = true ∧ d.depth ≤ 8 ∧ ∃ x r, d = .tuple (x :: r)) (hU : U.length ≤ 62) (hinj : ∀ d ∈ ds, ∀ e ∈ ds, nk d = nk e → d = e)
    (hal : ∀ d ∈ ds, ∀ e ∈ ds, PySem.W.alike d e = true) : EvM (tCB (rSortN P w) (tCons (tCB (rSetN P w) (tCons ta tNil)) tNil)) σ H (fun es => es.Nodup ∧ ∀ d, d ∈ es ↔ d ∈ ds) := fun H1 a Q q => h H1 a _ fun v H2 e2 r2 => by
  obtain ⟨l, xs, rfl, hl, rs⟩ := r2.lst_inv
  obtain ⟨as, rfl, hlen⟩ := refs_tup rs fun d hd => by
    obtain ⟨_, _, _, _, _, x, r, e⟩ := ht d hd
    exact ⟨_, e⟩
  -- the data at each address
  have at_ : ∀ b ∈ as, ∃ d ∈ ds, Rp H2 (.ref b) d := fun b hb => by
    obtain ⟨i, hi⟩ := List.getElem?_of_mem hb
    obtain ⟨d, hd, r⟩ := rs.getV (i := i) (v := .ref b) (by rw [List.getElem?_map, hi]; rfl)
    exact ⟨d, List.mem_of_getElem? hd, r⟩
  have of_ : ∀ d ∈ ds, ∃ b ∈ as, Rp H2 (.ref b) d := fun d hd => by
    obtain ⟨i, hi⟩ := List.getElem?_of_mem hd
    obtain ⟨v, hv, r⟩ := rs.get (i := i) (d := d) hi
    rw [List.getElem?_map] at hv
    obtain ⟨b, hb, rfl⟩ := Option.map_eq_some_iff.mp hv
    exact ⟨b, List.mem_of_getElem? hb, r⟩
  have fx : ∃ f : Addr → PyData, ∀ b ∈ as, f b ∈ ds ∧ Rp H2 (.ref b) (f b) := by
    classical
    refine ⟨fun b => if hb : ∃ d ∈ ds, Rp H2 (.ref b) d then hb.choose else .none, fun b hb => ?_⟩
    have hx := at_ b hb
    have e : (if hb : ∃ d ∈ ds, Rp H2 (.ref b) d then hb.choose else .none) = hx.choose := dif_pos hx
    show (if hb : ∃ d ∈ ds, Rp H2 (.ref b) d then hb.choose else .none) ∈ ds ∧ Rp H2 (.ref b) (if hb : ∃ d ∈ ds, Rp H2 (.ref b) d then hb.choose else .none)
    rw [e]
    exact hx.choose_spec
  obtain ⟨f, hf⟩ := fx
  refine ⟨l, as.map fun b => (b, nk (f b)), U, rfl, ?_, fun p hp => ?_, fun p hp => ?_, hU, fun c L hc hL1 hL2 hnd => ?_⟩
  · rw [List.map_map]
    exact hl
  · obtain ⟨b, hb, rfl⟩ := List.mem_map.mp hp
    obtain ⟨h1, h2⟩ := hf b hb
    exact ⟨f b, (ht _ h1).1, rfl, (ht _ h1).2.1, h2⟩
  · obtain ⟨b, hb, rfl⟩ := List.mem_map.mp hp
    obtain ⟨h1, h2⟩ := hf b hb
    exact ⟨(ht _ h1).2.2.1, (ht _ h1).2.2.2.1⟩
  · have ex : Ex H2 (upd H2 c (NSetO P w c L)) := Ex.new hc
    have inL : ∀ p ∈ L, p.1 ∈ as ∧ p.2 = nk (f p.1) := fun p hp => by
      obtain ⟨b, hb, rfl⟩ := List.mem_map.mp (hL1 p hp)
      exact ⟨hb, rfl⟩
    refine ⟨c, L, f, rfl, upd_same, fun p hp => ?_, fun p hp p' hp' => ?_, fun bs pp hbp hpp => ?_⟩
    · obtain ⟨h1, h2⟩ := hf p.1 (inL p hp).1
      exact ⟨(ht _ h1).1, h2.up ex, (ht _ h1).2.2.2.2.1, (ht _ h1).2.2.2.2.2⟩
    · exact hal _ (hf p.1 (inL p hp).1).1 _ (hf p'.1 (inL p' hp').1).1
    · have e3 : Ex H1 (upd (upd H2 c (NSetO P w c L)) pp (.lst (bs.map V.ref))) := (e2.trans ex).trans (Ex.new hpp)
      have hbin : ∀ b ∈ bs, b ∈ as := fun b hb => by
        obtain ⟨p, hp, rfl⟩ := List.mem_map.mp (hbp.mem_iff.mp hb)
        exact (inL p hp).1
      refine q pp (bs.map V.ref) (bs.map f) _ (fresh_back e2 (fresh_back ex hpp)) e3 upd_same ?_ ⟨?_, fun d => ?_⟩
      · have key : ∀ l : List Addr, (∀ b ∈ l, b ∈ as) → Rps (upd (upd H2 c (NSetO P w c L)) pp (.lst (bs.map V.ref))) (l.map V.ref) (l.map f) := by
          intro l
          induction l with
          | nil => intro _; exact .nil
          | cons b l ih => intro hl'; exact .cons (((hf b (hl' b List.mem_cons_self)).2.up ex).up (Ex.new hpp)) (ih fun c hc => hl' c (List.mem_cons_of_mem _ hc))
        exact key bs hbin
      · have e1 : (bs.map f).Perm (L.map fun p => f p.1) := by
          have := hbp.map f
          rw [List.map_map] at this
          exact this
        refine e1.nodup_iff.mpr ?_
        have e2 : L.map (·.2) = (L.map fun p => f p.1).map nk := by
          rw [List.map_map]
          exact List.map_congr_left fun p hp => (inL p hp).2
        rw [e2] at hnd
        exact List.Pairwise.of_map nk (fun _ _ hne e => hne (congrArg nk e)) hnd
      · constructor
        · intro hd
          obtain ⟨b, hb, rfl⟩ := List.mem_map.mp hd
          exact (hf b (hbin b hb)).1
        · intro hd
          obtain ⟨b, hb, rb⟩ := of_ d hd
          have eb : f b = d := Rp.uniq _ (hf b hb).2 rb
          have hin := hL2 (b, nk (f b)) (List.mem_map.mpr ⟨b, hb, rfl⟩)
          obtain ⟨p, hp, e⟩ := List.mem_map.mp hin
          refine List.mem_map.mpr ⟨p.1, hbp.mem_iff.mpr (List.mem_map.mpr ⟨p, hp, rfl⟩), ?_⟩
          rw [← eb]
          obtain ⟨p1, p2⟩ := inL p hp
          exact hinj _ (hf _ p1).1 _ (hf _ hb).1 (by rw [← p2]; exact e)
end
end K48
/-! enumerate over a list or a tuple. -/
namespace PySem
open Sem (wp)
open AutoSeq1 (wpAny_loadPart')
theorem k48_enumerate_newT (l : Addr) (items : Array Value) (n : Nat) (dct : Option Addr) (sl : Array (Option Value)) :
    Meets (Builtin.«enumerate.__new__» ⟨[.type "enumerate", .ref l], []⟩) (fun _ R s => s.heap.get? l = some { cls := .type "tuple", dict := dct, data := .seq items n, slots := sl } ∧
      R (.ok (.ret (.ref (s.heap.push { cls := .type "tuple_iterator", data := .fields #[.ref l, .int 0 0] }).objs.size)))
        { s with heap := (s.heap.push { cls := .type "tuple_iterator", data := .fields #[.ref l, .int 0 0] }).push { cls := .type "enumerate", data := .fields #[.none, .bool false, .ref s.heap.objs.size, rawInt 0, .none, .none] } }) :=
  .of_wp fun prog w A R s h => by
    obtain ⟨hp, g, d, tk, os⟩ := s; obtain ⟨hl, h⟩ := h
    have hsub := sub_enumerate
    have hL : Heap.IsTuple (Shared.heap ⟨hp, g, d, tk, os⟩) l items := ⟨_, hl, rfl, n, rfl⟩
    wp_walk using wpAny_loadPart' hl
    refine wpAny_stack_any fun st => wpAny_pure ?_
    split
    · rename_i c _ _ _ _ _
      cases (c == Value.type "enumerate")
      · wp_walk using wpAny_loadPart' hl, wpAny_pyIter_tuple hL
        exact ⟨_, rfl, h⟩
      · wp_walk using wpAny_loadPart' hl, wpAny_pyIter_tuple hL
        exact ⟨_, rfl, h⟩
    · wp_walk using wpAny_loadPart' hl, wpAny_pyIter_tuple hL
      exact ⟨_, rfl, h⟩
section
variable {prog : Program} {w : World} {A : Around} {E : Value → Shared → Prop} {s : Shared}
theorem k48_call_enumerate_tuple {l : Addr} {items : Array Value} {Q : Value → Shared → Prop} (hL : s.heap.IsTuple l items)
    (h : ∀ h', IsEnum h' (s.heap.objs.size + 1) s.heap.objs.size 0 .none → h'.IsTupleIter s.heap.objs.size l 0 → h'.objs.size = s.heap.objs.size + 2 →
      (∀ b o, s.heap.get? b = some o → h'.get? b = some o) → Q (.ref (s.heap.objs.size + 1)) { s with heap := h' }) :
    wpAny (model prog w) A (call (.type "enumerate") [.ref l]) Q E s := by
  obtain ⟨⟨c, dct, dt, sl⟩, hl, hc, n, hd⟩ := hL
  replace hc : c = .type "tuple" := hc
  replace hd : dt = .seq items n := hd
  subst hc hd
  refine callType_new F.called_enumerate (by decide) (F.typeCall_enumerate_1 _) (F.newCall_enumerate_1 _) (fun obj => F.args_object_init_2 obj _) F.entry_enumerate_new
    (k48_enumerate_newT l items n dct sl) ⟨hl, ?_⟩
  have hz : (s.heap.push { cls := .type "tuple_iterator", data := .fields #[.ref l, .int 0 0] }).objs.size = s.heap.objs.size + 1 := Heap.size_push ..
  show _ ∧ _
  rw [hz]
  have he : IsEnum ((s.heap.push { cls := .type "tuple_iterator", data := .fields #[.ref l, .int 0 0] }).push
      { cls := .type "enumerate", data := .fields #[.none, .bool false, .ref s.heap.objs.size, rawInt 0, .none, .none] }) (s.heap.objs.size + 1) s.heap.objs.size 0 .none := by
    have := Heap.get?_push_size (s.heap.push { cls := .type "tuple_iterator", data := .fields #[.ref l, .int 0 0] })
      (o := { cls := .type "enumerate", data := .fields #[.none, .bool false, .ref s.heap.objs.size, rawInt 0, .none, .none] }) rfl
    rw [hz] at this; exact this
  refine ⟨⟨_, he, rfl⟩, h _ he ⟨_, Heap.get?_push_of_some _ (Heap.get?_push_size _ rfl), rfl, rfl⟩ (by rw [Heap.size_push, hz]) fun b o x => Heap.get?_push_of_some _ (Heap.get?_push_of_some _ x)⟩
theorem k48_enumT_done {e it l : Addr} {i : Nat} {items : Array Value} {old : Value} {Q : Option Value → Shared → Prop} (hh : A.handled = none)
    (he : IsEnum s.heap e it i old) (hit : s.heap.IsTupleIter it l i) (hl : s.heap.IsTuple l items) (hx : items[i]? = none)
    (hQ : ∀ h', Heap.ExtBut it s.heap h' → Q none { s with heap := h' }) : wpAny (model prog w) A (pyNext (.ref e)) Q E s := by
  have hT : s.TypeIs (.ref e) "enumerate" := ⟨_, he, rfl⟩
  unfold pyNext
  refine wpAny_bind (wpAny_attempt (wpAny_callSpecial?_slot (name := Str.ofString "__next__") hT F.slot_enumerate_next
    (wpAny_call_entry F.slot_enumerate_next hT F.entry_enumerate_next ?_ (F.args_enumerate_next_1 _))))
  show wpAny _ _ (field (.ref e) 2 >>= _) _ _ _
  refine wpAny_bind (wpAny_field he rfl (x := .ref it) rfl ?_)
  refine wpAny_bind (wpAny_nextOf_tuple_end hh hit hl hx fun h' x he' hx' => ?_)
  obtain ⟨o, ho, hc⟩ := hx'
  refine wpAny_bind (wpAny_isInstance (T := "StopIteration") (b := true) ⟨o, ho, hc⟩ isSubtype_stop ?_)
  exact wpAny_pure (hQ _ he')
end
end PySem
namespace K48
open PySem PySem.Spec PyProof.Rows L2 Evl
/-- the tuple at a, each item in a new pair -/
def IteT (K : PySem.W.Frag) (a : Addr) : It :=
  ⟨fun i H => ∃ (xs : List V) (x : V), SqT K H a xs ∧ xs[i]? = some x, fun i H v H' => ∃ T x, v = .ref T ∧ H T = none ∧ H' = upd H T (.tup [.int (i : Nat), x]) ∧ ∀ xs, SqT K H a xs → xs[i]? = some x, fun i H => ∃ xs : List V, SqT K H a xs ∧ xs.length ≤ i⟩
theorem turn_enumT {P : Program} {w : World} {K : PySem.W.Frag} {elts : List Expr} {kk : Nat} {tpos : Pos} (a e it : Addr) :
    Turn P w K (.Tuple elts kk tpos) (IteT K a) [e, it] e (fun i h => (∃ old, IsEnum h e it ((i : Nat) : Int) old) ∧ h.IsTupleIter it a i ∧ e ≠ it ∧ a ≠ it ∧ a ≠ e) where
  mem := by simp
  obj := fun i h st b hb => by
    obtain ⟨⟨old, he⟩, ⟨o, ho, hc, hd⟩, _⟩ := st
    have e' : b = e ∨ b = it := by simpa using hb
    rcases e' with z | z
    · rw [z]; exact ⟨_, he, fun v q => nomatch q⟩
    · rw [z]; exact ⟨o, ho, fun v q => by rw [hd] at q; cases q⟩
  keep := fun i h h' st k => let ⟨⟨old, he⟩, hi, hne⟩ := st; ⟨⟨old, k e (by simp) _ he⟩, hi.at fun o q => k it (by simp) o q, hne⟩
  item := by
    intro X hP hw hK hc i pins s σ H E I hf st hg
    subst hP hw hK
    obtain ⟨⟨old, he⟩, hit, hne, hai, hae⟩ := st
    obtain ⟨xs, x, hq, hx⟩ := hg
    obtain ⟨its, rv, p, hz⟩ := I.tuple hq
    obtain ⟨u, hu, ru⟩ := rv.get hx
    have hel : e < s.heap.objs.size := Heap.lt_size he
    have hil : it < s.heap.objs.size := by obtain ⟨_, q, _⟩ := hit; exact Heap.lt_size q
    have hsz : i < its.toArray.size := by
      have := (List.getElem?_eq_some_iff.mp hu).1
      rw [List.size_toArray]
      exact this
    refine wpAny_pyNext_enum_itemC (Draws.tuple (A := X.A.in1) (I.ok.hd hc) it a hai its.toArray) he ⟨hit, p⟩ hsz hne (by simp [hne, Ne.symm hae]) fun x' h' tk hPx ho hst' hT hsz' hk => ?_
    have ex : x' = u := by
      have h1 : its.toArray[i]? = some u := by simpa using hu
      have hPx : its.toArray[i]? = some x' := hPx
      rw [h1] at hPx
      exact (Option.some.inj hPx).symm
    subst ex
    refine ⟨_, rfl, wpAny_letOwnedTupleGo_enum (s := { s with heap := h', toks := tk + 1 }) ho fun h'' he' sb => ?_⟩
    have hT2 : h''.get? s.heap.objs.size = some { cls := .type "tuple", data := .seq #[.int i tk, x'] } := (sb.2 _ (Nat.ne_of_gt hel)).trans hT
    have new : ObjOk X.prog X.w (upd H s.heap.objs.size (.tup [.int (i : Nat), x])) h'' s.heap.objs.size (.tup [.int (i : Nat), x]) :=
      ⟨by show 2 ≤ sizeLine; decide, [.int i tk, x'], .cons ⟨_, rfl⟩ (.cons ru .nil), ⟨_, hT2, rfl, _, rfl⟩⟩
    have I1 : Inv X pins σ (upd H s.heap.objs.size (.tup [.int (i : Nat), x])) { s with heap := h'', toks := tk + 1 } :=
      I.turnedNew (ch := [e, it]) (fun b ob hb q => (sb.2 b (fun z => hb (by simp [z]))).trans (hk b ob (fun z => hb (by simp [z])) (fun z => hb (by simp [z])) q)) hf (Nat.le_refl _) new
    refine ⟨.ref s.heap.objs.size, _, I1, rfl, ⟨_, x, rfl, I.hok.fresh (Nat.le_refl _), rfl, fun ys hy => by rw [I.tuple_inj hy hq]; exact hx⟩, ⟨⟨x', ?_⟩, hst'.1.at fun o q => (sb.2 it (Ne.symm hne)).trans q, hne, hai, hae⟩, fun b hb => ?_⟩
    · have e1 : ((i + 1 : Nat) : Int) = (i : Int) + 1 := by omega
      rw [e1]; exact he'
    · have hb' : b < s.heap.objs.size := by
        have e' : b = e ∨ b = it := by simpa using hb
        rcases e' with z | z
        · rw [z]; exact hel
        · rw [z]; exact hil
      rw [upd_ne (Nat.ne_of_lt hb')]
      exact (hf b hb).1
  done := by
    intro X hP hw hK hc i pins s σ H E I hf st hg
    subst hP hw hK
    obtain ⟨⟨old, he⟩, hit, hne, hai, hae⟩ := st
    obtain ⟨xs, hq, hx⟩ := hg
    obtain ⟨its, rv, p, hz⟩ := I.tuple hq
    obtain ⟨f0, f1, f2, f3, f4, f5⟩ := hf it (by simp)
    have hl := rv.length
    exact k48_enumT_done (I.ok.hd hc) he hit p (Array.getElem?_eq_none (by rw [List.size_toArray]; omega)) fun h' eb => ⟨rfl, I.turned (t' := s.toks) (fun b o hb q => eb b o hb q) f0 f1 f3 f4 f5⟩
  self := fun A i s Q E st h => let ⟨⟨_, he⟩, _⟩ := st; wpAny_pyIter_enum he h
/-- enumerate(list or tuple) -/
def iEnumX (K : PySem.W.Frag) (ta : TA) : TI := fun σ H R => ta σ H fun vs H1 => ∃ (a : Addr) (xs : List V), vs = [.ref a] ∧ ((SqL K H1 a xs ∧ R (Ite K a) H1) ∨ (SqT K H1 a xs ∧ R (IteT K a) H1))
theorem pi_enumX {X : Cx} {e : Expr} {ta : TA} {p pos tpos : Pos} {elts : List Expr} {kk : Nat} (hg : Gl X "enumerate") (hm : X.mg "enumerate" = none) (ha : PA X [e] ta) (hs : starEach [e] X.env = [(false, eval e X.env)] := by rfl) :
    PI X (.Tuple elts kk tpos) (.Call (.Name "enumerate" p) [e] [] pos) (iEnumX X.K ta) := by
  refine ⟨fun pins s σ H R I h => ?_⟩
  refine Call_ (ld_blt I hg hm boot_enumerate (PyProof.Rows.callWith_type1 (thn (ha.run pos pins s σ H _ I h) fun us s1 ⟨vs, H1, I1, r1, q1⟩ => ?_) hs rfl))
  obtain ⟨a, xs, ex, q1⟩ := q1
  subst ex
  cases r1 with
  | cons r rr =>
    cases rr
    cases r
    have foot : ∀ b ∈ [s1.heap.objs.size + 1, s1.heap.objs.size], s1.heap.objs.size ≤ b := fun b hb => by
      have e' : b = s1.heap.objs.size + 1 ∨ b = s1.heap.objs.size := by simpa using hb
      rcases e' with z | z
      · rw [z]; exact Nat.le_add_right _ _
      · rw [z]; exact Nat.le_refl _
    rcases q1 with ⟨hq, q⟩ | ⟨hq, q⟩
    · obtain ⟨its, rv, p', hz⟩ := I1.list hq
      refine call_enumerate_list p'.isList fun h' he hit hsz hk => wpAny_pyIter_enum he ?_
      have I2 : Inv X pins σ H1 { s1 with heap := h' } := I1.kept (t' := s1.toks) hk
      exact ⟨s1.heap.objs.size + 1, [s1.heap.objs.size + 1, s1.heap.objs.size], _, _, H1, rfl, I2, turn_enum a (s1.heap.objs.size + 1) s1.heap.objs.size, ⟨⟨.none, he⟩, hit, Nat.succ_ne_self _⟩, fun b hb => I1.fpOk (foot b hb) (I1.hok.fresh (foot b hb)), q⟩
    · obtain ⟨its, rv, p', hz⟩ := I1.tuple hq
      have hlt : a < s1.heap.objs.size := by
        obtain ⟨o, ho, _⟩ := p'
        exact Heap.lt_size ho
      refine k48_call_enumerate_tuple (show s1.heap.IsTuple a its.toArray from p') fun h' he hit hsz hk => wpAny_pyIter_enum he ?_
      have I2 : Inv X pins σ H1 { s1 with heap := h' } := I1.kept (t' := s1.toks) hk
      exact ⟨s1.heap.objs.size + 1, [s1.heap.objs.size + 1, s1.heap.objs.size], _, _, H1, rfl, I2, turn_enumT a (s1.heap.objs.size + 1) s1.heap.objs.size, ⟨⟨.none, he⟩, hit, Nat.succ_ne_self _, Nat.ne_of_lt hlt, Nat.ne_of_lt (Nat.lt_succ_of_lt hlt)⟩, fun b hb => I1.fpOk (foot b hb) (I1.hok.fresh (foot b hb)), q⟩
/-! ### by data -/
/-- a list or a tuple of these data -/
def SeqD (d : PyData) (ds : List PyData) : Prop := d = .list ds ∨ d = .tuple ds
section
variable {K : PySem.W.Frag} {σ : S} {H : Hp} {ta te : TE} {tt : TT} {tb : TS} {D : Ends} {d : PyData} {ds : List PyData}
theorem walk_enumL {a : Addr} {ds : List PyData} : Walk (Ite K a) ds.length (fun H => Rp H (.ref a) (.list ds)) (fun i H v H' => ∃ T x e, v = .ref T ∧ Ex H H' ∧ H' T = some (.tup [.int (i : Nat), x]) ∧ ds[i]? = some e ∧ Rp H' x e) := by
  refine ⟨fun i H hi q => ?_, fun H q => ?_, fun i H v H' hi q y => ?_⟩
  · obtain ⟨a', xs, e, hx, rs⟩ := q.lst_inv
    cases e
    have hl : i < xs.length := by rw [rs.len]; exact hi
    exact ⟨xs, xs[i], sq_of hx, by simp [hl]⟩
  · obtain ⟨a', xs, e, hx, rs⟩ := q.lst_inv
    cases e
    exact ⟨xs, sq_of hx, by rw [rs.len]; exact Nat.le_refl _⟩
  · obtain ⟨a', xs, e, hx, rs⟩ := q.lst_inv
    cases e
    obtain ⟨T, x, h1, h2, h3, h4⟩ := y
    obtain ⟨d, hd, rd⟩ := rs.getV (h4 xs (sq_of hx))
    have ex : Ex H H' := by rw [h3]; exact Ex.new h2
    exact ⟨T, x, d, h1, ex, by rw [h3]; exact upd_same, hd, rd.up ex⟩
theorem walk_enumT {a : Addr} {ds : List PyData} : Walk (IteT K a) ds.length (fun H => Rp H (.ref a) (.tuple ds)) (fun i H v H' => ∃ T x e, v = .ref T ∧ Ex H H' ∧ H' T = some (.tup [.int (i : Nat), x]) ∧ ds[i]? = some e ∧ Rp H' x e) := by
  refine ⟨fun i H hi q => ?_, fun H q => ?_, fun i H v H' hi q y => ?_⟩
  · obtain ⟨a', o, xs, e, hx, hn, rs⟩ := q.tup_inv
    cases e
    have hl : i < xs.length := by rw [rs.len]; exact hi
    exact ⟨xs, xs[i], st_tp hx, by simp [hl]⟩
  · obtain ⟨a', o, xs, e, hx, hn, rs⟩ := q.tup_inv
    cases e
    exact ⟨xs, st_tp hx, by rw [rs.len]; exact Nat.le_refl _⟩
  · obtain ⟨a', o, xs, e, hx, hn, rs⟩ := q.tup_inv
    cases e
    obtain ⟨T, x, h1, h2, h3, h4⟩ := y
    obtain ⟨d, hd, rd⟩ := rs.getV (h4 xs (st_tp hx))
    have ex : Ex H H' := by rw [h3]; exact Ex.new h2
    exact ⟨T, x, d, h1, ex, by rw [h3]; exact upd_same, hd, rd.up ex⟩
theorem sqT_tup {H : Hp} {a : Addr} {xs : List V} (h : H a = some (.tup xs)) : SqT K H a xs := .inl (.inl h)
/-- for i, x in enumerate(e) -/
theorem d_forE {i1 i2 : Nat} (h : EvD te σ H d) (hd : SeqD d ds) (k : ∀ v H1, Ex H H1 → Rp H1 v d → ∃ Pv : Nat → S → Hp → Prop, Pv 0 σ H1 ∧ (∀ i σ' H', Pv i σ' H' → Rp H' v d) ∧
    (∀ i x e σ' H1 H2, i < ds.length → ds[i]? = some e → Pv i σ' H1 → Ex H1 H2 → Rp H2 x e → tb { D with nx := Pv (i + 1), ct := Pv (i + 1), bk := D.nx } ((σ'.set i1 (some (.int (i : Nat)))).set i2 (some x)) H2) ∧ ∀ σ' H', Pv ds.length σ' H' → D.nx σ' H') :
    tFor (iEnumX K (tCons te tNil)) (gTup K 2 (gCons (gName i1) (gCons (gName i2) gNil))) tb D σ H := h H (Ex.refl H) _ fun v H1 e1 r1 => by
  obtain ⟨Pv, h0, hG, hs, hd'⟩ := k v H1 e1 r1
  have step : ∀ i x σ' H' H2, i < ds.length → Pv i σ' H' → (∃ T y e, x = .ref T ∧ Ex H' H2 ∧ H2 T = some (.tup [.int (i : Nat), y]) ∧ ds[i]? = some e ∧ Rp H2 y e) →
      gTup K 2 (gCons (gName i1) (gCons (gName i2) gNil)) x σ' H2 fun σ2 H2 => tb { D with nx := Pv (i + 1), ct := Pv (i + 1), bk := D.nx } σ2 H2 := fun i x σ' H' H2 hi p y => by
    obtain ⟨T, y, e, rfl, ex, hT, he, re⟩ := y
    exact ⟨T, _, rfl, sqT_tup hT, rfl, _, _, rfl, _, _, rfl, rfl, hs i y e σ' H' H2 hi he p ex re⟩
  rcases hd with rfl | rfl
  · obtain ⟨a, xs, rfl, hx, rs⟩ := id r1.lst_inv
    exact ⟨a, xs, rfl, .inl ⟨sq_of hx, for_it walk_enumL Pv h0 (fun i σ' H' _ q => hG i σ' H' q) step hd'⟩⟩
  · obtain ⟨a, o, xs, rfl, hx, hn, rs⟩ := id r1.tup_inv
    exact ⟨a, xs, rfl, .inr ⟨st_tp hx, for_it walk_enumT Pv h0 (fun i σ' H' _ q => hG i σ' H' q) step hd'⟩⟩
/-- [f(i, x) for i, x in enumerate(t) if p(i, x)], t a tuple -/
theorem evn_lcE {vs : List Nat} {i1 i2 : Nat} (p : Nat → PyData → Bool) (f : Nat → PyData → PyData) (h : EvD te σ H (.tuple ds)) (hz : ds.length ≤ 1000000) (hf : ∀ i d, ds[i]? = some d → p i d = true → tupD (f i d) = true)
    (hw : ∀ x y, wipe (((wipe σ vs).set i1 (some x)).set i2 (some y)) vs = wipe σ vs) {tt : TT} {tr : TE}
    (hs : ∀ (i : Nat) d v H1, ds[i]? = some d → Ex H H1 → Rp H1 v d → EvT tt (((wipe σ vs).set i1 (some (.int (i : Nat)))).set i2 (some v)) H1 (p i d) ∧ (p i d = true → EvD tr (((wipe σ vs).set i1 (some (.int (i : Nat)))).set i2 (some v)) H1 (f i d))) :
    EvN (tLc (iEnumX K (tCons te tNil)) (gTup K 2 (gCons (gName i1) (gCons (gName i2) gNil))) tt tr vs) σ H (((ds.zipIdx.filter fun q => p q.2 q.1).map fun q => f q.2 q.1)) := fun H0 e0 Q q => h H0 e0 _ fun v H1 e1 r1 => by
  obtain ⟨a, o, xs, rfl, hx, hn, rs⟩ := id r1.tup_inv
  refine ⟨a, xs, rfl, .inr ⟨st_tp hx, fun Dl hD => ?_⟩⟩
  have nx : Ex H1 (L2.upd H1 Dl (.lst [])) := Ex.new hD
  have zl : ds.zipIdx.length = ds.length := List.length_zipIdx
  refine lc_it walk_enumT (fun i H' => ∃ acc, H' Dl = some (.lst acc) ∧ Ex H1 H' ∧ Rps H' acc (((ds.zipIdx.take i).filter fun q => p q.2 q.1).map fun q => f q.2 q.1)) ⟨[], upd_same, nx, by rw [List.take_zero]; exact .nil⟩ (fun i H' _ ⟨_, _, e, _⟩ => r1.up e) (fun i x H' H2 hi ⟨acc, hd, e, r⟩ y => ?_) (fun H' ⟨acc, hd, e, r⟩ => ?_)
  · obtain ⟨T, y, d, rfl, ex, hT, he, re⟩ := y
    refine ⟨T, _, rfl, sqT_tup hT, rfl, _, _, rfl, _, _, rfl, rfl, hw _ _, ?_⟩
    obtain ⟨ht, hev⟩ := hs i d y H2 he (((e0.trans e1).trans e).trans ex) re
    have hzi : ds.zipIdx[i]? = some (d, i) := by rw [List.getElem?_zipIdx, he]; simp
    have htk : ds.zipIdx.take (i + 1) = ds.zipIdx.take i ++ [(d, i)] := by rw [List.take_add_one, hzi]; rfl
    have hall : tupDs (((ds.zipIdx.take i).filter fun q => p q.2 q.1).map fun q => f q.2 q.1) = true := by
      rw [tupDs_iff]
      intro z hz'
      obtain ⟨w, hw', rfl⟩ := List.mem_map.mp hz'
      obtain ⟨h1, h2⟩ := List.mem_filter.mp hw'
      obtain ⟨j, hj⟩ := List.getElem?_of_mem (List.mem_of_mem_take h1)
      rw [List.getElem?_zipIdx] at hj
      obtain ⟨u, hu, rfl⟩ := Option.map_eq_some_iff.mp hj
      exact hf (0 + j) u (by simpa using hu) h2
    have hlen : acc.length ≤ ds.length := by
      rw [r.len, List.length_map]
      refine Nat.le_trans (List.length_filter_le _ _) ?_
      rw [List.length_take]
      omega
    refine ht H2 (Ex.refl _) _ fun H3 e3 => ?_
    cases hp : p i d with
    | true =>
      refine hev hp H3 e3 _ fun y2 H4 e4 r4 => ?_
      have h4 : H4 Dl = some (.lst acc) := e4 _ _ (e3 _ _ (ex _ _ hd))
      refine ⟨acc, h4, by rw [sizeLine_eq]; omega, _, upd_same, Ex.mut (((e.trans ex).trans e3).trans e4) hD, ?_⟩
      have tk := Tk.upd (o := .lst (acc ++ [y2])) h4
      rw [htk, List.filter_append, List.map_append, List.filter_cons_of_pos (by exact hp)]
      refine Rps.append (Rps.tk tk _ hall (((r.up ex).up e3).up e4)) (.cons (Rp.tk tk _ (hf i d he hp) r4) .nil)
    | false =>
      refine ⟨acc, e3 _ _ (ex _ _ hd), (e.trans ex).trans e3, ?_⟩
      rw [htk, List.filter_append, List.filter_cons_of_neg (by rw [hp]; decide), List.filter_nil, List.append_nil]
      exact (r.up ex).up e3
  · rw [List.take_of_length_le (by rw [zl]; exact Nat.le_refl _)] at r
    exact q Dl acc H' (fresh_back e1 hD) (e1.trans e) hd r
end
end K48
/-! Own exceptions two classes below Exception, made by an __init__ that says super().__init__('..') and stores its argument. -/
namespace K48
open PySem PySem.Spec PyProof.Rows L2 Evl PySem.W PySem.Calls
abbrev exT : List Value := PySem.ESX.exTail
/-! ### self.f = v: the classes above are own ones, then Exception's -/
theorem mro2_has {K : Frag} {C PE : Addr} {cd : ClassData} (hcd : clsIn K C = some cd) (hm : cd.mro = .ref C :: .ref PE :: exT) {b : Value} (hb : (Value.ref C :: .ref PE :: exT).contains b = true) : mroIn K C b = some true := by
  unfold mroIn
  rw [hcd, Option.bind_some, hm, if_neg (show ¬ (List.isEmpty (Value.ref C :: .ref PE :: exT) = true) from Bool.false_ne_true), hb]
section
open Builtin Builtin.ObjectAttr
variable {prog : Program} {w : World} {A : Around} {E : Value → Shared → Prop} {R : Result → Shared → Prop} {hp : Heap} {g : Array GenState} {d : Drawn} {t : Nat} {os : OsState}
theorem osa2_new {K : Frag} {name : Str} {tk : Tok} {v : Value} {x C PE : Addr} {fv : Array Value} {cd : ClassData}
    (X : K.In hp) (hx : hp.get? x = some { cls := .ref C, data := .fields fv }) (hcd : clsIn K C = some cd) (hm : cd.mro = .ref C :: .ref PE :: exT) (hh : cd.hasDict = true) (ha : findIn K (.ref C) name = some none)
    (hq : ∀ h' tk' dx, (∀ b o, b ≠ x → hp.get? b = some o → h'.get? b = some o) → hp.objs.size ≤ dx → dx ≠ x → h'.get? x = some { cls := .ref C, dict := some dx, data := .fields fv } →
      h'.Ns1 dx (fun y => if y = name then some v else none) → R (.ok (.ret .none)) ⟨h', g, d, tk', os⟩) :
    codeAny (model prog w) A (.call (.builtin "object.__setattr__") ⟨[.ref x, .str name tk, v], []⟩) R ⟨hp, g, d, t, os⟩ := by
  have I : PySem.W.InstAt hp x { cls := .ref C, data := .fields fv } C none := ⟨hx, rfl, rfl, trivial⟩
  have hxs : x ≠ hp.objs.size := Nat.ne_of_lt (Heap.lt_size hx)
  have SF := F.store_object
  have sub : Looks (model prog w) hp (isInstance (.ref x) (.type "object")) true := I.type.andThen (looks_mroIn X (mro2_has hcd hm (by
    rw [List.contains_cons, List.contains_cons]
    have : exT.contains (.type "object") = true := by decide +kernel
    rw [this, Bool.or_true, Bool.or_true])))
  refine codeAny_call_builtin SF.slot.plain SF.entry (@check_slot (model prog w) _ _ ⟨hp, g, d, t, os⟩ "object.__setattr__" "object" "__setattr__" (.ref x) [.str name tk, v] [] _ SF.kind SF.split sub (SF.args (.ref x) (.str name tk) v) ?_)
  have hmr : Looks (model prog w) hp (mroOf (.ref C)) cd.mro := (looks_clsIn X hcd).andThen .now
  have L3 : Looks (model prog w) hp (storeTaker? none) none := .now
  have hpass : refuseLoop (.ref x) "__setattr__" cd.mro = pure () := by
    rw [hm, refuseLoop_ref, refuseLoop_ref]
    exact F.store_Exception.passes _
  rw [osa_eq, refuse_eq]
  refine wpAny_bind (wpAny_bind (I.type.at (wpAny_bind (hmr.at ?_))))
  rw [hpass]
  refine wpAny_pure (wpAny_bind (I.type.at (wpAny_bind ((looks_findIn X ha).at (wpAny_bind (L3.at ?_))))))
  show wpAny _ _ (storeInOwnDict (.ref x) (.ref C) (.str name tk) name v false) _ _ _
  have hcls : Looks (model prog w) hp (classData C) cd := looks_clsIn X hcd
  obtain ⟨nm, bs, mro, ns, qn, hd, sn, sb, ab, col, del⟩ := cd
  dsimp only at hh
  subst hh
  unfold storeInOwnDict ownDictForStores
  repeat (first | with_reducible refine HandSPX.store_in_new ?_ ?_ | with_reducible refine wpAny_loadPart_at hx ?_ | with_reducible refine hcls.at ?_ | wp_step)
  · exact ⟨_, #[], _, (Heap.get?_update_ne _ _ _ _ hxs.symm).trans (Heap.get?_push_at rfl rfl), rfl, fun e he => absurd he (by simp), fun _ => rfl⟩
  · intro h' tk' hn' hs
    have hx₁ : (hp.push { cls := .type "dict", data := .dict #[] }).get? x = some { cls := .ref C, data := .fields fv } := Heap.get?_push_of_some _ hx
    refine hq h' tk' hp.objs.size (fun b o hb ho => ?_) (Nat.le_refl _) hxs.symm ?_ hn'
    · exact (hs.2 b (Nat.ne_of_lt (Heap.lt_size ho))).trans ((Heap.get?_update_ne _ _ _ _ hb).trans (Heap.get?_push_of_some _ ho))
    · exact (hs.2 x hxs).trans (Heap.get?_update_self _ hx₁ rfl)
end
/-! ### the class -/
/-- how the text's super().__init__('..') runs: its parts stand on one line -/
def EvSuper (msg : Str) (p0 p1 p2 p3 p4 : Pos) (j : Nat) : Prop := ∀ env : Env, ∃ pl, eval (.Call (.Attribute (.Call (.Name "super" p0) [] [] p1) "__init__" p2) [.Constant (.str msg) j p3] [] p4) env = (do
      let ov ← attributeBase (.Call (.Name "super" p0) [] [] p1) "__init__" env (eval (.Call (.Name "super" p0) [] [] p1) env)
      standAt p2.atName
      let (f, first) ← holding [ov] (getMethod ov "__init__" pl)
      callWith p4 f first (backTo p4 (starEach [.Constant (.str msg) j p3] env)) [])
/-- what the written part says of such a class -/
structure ExT (P : Program) (K : Frag) (mg : Str → Option Value) (x : Str) (C : Addr) (par : Str) : Prop where
  gC : mg x = some (.ref C)
  ex : ∃ (fI PE cc cda : Addr) (msg : Str) (qual : Str) (scope : Scope) (params : Arguments) (p0 p1 p2 p3 p4 p5 p6 p7 p8 p9 : Pos) (j : Nat) (nm q : Str) (N : Addr) (bs : List Value) (sn : List Str) (sub : List Value) (ab : Bool) (col : Option Bool) (dd : Option Addr) (k0 k1 k2 k3 k5 : Option Value)
    (kV doc pm ct oc : Value) (an od : Option Addr) (osl : Array (Option Value)) (ccl cl : Value) (cdd cld : Option Addr) (ccs csl : Array (Option Value)) (vs : Array Value) (file : Str) (tf : Tok),
    EvSuper msg p0 p1 p2 p3 p4 j ∧ K.lookup C = some (excClassObj nm q C N bs (.ref PE :: exT) true sn sub ab col dd k0 k1 k2 k3 k5 "Exception.__new__") ∧
    findIn K (.ref C) "__setattr__" = some (some (.builtin "object.__setattr__")) ∧ findIn K (.ref C) par = some none ∧ findIn K (.ref C) "__init__" = some (some (.ref fI)) ∧ typeIn K (.ref fI) = some (.type "function") ∧
    K.lookup fI = some ⟨oc, od, .func (ksFn "__init__" qual params [.Expr (.Call (.Attribute (.Call (.Name "super" p0) [] [] p1) "__init__" p2) [.Constant (.str msg) j p3] [] p4) p5, .Assign [.Attribute (.Name "self" p6) par p7] (.Name par p8) p9] scope .none kV doc pm an (.ref cda) ct cc), osl⟩ ∧
    codeIn K (.ref cda) qual = true ∧ K.lookup cda = some ⟨ccl, cdd, .fields vs, ccs⟩ ∧ vs[2]? = some (.str file tf) ∧ ((P.main.file : Str) == file) = true ∧
    K.lookup cc = some ⟨cl, cld, .cell (some (.ref C)), csl⟩ ∧ alongIn K "__init__" (.ref PE :: exT) = some (some (.builtin "Exception.__init__")) ∧ nsIn K cStatics "thirdparty.any" = some none ∧
    scope.names.lookup ("super" : Str) = some .globalImplicit ∧ scope.names.lookup ("__class__" : Str) = some .free ∧ scope.names.lookup ("self" : Str) = some .local ∧ scope.names.lookup par = some .local ∧ scope.kind = .function ∧ (∀ y ∈ scope.names, y.2 ≠ .cell) ∧ scope.isCoroutine = false ∧ scope.isGenerator = false ∧
    (params.posonlyargs ++ params.args).head?.map (·.arg) = some "self" ∧ (∀ (kV doc pm ct : Value) (an : Option Addr) (e : Addr) (u : Value), bindArgs (ksFn "__init__" qual params [.Expr (.Call (.Attribute (.Call (.Name "super" p0) [] [] p1) "__init__" p2) [.Constant (.str msg) j p3] [] p4) p5, .Assign [.Attribute (.Name "self" p6) par p7] (.Name par p8) p9] scope .none kV doc pm an (.ref cda) ct cc) ⟨[.ref e, u], []⟩ = pure [(("self" : Str), .ref e), (par, u)])
  par : par ≠ "self" ∧ (par == ("__debug__" : Str)) = false
  top : (P.main.scope.names.lookup ("super" : Str)).isSome = false
  su : mg "super" = none
  exC : subIn K (.ref C) (.type "BaseException") = some true
  exE : subIn K (.ref C) (.type "Exception") = some true
  exS : mroIn K C (.ref C) = some true
  tyC : typeIn K (.ref C) = some (.type "type")
  kC : keepIn K (.ref C) = true
section
variable {P : Program} {w : World} {K : Frag} {mg : Str → Option Value} {base : Heap} {x par : Str} {C : Addr}
/-- C(u), over the heap -/
theorem ex_raw (T : ExT P K mg x C par) {A : Around} {E : Value → Shared → Prop} {s : Shared} {Q : Value → Shared → Prop} {u : Value} (KX : K.In s.heap) (lim : s.heap.NoLimit) (glob : s.heap.Ns mainGlobals mg) (blt : ∃ mb, s.heap.Ns builtinsNs mb ∧ ∀ y : Str, y ≠ "__name__" → mb y = bootBuiltins y) (hroom : A.depth + 4 < recursionLimit)
    (hq : ∀ h' tk e dx t1, (∀ b o, s.heap.get? b = some o → h'.get? b = some o) → s.heap.objs.size ≤ e → s.heap.objs.size ≤ dx → dx ≠ e →
      h'.get? e = some { cls := .ref C, dict := some dx, data := .fields #[.ref t1, .none, .none, .none, .bool false, .none] } → h'.Ns1 dx (fun y => if y = par then some u else none) → Q (.ref e) { s with heap := h', toks := tk }) :
    wpAny (model P w) A (call (.ref C) [u]) Q E s := by
  obtain ⟨fI, PE, cc, cda, msg, qual, scope, params, p0, p1, p2, p3, p4, p5, p6, p7, p8, p9, j, nm, q, N, bs, sn, sub, ab, col, dd, k0, k1, k2, k3, k5, kV, doc, pm, ct, oc, an, od, osl, ccl, cl, cdd, cld, ccs, csl, vs, file, tf, hevs, hC, sa, nof, iC, tI, lf, hcd, lcda, hvs, hfile, lcc, hal, hno, n1, n2, n3, n4, n5, n6, n7, n8, hpar, hbind⟩ := T.ex
  obtain ⟨hp, g, dr, tk, os⟩ := s
  have hT : ∀ X : String, (Value.ref PE :: exT).contains (.type X) = ([.type "Exception", .type "BaseException", .type "object"] : List Value).contains (.type X) := fun X => by
    rw [List.contains_cons]
    have : ((Value.type X) == Value.ref PE) = false := rfl
    rw [this, Bool.false_or]
  refine wpAny_call (HandSPX.call_own F.excBase_Exception hT (KX _ _ hC) (looks_findIn KX iC) (fun self => bind_fn KX self tI) (by show 1 ≤ sizeLine; decide) ?_)
  -- the new exception
  have k1' : ∀ b o, hp.get? b = some o → ((hp.push (kdv_tup [u])).push (HandSPX.excO C hp.objs.size)).get? b = some o := fun b o e => Heap.get?_push_of_some _ (Heap.get?_push_of_some _ e)
  have he1 : ((hp.push (kdv_tup [u])).push (HandSPX.excO C hp.objs.size)).get? (hp.objs.size + 1) = some (HandSPX.excO C hp.objs.size) := by heap_get
  generalize hh1 : (hp.push (kdv_tup [u])).push (HandSPX.excO C hp.objs.size) = h1 at k1' he1 ⊢
  have X1 : K.In h1 := KX.keeps k1'
  have e1s : hp.objs.size + 1 < h1.objs.size := Heap.lt_size he1
  refine ks_codeAny_call_defAt (fd := ksFn "__init__" qual params _ scope .none kV doc pm an (.ref cda) ct cc) (binds := [(("self" : Str), .ref (hp.objs.size + 1)), (par, u)]) ?_ (X1 _ _ lf) rfl (lim.keeps k1') (codeRec_of X1 hcd) rfl (.of_eq (hbind _ _ _ _ _ _ _)) n6 (fun y hy => ?_) (fun h2 hns hk2 => ?_) n7 n8 n5
  · rw [make_depth]
    omega
  · rcases List.mem_cons.mp hy with rfl | hy
    · exact n3
    · rw [List.mem_singleton.mp hy]
      exact n4
  · -- the body
    generalize hA : Around.deeper _ _ = A2
    have X2 : K.In h2 := X1.keeps hk2
    have he2 : h2.get? (hp.objs.size + 1) = some (HandSPX.excO C hp.objs.size) := hk2 _ _ he1
    have eC : hp.objs.size + 1 ≠ C := fun e => by
      have hlt : C < hp.objs.size := Heap.lt_size (KX _ _ hC)
      rw [← e] at hlt
      exact absurd hlt (Nat.not_lt.mpr (Nat.le_succ _))
    have g2 : h2.Ns mainGlobals mg := (glob.keeps k1').keeps hk2
    obtain ⟨mb, b1, b2⟩ := blt
    have b2' : h2.Ns builtinsNs mb := (b1.keeps k1').keeps hk2
    have hcl : clsIn K C = some { name := nm, bases := bs, mro := .ref C :: .ref PE :: exT, ns := N, qualname := q, hasDict := true, slotNames := sn, subclasses := sub, abstract := ab, collection := col, hasDel := false } := by unfold clsIn; rw [hC] <;> rfl
    obtain ⟨ar, har, harn⟩ := Option.map_eq_some_iff.mp hpar
    have vself : (fun y : Str => ([(("self" : Str), Value.ref (hp.objs.size + 1)), (par, u)] : List (Str × Value)).reverse.lookup y) "self" = some (.ref (hp.objs.size + 1)) := by
      show ([(par, u), (("self" : Str), Value.ref (hp.objs.size + 1))] : List (Str × Value)).lookup ("self" : Str) = _
      rw [List.lookup_cons, show (("self" : Str) == par) = false from beq_eq_false_iff_ne.mpr (Ne.symm T.par.1)]
      rfl
    have vpar : (fun y : Str => ([(("self" : Str), Value.ref (hp.objs.size + 1)), (par, u)] : List (Str × Value)).reverse.lookup y) par = some u := by
      show ([(par, u), (("self" : Str), Value.ref (hp.objs.size + 1))] : List (Str × Value)).lookup par = _
      rw [List.lookup_cons_self]
    have hint : interactive (callEnv (ksFn "__init__" qual params [.Expr (.Call (.Attribute (.Call (.Name "super" p0) [] [] p1) "__init__" p2) [.Constant (.str msg) j p3] [] p4) p5, .Assign [.Attribute (.Name "self" p6) par p7] (.Name par p8) p9] scope .none kV doc pm an (.ref cda) ct cc) h1.objs.size fI) = false := by
      show (scope.kind == .module && _) = false
      rw [n5]
      rfl
    have hev := hevs (callEnv (ksFn "__init__" qual params [.Expr (.Call (.Attribute (.Call (.Name "super" p0) [] [] p1) "__init__" p2) [.Constant (.str msg) j p3] [] p4) p5, .Assign [.Attribute (.Name "self" p6) par p7] (.Name par p8) p9] scope .none kV doc pm an (.ref cda) ct cc) h1.objs.size fI)
    obtain ⟨pl, hev⟩ := hev
    refine ks_wpAt_execs_cons (ks_wpAt_Expr_any (ks_wpAt_MethodCall (pl := pl) (ks_wpAt_super_base n1 n2 (by decide) rfl (X2 _ _ lf) rfl har rfl (X2 _ _ lcda) rfl hvs hfile T.top ?_) hev) hint)
    refine ks_loadName_global n5 n1 (loadGlobal_builtin g2 T.su b2' ((b2 _ (by decide)).trans (by decide +kernel)) ⟨rfl, ?_⟩)
    refine wpAny_loadName_free n5 n2 rfl ⟨_, X2 _ _ lcc, rfl⟩ ?_
    refine wpAny_loadName_local n5 (by rw [harn]; exact n3) hns (by rw [harn]; exact vself) ?_
    refine ks_wpAny_isType_cls (X2 _ _ hC) rfl ⟨rfl, ?_⟩
    refine ks_wpAny_call_super (X2 _ _ hC) rfl he2 rfl (fun c e => nomatch e) (looks_mroIn X2 T.exS) (fun h3 hso k3 => ?_)
    have X3 : K.In h3 := X2.keeps k3
    have he3 := k3 _ _ he2
    have hin : Looks (model P w) h3 (isInstance (.ref (hp.objs.size + 1)) (.type "Exception")) true := (show PySem.W.InstAt h3 (hp.objs.size + 1) (HandSPX.excO C hp.objs.size) C none from ⟨he3, rfl, rfl, trivial⟩).type.andThen (looks_subIn X3 T.exE)
    have hmro : Looks (model P w) h3 (mroOf (.ref C)) (.ref C :: .ref PE :: exT) := (looks_clsIn X3 hcl).andThen .now
    refine PySem.ESX.getMethod_super hso (looks_opaque X3 hno) hmro (PySem.ESX.drop_own C _) X3 hal eC (by decide) hin ?_
    have k4 : ∀ b o, h3.get? b = some o → (h3.push (PySem.ESX.bw (hp.objs.size + 1))).get? b = some o := fun b o e => Heap.get?_push_of_some _ e
    have hb4 : (h3.push (PySem.ESX.bw (hp.objs.size + 1))).get? h3.objs.size = some (PySem.ESX.bw (hp.objs.size + 1)) := Heap.get?_push_size _ rfl
    generalize h3.push (PySem.ESX.bw (hp.objs.size + 1)) = h4 at k4 hb4 ⊢
    have X4 : K.In h4 := X3.keeps k4
    refine PySem.ESX.callWith_bound (x := hp.objs.size + 1) ?_
    have tr : ∀ env : Env, backTo p4 (starEach [Expr.Constant (Const.str msg) j p3] env) = [(false, eval (Expr.Constant (Const.str msg) j p3) env)] := fun _ => rfl
    rw [tr]
    refine spliced_cons (Constant_str (spliced_nil ⟨hb4, ?_⟩))
    refine PySem.ESX.call_bw (X4 _ _ hC) (k4 _ _ he3) hb4 (by show 1 ≤ sizeLine; decide) fun h5 t5 k5 he5 => ?_
    have ne1 : ∀ b o, h1.get? b = some o → b ≠ hp.objs.size + 1 → h5.get? b = some o := fun b o e hb => k5 b o hb (k4 _ _ (k3 _ _ (hk2 _ _ e)))
    have old : ∀ b o, hp.get? b = some o → h5.get? b = some o := fun b o e => ne1 b o (k1' b o e) (fun z => by
      have hlt : b < hp.objs.size := Heap.lt_size e
      rw [z] at hlt
      exact absurd hlt (Nat.not_lt.mpr (Nat.le_succ _)))
    have X5 : K.In h5 := KX.keeps old
    have loc5 : h5.Ns h1.objs.size (fun y : Str => ([(("self" : Str), Value.ref (hp.objs.size + 1)), (par, u)] : List (Str × Value)).reverse.lookup y) := by
      refine hns.at fun o e => k5 _ _ (Nat.ne_of_gt e1s) (k4 _ _ (k3 _ _ e))
    refine ks_wpAt_execs_cons (ks_wpAt_Assign_Attr (wpAt_of_wpAny (PySem.ESX.ldL loc5 vpar (PySem.ESX.ldL loc5 vself ?_ n5 n3 (by decide)) n5 n4 T.par.2)))
    refine set_plain X5 (ox := { cls := .ref C, dict := none, data := .fields #[.ref t5, .none, .none, .none, .bool false, .none] }) (od := none) ⟨he5, rfl, rfl, trivial⟩ sa ?_
    refine osa2_new X5 he5 hcl rfl rfl nof fun h6 tk6 dx k6 dlo dne he6 hn6 => ?_
    refine wpAt_of_wpAny (wpAny_execs_nil ?_)
    have sz : hp.objs.size ≤ h5.objs.size := by
      refine Nat.le_trans ?_ (Nat.le_of_lt (Heap.lt_size he5))
      exact Nat.le_succ _
    exact ⟨rfl, hq h6 tk6 (hp.objs.size + 1) dx t5 (fun b o e => k6 b o (fun z => by
      have hlt : b < hp.objs.size := Heap.lt_size e
      rw [z] at hlt
      exact absurd hlt (Nat.not_lt.mpr (Nat.le_succ _))) (old b o e)) (Nat.le_succ _) (Nat.le_trans sz dlo) dne he6 hn6⟩
end
end K48
/-! raise C(e) of such a class, as a rule of the layer; except C as e. -/
namespace K48
open PySem PySem.Spec PyProof.Rows L2 Evl
/-- C(e) -/
def tMkE (C : Addr) (par : Str) (te : TE) : L2.St → Hp → XK → Prop := fun σ H Q => te σ H fun v H1 => ∀ d, H1 d = none → Q (.ref C) (some d) (upd H1 d (.xd [(par, v)]))
section
variable {X : Cx} {x par : Str} {C : Addr} {e : Expr} {te : TE} {p pos : Pos}
theorem pmk_ex {j : Nat} (T : ExT X.prog X.K X.mg x C par) (hr : Room j X.A) (hg : Gl X x) (ha : PE X e te) (hdb : (x == ("__debug__" : Str)) = false := by decide) (hs : starEach [e] X.env = (false, eval e X.env) :: starEach [] X.env := by rfl)
    (hpl : (backTo pos (starEach [] X.env)).any (·.1) = false := by rfl) : PMk X (.Call (.Name x p) [e] [] pos) (tMkE C par te) := by
  intro pins s σ H Q I h
  refine wpAny_Call_Name_kw (ld_glob I hg T.gC ?_ hdb)
  have hA := (pa_cons ha pa_nil hs).run pos pins s σ H (fun vs H1 => match vs with
    | [v] => ∀ d, H1 d = none → Q (.ref C) (some d) (upd H1 d (.xd [(par, v)]))
    | _ => False) I h
  refine PySem.W.callWith_K (h₀ := X.base) I.ok.mod.kin T.kC (thn hA fun us s1 ⟨vs, H1, I1, r1, q1⟩ => ⟨I1.kIn, ?_⟩) hs hpl
  match vs, r1, q1 with
  | [], _, q1 => exact q1.elim
  | _ :: _ :: _, _, q1 => exact q1.elim
  | [v], r1, q1 =>
  obtain ⟨u, rfl, ru⟩ := vals1 r1
  show wpAny _ _ (call (.ref C) [u]) _ _ _
  obtain ⟨mb, b1, b2⟩ := I1.mod.blt
  have hdp := hr.dp
  refine ex_raw T I1.kIn (I1.mod.nolimit.keeps I1.bk) (I1.mod.glob.keeps I1.bk) ⟨mb, b1.keeps I1.bk, b2⟩ (by omega) fun h' tk ex dx t1 k hex hdx hne he hn => ?_
  obtain ⟨G, g1, g2⟩ := restrict h' fun b => decide (b ≠ ex)
  have gk : ∀ b, b ≠ ex → G.get? b = h'.get? b := fun b hb => g1 b (decide_eq_true hb)
  have ge : G.get? ex = none := g2 ex (by simp)
  have kG : ∀ b o, s1.heap.get? b = some o → G.get? b = some o := fun b o e => by
    rw [gk b (Nat.ne_of_lt (Nat.lt_of_lt_of_le (Heap.lt_size e) hex))]
    exact k b o e
  have nd : H1 dx = none := I1.hok.fresh hdx
  have nx : H1 ex = none := I1.hok.fresh hex
  have new : ObjOk X.prog X.w (upd H1 dx (.xd [(par, v)])) G dx (.xd [(par, v)]) := by
    refine ⟨fun y => if y = par then some u else none, hn.at fun o e => (gk dx hne).trans e, fun f => ?_⟩
    have := relO_put (f := par) (fs := []) (mA := fun _ => none) ru (fun _ => True.intro) f
    exact this
  have J : Inv X pins σ (upd H1 dx (.xd [(par, v)])) { s1 with heap := G, toks := tk } := I1.laid (t' := tk) (a := dx) kG hdx new
  refine ⟨ex, _, _, { s1 with heap := G, toks := tk }, _, .ref C, some dx, rfl, J, fun b o e => ?_, ge, he, ⟨rfl, rfl⟩, rfl, rfl, ?_, rfl, I1.bare, raises_own T.exC T.tyC, q1 dx nd⟩
  · by_cases hb : b = ex
    · rw [hb, ge] at e
      cases e
    · rw [← gk b hb]
      exact e
  · rw [upd_ne (Ne.symm hne)]
    exact nx
end
/-! ### what a def raises -/
/-- an exception of the class C with the value d in its field -/
def Rsd (E : XK) (C : Addr) (par : Str) (d : PyData) (H : Hp) : Prop := ∀ dx v H1, Ex H H1 → H1 dx = some (.xd [(par, v)]) → Rp H1 v d → E (.ref C) (some dx) H1
theorem Rsd.mono {E : XK} {C : Addr} {par : Str} {d : PyData} {H H' : Hp} (r : Rsd E C par d H) (x : Ex H H') : Rsd E C par d H' := fun dx v H1 e h q => r dx v H1 (x.trans e) h q
theorem d_raise {C : Addr} {par : Str} {te : TE} {σ : S} {H : Hp} {d : PyData} {E : XK} (h : EvD te σ H d) (r : Rsd E C par d H) : tMkE C par te σ H fun cls dd H' => E cls dd H' :=
  h H (Ex.refl H) _ fun v H1 e1 r1 dx hd => r dx v _ (e1.trans (Ex.new hd)) upd_same (r1.up (Ex.new hd))
end K48
/-! Promises with properties; is_control. -/
namespace K48
open PySem L2 Evl K48M
/-- a promise: a new list of data of which a property is true -/
def spM (R : List PyData → (List PyData → Prop) → Prop) : Sp := fun vs H Q _ => ∃ ds Post, Rps H vs ds ∧ R ds Post ∧ ∀ p xs es H', H p = none → Ex H H' → H' p = some (.lst xs) → Rps H' xs es → Post es → Q (.ref p) H'
/-- .. data of which a property is true -/
def spE (R : List PyData → (PyData → Prop) → Prop) : Sp := fun vs H Q _ => ∃ ds Post, Rps H vs ds ∧ R ds Post ∧ ∀ v d H', Ex H H' → Rp H' v d → Post d → Q v H'
/-- what evaluates to data of which a property is true -/
def EvE (te : TE) (σ : S) (H : Hp) (R : PyData → Prop) : Prop := ∀ H1, Ex H H1 → ∀ Q : VK, (∀ v d H2, Ex H1 H2 → Rp H2 v d → R d → Q v H2) → te σ H1 Q
section
variable {K : PySem.W.Frag} {σ : S} {H H' : Hp} {ta tb tc te : TE} {tA : TA} {d e : PyData} {ds es : List PyData} {D : Ends} {g : TG}
theorem spM_len {R : List PyData → (List PyData → Prop) → Prop} {n : Nat} {vs : List V} {H : Hp} {Q : VK} {E : XK} (h : spM R vs H Q E) (hR : ∀ ds d, R ds d → ds.length = n) : vs.length = n := by
  obtain ⟨ds, d, r, hr, _⟩ := h
  rw [r.len]
  exact hR ds d hr
theorem spE_len {R : List PyData → (PyData → Prop) → Prop} {n : Nat} {vs : List V} {H : Hp} {Q : VK} {E : XK} (h : spE R vs H Q E) (hR : ∀ ds d, R ds d → ds.length = n) : vs.length = n := by
  obtain ⟨ds, d, r, hr, _⟩ := h
  rw [r.len]
  exact hR ds d hr
theorem evm_call {R : List PyData → (List PyData → Prop) → Prop} {Post : List PyData → Prop} {E : XK} (h : EvDs tA σ H ds) (hR : R ds Post) : EvM (tCall (spM R) [] E tA) σ H Post := fun H1 a Q q => h H1 a _ fun vs H2 e2 r2 => by
  show spM R (vs ++ []) H2 Q E
  rw [List.append_nil]
  exact ⟨ds, Post, r2, hR, fun p xs es H3 hp e3 h3 r3 po => q p xs es H3 (fresh_back e2 hp) (e2.trans e3) h3 r3 po⟩
theorem eve_call {R : List PyData → (PyData → Prop) → Prop} {Post : PyData → Prop} {E : XK} (h : EvDs tA σ H ds) (hR : R ds Post) : EvE (tCall (spE R) [] E tA) σ H Post := fun H1 a Q q => h H1 a _ fun vs H2 e2 r2 => by
  show spE R (vs ++ []) H2 Q E
  rw [List.append_nil]
  exact ⟨ds, Post, r2, hR, fun v d H3 e3 r3 po => q v d H3 (e2.trans e3) r3 po⟩
theorem d_asgM {i : Nat} {R : List PyData → Prop} (h : EvM te σ H R) (k : ∀ p xs es H1, H p = none → Ex H H1 → H1 p = some (.lst xs) → Rps H1 xs es → R es → D.nx (σ.set i (some (.ref p))) H1) : tAsg te (gName i) D σ H := h H (Ex.refl H) _ k
theorem d_asgE {i : Nat} {R : PyData → Prop} (h : EvE te σ H R) (k : ∀ v d H1, Ex H H1 → Rp H1 v d → R d → D.nx (σ.set i (some v)) H1) : tAsg te (gName i) D σ H := h H (Ex.refl H) _ k
theorem EvM.mono (x : Ex H H') {R : List PyData → Prop} (h : EvM te σ H R) : EvM te σ H' R := fun H1 a Q q => h H1 (x.trans a) Q q
theorem EvE.mono (x : Ex H H') {R : PyData → Prop} (h : EvE te σ H R) : EvE te σ H' R := fun H1 a Q q => h H1 (x.trans a) Q q
/-- a <= b <= c -/
theorem evd_le2 {i j k : Int} (ha : EvD ta σ H (.int i)) (hb : EvD tb σ H (.int j)) (hc : EvD tc σ H (.int k)) : EvD (tChain rLeI rLeI ta tb tc) σ H (.bool (decide (i ≤ j) && decide (j ≤ k))) := fun H1 a Q q =>
  ha H1 a _ fun x H2 e2 rx => hb H2 (a.trans e2) _ fun y H3 e3 ry => by
    rw [rx.int_inv, ry.int_inv]
    refine ⟨i, j, rfl, rfl, decide (i ≤ j), rfl, ?_⟩
    by_cases h : i ≤ j
    · rw [if_pos (decide_eq_true h)]
      refine hc H3 ((a.trans e2).trans e3) _ fun z H4 e4 rz => ?_
      rw [rz.int_inv]
      refine ⟨j, k, rfl, rfl, ?_⟩
      rw [decide_eq_true h, Bool.true_and] at q
      exact q _ H4 ((e2.trans e3).trans e4) (.bl _)
    · rw [if_neg (by rw [decide_eq_false h]; decide)]
      rw [decide_eq_false h, Bool.false_and] at q
      exact q _ H3 (e2.trans e3) (.bl _)
/-- all(list of bools) -/
theorem evd_all {bs : List Bool} (ha : EvD ta σ H (.list (bs.map .bool))) : EvD (tCB (rAll K) (tCons ta tNil)) σ H (.bool (bs.all id)) := fun H1 a Q q => ha H1 a _ fun v H2 e2 r2 => by
  obtain ⟨l, xs, rfl, hl, rs⟩ := r2.lst_inv
  have key : ∀ {vs : List V} {bs : List Bool}, Rps H2 vs (bs.map .bool) → vs = bs.map V.bl := by
    intro vs bs
    induction bs generalizing vs with
    | nil =>
      intro r
      cases r
      rfl
    | cons b bs ih =>
      intro r
      cases r with
      | cons r1 r2 => rw [r1.bool_inv, ih r2]; rfl
  have ex := key rs
  subst ex
  exact ⟨l, bs, rfl, sq_of hl, q _ H2 e2 (.bl _)⟩
end
/-! ### is_control -/
def belowAll (C : Int) (hs : List PyData) : Bool := hs.all (isBelowD C)
/-- a right control -/
def ctlOk1 (L C : Int) : PyData → PyData → PyData → Bool
  | .tuple hs, l, n => decide ((hs.length : Int) = L) && belowAll C hs && (isBelowD L l && isBelowD C n)
  | _, _, _ => false
def ctlOk2 (L C : Int) : List PyData → Bool
  | [y, l, n] => ctlOk1 L C y l n
  | _ => false
def ctlOk (L C : Int) : PyData → Bool
  | .tuple xs => ctlOk2 L C xs
  | _ => false
def len3F : PyData → Bool
  | .tuple xs => decide (xs.length = 3)
  | _ => true
def hdD : PyData → PyData
  | .tuple (y :: _) => y
  | _ => .none
def lenF (L : Int) : PyData → Bool
  | .tuple hs => decide ((hs.length : Int) = L)
  | _ => true
section
variable {P : Program} {w : World} {K : PySem.W.Frag} {mg : Str → Option Value} {base : Heap}
def RisCtl (ds : List PyData) (d : PyData) : Prop := ∃ x L C, ds = [x, .int L, .int C] ∧ (∀ xs, x = .tuple xs → xs.length ≤ 1000000 ∧ ∀ hs r, xs = .tuple hs :: r → hs.length ≤ 1000000) ∧ d = .bool (ctlOk L C x)
theorem ok_is_control {f : Addr} {fd : FuncData} (F : Fun K "is_control" "is_control" s_is_control f fd) (T : Mg mg) (c1 : Cal P w K mg base CX0 3 "is_below" ["value", "many"] (spD RisBelow)) : FnOk P w K mg base CX0 4 f fd ["value", "lines", "controls"] (spD RisCtl) := by
  refine F.ok sc_is_control (fun vs H Q E h => spD_len h fun ds d ⟨x, L, C, e, _⟩ => by rw [e]; rfl) (fun cdv A outer s H vs Q E hr h => ?_)
  obtain ⟨ds, d, r, ⟨x, L, C, rfl, hz, rfl⟩, q⟩ := h
  cases r with
  | cons r1 r => cases r with
  | cons r2 r => cases r with
  | cons r3 r =>
  cases r
  refine ⟨_, pss_cons (ps_if (pw_or (pt_not (pt_val (pe_callB call_isi (by rfl) T.isinstance (by decide +kernel) (pa_cons (pv 0) (pa_cons (pe_bltn (v := .ty "tuple") (by rfl) T.tuple (by decide +kernel) rfl) pa_nil)))))
      (pw_or (pt_cmpR op_ne (pe_callB call_len_seq (by rfl) T.len (by decide +kernel) (pa_cons (pv 0) pa_nil)) pe_int (nomark _))
      (pw_or (pt_not (pt_val (pe_callB call_isi (by rfl) T.isinstance (by decide +kernel) (pa_cons (pe_ix ix_tup (pv 0) pe_int (fun _ _ => rfl)) (pa_cons (pe_bltn (v := .ty "tuple") (by rfl) T.tuple (by decide +kernel) rfl) pa_nil)))))
      (pw_or1 (pt_cmpR op_ne (pe_callB call_len_seq (by rfl) T.len (by decide +kernel) (pa_cons (pe_ix ix_tup (pv 0) pe_int (fun _ _ => rfl)) pa_nil)) (pv 1) (nomark _)))))).pt
      (pss_one (ps_ret pe_bl)) pss_nil)
    (pss_cons (ps_if (pt_not (pt_val (pe_callB (cr_all rfl) (by rfl) T.all (by decide +kernel) (pa_cons
        (pe_lc (own := [("one", 3)]) (g := gName 3) (tt := tYes) rfl sc_is_control.nd (pi_tup (pe_ix ix_tup (pv 0) pe_int (fun _ _ => rfl))) (blkOk_by (N := N_is_control) (sc := defScope s_is_control) (by decide +kernel)) (fun _ _ _ _ _ => pg_name (i := 3) sc_is_control.nd rfl (Or.inl rfl)) (fun _ _ _ _ _ => pts_nil)
          (fun _ _ _ _ _ => pe_cal c1 hr (by decide) (by rfl) (pa_cons (pv 3) (pa_cons (pv 2) pa_nil)))) pa_nil))))
      (pss_one (ps_ret pe_bl)) pss_nil)
    (pss_one (ps_ret (pe_and (pe_cal c1 hr (by decide) (by rfl) (pa_cons (pe_ix ix_tup (pv 0) pe_int (fun _ _ => rfl)) (pa_cons (pv 1) pa_nil))) (pe_one (pe_cal c1 hr (by decide) (by rfl) (pa_cons (pe_ix ix_tup (pv 0) pe_int (fun _ _ => rfl)) (pa_cons (pv 2) pa_nil)))))))), ?_⟩
  refine d_seq (d_when (b := (!tupB x || (!len3F x || (!tupB (hdD x) || !lenF L (hdD x))))) (et_or (et_not (evt_B (evd_isi (evd_var rfl r1) (isTuple_kit x)))) fun h1 => et_or (a := !len3F x) ?_ fun h2 => ?_) (fun hb H1 e1 => ?_) (fun hb H1 e1 => ?_))
  · cases x with
    | tuple xs =>
      refine evt_test ((evd_neI (evd_lenT (evd_var rfl r1)) evd_int).is ?_)
      show PyData.bool (!decide ((xs.length : Int) = 3)) = .bool (!decide (xs.length = 3))
      rw [show decide ((xs.length : Int) = 3) = decide (xs.length = 3) from decide_eq_decide.mpr (by omega)]
    | _ => cases h1
  · cases x with
    | tuple xs =>
      have h3 : xs.length = 3 := by simpa [len3F] using h2
      match xs, h3 with
      | [y, l, n], _ =>
      refine et_or (et_not (evt_B (evd_isi (evd_ixT (evd_var rfl r1) evd_int rfl) (isTuple_kit y)))) fun h4 => ?_
      cases y with
      | tuple hs => exact evt_test (evd_neI (evd_lenT (evd_ixT (evd_var rfl r1) evd_int rfl)) (evd_var rfl r2))
      | _ => cases h4
    | _ => cases h1
  · refine d_ret evd_bl fun v H2 e2 rv => q v H2 (e1.trans e2) ?_
    have : ctlOk L C x = false := by
      cases x with
      | tuple xs =>
        match xs with
        | [] => rfl
        | [_] => rfl
        | [_, _] => rfl
        | _ :: _ :: _ :: _ :: _ => rfl
        | [y, l, n] =>
          cases y with
          | tuple hs =>
            have hb : (!decide ((hs.length : Int) = L)) = true := hb
            show (decide ((hs.length : Int) = L) && belowAll C hs && (isBelowD L l && isBelowD C n)) = false
            have : decide ((hs.length : Int) = L) = false := by simpa using hb
            rw [this]
            rfl
          | _ => rfl
      | _ => rfl
    rw [this]
    exact rv
  · obtain ⟨hs, l, n, rfl, hL⟩ : ∃ hs l n, x = .tuple [.tuple hs, l, n] ∧ (hs.length : Int) = L := by
      rw [Bool.or_eq_false_iff, Bool.or_eq_false_iff, Bool.or_eq_false_iff] at hb
      obtain ⟨h1, h2, h3, h4⟩ := hb
      cases x with
      | tuple xs =>
        have h3' : xs.length = 3 := by simpa [len3F] using h2
        match xs, h3' with
        | [y, l, n], _ =>
        cases y with
        | tuple hs => exact ⟨hs, l, n, rfl, by simpa [lenF, hdD] using h4⟩
        | _ => cases h3
      | _ => cases h1
    have hz2 := (hz _ rfl).2 _ _ rfl
    refine d_seq (d_when (b := !((hs.map (isBelowD C)).all id)) (et_not (evt_B (evd_all ((evn_mapT (vs := [3]) (fun d => .bool (isBelowD C d)) (evd_ixT (ds := [.tuple hs, l, n]) (evd_var rfl (r1.up e1)) evd_int rfl) hz2 (fun d _ => rfl) (fun _ => rfl) (fun d v H2 hd e2 rd =>
      evd_call (evds_cons (evd_var rfl rd) (evds_cons (evd_var rfl (r3.up (e1.trans e2))) evds_nil)) (spD_d ⟨d, C, rfl, rfl⟩))).toD.is (by rw [List.map_map]; rfl))))) (fun hb H2 e2 => ?_) (fun hb H2 e2 => ?_))
    · refine d_ret evd_bl fun v H3 e3 rv => q v H3 ((e1.trans e2).trans e3) ?_
      have h5 : belowAll C hs = false := by
        have : (hs.map (isBelowD C)).all id = hs.all (isBelowD C) := by rw [List.all_map]; rfl
        rw [this] at hb
        simpa [belowAll] using hb
      show Rp H3 v (.bool (decide ((hs.length : Int) = L) && belowAll C hs && (isBelowD L l && isBelowD C n)))
      rw [h5, Bool.and_false, Bool.false_and]
      exact rv
    · refine d_ret (evd_andV (evd_call (evds_cons (evd_ixT (d := l) (evd_var rfl (r1.up (e1.trans e2))) evd_int rfl) (evds_cons (evd_var rfl (r2.up (e1.trans e2))) evds_nil)) (spD_d ⟨l, L, rfl, rfl⟩)) fun _ =>
        evd_call (evds_cons (evd_ixT (d := n) (evd_var rfl (r1.up (e1.trans e2))) evd_int rfl) (evds_cons (evd_var rfl (r3.up (e1.trans e2))) evds_nil)) (spD_d ⟨n, C, rfl, rfl⟩)) fun v H3 e3 rv => q v H3 ((e1.trans e2).trans e3) ?_
      have h5 : belowAll C hs = true := by
        have : (hs.map (isBelowD C)).all id = hs.all (isBelowD C) := by rw [List.all_map]; rfl
        rw [this] at hb
        simpa [belowAll] using hb
      show Rp H3 v (.bool (decide ((hs.length : Int) = L) && belowAll C hs && (isBelowD L l && isBelowD C n)))
      rw [h5, decide_eq_true hL, Bool.true_and, Bool.true_and]
      exact rv
end
end K48
/-! Defs that may raise: need_many, need_cache, need_accesses. -/
namespace K48
open PySem L2 Evl K48M
abbrev Res := PyData ⊕ (Addr × Str × PyData)
/-- a promise: data of data, or an exception -/
def spX (R : List PyData → Res → Prop) : Sp := fun vs H Q E => ∃ ds r, Rps H vs ds ∧ R ds r ∧ match r with
  | .inl d => ∀ v H', Ex H H' → Rp H' v d → Q v H'
  | .inr q => Rsd E q.1 q.2.1 q.2.2 H
structure CalX (P : Program) (w : World) (K : PySem.W.Frag) (mg : Str → Option Value) (base : Heap) (k : Nat) (x : Str) (ps : List Str) (dvs : List V) (sp : Sp) : Prop where
  ex : ∃ f fd ds, FnOk P w K mg base (L2.CX P w) k f fd ps sp ∧ mg x = some (.ref f) ∧ PySem.W.keepIn K (.ref f) = true ∧ Binds K fd ps ds ∧ Vals dvs ds
section
variable {X : Cx} {k j : Nat} {x : Str} {ps : List Str} {dvs : List V} {sp : Sp} {p pos : Pos} {e : Expr} {es : List Expr} {t : TA} {E : XK}
theorem pe_calX (c : CalX X.prog X.w X.K X.mg X.base k x ps dvs sp) (hr : Room j X.A) (hkj : k ≤ j) (hg : Gl X x) (hx : Passes (L2.CX X.prog X.w) X E) (ha : PA X (e :: es) t)
    (hdb : (x == ("__debug__" : Str)) = false := by decide) (he : starEach (e :: es) X.env = (false, eval e X.env) :: starEach es X.env := by rfl) (hpl : (backTo pos (starEach es X.env)).any (·.1) = false := by rfl) :
    PE X (.Call (.Name x p) (e :: es) [] pos) (tCall sp dvs E t) := by
  obtain ⟨f, fd, ds, F, hm, hk, hb, hv⟩ := c.ex
  exact pe_call F (hr.mono hkj) hg hm hk hb hv hx ha hdb he hpl
end
section
variable {K : PySem.W.Frag} {σ : S} {H : Hp} {tA : TA} {ds dd : List PyData} {d : PyData} {R : List PyData → Res → Prop} {E : XK} {D : Ends} {dvs : List V}
theorem evd_callX (h : EvDs tA σ H ds) (hd : ∀ H, Rps H dvs dd) (hR : R (ds ++ dd) (.inl d)) : EvD (tCall (spX R) dvs E tA) σ H d := fun H1 a Q q => h H1 a _ fun vs H2 e2 r2 =>
  ⟨ds ++ dd, .inl d, r2.append (hd H2), hR, fun v H3 e3 r3 => q v H3 (e2.trans e3) r3⟩
theorem ev_raiseX {C : Addr} {par : Str} (h : EvDs tA σ H ds) (hd : ∀ H, Rps H dvs dd) (hR : R (ds ++ dd) (.inr (C, par, d))) (r : Rsd E C par d H) (Q : VK) : tCall (spX R) dvs E tA σ H Q := h H (Ex.refl H) _ fun vs H2 e2 r2 =>
  ⟨ds ++ dd, .inr (C, par, d), r2.append (hd H2), hR, r.mono e2⟩
theorem spX_len {R : List PyData → Res → Prop} {n : Nat} {vs : List V} {H : Hp} {Q : VK} {E : XK} (h : spX R vs H Q E) (hR : ∀ ds d, R ds d → ds.length = n) : vs.length = n := by
  obtain ⟨ds, d, r, hr, _⟩ := h
  rw [r.len]
  exact hR ds d hr
/-- an expression's statement -/
theorem d_drop {te : TE} (h : EvD te σ H d) (k : ∀ H1, Ex H H1 → D.nx σ H1) : tDrop te D σ H := h H (Ex.refl H) _ fun v H1 e _ => k H1 e
end
/-- the program's own exceptions -/
structure Exs (P : Program) (K : PySem.W.Frag) (mg : Str → Option Value) (CC CI CZ : Addr) : Prop where
  c : ExT P K mg "InvalidCache" CC "at"
  i : ExT P K mg "InvalidIndex" CI "at"
  z : ExT P K mg "InvalidSize" CZ "word"
/-- the module's numbers -/
structure Gcs (mg : Str → Option Value) : Prop where
  lines : ∃ u, mg "MOST_LINES" = some u ∧ RelV (.int 4) u
  ctrls : ∃ u, mg "MOST_CONTROLS" = some u ∧ RelV (.int 60) u
section
variable {P : Program} {w : World} {K : PySem.W.Frag} {mg : Str → Option Value} {base : Heap} {CC CI CZ : Addr}
/-! ### need_many -/
def manyOk (l : Int) : PyData → Bool
  | .int i => decide (l ≤ i)
  | _ => false
def Rmany (CZ : Addr) (ds : List PyData) (r : Res) : Prop := ∃ x wd l, ds = [x, .str wd, .int l] ∧ r = if manyOk l x = true then .inl x else .inr (CZ, "word", .str wd)
theorem ok_need_many {f : Addr} {fd : FuncData} {dvs : List V} (F : FunD K "need_many" "need_many" (defArgs s_need_many) (defBody s_need_many) (defScope s_need_many) dvs [] f fd) (X : Exs P K mg CC CI CZ) (c1 : Cal P w K mg base CX0 1 "is_integer" ["value"] (spD RisInt)) :
    FnOk P w K mg base (L2.CX P w) 2 f fd ["value", "word", "least"] (spX (Rmany CZ)) := by
  refine F.ok sc_need_many (fun vs H Q E h => spX_len h fun ds d ⟨x, wd, l, e, _⟩ => by rw [e]; rfl) (fun cdv A outer s H vs Q E hr h => ?_)
  obtain ⟨ds, res, r, ⟨x, wd, l, rfl, rfl⟩, q⟩ := h
  cases r with
  | cons r1 r => cases r with
  | cons r2 r => cases r with
  | cons r3 r =>
  cases r
  refine ⟨_, pss_cons (ps_if (pw_or (pt_not (pt_val (pe_cal c1 hr (by decide) (by rfl) (pa_cons (pv 0) pa_nil)))) (pw_or1 (pt_cmpR op_lt (pv 0) (pv 2) (nomark _)))).pt
      (pss_one (ps_raise rfl (takes_of rfl rfl rfl rfl) (pmk_ex X.z hr (by rfl) (pv 1)))) pss_nil)
    (pss_one (ps_ret (pv 0))), ?_⟩
  refine d_seq (d_when (b := !manyOk l x) (et_is (et_or (b := match x with | .int i => decide (i < l) | _ => false) (et_not (evt_B (evd_call (evds_cons (evd_var rfl r1) evds_nil) (spD_d ⟨x, rfl, rfl⟩)))) fun h1 => ?_) ?_) (fun hb H1 e1 => ?_) (fun hb H1 e1 => ?_))
  · cases x with
    | int i => exact evt_test (evd_lt (evd_var rfl r1) (evd_var rfl r3))
    | _ => cases h1
  · cases x with
    | int i =>
      show (!true || decide (i < l)) = !decide (l ≤ i)
      by_cases h : l ≤ i
      · rw [decide_eq_true h, decide_eq_false (by omega)]
        rfl
      · rw [decide_eq_false h, decide_eq_true (by omega)]
        rfl
    | _ => rfl
  · have hb' : manyOk l x = false := by simpa using hb
    rw [hb'] at q
    exact d_raise (evd_var rfl (r2.up e1)) (Rsd.mono q e1)
  · have hb' : manyOk l x = true := by simpa using hb
    rw [if_pos hb'] at q
    exact d_ret (evd_var rfl (r1.up e1)) fun v H2 e2 rv => q v H2 (e1.trans e2) rv
/-! ### need_accesses -/
/-- the first that fails -/
def badAt (p : PyData → Bool) (xs : List PyData) : Option Nat := xs.findIdx? fun y => !p y
theorem badAt_some {p : PyData → Bool} {xs : List PyData} {i : Nat} {y : PyData} (h : xs[i]? = some y) (hy : p y = false) (hb : ∀ (j : Nat) z, j < i → xs[j]? = some z → p z = true) : badAt p xs = some i := by
  obtain ⟨hl, he⟩ := List.getElem?_eq_some_iff.mp h
  refine List.findIdx?_eq_some_iff_getElem.mpr ⟨hl, by rw [he, hy]; rfl, fun j hj => ?_⟩
  rw [hb j _ hj (List.getElem?_eq_getElem (by omega))]
  decide
theorem badAt_none {p : PyData → Bool} {xs : List PyData} (hb : ∀ (j : Nat) z, xs[j]? = some z → p z = true) : badAt p xs = none := by
  refine List.findIdx?_eq_none_iff.mpr fun z hz => ?_
  obtain ⟨j, hj⟩ := List.getElem?_of_mem hz
  rw [hb j z hj]
  rfl
def accRes (CI : Addr) (xs : List PyData) : Res := match badAt isNumD xs with
  | some i => .inr (CI, "at", dI i)
  | none => .inl (.tuple xs)
def Racs (CI : Addr) (ds : List PyData) (r : Res) : Prop := ∃ x, ds = [x] ∧ ((seqB x = false ∧ r = .inr (CI, "at", .int (-1))) ∨ ∃ xs, SeqD x xs ∧ r = accRes CI xs)
theorem ok_need_accesses {f : Addr} {fd : FuncData} (F : Fun K "need_accesses" "need_accesses" s_need_accesses f fd) (T : Mg mg) (X : Exs P K mg CC CI CZ) (c1 : Cal P w K mg base CX0 1 "is_sequence" ["value"] (spD RisSeq)) (c2 : Cal P w K mg base CX0 2 "is_number" ["value"] (spD RisNum)) :
    FnOk P w K mg base (L2.CX P w) 3 f fd ["value"] (spX (Racs CI)) := by
  refine F.okX sc_need_accesses (fun vs H Q E h => spX_len h fun ds d ⟨x, e, _⟩ => by rw [e]; rfl) (fun cdv A outer s H vs Q E hr h => ?_)
  obtain ⟨ds, res, r, ⟨x, rfl, hx⟩, q⟩ := h
  cases r with
  | cons r1 r =>
  cases r
  refine ⟨_, pss_cons (ps_if (pt_not (pt_val (pe_cal c1 hr (by decide) (by rfl) (pa_cons (pv 0) pa_nil)))) (pss_one (ps_raise rfl (takes_of rfl rfl rfl rfl) (pmk_ex X.i hr (by rfl) (pe_un un_neg pe_int)))) pss_nil)
    (pss_cons (ps_for (passes_of rfl) rfl (pi_enumX (by rfl) T.enumerate (pa_cons (pv 0) pa_nil)) (pg_tup rfl (pgs_cons (pg_name (i := 1) sc_need_accesses.nd rfl (.inl rfl)) (pgs_cons (pg_name (i := 2) sc_need_accesses.nd rfl (.inl rfl)) pgs_nil)))
      (pss_one (ps_if (pt_not (pt_val (pe_cal c2 hr (by decide) (by rfl) (pa_cons (pv 2) pa_nil)))) (pss_one (ps_raise rfl (takes_of rfl rfl rfl rfl) (pmk_ex X.i hr (by rfl) (pv 1)))) pss_nil)))
    (pss_one (ps_ret (pe_callTy call_tupleP (by rfl) T.tuple (by decide +kernel) (pa_cons (pv 0) pa_nil))))), ?_⟩
  refine d_seq (d_when (b := !seqB x) (et_not (evt_B (evd_call (evds_cons (evd_var rfl r1) evds_nil) (spD_d ⟨x, rfl, rfl⟩)))) (fun hb H1 e1 => ?_) (fun hb H1 e1 => ?_))
  · rcases hx with ⟨h1, rfl⟩ | ⟨xs, h1, _⟩
    · exact d_raise (evd_neg evd_int) (Rsd.mono q e1)
    · rcases h1 with rfl | rfl <;> cases hb
  · rcases hx with ⟨h1, _⟩ | ⟨xs, h1, rfl⟩
    · rw [h1] at hb
      cases hb
    · refine d_seq (d_forE (evd_var rfl (r1.up e1)) h1 fun v H2 e2 rv => ⟨fun i σ' H' => ∃ a b, σ' = [some _, a, b] ∧ Ex H2 H' ∧ ∀ (j : Nat) z, j < i → xs[j]? = some z → isNumD z = true, ⟨none, none, rfl, Ex.refl _, fun j z hj => absurd hj (Nat.not_lt_zero _)⟩,
        fun i σ' H' ⟨a, b, _, e, _⟩ => rv.up e, fun i y d σ' H3 H4 hi hd ⟨a, b, es, e, hall⟩ ex re => ?_, fun σ' H' ⟨a, b, es, e, hall⟩ => ?_⟩)
      · subst es
        refine d_when (b := !isNumD d) (et_not (evt_B (evd_call (evds_cons (evd_var rfl re) evds_nil) (spD_d ⟨d, rfl, rfl⟩)))) (fun hb2 H5 e5 => ?_) (fun hb2 H5 e5 => ?_)
        · have h2 : accRes CI xs = .inr (CI, "at", dI i) := by
            unfold accRes
            rw [badAt_some hd (by simpa using hb2) hall]
          rw [h2] at q
          exact d_raise (d := dI i) (evd_var rfl (.int _)) (Rsd.mono q (((e1.trans e2).trans e).trans (ex.trans e5)))
        · refine ⟨_, _, rfl, (e.trans ex).trans e5, fun j z hj hz => ?_⟩
          by_cases hji : j = i
          · subst hji
            rw [hd] at hz
            cases hz
            simpa using hb2
          · exact hall j z (by omega) hz
      · subst es
        have h2 : accRes CI xs = .inl (.tuple xs) := by
          unfold accRes
          rw [badAt_none fun j z hz => hall j z (List.getElem?_eq_some_iff.mp hz).1 hz]
        rw [h2] at q
        have rx := r1.up ((e1.trans e2).trans e)
        have fin : ∀ v' H5, Ex H' H5 → Rp H5 v' (.tuple xs) → Q v' H5 := fun v' H5 e5 r5 => q v' H5 (((e1.trans e2).trans e).trans e5) r5
        rcases h1 with rfl | rfl
        · exact d_ret (evd_tupL (evd_var rfl rx)) fin
        · exact d_ret (evd_tupT (evd_var rfl rx)) fin
/-! ### need_cache -/
/-- how many lines the first control tells -/
def lenT : PyData → Nat
  | .tuple hs => hs.length
  | _ => 0
def linesOf2 : List PyData → Nat
  | [y, _, _] => lenT y
  | _ => 0
def linesOf : PyData → Nat
  | .tuple xs => linesOf2 xs
  | _ => 0
def fstOf2 : List PyData → PyData
  | [z, _, _] => z
  | _ => .tuple []
def fstOf : PyData → PyData
  | .tuple zs => fstOf2 zs
  | _ => .tuple []
def is3 : PyData → Bool
  | .tuple zs => decide ((zs.length : Int) = 3)
  | _ => true
def in60 : PyData → Bool
  | .tuple xs => decide (1 ≤ (xs.length : Int)) && decide ((xs.length : Int) ≤ 60)
  | _ => true
def ctlFit (L : Nat) (n : Nat) (y : PyData) : Bool := (decide (1 ≤ L) && decide (L ≤ 4)) && ctlOk (L : Int) (n : Int) y
def cacheRes (CC : Addr) : PyData → Res
  | .tuple (y :: ys) => if (y :: ys).length ≤ 60 then (match badAt (ctlFit (linesOf y) (y :: ys).length) (y :: ys) with
      | some i => .inr (CC, "at", dI i)
      | none => .inl (.tuple (y :: ys))) else .inr (CC, "at", .int (-1))
  | _ => .inr (CC, "at", .int (-1))
/-- no part is too long -/
def smallC : PyData → Prop
  | .tuple xs => ∀ y ∈ xs, ∀ zs, y = .tuple zs → zs.length ≤ 1000000 ∧ ∀ hs r, zs = .tuple hs :: r → hs.length ≤ 1000000
  | _ => True
def Rcache (CC : Addr) (ds : List PyData) (r : Res) : Prop := ∃ x, ds = [x] ∧ smallC x ∧ r = cacheRes CC x
theorem ok_need_cache {f : Addr} {fd : FuncData} (F : Fun K "need_cache" "need_cache" s_need_cache f fd) (T : Mg mg) (G : Gcs mg) (X : Exs P K mg CC CI CZ) (c1 : Cal P w K mg base CX0 4 "is_control" ["value", "lines", "controls"] (spD RisCtl)) :
    FnOk P w K mg base (L2.CX P w) 5 f fd ["value"] (spX (Rcache CC)) := by
  refine F.okX sc_need_cache (fun vs H Q E h => spX_len h fun ds d ⟨x, e, _⟩ => by rw [e]; rfl) (fun cdv A outer s H vs Q E hr h => ?_)
  obtain ⟨ds, res, r, ⟨x, rfl, hsm, rfl⟩, q⟩ := h
  cases r with
  | cons r1 r =>
  cases r
  refine ⟨_, pss_cons (ps_if (pw_or (pt_not (pt_val (pe_callB call_isi (by rfl) T.isinstance (by decide +kernel) (pa_cons (pv 0) (pa_cons (pe_bltn (v := .ty "tuple") (by rfl) T.tuple (by decide +kernel) rfl) pa_nil)))))
      (pw_or1 (pt_not (pt_chain op_le op_le pe_int (pe_callB call_len_seq (by rfl) T.len (by decide +kernel) (pa_cons (pv 0) pa_nil)) (C8.pe_gc (v := .int 60) (by rfl) G.ctrls))))).pt
      (pss_one (ps_raise rfl (takes_of rfl rfl rfl rfl) (pmk_ex X.c hr (by rfl) (pe_un un_neg pe_int)))) pss_nil)
    (pss_cons (ps_set (i := 1) sc_need_cache.nd rfl (.inl rfl) (pe_ifExp (pw_and (pt_val (pe_callB call_isi (by rfl) T.isinstance (by decide +kernel) (pa_cons (pe_ix ix_tup (pv 0) pe_int (fun _ _ => rfl)) (pa_cons (pe_bltn (v := .ty "tuple") (by rfl) T.tuple (by decide +kernel) rfl) pa_nil))))
        (pw_and1 (pt_cmpR op_eq (pe_callB call_len_seq (by rfl) T.len (by decide +kernel) (pa_cons (pe_ix ix_tup (pv 0) pe_int (fun _ _ => rfl)) pa_nil)) pe_int (nomark _)))).pt
        (pe_ix ix_tup (pe_ix ix_tup (pv 0) pe_int (fun _ _ => rfl)) pe_int (fun _ _ => rfl)) (pe_tupP pa_nil)))
    (pss_cons (ps_set (i := 2) sc_need_cache.nd rfl (.inl rfl) (pe_ifExp (pt_val (pe_callB call_isi (by rfl) T.isinstance (by decide +kernel) (pa_cons (pv 1) (pa_cons (pe_bltn (v := .ty "tuple") (by rfl) T.tuple (by decide +kernel) rfl) pa_nil))))
        (pe_callB call_len_seq (by rfl) T.len (by decide +kernel) (pa_cons (pv 1) pa_nil)) pe_int))
    (pss_cons (ps_for (passes_of rfl) rfl (pi_enumX (by rfl) T.enumerate (pa_cons (pv 0) pa_nil)) (pg_tup rfl (pgs_cons (pg_name (i := 3) sc_need_cache.nd rfl (.inl rfl)) (pgs_cons (pg_name (i := 4) sc_need_cache.nd rfl (.inl rfl)) pgs_nil)))
      (pss_one (ps_if (pw_or (pt_not (pt_chain op_le op_le pe_int (pv 2) (C8.pe_gc (v := .int 4) (by rfl) G.lines))) (pw_or1 (pt_not (pt_val (pe_cal c1 hr (by decide) (by rfl) (pa_cons (pv 4) (pa_cons (pv 2) (pa_cons (pe_callB call_len_seq (by rfl) T.len (by decide +kernel) (pa_cons (pv 0) pa_nil)) pa_nil)))))))).pt
        (pss_one (ps_raise rfl (takes_of rfl rfl rfl rfl) (pmk_ex X.c hr (by rfl) (pv 3)))) pss_nil)))
    (pss_one (ps_ret (pv 0)))))), ?_⟩
  have hnot : ∀ H1, Ex H H1 → cacheRes CC x = .inr (CC, "at", .int (-1)) → Rsd E CC "at" (.int (-1)) H1 := fun H1 e1 hc => by
    rw [hc] at q
    exact Rsd.mono q e1
  refine d_seq (d_when (b := (!tupB x || !in60 x)) (et_or (et_not (evt_B (evd_isi (evd_var rfl r1) (isTuple_kit x)))) fun h1 => et_not ?_) (fun hb H1 e1 => ?_) (fun hb H1 e1 => ?_))
  · cases x with
    | tuple xs => exact evt_test (evd_le2 evd_int (evd_lenT (evd_var rfl r1)) evd_int)
    | _ => cases h1
  · refine d_raise (evd_neg evd_int) (hnot H1 e1 ?_)
    cases x with
    | tuple xs =>
      cases xs with
      | nil => rfl
      | cons y ys =>
        unfold cacheRes
        refine if_neg fun h60 => ?_
        have h60 : (y :: ys).length ≤ 60 := h60
        simp only [tupB, in60, Bool.not_true, Bool.false_or, Bool.not_eq_true'] at hb
        rw [Bool.and_eq_false_iff, decide_eq_false_iff_not, decide_eq_false_iff_not] at hb
        rw [List.length_cons] at hb h60
        omega
    | _ => rfl
  · obtain ⟨y, ys, rfl, h60⟩ : ∃ y ys, x = .tuple (y :: ys) ∧ (y :: ys).length ≤ 60 := by
      cases x with
      | tuple xs =>
        cases xs with
        | nil => cases hb
        | cons y ys =>
          refine ⟨y, ys, rfl, ?_⟩
          simp only [tupB, in60, Bool.not_true, Bool.false_or, Bool.not_eq_false'] at hb
          rw [Bool.and_eq_true, decide_eq_true_eq, decide_eq_true_eq] at hb
          omega
      | _ => cases hb
    have h0 : (y :: ys)[0]? = some y := rfl
    have hsmy := hsm y (List.mem_cons_self ..)
    have e0 : EvD (tOp (rIxT K) (tVar 0) (tC (.int 0))) (start N_need_cache [_]) H1 y := evd_ixT (ds := y :: ys) (evd_var rfl (r1.up e1)) evd_int (atI_nat' (xs := y :: ys) (j := 0) rfl)
    -- first
    refine d_seq (d_asg (d := fstOf y) (evd_if (b := tupB y && is3 y) (et_and (evt_B (evd_isi e0 (isTuple_kit y))) fun h2 => ?_) (fun hb2 => ?_) (fun hb2 => ?_)) fun v H2 e2 rv => ?_)
    · cases y with
      | tuple zs => exact evt_test (evd_eqI (evd_lenT e0) evd_int)
      | _ => cases h2
    · cases y with
      | tuple zs =>
        have h3 : zs.length = 3 := by
          have hb2 : decide ((zs.length : Int) = 3) = true := by simpa [tupB, is3] using hb2
          have := of_decide_eq_true hb2
          omega
        match zs, h3 with
        | [z, z2, z3], _ => exact evd_ixT (ds := [z, z2, z3]) e0 evd_int rfl
      | _ => cases hb2
    · have he : fstOf y = .tuple [] := by
        cases y with
        | tuple zs =>
          have hb2 : decide ((zs.length : Int) = 3) = false := by simpa [tupB, is3] using hb2
          match zs, hb2 with
          | [], _ => rfl
          | [_], _ => rfl
          | [_, _], _ => rfl
          | [_, _, _], h => simp at h
          | _ :: _ :: _ :: _ :: _, _ => rfl
        | _ => rfl
      rw [he]
      exact evd_tup evds_nil
    -- lines
    refine d_seq (d_asg (d := dI (linesOf y)) (evd_if (b := tupB (fstOf y)) (evt_B (evd_isi (evd_var rfl rv) (isTuple_kit _))) (fun hb2 => ?_) (fun hb2 => ?_)) fun v2 H3 e3 rv2 => ?_)
    · have key : ∀ z, fstOf y = .tuple z → linesOf y = z.length := by
        intro z hz
        cases y with
        | tuple zs =>
          match zs, hz with
          | [], hz => cases hz; rfl
          | [_], hz => cases hz; rfl
          | [_, _], hz => cases hz; rfl
          | [z0, _, _], hz =>
            have hz : z0 = .tuple z := hz
            rw [hz]
            rfl
          | _ :: _ :: _ :: _ :: _, hz => cases hz; rfl
        | _ => cases hz; rfl
      generalize fstOf y = fst at hb2 rv key
      cases fst with
      | tuple z =>
        rw [key z rfl]
        exact evd_lenT (evd_var rfl rv)
      | _ => cases hb2
    · have h0' : linesOf y = 0 := by
        cases y with
        | tuple zs =>
          match zs, hb2 with
          | [], h => exact Bool.noConfusion (show true = false from h)
          | [_], h => exact Bool.noConfusion (show true = false from h)
          | [_, _], h => exact Bool.noConfusion (show true = false from h)
          | [z0, _, _], hb2 =>
            cases z0 with
            | tuple _ => cases hb2
            | _ => rfl
          | _ :: _ :: _ :: _ :: _, h => exact Bool.noConfusion (show true = false from h)
        | _ => rfl
      rw [h0']
      exact evd_int
    have e03 : Ex H H3 := (e1.trans e2).trans e3
    have hres : cacheRes CC (.tuple (y :: ys)) = match badAt (ctlFit (linesOf y) (y :: ys).length) (y :: ys) with
      | some i => .inr (CC, "at", dI i)
      | none => .inl (.tuple (y :: ys)) := if_pos h60
    refine d_seq (d_forE (ds := y :: ys) (evd_var rfl (r1.up e03)) (.inr rfl) fun v H4 e4 rv4 => ⟨fun i σ' H' => ∃ a b, σ' = [some _, some _, some v2, a, b] ∧ Ex H4 H' ∧ ∀ (j : Nat) z, j < i → (y :: ys)[j]? = some z → ctlFit (linesOf y) (y :: ys).length z = true, ⟨none, none, rfl, Ex.refl _, fun j z hj => absurd hj (Nat.not_lt_zero _)⟩,
        fun i σ' H' ⟨a, b, _, e, _⟩ => rv4.up e, fun i c d σ' H5 H6 hi hd ⟨a, b, es, e, hall⟩ ex re => ?_, fun σ' H' ⟨a, b, es, e, hall⟩ => ?_⟩)
    · subst es
      have e06 : Ex H H6 := ((e03.trans e4).trans e).trans ex
      have rl := rv2.up ((e4.trans e).trans ex)
      have hsd := hsm d (List.mem_of_getElem? hd)
      refine d_when (b := !ctlFit (linesOf y) (y :: ys).length d) (et_is (et_or (et_not (evt_test (evd_le2 evd_int (evd_var rfl rl) evd_int))) fun h3 => et_not (evt_B (evd_call (evds_cons (evd_var rfl re) (evds_cons (evd_var rfl rl) (evds_cons (evd_lenT (evd_var rfl (r1.up e06))) evds_nil)))
        (spD_d ⟨d, (linesOf y : Int), ((y :: ys).length : Int), rfl, hsd, rfl⟩)))) ?_) (fun hb2 H7 e7 => ?_) (fun hb2 H7 e7 => ?_)
      · show _ = !((decide (1 ≤ linesOf y) && decide (linesOf y ≤ 4)) && ctlOk (linesOf y : Int) ((y :: ys).length : Int) d)
        rw [show decide ((1 : Int) ≤ (linesOf y : Int)) = decide (1 ≤ linesOf y) from decide_eq_decide.mpr (by omega), show decide ((linesOf y : Int) ≤ 4) = decide (linesOf y ≤ 4) from decide_eq_decide.mpr (by omega)]
        generalize decide (1 ≤ linesOf y) = b1
        generalize decide (linesOf y ≤ 4) = b2
        generalize ctlOk (linesOf y : Int) ((y :: ys).length : Int) d = b3
        cases b1 <;> cases b2 <;> cases b3 <;> rfl
      · have h2 : cacheRes CC (.tuple (y :: ys)) = .inr (CC, "at", dI i) := by
          rw [hres, badAt_some hd (by simpa using hb2) hall]
        rw [h2] at q
        exact d_raise (d := dI i) (evd_var rfl (.int _)) (Rsd.mono q (e06.trans e7))
      · refine ⟨_, _, rfl, (e.trans ex).trans e7, fun j z hj hz => ?_⟩
        by_cases hji : j = i
        · subst hji
          rw [hd] at hz
          cases hz
          simpa using hb2
        · exact hall j z (by omega) hz
    · subst es
      have h2 : cacheRes CC (.tuple (y :: ys)) = .inl (.tuple (y :: ys)) := by
        rw [hres, badAt_none fun j z hz => hall j z (List.getElem?_eq_some_iff.mp hz).1 hz]
      rw [h2] at q
      exact d_ret (evd_var rfl (r1.up ((e03.trans e4).trans e))) fun v' H5 e5 r5 => q v' H5 (((e03.trans e4).trans e).trans e5) r5
end
end K48
/-! Shapes of data; states, stays and their keys. -/
namespace K48
open PySem L2 Evl K48M
/-! ### shapes -/
/-- data of ints, bools, None, tuples and lists, at most n deep -/
structure Shp (n : Nat) (d : PyData) : Prop where
  lay : d.canLay0 = true
  dep : d.depth ≤ n
theorem Shp.mono {n m : Nat} {d : PyData} (h : Shp n d) (x : n ≤ m) : Shp m d := ⟨h.lay, Nat.le_trans h.dep x⟩
theorem shp_all {n : Nat} {ds : List PyData} (h : ∀ d ∈ ds, Shp n d) : PyData.canLayAll0 ds = true ∧ PyData.depthAll ds ≤ n := by
  induction ds with
  | nil => exact ⟨by rw [PyData.canLayAll0], by rw [PyData.depthAll]; exact Nat.zero_le _⟩
  | cons d ds ih =>
    obtain ⟨h1, h2⟩ := ih fun e he => h e (List.mem_cons_of_mem _ he)
    obtain ⟨a, b⟩ := h d (List.mem_cons_self ..)
    refine ⟨?_, ?_⟩
    · rw [PyData.canLayAll0, a, h1]
      rfl
    · rw [PyData.depthAll]
      exact Nat.max_le.mpr ⟨b, h2⟩
theorem shp_tup {n : Nat} {ds : List PyData} (h : ∀ d ∈ ds, Shp n d) : Shp (n + 1) (.tuple ds) := by
  obtain ⟨h1, h2⟩ := shp_all h
  exact ⟨by rw [PyData.canLay0]; exact h1, by rw [PyData.depth]; exact Nat.succ_le_succ h2⟩
theorem shp_lst {n : Nat} {ds : List PyData} (h : ∀ d ∈ ds, Shp n d) : Shp (n + 1) (.list ds) := by
  obtain ⟨h1, h2⟩ := shp_all h
  exact ⟨by rw [PyData.canLay0]; exact h1, by rw [PyData.depth]; exact Nat.succ_le_succ h2⟩
theorem shp_int (i : Int) : Shp 0 (.int i) := ⟨by rw [PyData.canLay0], by rw [PyData.depth]; exact Nat.le_refl _⟩
theorem shp_bool (b : Bool) : Shp 0 (.bool b) := ⟨by rw [PyData.canLay0], by rw [PyData.depth]; exact Nat.le_refl _⟩
theorem shp_none : Shp 0 .none := ⟨by rw [PyData.canLay0], by rw [PyData.depth]; exact Nat.le_refl _⟩
theorem shp_I (n : Nat) : Shp 0 (dI n) := shp_int _
theorem shp_map {α : Type} {n : Nat} {f : α → PyData} (h : ∀ a, Shp n (f a)) (l : List α) : ∀ d ∈ l.map f, Shp n d := fun d hd => by
  obtain ⟨a, _, rfl⟩ := List.mem_map.mp hd
  exact h a
theorem shp_Ns (l : List Nat) : Shp 1 (dNs l) := shp_tup (shp_map shp_I l)
theorem shp_O (o : Option Nat) : Shp 0 (dO o) := by
  cases o with
  | none => exact shp_none
  | some n => exact shp_I n
theorem shp_Ls (l : Lines) : Shp 1 (dLs l) := shp_tup (shp_map shp_O l)
theorem shp_Bs (l : List Bool) : Shp 1 (dBs l) := shp_tup (shp_map shp_bool l)
theorem Shp.shaped {n : Nat} {d : PyData} (h : Shp n d) (x : n ≤ 64 := by decide) : SeqAt.shaped d = true := by
  unfold SeqAt.shaped
  rw [h.lay, Bool.true_and, decide_eq_true_eq]
  exact Nat.le_trans h.dep x
theorem forall_list {P : PyData → Prop} : ∀ {l : List PyData}, (l.foldr (fun d p => P d ∧ p) True) → ∀ d ∈ l, P d
  | [], _, d, hd => by cases hd
  | a :: l, h, d, hd => by
    rcases List.mem_cons.mp hd with rfl | hd
    · exact h.1
    · exact forall_list h.2 d hd
/-! ### states -/
abbrev FSt := Nat × List Bool
def dFS (s : FSt) : PyData := .tuple [dI s.1, dNs (trues s.2)]
theorem tupD_FS (s : FSt) : tupD (dFS s) = true := by
  unfold dFS
  rw [tupD, tupDs, tupDs, tupDs, tupD_Ns, tupD_I]
  rfl
theorem shp_FS (s : FSt) : Shp 2 (dFS s) := shp_tup (forall_list ⟨(shp_I _).mono (by decide), (shp_Ns _), trivial⟩)
theorem shp_Stay (s : Stay) : Shp 2 (dStay s) := shp_tup (forall_list ⟨(shp_I _).mono (by decide), shp_Ns _, (shp_I _).mono (by decide), shp_Ns _, trivial⟩)
theorem trues_inj {F G : List Bool} (hl : F.length = G.length) (h : trues F = trues G) : F = G := by
  apply List.ext_getElem? 
  intro j
  have e : F[j]? = some true ↔ G[j]? = some true := by rw [← mem_trues, ← mem_trues, h]
  by_cases hj : j < F.length
  · rw [List.getElem?_eq_getElem hj, List.getElem?_eq_getElem (hl ▸ hj)] at e ⊢
    cases h1 : F[j] with
    | true =>
      have := e.mp (by rw [h1])
      rw [this]
    | false =>
      cases h2 : G[j]'(hl ▸ hj) with
      | true =>
        have := e.mpr (by rw [h2])
        rw [h1] at this
        cases this
      | false => rfl
  · rw [List.getElem?_eq_none (by omega), List.getElem?_eq_none (by omega)]
theorem eqv_FS {a b : FSt} (hl : a.2.length = b.2.length) : PyData.eqv (dFS a) (dFS b) = decide (a = b) := by
  obtain ⟨c, F⟩ := a
  obtain ⟨c', G⟩ := b
  unfold dFS
  rw [PyData.eqv, PyData.eqvAll, PyData.eqvAll, PyData.eqvAll, eqv_I, eqv_Ns, Bool.and_true]
  simp only at hl ⊢
  by_cases h1 : c = c'
  · by_cases h2 : F = G
    · subst h1 h2
      simp
    · have : ¬ trues F = trues G := fun e => h2 (trues_inj hl e)
      simp [h1, h2, this]
  · simp [h1]
theorem any_map {α : Type} [DecidableEq α] {f : α → PyData} {l : List α} {x : α} (h : ∀ a ∈ l, PyData.eqv (f a) (f x) = decide (a = x)) : ((l.map f).any fun z => PyData.eqv z (f x)) = decide (x ∈ l) := by
  induction l with
  | nil => simp
  | cons a l ih =>
    rw [List.map_cons, List.any_cons, ih fun b hb => h b (List.mem_cons_of_mem _ hb), h a (List.mem_cons_self ..)]
    by_cases q : a = x
    · simp [q]
    · have : ¬ x = a := fun e => q e.symm
      simp [q, this]
/-! ### keys -/
theorem nks_map {α : Type} {f : α → PyData} {g : α → NestedKey} (h : ∀ a, nk (f a) = g a) : ∀ l : List α, nks (l.map f) = l.map g
  | [] => by rw [List.map_nil, nks, List.map_nil]
  | a :: l => by rw [List.map_cons, nks, h, nks_map h l, List.map_cons]
theorem nk_I (n : Nat) : nk (dI n) = .num (n : Int) := by unfold dI; rw [nk]
theorem nk_Ns (l : List Nat) : nk (dNs l) = .tup (l.map fun n : Nat => .num (n : Int)) := by
  unfold dNs
  rw [nk, nks_map nk_I]
theorem num_inj : ∀ {l m : List Nat}, (l.map fun n : Nat => NestedKey.num (n : Int)) = m.map (fun n : Nat => NestedKey.num (n : Int)) → l = m
  | [], [], _ => rfl
  | [], _ :: _, h => by simp at h
  | _ :: _, [], h => by simp at h
  | a :: l, b :: m, h => by
    rw [List.map_cons, List.map_cons] at h
    injection h with h1 h2
    injection h1 with h1
    have : a = b := by omega
    rw [this, num_inj h2]
theorem depth_nums : ∀ l : List Nat, NestedKey.depthAll (l.map fun n : Nat => NestedKey.num (n : Int)) = 0
  | [] => rfl
  | a :: l => by
    rw [List.map_cons, NestedKey.depthAll, depth_nums l]
    rfl
theorem noTexts_nums : ∀ l : List Nat, noText.noTexts (l.map fun n : Nat => NestedKey.num (n : Int)) = true
  | [] => rfl
  | a :: l => by
    rw [List.map_cons, noText.noTexts, noTexts_nums l]
    rfl
def kNs (l : List Nat) : NestedKey := .tup (l.map fun n : Nat => .num (n : Int))
/-- a stay's key -/
def kStay (s : Stay) : NestedKey := .tup [.num (s.1 : Int), kNs (trues s.2.1), .num (s.2.2.1 : Int), kNs (trues s.2.2.2)]
theorem nk_Stay (s : Stay) : nk (dStay s) = kStay s := by
  unfold dStay
  rw [nk, nks, nks, nks, nks, nks, nk_I, nk_I, nk_Ns, nk_Ns]
  rfl
theorem kNs_inj {l m : List Nat} (h : kNs l = kNs m) : l = m := by
  unfold kNs at h
  injection h with h
  exact num_inj h
theorem kStay_inj {s t : Stay} (h1 : s.2.1.length = t.2.1.length) (h2 : s.2.2.2.length = t.2.2.2.length) (h : kStay s = kStay t) : s = t := by
  obtain ⟨c, F, j, M⟩ := s
  obtain ⟨c', F', j', M'⟩ := t
  simp only at h1 h2
  unfold kStay at h
  injection h with h
  injection h with a1 h
  injection h with a2 h
  injection h with a3 h
  injection h with a4 h
  injection a1 with a1
  injection a3 with a3
  have e1 := trues_inj h1 (kNs_inj a2)
  have e2 := trues_inj h2 (kNs_inj a4)
  have e3 : c = c' := by
    have a1 : (c : Int) = (c' : Int) := a1
    omega
  have e4 : j = j' := by
    have a3 : (j : Int) = (j' : Int) := a3
    omega
  rw [e1, e2, e3, e4]
theorem kStay_depth (s : Stay) : (kStay s).depth ≤ 8 := by
  unfold kStay kNs
  simp only [NestedKey.depth, NestedKey.depthAll, depth_nums]
  decide
theorem kStay_noText (s : Stay) : noText (kStay s) = true := by
  unfold kStay kNs
  simp only [noText, noText.noTexts, noTexts_nums]
  rfl
theorem key_Stay {H : Hp} {b : Addr} {s : Stay} (r : Rp H (.ref b) (dStay s)) : KeyAt H b (kStay s) := ⟨dStay s, tupD_Stay s, nk_Stay s, kStay_depth s, r⟩
/-! ### alike -/
theorem alike_Is : ∀ l m : List Nat, PySem.W.alikeAll (l.map dI) (m.map dI) = true
  | [], _ => by rw [List.map_nil, PySem.W.alikeAll]
  | _ :: _, [] => by rw [List.map_nil, List.map_cons, PySem.W.alikeAll]
  | a :: l, b :: m => by
    rw [List.map_cons, List.map_cons, PySem.W.alikeAll, alike_Is l m]
    rfl
theorem alike_Stay (s t : Stay) : PySem.W.alike (dStay s) (dStay t) = true := by
  unfold dStay dNs
  simp only [PySem.W.alike, PySem.W.alikeAll, alike_Is]
  rfl
/-! ### universes -/
def bls : Nat → List (List Bool)
  | 0 => [[]]
  | n + 1 => (bls n).map (true :: ·) ++ (bls n).map (false :: ·)
theorem mem_bls {n : Nat} : ∀ {F : List Bool}, F.length = n → F ∈ bls n := by
  induction n with
  | zero =>
    intro F h
    rw [List.eq_nil_of_length_eq_zero h]
    exact List.mem_singleton.mpr rfl
  | succ n ih =>
    intro F h
    match F, h with
    | b :: F, h =>
      have hF : F.length = n := by simpa using h
      unfold bls
      cases b with
      | true => exact List.mem_append_left _ (List.mem_map.mpr ⟨F, ih hF, rfl⟩)
      | false => exact List.mem_append_right _ (List.mem_map.mpr ⟨F, ih hF, rfl⟩)
theorem len_bls : ∀ n, (bls n).length = 2 ^ n
  | 0 => rfl
  | n + 1 => by
    unfold bls
    rw [List.length_append, List.length_map, List.length_map, len_bls n, Nat.pow_succ]
    omega
theorem len_flat {α β : Type} (f : α → List β) (n : Nat) : ∀ l : List α, (∀ a ∈ l, (f a).length = n) → (l.flatMap f).length = l.length * n
  | [], _ => by simp
  | a :: l, h => by
    rw [List.flatMap_cons, List.length_append, h a (List.mem_cons_self ..), len_flat f n l fun b hb => h b (List.mem_cons_of_mem _ hb), List.length_cons, Nat.succ_mul]
    omega
def uFS (C L : Nat) : List FSt := (List.range C).flatMap fun c => (bls L).map fun F => (c, F)
theorem mem_uFS {C L : Nat} {s : FSt} (h1 : s.1 < C) (h2 : s.2.length = L) : s ∈ uFS C L := List.mem_flatMap.mpr ⟨s.1, List.mem_range.mpr h1, List.mem_map.mpr ⟨s.2, mem_bls h2, rfl⟩⟩
theorem len_uFS (C L : Nat) : (uFS C L).length = C * 2 ^ L := by
  unfold uFS
  rw [len_flat _ (2 ^ L) _ (fun c _ => by rw [List.length_map, len_bls]), List.length_range]
def uStay (C L : Nat) : List Stay := (List.range C).flatMap fun c => (bls L).flatMap fun F => (List.range L).flatMap fun j => (bls L).map fun M => (c, F, j, M)
theorem mem_uStay {C L : Nat} {s : Stay} (h : SOk C L s) : s ∈ uStay C L :=
  List.mem_flatMap.mpr ⟨s.1, List.mem_range.mpr h.c, List.mem_flatMap.mpr ⟨s.2.1, mem_bls h.f, List.mem_flatMap.mpr ⟨s.2.2.1, List.mem_range.mpr h.h, List.mem_map.mpr ⟨s.2.2.2, mem_bls h.m, rfl⟩⟩⟩⟩
theorem len_uStay (C L : Nat) : (uStay C L).length = C * (2 ^ L * (L * 2 ^ L)) := by
  unfold uStay
  rw [len_flat _ (2 ^ L * (L * 2 ^ L)) _ (fun c _ => by
    rw [len_flat _ (L * 2 ^ L) _ (fun F _ => by
      rw [len_flat _ (2 ^ L) _ (fun j _ => by rw [List.length_map, len_bls]), List.length_range]), len_bls]), List.length_range]
end K48
/-! Plain: lists that grow by what is new; worklists. -/
namespace K48M
open K48G
section
variable {α : Type} [DecidableEq α]
def addNew (L : List α) (x : α) : List α := if x ∈ L then L else L ++ [x]
def addAll (L ns : List α) : List α := ns.foldl addNew L
theorem addAll_nil (L : List α) : addAll L [] = L := rfl
theorem addAll_snoc (L ns : List α) (x : α) : addAll L (ns ++ [x]) = addNew (addAll L ns) x := by
  unfold addAll
  rw [List.foldl_append]
  rfl
theorem addAll_append (L ns ms : List α) : addAll L (ns ++ ms) = addAll (addAll L ns) ms := by
  unfold addAll
  rw [List.foldl_append]
theorem mem_addNew {L : List α} {x y : α} : y ∈ addNew L x ↔ y ∈ L ∨ y = x := by
  unfold addNew
  by_cases h : x ∈ L
  · rw [if_pos h]
    constructor
    · exact .inl
    · rintro (q | rfl)
      · exact q
      · exact h
  · rw [if_neg h, List.mem_append, List.mem_singleton]
theorem nodup_addNew {L : List α} {x : α} (h : L.Nodup) : (addNew L x).Nodup := by
  unfold addNew
  by_cases q : x ∈ L
  · rw [if_pos q]
    exact h
  · rw [if_neg q]
    refine List.nodup_append.mpr ⟨h, by simp, ?_⟩
    intro a ha b hb e
    rw [List.mem_singleton.mp hb] at e
    rw [e] at ha
    exact q ha
theorem pre_addNew {L : List α} {x : α} : L <+: addNew L x := by
  unfold addNew
  split
  · exact List.prefix_rfl
  · exact List.prefix_append L [x]
theorem mem_addAll {L : List α} {y : α} : ∀ {ns : List α}, y ∈ addAll L ns ↔ y ∈ L ∨ y ∈ ns := by
  intro ns
  induction ns generalizing L with
  | nil => simp [addAll_nil]
  | cons x ns ih =>
    show y ∈ addAll (addNew L x) ns ↔ _
    rw [ih, mem_addNew, List.mem_cons]
    constructor
    · rintro ((h | h) | h)
      · exact .inl h
      · exact .inr (.inl h)
      · exact .inr (.inr h)
    · rintro (h | h | h)
      · exact .inl (.inl h)
      · exact .inl (.inr h)
      · exact .inr h
theorem nodup_addAll {L : List α} : ∀ {ns : List α}, L.Nodup → (addAll L ns).Nodup := by
  intro ns
  induction ns generalizing L with
  | nil => exact fun h => h
  | cons x ns ih => exact fun h => ih (nodup_addNew h)
theorem pre_addAll {L : List α} : ∀ {ns : List α}, L <+: addAll L ns := by
  intro ns
  induction ns generalizing L with
  | nil => exact List.prefix_rfl
  | cons x ns ih => exact pre_addNew.trans ih
theorem nodup_len_le : ∀ {l U : List α}, l.Nodup → (∀ x ∈ l, x ∈ U) → l.length ≤ U.length
  | [], _, _, _ => Nat.zero_le _
  | a :: l, U, nd, h => by
    obtain ⟨n1, n2⟩ := List.nodup_cons.mp nd
    have ha := h a List.mem_cons_self
    have ih := nodup_len_le (l := l) (U := U.erase a) n2 fun x hx => (List.mem_erase_of_ne (fun e => n1 (by rw [← e]; exact hx))).mpr (h x (List.mem_cons_of_mem _ hx))
    have h3 := List.length_erase_of_mem ha
    have h4 : 0 < U.length := List.length_pos_of_mem ha
    rw [List.length_cons]
    omega
theorem pre_get {L M : List α} {i : Nat} {x : α} (h : L <+: M) (hx : L[i]? = some x) : M[i]? = some x := by
  obtain ⟨t, rfl⟩ := h
  rw [List.getElem?_append_left (List.getElem?_eq_some_iff.mp hx).1]
  exact hx
theorem pre_len {L M : List α} (h : L <+: M) : L.length ≤ M.length := by
  obtain ⟨t, rfl⟩ := h
  rw [List.length_append]
  omega
/-- a worklist: what stands below at is worked -/
structure Work (f : α → List α) (P : α → Prop) (b : List α) (L : List α) (n : Nat) : Prop where
  nd : L.Nodup
  ok : ∀ s ∈ L, P s
  base : ∀ s ∈ b, s ∈ L
  done : ∀ i s, i < n → L[i]? = some s → ∀ t ∈ f s, t ∈ L
  le : n ≤ L.length
theorem Work.next {f : α → List α} {P : α → Prop} {b L : List α} {n : Nat} {s : α} (W : Work f P b L n) (hs : L[n]? = some s) (hP : ∀ t ∈ f s, P t) : Work f P b (addAll L (f s)) (n + 1) where
  nd := nodup_addAll W.nd
  ok := fun t ht => by
    rcases mem_addAll.mp ht with h | h
    · exact W.ok t h
    · exact hP t h
  base := fun t ht => mem_addAll.mpr (.inl (W.base t ht))
  done := fun i u hi hu t ht => by
    have hl : i < L.length := by
      have := (List.getElem?_eq_some_iff.mp hs).1
      omega
    have e := pre_get (pre_addAll (ns := f s)) (List.getElem?_eq_getElem hl)
    rw [hu] at e
    have e := Option.some.inj e
    by_cases q : i = n
    · subst q
      rw [List.getElem?_eq_getElem hl] at hs
      have : u = s := e.trans (Option.some.inj hs)
      rw [this] at ht
      exact mem_addAll.mpr (.inr ht)
    · exact mem_addAll.mpr (.inl (W.done i u (by omega) (by rw [List.getElem?_eq_getElem hl, e]) t ht))
  le := by
    have h1 := (List.getElem?_eq_some_iff.mp hs).1
    have h2 := pre_len (pre_addAll (L := L) (ns := f s))
    omega
theorem Work.all {f : α → List α} {P : α → Prop} {b L : List α} (W : Work f P b L L.length) : ∀ s ∈ L, ∀ t ∈ f s, t ∈ L := fun s hs t ht => by
  obtain ⟨i, hi⟩ := List.getElem?_of_mem hs
  exact W.done i s (List.getElem?_eq_some_iff.mp hi).1 hi t ht
end
/-! ### filled states -/
def fsucc (k : Cache) (s : Nat × List Bool) : List (Nat × List Bool) := (trues s.2).map (fun j => (hit k s.1 j, s.2)) ++ [((ctl k s.1).nxt, s.2.set (ctl k s.1).line true)]
/-- a right state -/
structure FOk (C L : Nat) (k : Cache) (s : Nat × List Bool) : Prop where
  c : s.1 < C
  f : s.2.length = L
  r : FS k L s.1 s.2
theorem FOk.step {C L : Nat} {k : Cache} (o : Ok C L k) {s : Nat × List Bool} (h : FOk C L k s) : ∀ t ∈ fsucc k s, FOk C L k t := fun t ht => by
  rcases List.mem_append.mp ht with q | q
  · obtain ⟨j, hj, rfl⟩ := List.mem_map.mp q
    have hj := mem_trues.mp hj
    have hjl : j < L := by
      rw [← h.f]
      exact (List.getElem?_eq_some_iff.mp hj).1
    exact ⟨o.hlt _ _ h.c hjl, h.f, .hit h.r hj⟩
  · rw [List.mem_singleton.mp q]
    exact ⟨o.nx _ h.c, by rw [List.length_set]; exact h.f, .miss h.r⟩
theorem FOk.zero {C L : Nat} {k : Cache} (o : Ok C L k) : FOk C L k (0, List.replicate L false) := ⟨o.c1, by simp, .zero⟩
/-- what the list of filled states tells -/
def FAll (C L : Nat) (k : Cache) (l : List (Nat × List Bool)) : Prop := l.Nodup ∧ (∀ s ∈ l, FOk C L k s) ∧ ∀ c F, FS k L c F → (c, F) ∈ l
theorem fall_of {C L : Nat} {k : Cache} {l : List (Nat × List Bool)} (W : Work (fsucc k) (FOk C L k) [(0, List.replicate L false)] l l.length) : FAll C L k l := by
  refine ⟨W.nd, W.ok, fun c F h => ?_⟩
  induction h with
  | zero => exact W.base _ (List.mem_singleton.mpr rfl)
  | @hit c F j _ hj ih => exact W.all _ ih _ (List.mem_append_left _ (List.mem_map.mpr ⟨j, mem_trues.mpr hj, rfl⟩))
  | @miss c F _ ih => exact W.all _ ih _ (List.mem_append_right _ (List.mem_singleton.mpr rfl))
/-! ### starts -/
def starts1 (k : Cache) (L : Nat) (s : Nat × List Bool) : List Stay := (trues s.2).map (fun j => (hit k s.1 j, s.2, j, List.replicate L false)) ++ [((ctl k s.1).nxt, s.2.set (ctl k s.1).line true, (ctl k s.1).line, List.replicate L false)]
theorem starts_iff {C L : Nat} {k : Cache} {l : List (Nat × List Bool)} (A : FAll C L k l) (s : Stay) : (∃ u ∈ l, s ∈ starts1 k L u) ↔ St k L s := by
  constructor
  · rintro ⟨u, hu, hs⟩
    have ok := A.2.1 u hu
    rcases List.mem_append.mp hs with q | q
    · obtain ⟨j, hj, rfl⟩ := List.mem_map.mp q
      exact .hit ok.r (mem_trues.mp hj)
    · rw [List.mem_singleton.mp q]
      exact .miss ok.r
  · intro h
    cases h with
    | @hit c F j h hj => exact ⟨(c, F), A.2.2 c F h, List.mem_append_left _ (List.mem_map.mpr ⟨j, mem_trues.mpr hj, rfl⟩)⟩
    | @miss c F h => exact ⟨(c, F), A.2.2 c F h, List.mem_append_right _ (List.mem_singleton.mpr rfl)⟩
end K48M
/-! Comprehensions item by item. -/
namespace K48
open PySem L2 Evl
section
variable {K : PySem.W.Frag} {σ : S} {H H' : Hp} {ta tb tc te tx tl : TE} {t u tt : TT} {v : V} {d e f : PyData} {ds es fs : List PyData} {g : TG}
theorem take_snoc {α : Type} {l : List α} {i : Nat} {x : α} (h : l[i]? = some x) : l.take (i + 1) = l.take i ++ [x] := by rw [List.take_add_one, h]; rfl
/-- over a tuple, each item told: any target -/
theorem evn_mapTg {vs : List Nat} (h : EvD tl σ H (.tuple ds)) (hz : ds.length ≤ 1000000) (hl : es.length = ds.length) (he : tupDs es = true)
    (hs : ∀ (i : Nat) d e v H1, ds[i]? = some d → es[i]? = some e → Ex H H1 → Rp H1 v d → ∀ Q : S → Hp → Prop, (∀ σ2, wipe σ2 vs = wipe σ vs → EvD te σ2 H1 e → Q σ2 H1) → g v (wipe σ vs) H1 Q) :
    EvN (tLc (iTup K tl) g tYes te vs) σ H es := fun H0 e0 Q q => h H0 e0 _ fun v H1 e1 r1 => by
  obtain ⟨a, o, xs, rfl, hx, hn, rs⟩ := r1.tup_inv
  refine ⟨a, rfl, ⟨xs, st_tp hx⟩, fun Dl hD => ?_⟩
  have nx : Ex H1 (L2.upd H1 Dl (.lst [])) := Ex.new hD
  refine lc_tup (xs := xs) (fun i H' => ∃ acc, H' Dl = some (.lst acc) ∧ Ex H1 H' ∧ Rps H' acc (es.take i)) ⟨[], upd_same, nx, .nil⟩ (fun i H' _ ⟨_, _, e, _⟩ => st_tp (e _ _ hx)) (fun i x H' hi ⟨acc, hd, e, r⟩ => ?_) (fun H' ⟨acc, hd, e, r⟩ => ?_)
  · obtain ⟨d, hd', rd⟩ := rs.getV hi
    have hil : i < es.length := by rw [hl]; exact (List.getElem?_eq_some_iff.mp hd').1
    have hei : es[i]? = some es[i] := List.getElem?_eq_getElem hil
    have hacc : acc.length ≤ ds.length := by
      rw [r.len, List.length_take]
      omega
    refine hs i d _ x H' hd' hei ((e0.trans e1).trans e) (rd.up e) _ fun σ2 hw hev => ⟨hw, ?_⟩
    show te σ2 H' _
    refine hev H' (Ex.refl _) _ fun y H4 e4 r4 => ⟨acc, e4 _ _ hd, by rw [sizeLine_eq]; omega, _, upd_same, Ex.mut (e.trans e4) hD, ?_⟩
    have tk := Tk.upd (o := .lst (acc ++ [y])) (e4 _ _ hd)
    rw [take_snoc hei]
    refine Rps.append (Rps.tk tk _ (tupDs_iff.mpr fun z hz' => tupDs_iff.mp he z (List.mem_of_mem_take hz')) (r.up e4)) (.cons (Rp.tk tk _ (tupDs_iff.mp he _ (List.mem_of_getElem? hei)) r4) .nil)
  · rw [rs.len, ← hl, List.take_length] at r
    exact q Dl acc H' (fresh_back e1 hD) (e1.trans e) hd r
/-- over a list -/
theorem evn_mapLg {vs : List Nat} (h : EvD tl σ H (.list ds)) (hz : ds.length ≤ 1000000) (hl : es.length = ds.length) (he : tupDs es = true)
    (hs : ∀ (i : Nat) d e v H1, ds[i]? = some d → es[i]? = some e → Ex H H1 → Rp H1 v d → ∀ Q : S → Hp → Prop, (∀ σ2, wipe σ2 vs = wipe σ vs → EvD te σ2 H1 e → Q σ2 H1) → g v (wipe σ vs) H1 Q) :
    EvN (tLc (iList K tl) g tYes te vs) σ H es := fun H0 e0 Q q => h H0 e0 _ fun v H1 e1 r1 => by
  obtain ⟨a, xs, rfl, hx, rs⟩ := r1.lst_inv
  refine ⟨a, rfl, ⟨xs, sq_of hx⟩, fun Dl hD => ?_⟩
  have nx : Ex H1 (L2.upd H1 Dl (.lst [])) := Ex.new hD
  refine lc_list (xs := xs) (fun i H' => ∃ acc, H' Dl = some (.lst acc) ∧ Ex H1 H' ∧ Rps H' acc (es.take i)) ⟨[], upd_same, nx, .nil⟩ (fun i H' _ ⟨_, _, e, _⟩ => sq_of (e _ _ hx)) (fun i x H' hi ⟨acc, hd, e, r⟩ => ?_) (fun H' ⟨acc, hd, e, r⟩ => ?_)
  · obtain ⟨d, hd', rd⟩ := rs.getV hi
    have hil : i < es.length := by rw [hl]; exact (List.getElem?_eq_some_iff.mp hd').1
    have hei : es[i]? = some es[i] := List.getElem?_eq_getElem hil
    have hacc : acc.length ≤ ds.length := by
      rw [r.len, List.length_take]
      omega
    refine hs i d _ x H' hd' hei ((e0.trans e1).trans e) (rd.up e) _ fun σ2 hw hev => ⟨hw, ?_⟩
    show te σ2 H' _
    refine hev H' (Ex.refl _) _ fun y H4 e4 r4 => ⟨acc, e4 _ _ hd, by rw [sizeLine_eq]; omega, _, upd_same, Ex.mut (e.trans e4) hD, ?_⟩
    have tk := Tk.upd (o := .lst (acc ++ [y])) (e4 _ _ hd)
    rw [take_snoc hei]
    refine Rps.append (Rps.tk tk _ (tupDs_iff.mpr fun z hz' => tupDs_iff.mp he z (List.mem_of_mem_take hz')) (r.up e4)) (.cons (Rp.tk tk _ (tupDs_iff.mp he _ (List.mem_of_getElem? hei)) r4) .nil)
  · rw [rs.len, ← hl, List.take_length] at r
    exact q Dl acc H' (fresh_back e1 hD) (e1.trans e) hd r
/-- [g(a) for a in (enc a ..)] -/
theorem evn_mapTe {α : Type} {vs : List Nat} {j : Nat} (l : List α) (enc gg : α → PyData) (h : EvD tl σ H (.tuple (l.map enc))) (hz : l.length ≤ 1000000) (hg : ∀ a ∈ l, tupD (gg a) = true) (hw : ∀ x, wipe ((wipe σ vs).set j (some x)) vs = wipe σ vs)
    (hs : ∀ a v H1, a ∈ l → Ex H H1 → Rp H1 v (enc a) → EvD te ((wipe σ vs).set j (some v)) H1 (gg a)) : EvN (tLc (iTup K tl) (gName j) tYes te vs) σ H (l.map gg) :=
  evn_mapTg h (by rw [List.length_map]; exact hz) (by rw [List.length_map, List.length_map]) (by
    rw [tupDs_iff]
    intro d hd
    obtain ⟨a, ha, rfl⟩ := List.mem_map.mp hd
    exact hg a ha) fun i d e v H1 hd he ex r Q q => by
    rw [List.getElem?_map] at hd he
    obtain ⟨a, ha, rfl⟩ := Option.map_eq_some_iff.mp hd
    rw [ha] at he
    have he : some (gg a) = some e := he
    cases he
    exact q _ (hw v) (hs a v H1 (List.mem_of_getElem? ha) ex r)
theorem evn_mapLe {α : Type} {vs : List Nat} {j : Nat} (l : List α) (enc gg : α → PyData) (h : EvD tl σ H (.list (l.map enc))) (hz : l.length ≤ 1000000) (hg : ∀ a ∈ l, tupD (gg a) = true) (hw : ∀ x, wipe ((wipe σ vs).set j (some x)) vs = wipe σ vs)
    (hs : ∀ a v H1, a ∈ l → Ex H H1 → Rp H1 v (enc a) → EvD te ((wipe σ vs).set j (some v)) H1 (gg a)) : EvN (tLc (iList K tl) (gName j) tYes te vs) σ H (l.map gg) :=
  evn_mapLg h (by rw [List.length_map]; exact hz) (by rw [List.length_map, List.length_map]) (by
    rw [tupDs_iff]
    intro d hd
    obtain ⟨a, ha, rfl⟩ := List.mem_map.mp hd
    exact hg a ha) fun i d e v H1 hd he ex r Q q => by
    rw [List.getElem?_map] at hd he
    obtain ⟨a, ha, rfl⟩ := Option.map_eq_some_iff.mp hd
    rw [ha] at he
    have he : some (gg a) = some e := he
    cases he
    exact q _ (hw v) (hs a v H1 (List.mem_of_getElem? ha) ex r)
end
end K48
/-! filled_states, stay_starts, all_stays. -/
namespace K48
open PySem L2 Evl K48M
theorem u65 {k : Nat} {A : Around} (r : Room k A) : A.units + 65 < cLine := by
  have := r.un
  omega
theorem u64 {k : Nat} {A : Around} (r : Room k A) : A.units + 64 < cLine := by
  have := r.un
  omega
section
variable {K : PySem.W.Frag} {σ : S} {H : Hp} {ta tb tc te : TE} {d : PyData} {ds : List PyData} {D : Ends}
theorem d_parN {i j : Nat} (h : EvN ta σ H ds) (h2 : EvD tb σ H d) (k : ∀ p xs v H1, H p = none → Ex H H1 → H1 p = some (.lst xs) → Rps H1 xs ds → Rp H1 v d → D.nx ((σ.set i (some (.ref p))).set j (some v)) H1) : tPar i j (tCons ta (tCons tb tNil)) D σ H :=
  h H (Ex.refl H) _ fun p xs H1 hp e1 h1 r1 => h2 H1 e1 _ fun v H2 e2 r2 => ⟨.ref p, v, rfl, k p xs v H2 hp (e1.trans e2) (e2 _ _ h1) (r1.up e2) r2⟩
theorem d_parM {i j : Nat} {R : List PyData → Prop} (h : EvM ta σ H R) (h2 : EvD tb σ H d) (k : ∀ p xs es v H1, H p = none → Ex H H1 → H1 p = some (.lst xs) → Rps H1 xs es → R es → Rp H1 v d → D.nx ((σ.set i (some (.ref p))).set j (some v)) H1) : tPar i j (tCons ta (tCons tb tNil)) D σ H :=
  h H (Ex.refl H) _ fun p xs es H1 hp e1 h1 r1 he => h2 H1 e1 _ fun v H2 e2 r2 => ⟨.ref p, v, rfl, k p xs es v H2 hp (e1.trans e2) (e2 _ _ h1) (r1.up e2) he r2⟩
end
section
variable {P : Program} {w : World} {K : PySem.W.Frag} {mg : Str → Option Value} {base : Heap}
def Rfill (C L : Nat) (ds : List PyData) (Post : List PyData → Prop) : Prop := ∃ k, ds = [dCache k] ∧ Ok C L k ∧ C ≤ 4 ∧ L ≤ 3 ∧ Post = fun es => ∃ l, es = l.map dFS ∧ FAll C L k l
theorem ok_filled_states {C L : Nat} {f : Addr} {fd : FuncData} (F : Fun K "filled_states" "filled_states" s_filled_states f fd) (T : Mg mg) : FnOk P w K mg base CX0 1 f fd ["cache"] (spM (Rfill C L)) := by
  refine F.ok sc_filled_states (fun vs H Q E h => spM_len h fun ds d ⟨k, e, _⟩ => by rw [e]; rfl) (fun cdv A outer sh H vs Q E hr h => ?_)
  obtain ⟨ds, Post, r, ⟨k, rfl, o, hC, hL, rfl⟩, q⟩ := h
  cases r with
  | cons r1 r =>
  cases r
  have hun := hr.un
  refine ⟨_, pss_cons (ps_par (by rfl) sc_filled_states.nd (i := 1) (j := 2) rfl rfl (by decide) rfl rfl (pa_cons (pe_lst (pa_cons (pe_tupP (pa_cons pe_int (pa_cons (pe_tupP pa_nil) pa_nil))) pa_nil)) (pa_cons pe_int pa_nil)) (by rfl))
    (pss_cons (ps_while PassesOwn.never (pt_cmpR op_lt (pv 2) (pe_callB call_len_seq (by rfl) T.len (by decide +kernel) (pa_cons (pv 1) pa_nil)) (nomark _))
      (pss_cons (ps_asg (pe_ix ix_list (pv 1) (pv 2) (fun _ _ => rfl)) (pg_tup rfl (pgs_cons (pg_name (i := 3) sc_filled_states.nd rfl (.inl rfl)) (pgs_cons (pg_name (i := 4) sc_filled_states.nd rfl (.inr rfl)) pgs_nil))))
      (pss_cons (ps_asg (pe_ix ix_tup (pv 0) (pv 3) (fun _ _ => rfl)) (pg_tup rfl (pgs_cons (pg_name (i := 5) sc_filled_states.nd rfl (.inr rfl)) (pgs_cons (pg_name (i := 6) sc_filled_states.nd rfl (.inl rfl)) (pgs_cons (pg_name (i := 7) sc_filled_states.nd rfl (.inl rfl)) pgs_nil)))))
      (pss_cons (ps_set (i := 9) sc_filled_states.nd rfl (.inl rfl) (pe_op op_cat
        (pe_lc (own := [("one", 8)]) (g := gName 8) (tt := tYes) rfl sc_filled_states.nd (pi_tup (pv 4)) (blkOk_by (N := N_filled_states) (sc := defScope s_filled_states) (by decide +kernel)) (fun _ _ _ _ _ => pg_name (i := 8) sc_filled_states.nd rfl (Or.inl rfl)) (fun _ _ _ _ _ => pts_nil)
          (fun _ _ _ _ _ => pe_tupP (pa_cons (pe_ix (r := rIxT K) ix_tup (pv 5) (pv 8) (fun _ _ => rfl)) (pa_cons (pv 4) pa_nil))))
        (pe_lst (pa_cons (pe_tupP (pa_cons (pv 7) (pa_cons (pe_callTy call_tupleP (by rfl) T.tuple (by decide +kernel) (pa_cons (pe_callB (cr_sortSetO rfl) (by rfl) T.sorted (by decide +kernel) (pa_cons (pe_callTy (cr_setTI rfl) (by rfl) T.set (by decide +kernel) (pa_cons (pe_op op_catP (pv 4) (pe_tupP (pa_cons (pv 6) pa_nil))) pa_nil)) pa_nil)) pa_nil)) pa_nil))) pa_nil))))
      (pss_cons (ps_for PassesOwn.never rfl (pi_list (pv 9)) (pg_name (i := 8) sc_filled_states.nd rfl (.inl rfl))
        (pss_one (ps_if (pt_cmpR (op_notInD (u65 hr)) (pv 8) (pv 1) (by rfl)) (pss_one (ps_expr (pe_bm PySem.F.plainAttrs_list PySem.F.slot_list_append PySem.F.type_list_append mt_append (pv 1) (pa_cons (pv 8) pa_nil)))) pss_nil)))
      (pss_one (ps_aug (i := 2) sc_filled_states.nd rfl (.inl rfl) pe_int ip_add)))))))
    (pss_one (ps_ret (pv 1)))), ?_⟩
  refine d_seq (d_parN (ds := [dFS (0, List.replicate L false)]) (evn_lst (evds_cons (evd_tup (evds_cons (d := dI 0) evd_int (evds_cons (d := dNs (trues (List.replicate L false))) ?e0 evds_nil))) evds_nil)) evd_int fun l xs0 v2 H2 nl e2 hl rl rv2 => ?_)
  case e0 =>
    have : trues (List.replicate L false) = [] := by
      refine List.eq_nil_iff_forall_not_mem.mpr fun j hj => ?_
      have := mem_trues.mp hj
      rw [List.getElem?_replicate] at this
      split at this <;> cases this
    rw [this]
    exact evd_tup evds_nil
  have ev2 := rv2.int_inv
  subst ev2
  have N4 : (uFS C L).length ≤ 1000 := by
    rw [len_uFS]
    have : 2 ^ L ≤ 2 ^ 3 := Nat.pow_le_pow_right (by decide) hL
    have : C * 2 ^ L ≤ 4 * 2 ^ 3 := Nat.mul_le_mul hC this
    omega
  have bound : ∀ {b : List FSt} {M : List FSt} {n : Nat}, Work (fsucc k) (FOk C L k) b M n → M.length ≤ (uFS C L).length := fun W => nodup_len_le W.nd fun s hs => mem_uFS (W.ok s hs).c (W.ok s hs).f
  refine d_seq (d_while (fun m σ' H' => ∃ M at_ acc a3 a4 a5 a6 a7 a8 a9, σ' = [some _, some (.ref l), some (.int (at_ : Nat)), a3, a4, a5, a6, a7, a8, a9] ∧ But [l] H2 H' ∧ H' l = some (.lst acc) ∧ Rps H' acc (M.map dFS) ∧ Work (fsucc k) (FOk C L k) [(0, List.replicate L false)] M at_ ∧ m = (uFS C L).length - at_) _
    ⟨[(0, List.replicate L false)], 0, xs0, none, none, none, none, none, none, none, rfl, But.refl, hl, rl, ⟨by simp, fun s hs => by rw [List.mem_singleton.mp hs]; exact FOk.zero o, fun s hs => hs, fun i s hi => absurd hi (Nat.not_lt_zero _), Nat.zero_le _⟩, rfl⟩ fun m σ' H' ⟨M, at_, acc, a3, a4, a5, a6, a7, a8, a9, es, b, hlH, rac, W, hm⟩ => ?_)
  subst es
  have hlf := hl
  have tk := b.tk (noT_one hl)
  have rc : Rp H' _ (dCache k) := Rp.tk tk _ (tupD_Cache k) (r1.up e2)
  have rlist : Rp H' (.ref l) (.list (M.map dFS)) := .lst hlH rac
  have hMl := bound W
  refine ⟨decide (at_ < M.length), evt_test ((evd_lt (evd_var rfl (.int _)) (evd_lenL (evd_var rfl rlist))).is ?_), fun hb H3 e3 => ?_, fun hb H3 e3 => ?_⟩
  · rw [List.length_map]
    congr 1
    exact decide_eq_decide.mpr (by omega)
  · have hat : at_ < M.length := of_decide_eq_true hb
    have hs : M[at_]? = some M[at_] := List.getElem?_eq_getElem hat
    generalize M[at_] = s at hs
    obtain ⟨c, FF⟩ := s
    have ok := W.ok _ (List.mem_of_getElem? hs)
    refine ⟨_, fun _ _ z => z, ?_⟩
    have hl3 := e3 _ _ hlH
    refine d_seq (d_asgG (evd_ixL (d := dFS (c, FF)) (evd_var rfl (rlist.up e3)) (evd_var rfl (.int _)) (atI_map hs)) fun v H4 e4 rv => ?_)
    refine g_two rv fun v3 v4 h3 h4 => ?_
    refine d_seq (d_asgG (evd_ixT (evd_var rfl ((rc.up e3).up e4)) (evd_var rfl h3) (atI_map (ctl_get o ok.c))) fun v5' H5 e5 rv5 => ?_)
    refine g_three rv5 fun v5 v6 v7 h5 h6 h7 => ?_
    have h4' := h4.up e5
    have hFl : FF.length = L := ok.f
    have htl := trues_len FF
    refine d_seq (d_asgN (ds := (fsucc k (c, FF)).map dFS) ((evn_catL (ds := (trues FF).map fun j => dFS (hit k c j, FF)) (es := [dFS ((ctl k c).nxt, FF.set (ctl k c).line true)]) (EvN.toD (evn_mapTe (vs := [8]) (trues FF) dI (fun j => dFS (hit k c j, FF)) (evd_var rfl h4') (by omega) (fun j _ => tupD_FS _) (fun _ => rfl) (fun j v H6 hj e6 rd =>
        evd_tup (evds_cons (evd_ixT (evd_var rfl (h5.up e6)) (evd_var rfl rd) (atI_map (hit_get o ok.c (by
          rw [← hFl]
          exact (List.getElem?_eq_some_iff.mp (mem_trues.mp hj)).1)))) (evds_cons (evd_var rfl (h4'.up e6)) evds_nil)))))
      (evn_lst (evds_cons (evd_tup (evds_cons (evd_var rfl h7) (evds_cons (evd_ins (F := FF) (j := (ctl k c).line) (evd_var rfl h4') (evd_var rfl h6) (by rw [hFl]; exact o.lin c ok.c) (by omega)) evds_nil))) evds_nil)).toD (by
        rw [List.length_map]
        show _ + 1 ≤ _
        omega)).is ?z8) fun q9 xs9 H6 hq9 e6 hx9 r9 => ?_)
    case z8 =>
      unfold fsucc
      rw [List.map_append, List.map_map]
      rfl
    -- for one in nexts
    have ql : q9 ≠ l := fun z => by
      have := e5 _ _ (e4 _ _ hl3)
      rw [← z, hq9] at this
      cases this
    have hl6 := e6 _ _ (e5 _ _ (e4 _ _ hl3))
    have r36 := ((rac.up e3).up e4).up (e5.trans e6)
    have hFS : ∀ {b : List FSt} {M : List FSt} {n : Nat}, Work (fsucc k) (FOk C L k) b M n → ∀ s ∈ M, s.2.length = L := fun W s hs => (W.ok s hs).f
    have W' := W.next hs (FOk.step o ok)
    have hM2 := bound W'
    have hsub : ∀ i, ∀ s ∈ addAll M ((fsucc k (c, FF)).take i), s ∈ addAll M (fsucc k (c, FF)) := fun i s hs => by
      rcases mem_addAll.mp hs with h | h
      · exact mem_addAll.mpr (.inl h)
      · exact mem_addAll.mpr (.inr (List.mem_of_mem_take h))
    refine d_seq (d_forL (ev_slot rfl) hx9 (fun i σ' H' => ∃ a8 acc, σ' = [some _, some (.ref l), some _, some v3, some v4, some v5, some v6, some v7, a8, some (.ref q9)] ∧ But [l] H6 H' ∧ H' l = some (.lst acc) ∧ Rps H' acc ((addAll M ((fsucc k (c, FF)).take i)).map dFS))
      (fun H7 e7 => ⟨a8, acc, rfl, But.ex e7, e7 _ _ hl6, by rw [List.take_zero]; exact r36.up e7⟩) (fun i σ' H' ⟨_, _, _, b7, _, _⟩ => b7.go (by rw [List.mem_singleton]; exact ql) hx9) (fun i y σ' H' hi ⟨a8', acc', es, b7, hl7, r7⟩ => ?_) (fun σ' H' ⟨a8', acc', es, b7, hl7, r7⟩ => ?_))
    · subst es
      obtain ⟨d, hd, rd⟩ := r9.getV hi
      rw [List.getElem?_map] at hd
      obtain ⟨t, ht, rfl⟩ := Option.map_eq_some_iff.mp hd
      have tk7 := b7.tk (noT_one hl6)
      have ry : Rp H' y (dFS t) := Rp.tk tk7 _ (tupD_FS t) rd
      have htf : t.2.length = L := (FOk.step o ok t (List.mem_of_getElem? ht)).f
      have hall : ∀ s ∈ addAll M ((fsucc k (c, FF)).take i), s.2.length = L := fun s hs' => (W'.ok s (hsub i s hs')).f
      have hlen7 : acc'.length ≤ 1000 := by
        rw [r7.len, List.length_map]
        exact Nat.le_trans (nodup_len_le (nodup_addAll W.nd) (hsub i)) (Nat.le_trans hM2 N4)
      rw [take_snoc ht, addAll_snoc]
      refine d_when (b := decide (t ∉ addAll M ((fsucc k (c, FF)).take i))) (evt_test ((evd_niD (evd_var rfl ry) (evd_var rfl (.lst hl7 r7)) (shp_FS t).shaped (shp_lst (shp_map shp_FS _)).shaped).is ?_)) (fun hb H8 e8 => ?_) (fun hb H8 e8 => ?_)
      · rw [any_map fun a ha => eqv_FS ((hall a ha).trans htf.symm), decide_not]
        exact congrArg (fun b => PyData.bool (!b)) (decide_eq_decide.mpr Iff.rfl)
      · have hn : t ∉ addAll M ((fsucc k (c, FF)).take i) := of_decide_eq_true hb
        refine d_app (e8 _ _ hl7) (ev_slot rfl) (evd_var rfl (ry.up e8)) (by omega) fun v' H9 e9 r9' => ?_
        have hl9 := e9 _ _ (e8 _ _ hl7)
        refine ⟨_, _, rfl, (b7.trans (But.ex (e8.trans e9))).trans (But.upd (List.mem_singleton.mpr rfl)), upd_same, ?_⟩
        unfold addNew
        rw [if_neg hn, List.map_append]
        exact Rps.append (Rps.tk (Tk.upd hl9) _ (tupDs_map tupD_FS _) ((r7.up e8).up e9)) (.cons (Rp.tk (Tk.upd hl9) _ (tupD_FS t) r9') .nil)
      · have hn : t ∈ addAll M ((fsucc k (c, FF)).take i) := Classical.not_not.mp (of_decide_eq_false hb)
        refine ⟨_, _, rfl, b7.trans (But.ex e8), e8 _ _ hl7, ?_⟩
        unfold addNew
        rw [if_pos hn]
        exact r7.up e8
    · subst es
      have hx : xs9.length = (fsucc k (c, FF)).length := by rw [r9.len, List.length_map]
      rw [hx, List.take_length] at r7
      refine d_aug rfl evd_int fun H8 e8 => ?_
      have hb8 : But [l] H2 H8 := ((b.trans (But.ex (e3.trans (e4.trans (e5.trans e6))))).trans b7).trans (But.ex e8)
      refine ⟨(uFS C L).length - (at_ + 1), by omega, addAll M (fsucc k (c, FF)), at_ + 1, acc', some v3, some v4, some v5, some v6, some v7, a8', some (.ref q9), ?_, hb8, e8 _ _ hl7, r7.up e8, W', rfl⟩
      have : ((at_ : Int) + 1) = ((at_ + 1 : Nat) : Int) := by omega
      rw [← this]
      rfl
  · have hat : at_ = M.length := by
      have := of_decide_eq_false hb
      have := W.le
      omega
    subst hat
    exact ⟨.ref l, rfl, q l acc _ H3 nl (e2.trans_but (b.trans (But.ex e3)) nl) (e3 _ _ hlH) (rac.up e3) ⟨M, rfl, fall_of W⟩⟩
end
end K48
/-! stay_starts, all_stays. -/
namespace K48
open PySem L2 Evl K48M
section
variable {K : PySem.W.Frag} {σ : S} {H : Hp} {tl : TE} {g : TG} {tu : TS} {D : Ends}
theorem d_forM {R : List PyData → Prop} (h : EvM tl σ H R) (k : ∀ p xs ds H1, H p = none → Ex H H1 → H1 p = some (.lst xs) → Rps H1 xs ds → R ds → ∃ Pv : Nat → S → Hp → Prop, Pv 0 σ H1 ∧ (∀ i σ' H', Pv i σ' H' → H' p = some (.lst xs)) ∧
    (∀ i v σ' H', xs[i]? = some v → Pv i σ' H' → g v σ' H' fun σ2 H2 => tu { D with nx := Pv (i + 1), ct := Pv (i + 1), bk := D.nx } σ2 H2) ∧ ∀ σ' H', Pv xs.length σ' H' → D.nx σ' H') : tFor (iList K tl) g tu D σ H :=
  h H (Ex.refl H) _ fun p xs ds H1 hp e h1 r hR => by
    obtain ⟨Pv, h0, hl, hs, hd⟩ := k p xs ds H1 hp e h1 r hR
    exact ⟨p, rfl, ⟨xs, sq_of h1⟩, for_list (xs := xs) Pv h0 (fun i σ' H' _ q => sq_of (hl i σ' H' q)) (fun i x σ' H' hx q => hs i x σ' H' hx q) hd⟩
theorem d_retM {te : TE} {R : List PyData → Prop} (h : EvM te σ H R) (k : ∀ p xs ds H1, H p = none → Ex H H1 → H1 p = some (.lst xs) → Rps H1 xs ds → R ds → D.rt (.ref p) H1) : tRet te D σ H := h H (Ex.refl H) _ k
end
/-- the stays of a list of data -/
theorem stays_of {es ds : List PyData} {l : List Stay} (he : ∀ d, d ∈ es ↔ d ∈ ds) (hd : ds = l.map dStay) : ∃ m : List Stay, es = m.map dStay ∧ ∀ s ∈ m, s ∈ l := by
  have key : ∀ es : List PyData, (∀ d ∈ es, d ∈ l.map dStay) → ∃ m : List Stay, es = m.map dStay ∧ ∀ s ∈ m, s ∈ l := by
    intro es
    induction es with
    | nil => intro _; exact ⟨[], rfl, fun s hs => by cases hs⟩
    | cons d es ih =>
      intro h
      obtain ⟨m, e, hm⟩ := ih fun x hx => h x (List.mem_cons_of_mem _ hx)
      obtain ⟨s, hs, rfl⟩ := List.mem_map.mp (h d (List.mem_cons_self ..))
      refine ⟨s :: m, by rw [e]; rfl, fun t ht => ?_⟩
      rcases List.mem_cons.mp ht with rfl | ht
      · exact hs
      · exact hm t ht
  exact key es fun d hd' => by rw [← hd]; exact (he d).mp hd'
theorem St.ok {C L : Nat} {k : Cache} (o : Ok C L k) {l : List FSt} (A : FAll C L k l) {s : Stay} (h : K48M.St k L s) : SOk C L s := by
  cases h with
  | @hit c F j h hj =>
    have ok := A.2.1 _ (A.2.2 c F h)
    have hjl : j < L := by
      rw [← ok.f]
      exact (List.getElem?_eq_some_iff.mp hj).1
    exact ⟨o.hlt _ _ ok.c hjl, ok.f, hjl, by simp⟩
  | @miss c F h =>
    have ok := A.2.1 _ (A.2.2 c F h)
    exact ⟨o.nx _ ok.c, by rw [List.length_set]; exact ok.f, o.lin _ ok.c, by simp⟩
theorem dStay_inj {C L : Nat} {s t : Stay} (a : SOk C L s) (b : SOk C L t) (h : dStay s = dStay t) : s = t := by
  have := congrArg nk h
  rw [nk_Stay, nk_Stay] at this
  exact kStay_inj (a.f.trans b.f.symm) (a.m.trans b.m.symm) this
/-- keys of starts -/
def uFJ (L : Nat) : List (List Bool × Nat) := (bls L).flatMap fun F => (trues F).map fun j => (F, j)
def uKey (C L : Nat) : List NestedKey := (List.range C).flatMap fun c => (uFJ L).map fun p => kStay (c, p.1, p.2, List.replicate L false)
theorem len_uKey {C L : Nat} (hC : C ≤ 4) (hL : L ≤ 3) : (uKey C L).length ≤ 62 := by
  unfold uKey
  rw [len_flat _ (uFJ L).length _ (fun c _ => by rw [List.length_map]), List.length_range]
  have h : (uFJ L).length ≤ 12 := by
    match L, hL with
    | 0, _ => decide
    | 1, _ => decide
    | 2, _ => decide
    | 3, _ => decide
    | n + 4, h => omega
  have := Nat.mul_le_mul hC h
  omega
theorem St.held {k : Cache} {L : Nat} {C : Nat} (o : Ok C L k) {l : List FSt} (A : FAll C L k l) {s : Stay} (h : K48M.St k L s) : s.2.1[s.2.2.1]? = some true ∧ s.2.2.2 = List.replicate L false := by
  cases h with
  | @hit c F j h hj => exact ⟨hj, rfl⟩
  | @miss c F h =>
    have ok := A.2.1 _ (A.2.2 c F h)
    refine ⟨?_, rfl⟩
    show (F.set (ctl k c).line true)[(ctl k c).line]? = some true
    rw [List.getElem?_set_self]
    rw [ok.f]
    exact o.lin _ ok.c
theorem mem_uKey {k : Cache} {L : Nat} {C : Nat} (o : Ok C L k) {l : List FSt} (A : FAll C L k l) {s : Stay} (h : K48M.St k L s) : kStay s ∈ uKey C L := by
  have ok := St.ok o A h
  obtain ⟨h1, h2⟩ := St.held o A h
  refine List.mem_flatMap.mpr ⟨s.1, List.mem_range.mpr ok.c, List.mem_map.mpr ⟨(s.2.1, s.2.2.1), List.mem_flatMap.mpr ⟨s.2.1, mem_bls ok.f, List.mem_map.mpr ⟨s.2.2.1, mem_trues.mpr h1, rfl⟩⟩, ?_⟩⟩
  rw [← h2]
theorem trues_rep (L : Nat) : trues (List.replicate L false) = [] := by
  refine List.eq_nil_iff_forall_not_mem.mpr fun j hj => ?_
  have := mem_trues.mp hj
  rw [List.getElem?_replicate] at this
  split at this <;> cases this
section
variable {P : Program} {w : World} {K : PySem.W.Frag} {mg : Str → Option Value} {base : Heap}
def Rstarts (C L : Nat) (ds : List PyData) (Post : List PyData → Prop) : Prop := ∃ k, ds = [dCache k] ∧ Ok C L k ∧ C ≤ 4 ∧ L ≤ 3 ∧ Post = fun es => ∃ l : List Stay, es = l.map dStay ∧ l.Nodup ∧ ∀ s, s ∈ l ↔ K48M.St k L s
theorem ok_stay_starts {C L : Nat} {f : Addr} {fd : FuncData} (F : Fun K "stay_starts" "stay_starts" s_stay_starts f fd) (T : Mg mg) (c1 : Cal P w K mg base CX0 1 "filled_states" ["cache"] (spM (Rfill C L))) : FnOk P w K mg base CX0 2 f fd ["cache"] (spM (Rstarts C L)) := by
  refine F.ok sc_stay_starts (fun vs H Q E h => spM_len h fun ds d ⟨k, e, _⟩ => by rw [e]; rfl) (fun cdv A outer sh H vs Q E hr h => ?_)
  obtain ⟨ds, Post, r, ⟨k, rfl, o, hC, hL, rfl⟩, q⟩ := h
  cases r with
  | cons r1 r =>
  cases r
  refine ⟨_, pss_cons (ps_set (i := 1) sc_stay_starts.nd rfl (.inl rfl) (pe_lst pa_nil))
    (pss_cons (ps_for PassesOwn.never rfl (pi_list (pe_cal c1 hr (by decide) (by rfl) (pa_cons (pv 0) pa_nil))) (pg_tup rfl (pgs_cons (pg_name (i := 2) sc_stay_starts.nd rfl (.inl rfl)) (pgs_cons (pg_name (i := 3) sc_stay_starts.nd rfl (.inr rfl)) pgs_nil)))
      (pss_cons (ps_asg (pe_ix ix_tup (pv 0) (pv 2) (fun _ _ => rfl)) (pg_tup rfl (pgs_cons (pg_name (i := 4) sc_stay_starts.nd rfl (.inr rfl)) (pgs_cons (pg_name (i := 5) sc_stay_starts.nd rfl (.inl rfl)) (pgs_cons (pg_name (i := 6) sc_stay_starts.nd rfl (.inl rfl)) pgs_nil)))))
      (pss_cons (ps_expr (pe_bm PySem.F.plainAttrs_list PySem.F.slot_list_extend PySem.F.type_list_extend mt_extend (pv 1) (pa_cons
        (pe_lc (own := [("one", 7)]) (g := gName 7) (tt := tYes) rfl sc_stay_starts.nd (pi_tup (pv 3)) (blkOk_by (N := N_stay_starts) (sc := defScope s_stay_starts) (by decide +kernel)) (fun _ _ _ _ _ => pg_name (i := 7) sc_stay_starts.nd rfl (Or.inl rfl)) (fun _ _ _ _ _ => pts_nil)
          (fun _ _ _ _ _ => pe_tupP (pa_cons (pe_ix (r := rIxT K) ix_tup (pv 4) (pv 7) (fun _ _ => rfl)) (pa_cons (pv 3) (pa_cons (pv 7) (pa_cons (pe_tupP pa_nil) pa_nil)))))) pa_nil)))
      (pss_one (ps_expr (pe_bm PySem.F.plainAttrs_list PySem.F.slot_list_append PySem.F.type_list_append mt_append (pv 1) (pa_cons
        (pe_tupP (pa_cons (pv 6) (pa_cons (pe_callTy call_tupleP (by rfl) T.tuple (by decide +kernel) (pa_cons (pe_callB (cr_sortSetO rfl) (by rfl) T.sorted (by decide +kernel) (pa_cons (pe_callTy (cr_setTI rfl) (by rfl) T.set (by decide +kernel) (pa_cons (pe_op op_catP (pv 3) (pe_tupP (pa_cons (pv 5) pa_nil))) pa_nil)) pa_nil)) pa_nil)) (pa_cons (pv 5) (pa_cons (pe_tupP pa_nil) pa_nil))))) pa_nil)))))))
    (pss_one (ps_ret (pe_callB (cr_sortN rfl (u64 hr)) (by rfl) T.sorted (by decide +kernel) (pa_cons (pe_callTy (cr_setN rfl (u64 hr)) (by rfl) T.set (by decide +kernel) (pa_cons (pv 1) pa_nil)) pa_nil))))), ?_⟩
  refine d_seq (d_asgN (evn_lst evds_nil) fun l xs0 H1 nl e1 hl rl => ?_)
  cases rl
  refine d_seq (d_forM (evm_call (evds_cons (evd_var rfl (r1.up e1)) evds_nil) ⟨k, rfl, o, hC, hL, rfl⟩) fun p xs ds H2 hp e2 hx rx ⟨fl, efl, A⟩ => ?_)
  subst efl
  have hlf := e2 _ _ hl
  have pl : p ≠ l := fun z => by
    rw [z, hl] at hp
    cases hp
  have fl4 : fl.length ≤ 32 := by
    refine Nat.le_trans (nodup_len_le A.1 fun s hs => mem_uFS (A.2.1 s hs).c (A.2.1 s hs).f) ?_
    rw [len_uFS]
    have : 2 ^ L ≤ 2 ^ 3 := Nat.pow_le_pow_right (by decide) hL
    have : C * 2 ^ L ≤ 4 * 2 ^ 3 := Nat.mul_le_mul hC this
    omega
  have len4 : ∀ i, ((fl.take i).flatMap (starts1 k L)).length ≤ 32 * 4 := fun i => by
    have key : ∀ l : List FSt, (∀ s ∈ l, s.2.length = L) → (l.flatMap (starts1 k L)).length ≤ l.length * 4 := by
      intro l
      induction l with
      | nil => intro _; simp
      | cons s l ih =>
        intro h
        rw [List.flatMap_cons, List.length_append, List.length_cons, Nat.succ_mul]
        have h1 := ih fun t ht => h t (List.mem_cons_of_mem _ ht)
        have h2 : (starts1 k L s).length ≤ 4 := by
          unfold starts1
          rw [List.length_append, List.length_map]
          have := trues_len s.2
          rw [h s (List.mem_cons_self ..)] at this
          show _ + 1 ≤ 4
          omega
        omega
    have h1 := key (fl.take i) fun s hs => (A.2.1 s (List.mem_of_mem_take hs)).f
    have h2 : (fl.take i).length ≤ 32 := Nat.le_trans (List.length_take_le' _ _) fl4
    omega
  refine ⟨fun i σ' H' => ∃ acc a2 a3 a4 a5 a6, σ' = [some _, some (.ref l), a2, a3, a4, a5, a6, none] ∧ But [l] H2 H' ∧ H' l = some (.lst acc) ∧ Rps H' acc (((fl.take i).flatMap (starts1 k L)).map dStay),
    ⟨[], none, none, none, none, none, rfl, But.refl, hlf, by rw [List.take_zero]; exact .nil⟩, fun i σ' H' ⟨_, _, _, _, _, _, _, b, _, _⟩ => b.go (by rw [List.mem_singleton]; exact pl) hx, fun i v σ' H' hi ⟨acc, a2, a3, a4, a5, a6, es, b, hlH, rac⟩ => ?_, fun σ' H' ⟨acc, a2, a3, a4, a5, a6, es, b, hlH, rac⟩ => ?_⟩
  · subst es
    obtain ⟨d, hd, rv⟩ := rx.getV hi
    rw [List.getElem?_map] at hd
    obtain ⟨s, hs, rfl⟩ := Option.map_eq_some_iff.mp hd
    obtain ⟨c, FF⟩ := s
    have ok := A.2.1 _ (List.mem_of_getElem? hs)
    have hFl : FF.length = L := ok.f
    have htl := trues_len FF
    have tk := b.tk (noT_one hlf)
    have rc : Rp H' _ (dCache k) := Rp.tk tk _ (tupD_Cache k) ((r1.up e1).up e2)
    have rv' : Rp H' v (dFS (c, FF)) := Rp.tk tk _ (tupD_FS _) rv
    refine g_two rv' fun v2 v3 h2 h3 => ?_
    refine d_seq (d_asgG (evd_ixT (evd_var rfl rc) (evd_var rfl h2) (atI_map (ctl_get o ok.c))) fun v4' H4 e4 rv4 => ?_)
    refine g_three rv4 fun v4 v5 v6 h4 h5 h6 => ?_
    have h3' := h3.up e4
    have hl4 := e4 _ _ hlH
    have hlen : acc.length ≤ 1000 := by
      rw [rac.len, List.length_map]
      exact Nat.le_trans (len4 i) (by decide)
    refine d_seq (d_ext (ds := (trues FF).map fun j => dStay (hit k c j, FF, j, List.replicate L false)) hl4 (ev_slot rfl) (EvN.toD (evn_mapTe (vs := [7]) (trues FF) dI (fun j => dStay (hit k c j, FF, j, List.replicate L false)) (evd_var rfl h3') (by omega) (fun j _ => tupD_Stay _) (fun _ => rfl) (fun j v H6 hj e6 rd =>
        evd_tup (evds_cons (evd_ixT (evd_var rfl (h4.up e6)) (evd_var rfl rd) (atI_map (hit_get o ok.c (by
          rw [← hFl]
          exact (List.getElem?_eq_some_iff.mp (mem_trues.mp hj)).1)))) (evds_cons (evd_var rfl (h3'.up e6)) (evds_cons (evd_var rfl rd) (evds_cons (d := dNs (trues (List.replicate L false))) (by rw [trues_rep]; exact evd_tup evds_nil) evds_nil))))))) (by rw [List.length_map]; omega) fun ys H5 e5 r5 => ?_)
    have hl5 := e5 _ _ hl4
    have r5' := Rps.tk (Tk.upd (o := .lst (acc ++ ys)) hl5) _ (tupDs_map (fun _ => tupD_Stay _) _) r5
    have rac5 := Rps.tk (Tk.upd (o := .lst (acc ++ ys)) hl5) _ (tupDs_map (fun _ => tupD_Stay _) _) ((rac.up e4).up e5)
    have tk5 := Tk.upd (o := .lst (acc ++ ys)) hl5
    have k3 := Rp.tk tk5 _ (tupD_Ns _) (h3'.up e5)
    have k5 := Rp.tk tk5 _ (tupD_I _) (h5.up e5)
    have k6 := Rp.tk tk5 _ (tupD_I _) (h6.up e5)
    have hly : ys.length ≤ 1000 := by
      rw [r5.len, List.length_map]
      omega
    refine d_app upd_same (ev_slot rfl) (d := dStay ((ctl k c).nxt, FF.set (ctl k c).line true, (ctl k c).line, List.replicate L false)) (evd_tup (evds_cons (evd_var rfl k6) (evds_cons (evd_ins (F := FF) (j := (ctl k c).line) (evd_var rfl k3) (evd_var rfl k5) (by rw [hFl]; exact o.lin c ok.c) (by omega)) (evds_cons (evd_var rfl k5) (evds_cons (d := dNs (trues (List.replicate L false))) (by rw [trues_rep]; exact evd_tup evds_nil) evds_nil))))) (by rw [List.length_append]; omega) fun v' H6 e6 r6 => ?_
    have hl6 := e6 _ _ (upd_same (H := H5) (a := l) (o := .lst (acc ++ ys)))
    refine ⟨_, _, _, _, _, _, rfl, (((b.trans (But.ex (e4.trans e5))).trans (But.upd (List.mem_singleton.mpr rfl))).trans (But.ex e6)).trans (But.upd (List.mem_singleton.mpr rfl)), upd_same, ?_⟩
    have etk : fl.take (i + 1) = fl.take i ++ [(c, FF)] := take_snoc hs
    have e1' : ((fl.take (i + 1)).flatMap (starts1 k L)).map dStay = (((fl.take i).flatMap (starts1 k L)).map dStay ++ (trues FF).map fun j => dStay (hit k c j, FF, j, List.replicate L false)) ++ [dStay ((ctl k c).nxt, FF.set (ctl k c).line true, (ctl k c).line, List.replicate L false)] := by
      rw [etk, List.flatMap_append, List.map_append, List.flatMap_singleton]
      unfold starts1
      rw [List.map_append, List.map_map, List.append_assoc]
      rfl
    rw [e1']
    have tk6 := Tk.upd (o := .lst (acc ++ ys ++ [v'])) hl6
    refine Rps.append (Rps.append (Rps.tk tk6 _ (tupDs_map (fun _ => tupD_Stay _) _) (rac5.up e6)) (Rps.tk tk6 _ (tupDs_map (fun _ => tupD_Stay _) _) (r5'.up e6))) (.cons (Rp.tk tk6 _ (tupD_Stay _) r6) .nil)
  · subst es
    have hxl : xs.length = fl.length := by rw [rx.len, List.length_map]
    rw [hxl, List.take_length] at rac
    have hSt : ∀ s ∈ fl.flatMap (starts1 k L), K48M.St k L s := fun s hs => by
      obtain ⟨u, hu, h⟩ := List.mem_flatMap.mp hs
      exact (starts_iff A s).mp ⟨u, hu, h⟩
    refine d_retM (evm_sortset (uKey C L) (evd_var rfl (.lst hlH rac)) (fun d hd => ?_) (len_uKey hC hL) (fun d hd e he h => ?_) (fun d hd e he => ?_)) fun p2 xs2 es2 H5 hp2 e5 hx2 r2 ⟨nd, hes⟩ => ?_
    · obtain ⟨s, hs, rfl⟩ := List.mem_map.mp hd
      exact ⟨tupD_Stay s, by rw [nk_Stay]; exact kStay_depth s, by rw [nk_Stay]; exact mem_uKey o A (hSt s hs), by rw [nk_Stay]; exact kStay_noText s, Nat.le_trans (shp_Stay s).dep (by decide), _, _, rfl⟩
    · obtain ⟨s, hs, rfl⟩ := List.mem_map.mp hd
      obtain ⟨t, ht, rfl⟩ := List.mem_map.mp he
      rw [nk_Stay, nk_Stay] at h
      have a := St.ok o A (hSt s hs)
      have b' := St.ok o A (hSt t ht)
      rw [kStay_inj (a.f.trans b'.f.symm) (a.m.trans b'.m.symm) h]
    · obtain ⟨s, hs, rfl⟩ := List.mem_map.mp hd
      obtain ⟨t, ht, rfl⟩ := List.mem_map.mp he
      exact alike_Stay s t
    · have hEx : Ex H H' := (e1.trans e2).trans_but b nl
      obtain ⟨m, rfl, hm⟩ := stays_of hes rfl
      refine q p2 xs2 _ H5 (fresh_back hEx hp2) (hEx.trans e5) hx2 r2 ⟨m, rfl, List.Pairwise.of_map dStay (fun _ _ hne e => hne (congrArg dStay e)) nd, fun s => ⟨fun hs => hSt s (hm s hs), fun hs => ?_⟩⟩
      obtain ⟨u, hu, h⟩ := (starts_iff A s).mpr hs
      have hmem : dStay s ∈ m.map dStay := (hes _).mpr (List.mem_map.mpr ⟨s, List.mem_flatMap.mpr ⟨u, hu, h⟩, rfl⟩)
      obtain ⟨t, ht, e⟩ := List.mem_map.mp hmem
      have : t = s := dStay_inj (St.ok o A (hSt t (hm t ht))) (St.ok o A hs) e
      rw [← this]
      exact ht
end
end K48
/-! Dicts with nested keys, told by data; all_stays. -/
namespace K48
open PySem L2 Evl K48M
/-- the data e are the key k -/
def IsK (e : PyData) (k : NestedKey) : Prop := tupD e = true ∧ nk e = k ∧ k.depth ≤ 8 ∧ ∃ xs, e = .tuple xs
section
variable {P : Program} {w : World} {K : PySem.W.Frag} {σ : S} {H H' : Hp} {ta tb tc te tk tv tl td : TE} {d e : PyData} {ds es : List PyData} {D : Ends} {g : TG} {a : Addr} {kvs : Tbl} {k : NestedKey} {x : V}
theorem IsK.at (h : IsK e k) (r : Rp H x e) : ∃ b, x = .ref b ∧ KeyAt H b k := by
  obtain ⟨h1, h2, h3, xs, rfl⟩ := h
  obtain ⟨a, o, vs, rfl, hx, hn, rs⟩ := id r.tup_inv
  exact ⟨a, rfl, _, h1, h2, h3, r⟩
theorem evd_niN (hd : Ev td σ H (.ref a)) (x : Dd P w H a kvs) (he : EvD te σ H e) (hk : IsK e k) : EvD (tOp (rNiN P w) te td) σ H (.bool (!(valV kvs k).isSome)) := fun H1 a1 Q q => he H1 a1 _ fun y H2 e2 r2 => hd H2 (a1.trans e2) _ fun H3 e3 => by
  obtain ⟨b, rfl, kb⟩ := hk.at r2
  refine ⟨_, b, k, kvs, rfl, rfl, x.up ((a1.trans e2).trans e3), kb.tk (Tk.ex e3), q _ H3 (e2.trans e3) (.bl _)⟩
theorem ev_nget {v : V} (hd : Ev td σ H (.ref a)) (x : Dd P w H a kvs) (he : EvD te σ H e) (hk : IsK e k) (hv : valV kvs k = some v) : Ev (tNGet P w td te) σ H v := fun H1 a1 Q q => hd H1 a1 _ fun H2 e2 => he H2 (a1.trans e2) _ fun y H3 e3 r3 => by
  obtain ⟨b, rfl, kb⟩ := hk.at r3
  exact ⟨_, b, k, kvs, v, rfl, rfl, x.up ((a1.trans e2).trans e3), kb, hv, q H3 (e2.trans e3)⟩
theorem d_nput (hv : EvD tv σ H d) (hd : Ev td σ H (.ref a)) (x : Dd P w H a kvs) (he : EvD te σ H e) (hk : IsK e k) (hz : kvs.length < 900000)
    (q : ∀ v H1 H2, Ex H H1 → Rp H1 v d → Dd P w H2 a (putK kvs k v) → But [a] H1 H2 → D.nx σ H2) : sNPut P w td te tv D σ H := hv H (Ex.refl _) _ fun v H1 e1 r1 => hd H1 e1 _ fun H2 e2 => he H2 (e1.trans e2) _ fun y H3 e3 r3 => by
  obtain ⟨b, rfl, kb⟩ := hk.at r3
  exact ⟨_, b, k, kvs, rfl, rfl, x.up ((e1.trans e2).trans e3), kb, hz, fun H4 d4 b4 => q v H3 H4 ((e1.trans e2).trans e3) ((r1.up e2).up e3) d4 b4⟩
end
/-! ### tables -/
section
variable {α : Type} {κ : α → NestedKey} {f : α → V} {l : List α} {x : α}
theorem valV_at : (∀ y ∈ l, κ y = κ x → y = x) → x ∈ l → valV (l.map fun s => (κ s, f s)) (κ x) = some (f x) := by
  induction l with
  | nil => intro _ h; cases h
  | cons y l ih =>
    intro hi hx
    rw [List.map_cons]
    by_cases e : κ y = κ x
    · rw [valV_pos (show (κ y, f y).1 = κ x from e), hi y (List.mem_cons_self ..) e]
    · rw [valV_neg (show ¬ (κ y, f y).1 = κ x from e)]
      rcases List.mem_cons.mp hx with rfl | hx
      · exact absurd rfl e
      · exact ih (fun z hz => hi z (List.mem_cons_of_mem _ hz)) hx
theorem valV_no {k : NestedKey} : (∀ y ∈ l, κ y ≠ k) → valV (l.map fun s => (κ s, f s)) k = none := by
  induction l with
  | nil => intro _; rfl
  | cons y l ih =>
    intro h
    rw [List.map_cons, valV_neg (show ¬ (κ y, f y).1 = k from h y (List.mem_cons_self ..))]
    exact ih fun z hz => h z (List.mem_cons_of_mem _ hz)
end
section
variable {P : Program} {w : World} {K : PySem.W.Frag} {σ : S} {H H' : Hp} {ta tb tc te tk tv tl td : TE} {D : Ends} {g : TG}
/-- n = {k: c for .. in list} -/
theorem d_ndc {α : Type} {vs : List Nat} {i : Nat} (l : List α) (enc : α → PyData) (κ : α → NestedKey) (c : V) (h : EvD tl σ H (.list (l.map enc))) (hz : l.length ≤ 800000) (hn : (l.map κ).Nodup)
    (hs : ∀ a v H1, a ∈ l → Ex H H1 → Rp H1 v (enc a) → ∀ Q : S → Hp → Prop, (∀ σ2, wipe σ2 vs = wipe σ vs → (∃ e, EvD tk σ2 H1 e ∧ IsK e (κ a)) → Ev tv σ2 H1 c → Q σ2 H1) → g v (wipe σ vs) H1 Q)
    (q : ∀ p H1, H p = none → Ex H H1 → Dd P w H1 p (l.map fun a => (κ a, c)) → D.nx (σ.set i (some (.ref p))) H1) : tAsg (tNDc P w (iList K tl) g tYes tk tv vs) (gName i) D σ H := h H (Ex.refl H) _ fun v H1 e1 r1 => by
  obtain ⟨a, xs, rfl, hx, rs⟩ := r1.lst_inv
  refine ⟨a, rfl, ⟨xs, sq_of hx⟩, fun Dl H0 hD e0 d0 => ?_⟩
  have hxl : xs.length = l.length := by rw [rs.len, List.length_map]
  refine ⟨fun i m H => m = xs.length - i ∧ i ≤ xs.length ∧ Ex H1 H ∧ Dd P w H Dl ((l.take i).map fun a => (κ a, c)), ⟨xs.length, by simp, Nat.zero_le _, e0, by rw [List.take_zero]; exact d0⟩, ?_⟩
  rintro i m H2 ⟨rfl, hi, e2, d2⟩
  have sq := sq_of (K := K) (e2 _ _ hx)
  by_cases hlt : i < xs.length
  · refine .inr ⟨⟨xs, xs[i], sq, by simp [hlt]⟩, fun H' => Ex H1 H' ∧ Dd P w H' Dl ((l.take (i + 1)).map fun a => (κ a, c)), fun H' p' => ⟨xs.length - (i + 1), by omega, rfl, hlt, p'.1, p'.2⟩, fun x H3 y => ?_⟩
    obtain ⟨e, y⟩ := y
    subst e
    have hx3 := y xs sq
    obtain ⟨d, hd, rd⟩ := rs.getV hx3
    rw [List.getElem?_map] at hd
    obtain ⟨s, hs', rfl⟩ := Option.map_eq_some_iff.mp hd
    refine hs s x _ (List.mem_of_getElem? hs') (e1.trans e2) (rd.up e2) _ fun σ2 hw ⟨ee, hk, ik⟩ hv => ⟨hw, ?_⟩
    show tk σ2 _ _
    refine hk _ (Ex.refl _) _ fun y H4 e4 r4 => hv H4 e4 _ fun H5 e5 => ?_
    obtain ⟨b, rfl, kb⟩ := ik.at r4
    refine ⟨_, b, _, rfl, (d2.up e4).up e5, kb.tk (Tk.ex e5), ?_, fun H6 d6 b6 => ⟨((e2.trans e4).trans e5).trans_but b6 hD, ?_⟩⟩
    · rw [List.length_map, List.length_take]
      omega
    · rw [putK_new _ (valV_no fun y hy ey => ?_)] at d6
      · rw [take_snoc hs', List.map_append]
        exact d6
      · obtain ⟨j, hj⟩ := List.getElem?_of_mem hy
        rw [List.getElem?_take] at hj
        split at hj
        · rename_i hji
          have h1 : (l.map κ)[j]? = some (κ s) := by rw [List.getElem?_map, hj, ← ey]; rfl
          have h2 : (l.map κ)[i]? = some (κ s) := by rw [List.getElem?_map, hs']; rfl
          have hjl := (List.getElem?_eq_some_iff.mp h1).1
          have := (List.getElem?_inj hjl hn).mp (h1.trans h2.symm)
          omega
        · cases hj
  · have e : i = xs.length := by omega
    subst e
    rw [hxl, List.take_length] at d2
    exact .inl ⟨⟨xs, sq, Nat.le_refl _⟩, q Dl H2 (fresh_back e1 hD) (e1.trans e2) d2⟩
end
theorem isk_Stay (s : Stay) : IsK (dStay s) (kStay s) := ⟨tupD_Stay s, nk_Stay s, kStay_depth s, _, rfl⟩
/-! ### all stays -/
theorem SOk.next {C L : Nat} {k : Cache} (o : Ok C L k) {s : Stay} (h : SOk C L s) : ∀ p ∈ succ k s, SOk C L p.2 := fun p hp => by
  rcases succ_cases hp with ⟨j, hj, _, rfl⟩ | ⟨_, rfl⟩
  · have hjl : j < L := by
      rw [← h.f]
      exact (List.getElem?_eq_some_iff.mp hj).1
    exact ⟨o.hlt _ _ h.c hjl, h.f, h.h, by rw [List.length_set]; exact h.m⟩
  · exact ⟨o.nx _ h.c, by rw [List.length_set]; exact h.f, h.h, by rw [List.length_set]; exact h.m⟩
/-- what the list of stays tells -/
structure SAll (C L : Nat) (k : Cache) (l : List Stay) : Prop where
  nd : l.Nodup
  ok : ∀ s ∈ l, SOk C L s
  rc : ∀ s ∈ l, K48G.Rc (succ k) (K48M.St k L) s
  st : ∀ s, K48M.St k L s → s ∈ l
  cl : ∀ s ∈ l, ∀ p ∈ succ k s, p.2 ∈ l
theorem SAll.inj {C L : Nat} {k : Cache} {l : List Stay} (A : SAll C L k l) : (l.map kStay).Nodup := by
  refine List.Pairwise.map kStay (fun _ _ h => h) ?_
  exact A.nd.imp_of_mem fun {a b} ha hb hne e => hne (kStay_inj ((A.ok a ha).f.trans (A.ok b hb).f.symm) ((A.ok a ha).m.trans (A.ok b hb).m.symm) e)
theorem key_inj {C L : Nat} {s t : Stay} (a : SOk C L s) (b : SOk C L t) (h : kStay s = kStay t) : s = t := kStay_inj (a.f.trans b.f.symm) (a.m.trans b.m.symm) h
/-- a right stay that may come -/
structure SRc (C L : Nat) (k : Cache) (s : Stay) : Prop where
  ok : SOk C L s
  rc : K48G.Rc (succ k) (K48M.St k L) s
def ssucc (k : Cache) (s : Stay) : List Stay := (succ k s).map Prod.snd
theorem SRc.step {C L : Nat} {k : Cache} (o : Ok C L k) {s : Stay} (h : SRc C L k s) : ∀ t ∈ ssucc k s, SRc C L k t := fun t ht => by
  obtain ⟨p, hp, rfl⟩ := List.mem_map.mp ht
  exact ⟨SOk.next o h.ok p hp, .step (e := p.1) h.rc hp⟩
theorem sall_of {C L : Nat} {k : Cache} {l b : List Stay} (hb : ∀ s, K48M.St k L s → s ∈ b) (W : Work (ssucc k) (SRc C L k) b l l.length) : SAll C L k l where
  nd := W.nd
  ok := fun s hs => (W.ok s hs).ok
  rc := fun s hs => (W.ok s hs).rc
  st := fun s hs => W.base s (hb s hs)
  cl := fun s hs p hp => W.all s hs _ (List.mem_map.mpr ⟨p, hp, rfl⟩)
theorem len_uStay_le {C L : Nat} (hC : C ≤ 4) (hL : L ≤ 3) : (uStay C L).length ≤ 1000 := by
  rw [len_uStay]
  have h1 : 2 ^ L ≤ 2 ^ 3 := Nat.pow_le_pow_right (by decide) hL
  have : C * (2 ^ L * (L * 2 ^ L)) ≤ 4 * (2 ^ 3 * (3 * 2 ^ 3)) := Nat.mul_le_mul hC (Nat.mul_le_mul h1 (Nat.mul_le_mul hL h1))
  omega
theorem SAll.len {C L : Nat} {k : Cache} {l : List Stay} (A : SAll C L k l) (hC : C ≤ 4) (hL : L ≤ 3) : l.length ≤ 1000 :=
  Nat.le_trans (nodup_len_le A.nd fun s hs => mem_uStay (A.ok s hs)) (len_uStay_le hC hL)
theorem But.mono {ls ms : List Addr} {H H' : Hp} (b : But ls H H') (h : ∀ a ∈ ls, a ∈ ms) : But ms H H' := fun a o n e => b a o (fun q => n (h a q)) e
theorem noT_two {l p : Addr} {H : Hp} (a : NoT [l] H) (b : NoT [p] H) : NoT [l, p] H := fun x hx o ys e => by
  rcases List.mem_cons.mp hx with rfl | hx
  · exact a x (List.mem_singleton.mpr rfl) o ys e
  · exact b x hx o ys e
theorem trans_but2 {H H1 H2 : Hp} {l p : Addr} (e : Ex H H1) (b : But [l, p] H1 H2) (h : H l = none) (h2 : H p = none) : Ex H H2 := fun a o ha => b a o (fun q => by
  rcases List.mem_cons.mp q with rfl | q
  · rw [h] at ha
    cases ha
  · rw [List.mem_singleton.mp q, h2] at ha
    cases ha) (e a o ha)
theorem fs_ok {C L : Nat} {k : Cache} (o : Ok C L k) {c : Nat} {F : List Bool} (h : FS k L c F) : FOk C L k (c, F) := by
  induction h with
  | zero => exact FOk.zero o
  | @hit c F j _ hj ih => exact FOk.step o ih _ (List.mem_append_left _ (List.mem_map.mpr ⟨j, mem_trues.mpr hj, rfl⟩))
  | @miss c F _ ih => exact FOk.step o ih _ (List.mem_append_right _ (List.mem_singleton.mpr rfl))
theorem St.ok' {C L : Nat} {k : Cache} (o : Ok C L k) {s : Stay} (h : K48M.St k L s) : SOk C L s := by
  cases h with
  | @hit c F j h hj =>
    have ok := fs_ok o h
    have hjl : j < L := by
      rw [← ok.f]
      exact (List.getElem?_eq_some_iff.mp hj).1
    exact ⟨o.hlt _ _ ok.c hjl, ok.f, hjl, by simp⟩
  | @miss c F h =>
    have ok := fs_ok o h
    exact ⟨o.nx _ ok.c, by rw [List.length_set]; exact ok.f, o.lin _ ok.c, by simp⟩
def tabT (M : List Stay) : Tbl := M.map fun s => (kStay s, V.bl true)
theorem tabT_some {C L : Nat} {M : List Stay} {t : Stay} (hM : ∀ s ∈ M, SOk C L s) (ht : SOk C L t) : (valV (tabT M) (kStay t)).isSome = decide (t ∈ M) := by
  by_cases h : t ∈ M
  · rw [tabT, valV_at (κ := kStay) (f := fun _ => V.bl true) (fun y hy e => key_inj (hM y hy) ht e) h, decide_eq_true h]
    rfl
  · rw [tabT, valV_no (κ := kStay) (f := fun _ => V.bl true) fun y hy e => h (by rw [← key_inj (hM y hy) ht e]; exact hy), decide_eq_false h]
    rfl
section
variable {P : Program} {w : World} {K : PySem.W.Frag} {mg : Str → Option Value} {base : Heap}
def Rall (C L : Nat) (ds : List PyData) (Post : List PyData → Prop) : Prop := ∃ k, ds = [dCache k] ∧ Ok C L k ∧ C ≤ 4 ∧ L ≤ 3 ∧ Post = fun es => ∃ l : List Stay, es = l.map dStay ∧ SAll C L k l
theorem ok_all_stays {C L : Nat} {f : Addr} {fd : FuncData} (F : Fun K "all_stays" "all_stays" s_all_stays f fd) (T : Mg mg) (c2 : Cal P w K mg base CX0 2 "stay_starts" ["cache"] (spM (Rstarts C L))) (c1 : Cal P w K mg base CX0 1 "stay_steps" ["cache", "stay"] (spN (Rsteps C L))) : FnOk P w K mg base CX0 3 f fd ["cache"] (spM (Rall C L)) := by
  refine F.ok sc_all_stays (fun vs H Q E h => spM_len h fun ds d ⟨k, e, _⟩ => by rw [e]; rfl) (fun cdv A outer sh H vs Q E hr h => ?_)
  obtain ⟨ds, Post, r, ⟨k, rfl, o, hC, hL, rfl⟩, q⟩ := h
  cases r with
  | cons r1 r =>
  cases r
  have hun := hr.un
  refine ⟨_, pss_cons (ps_par (by rfl) sc_all_stays.nd (i := 1) (j := 2) rfl rfl (by decide) rfl rfl (pa_cons (pe_cal c2 hr (by decide) (by rfl) (pa_cons (pv 0) pa_nil)) (pa_cons pe_int pa_nil)) (by rfl))
    (pss_cons (ps_setNdc (i := 4) (own := [("stay", 3)]) (g := gName 3) (tt := tYes) (u64 hr) rfl sc_all_stays.nd rfl rfl (sw_trueD rfl rfl rfl rfl) (pi_list (pv 1)) (blkOk_by (N := N_all_stays) (sc := defScope s_all_stays) (by decide +kernel)) (fun _ _ _ _ _ => pg_name (i := 3) sc_all_stays.nd rfl (Or.inl rfl)) (fun _ _ _ _ _ => pts_nil) (fun _ _ _ _ _ => pv 3) (fun _ _ _ _ _ => pe_bl))
    (pss_cons (ps_while PassesOwn.never (pt_cmpR op_lt (pv 2) (pe_callB call_len_seq (by rfl) T.len (by decide +kernel) (pa_cons (pv 1) pa_nil)) (nomark _))
      (pss_cons (ps_for PassesOwn.never rfl (pi_list (pe_cal c1 hr (by decide) (by rfl) (pa_cons (pv 0) (pa_cons (pe_ix ix_list (pv 1) (pv 2) (fun _ _ => rfl)) pa_nil)))) (pg_tup rfl (pgs_cons (pg_name (i := 5) sc_all_stays.nd rfl (.inl rfl)) (pgs_cons (pg_name (i := 3) sc_all_stays.nd rfl (.inl rfl)) pgs_nil)))
        (pss_one (ps_if (pt_cmpR (op_niN (u64 hr)) (pv 3) (pv 4) (by rfl))
          (pss_cons (ps_nput (u64 hr) (pv 4) (pv 3) pe_bl (by rfl))
          (pss_one (ps_expr (pe_bm PySem.F.plainAttrs_list PySem.F.slot_list_append PySem.F.type_list_append mt_append (pv 1) (pa_cons (pv 3) pa_nil))))) pss_nil)))
      (pss_one (ps_aug (i := 2) sc_all_stays.nd rfl (.inl rfl) pe_int ip_add))))
    (pss_one (ps_ret (pv 1))))), ?_⟩
  refine d_seq (d_parM (evm_call (evds_cons (evd_var rfl r1) evds_nil) ⟨k, rfl, o, hC, hL, rfl⟩) evd_int fun l xs0 es v2 H2 nl e2 hl rl ⟨b0, eb, ndb, hb0⟩ rv2 => ?_)
  subst eb
  have ev2 := rv2.int_inv
  subst ev2
  have okb : ∀ s ∈ b0, SRc C L k s := fun s hs => ⟨St.ok' o ((hb0 s).mp hs), .zero ((hb0 s).mp hs)⟩
  have N4 := len_uStay_le hC hL
  have bound : ∀ {M : List Stay} {n : Nat}, Work (ssucc k) (SRc C L k) b0 M n → M.length ≤ (uStay C L).length := fun W => nodup_len_le W.nd fun s hs => mem_uStay (W.ok s hs).ok
  have W0 : Work (ssucc k) (SRc C L k) b0 b0 0 := ⟨ndb, okb, fun s hs => hs, fun i s hi => absurd hi (Nat.not_lt_zero _), Nat.zero_le _⟩
  have b0l := bound W0
  refine d_seq (d_ndc (vs := [3]) b0 dStay kStay (.bl true) (evd_var rfl (.lst hl rl)) (by omega) ?n0 (fun s v H3 hs e3 r3 Q qq => qq _ rfl ⟨_, evd_var rfl r3, isk_Stay s⟩ ev_c) fun dk H3 nd e3 d3 => ?_)
  case n0 =>
    refine List.Pairwise.map kStay (fun _ _ h => h) ?_
    exact ndb.imp_of_mem fun {a b} ha hb hne e => hne (key_inj (okb a ha).ok (okb b hb).ok e)
  have hl3 := e3 _ _ hl
  have rl3 := rl.up e3
  have dl : dk ≠ l := d3.ne_lst hl3
  have nT3 : NoT [l, dk] H3 := noT_two (noT_one hl3) d3.noT
  refine d_seq (d_while (fun m σ' H' => ∃ M at_ acc a3 a5, σ' = [some _, some (.ref l), some (.int (at_ : Nat)), a3, some (.ref dk), a5] ∧ But [l, dk] H3 H' ∧ H' l = some (.lst acc) ∧ Rps H' acc (M.map dStay) ∧ Dd P w H' dk (tabT M) ∧ Work (ssucc k) (SRc C L k) b0 M at_ ∧ m = (uStay C L).length - at_) _
    ⟨b0, 0, xs0, none, none, rfl, But.refl, hl3, rl3, d3, W0, rfl⟩ fun m σ' H' ⟨M, at_, acc, a3, a5, es, b, hlH, rac, dd, W, hm⟩ => ?_)
  subst es
  have tk := b.tk nT3
  have rc : Rp H' _ (dCache k) := Rp.tk tk _ (tupD_Cache k) ((r1.up e2).up e3)
  have rlist : Rp H' (.ref l) (.list (M.map dStay)) := .lst hlH rac
  have hMl := bound W
  refine ⟨decide (at_ < M.length), evt_test ((evd_lt (evd_var rfl (.int _)) (evd_lenL (evd_var rfl rlist))).is ?_), fun hb H4 e4 => ?_, fun hb H4 e4 => ?_⟩
  · rw [List.length_map]
    congr 1
    exact decide_eq_decide.mpr (by omega)
  · have hat : at_ < M.length := of_decide_eq_true hb
    have hs : M[at_]? = some M[at_] := List.getElem?_eq_getElem hat
    generalize M[at_] = s at hs
    have ok := W.ok _ (List.mem_of_getElem? hs)
    refine ⟨_, fun _ _ z => z, ?_⟩
    have hl4 := e4 _ _ hlH
    have W' := W.next hs (SRc.step o ok)
    have hM2 := bound W'
    have hsub : ∀ i, ∀ s' ∈ addAll M ((ssucc k s).take i), s' ∈ addAll M (ssucc k s) := fun i s' hs' => by
      rcases mem_addAll.mp hs' with h | h
      · exact mem_addAll.mpr (.inl h)
      · exact mem_addAll.mpr (.inr (List.mem_of_mem_take h))
    refine d_seq (d_forN (evn_call (evds_cons (evd_var rfl (rc.up e4)) (evds_cons (d := dStay s) (evd_ixL (evd_var rfl (rlist.up e4)) (evd_var rfl (.int _)) (atI_map hs)) evds_nil)) (spN_n ⟨k, s, rfl, o, ok.ok, by omega, rfl⟩)) fun p xs H5 np e5 hx5 r5 => ?_)
    have hl5 := e5 _ _ hl4
    have dd5 := (dd.up e4).up e5
    have pl : p ≠ l := fun z => by
      rw [z, hl4] at np
      cases np
    have pd : p ≠ dk := dd5.ne_lst hx5 |>.symm
    have nT5 : NoT [l, dk] H5 := noT_two (noT_one hl5) dd5.noT
    refine ⟨fun i σ' H' => ∃ a3 a5 acc, σ' = [some _, some (.ref l), some (.int (at_ : Nat)), a3, some (.ref dk), a5] ∧ But [l, dk] H5 H' ∧ H' l = some (.lst acc) ∧ Rps H' acc ((addAll M ((ssucc k s).take i)).map dStay) ∧ Dd P w H' dk (tabT (addAll M ((ssucc k s).take i))),
      ⟨a3, a5, acc, rfl, But.refl, hl5, by rw [List.take_zero]; exact (rac.up e4).up e5, by rw [List.take_zero]; exact dd5⟩, fun i σ' H' ⟨_, _, _, _, b7, _, _, _⟩ => b7.go (fun z => by
        rcases List.mem_cons.mp z with z | z
        · exact pl z
        · exact pd (List.mem_singleton.mp z)) hx5, fun i y σ' H' hi ⟨a3', a5', acc', es, b7, hl7, r7, d7⟩ => ?_, fun σ' H' ⟨a3', a5', acc', es, b7, hl7, r7, d7⟩ => ?_⟩
    · subst es
      obtain ⟨d, hd, rd⟩ := r5.getV hi
      rw [List.getElem?_map] at hd
      obtain ⟨t, ht, rfl⟩ := Option.map_eq_some_iff.mp hd
      have tk7 := b7.tk nT5
      have ry : Rp H' y (dGain t) := Rp.tk tk7 _ (tupD_Gain t) rd
      have ht' : (ssucc k s)[i]? = some t.2 := by
        unfold ssucc
        rw [List.getElem?_map, ht]
        rfl
      have okt := (SRc.step o ok t.2 (List.mem_of_getElem? ht')).ok
      have hall : ∀ s' ∈ addAll M ((ssucc k s).take i), SOk C L s' := fun s' hs' => (W'.ok s' (hsub i s' hs')).ok
      have hlen7 : acc'.length ≤ 1000 := by
        rw [r7.len, List.length_map]
        exact Nat.le_trans (nodup_len_le (nodup_addAll W.nd) (hsub i)) (Nat.le_trans hM2 N4)
      obtain ⟨e0, t⟩ := t
      refine g_two ry fun v5 v3 h5 h3 => ?_
      have etk : addAll M ((ssucc k s).take (i + 1)) = addNew (addAll M ((ssucc k s).take i)) t := by rw [take_snoc ht', addAll_snoc]
      refine d_when (b := decide (t ∉ addAll M ((ssucc k s).take i))) (evt_test ((evd_niN (ev_slot rfl) d7 (evd_var rfl h3) (isk_Stay t)).is ?_)) (fun hb H8 e8 => ?_) (fun hb H8 e8 => ?_)
      · rw [tabT_some hall okt, decide_not]
      · have hn : t ∉ addAll M ((ssucc k s).take i) := of_decide_eq_true hb
        have hl8 := e8 _ _ hl7
        refine d_seq (d_nput evd_bl (ev_slot rfl) (d7.up e8) (evd_var rfl (h3.up e8)) (isk_Stay t) (by
          unfold tabT
          rw [List.length_map, ← List.length_map (f := dStay), ← r7.len]
          omega) fun vt H9 H10 e9 rvt d10 b10 => ?_)
        have evt := rvt.bool_inv
        subst evt
        have hl9 := e9 _ _ hl8
        have d9 := (d7.up e8).up e9
        have hl10 : H10 l = some (.lst acc') := b10.go (fun z => dl (List.mem_singleton.mp z).symm) hl9
        have tk10 := b10.tk d9.noT
        refine d_app hl10 (ev_slot rfl) (d := dStay t) (evd_var rfl (Rp.tk tk10 _ (tupD_Stay t) ((h3.up e8).up e9))) (by omega) fun v' H11 e11 r11 => ?_
        have hl11 := e11 _ _ hl10
        have h10l : ¬ dk ∈ [l] := fun z => dl (List.mem_singleton.mp z)
        refine ⟨_, _, _, rfl, (((b7.trans (But.ex (e8.trans e9))).trans (b10.mono fun a h => List.mem_cons_of_mem _ h)).trans (But.ex e11)).trans (But.upd (List.mem_cons_self ..)), upd_same, ?_, ?_⟩
        · rw [etk]
          unfold addNew
          rw [if_neg hn, List.map_append]
          have tk11 := Tk.upd (o := .lst (acc' ++ [v'])) hl11
          exact Rps.append (Rps.tk tk11 _ (tupDs_map tupD_Stay _) ((Rps.tk tk10 _ (tupDs_map tupD_Stay _) ((r7.up e8).up e9)).up e11)) (.cons (Rp.tk tk11 _ (tupD_Stay t) r11) .nil)
        · rw [etk]
          unfold addNew
          rw [if_neg hn]
          have d11 := (d10.up e11).go (But.upd (H := H11) (l := l) (o := .lst (acc' ++ [v'])) (List.mem_singleton.mpr rfl)) h10l (noT_one hl11)
          rw [putK_new _ (by
            have h := tabT_some hall okt
            rw [decide_eq_false hn] at h
            exact Option.not_isSome_iff_eq_none.mp (by rw [h]; decide))] at d11
          unfold tabT at d11 ⊢
          rw [List.map_append]
          exact d11
      · have hn : t ∈ addAll M ((ssucc k s).take i) := Classical.not_not.mp (of_decide_eq_false hb)
        refine ⟨_, _, _, rfl, b7.trans (But.ex e8), e8 _ _ hl7, ?_, ?_⟩
        · rw [etk]
          unfold addNew
          rw [if_pos hn]
          exact r7.up e8
        · rw [etk]
          unfold addNew
          rw [if_pos hn]
          exact d7.up e8
    · subst es
      have hx : xs.length = (ssucc k s).length := by rw [r5.len, List.length_map, ssucc, List.length_map]
      rw [hx, List.take_length] at r7 d7
      refine d_aug rfl evd_int fun H8 e8 => ?_
      have hb8 : But [l, dk] H3 H8 := ((b.trans (But.ex (e4.trans e5))).trans b7).trans (But.ex e8)
      refine ⟨(uStay C L).length - (at_ + 1), by omega, addAll M (ssucc k s), at_ + 1, acc', a3', a5', ?_, hb8, e8 _ _ hl7, r7.up e8, d7.up e8, W', rfl⟩
      have : ((at_ : Int) + 1) = ((at_ + 1 : Nat) : Int) := by omega
      rw [← this]
      rfl
  · have hat : at_ = M.length := by
      have := of_decide_eq_false hb
      have := W.le
      omega
    subst hat
    exact ⟨.ref l, rfl, q l acc _ H4 nl (trans_but2 (e2.trans e3) (b.trans (But.ex e4)) nl (fresh_back e2 nd)) (e4 _ _ hlH) (rac.up e4) ⟨M, rfl, sall_of (fun s hs => (hb0 s).mpr hs) W⟩⟩
end
end K48
/-! most_met, stay_most, least_cap. -/
namespace K48
open PySem L2 Evl K48M
section
variable {X : Cx} {o i : Expr} {pos : Pos} {td ty : TE} {P : Program} {w : World}
/-- in a block -/
theorem pe_ngetB (hP : X.prog = P) (hw : X.w = w) (hu : X.A.units + 64 < cLine) (ho : PE X o td) (hi : PE X i ty) (hs : NoSl i) : PE X (.Subscript o i pos) (tNGet P w td ty) := by
  subst hP hw
  exact pe_nget hu ho hi hs
end
section
variable {P : Program} {w : World} {K : PySem.W.Frag} {σ : S} {H H' : Hp} {ta tb tc te tl td : TE} {d e : PyData} {ds es : List PyData} {D : Ends} {g : TG} {tt : TT} {a b : Addr}
theorem evd_c {v : V} (r : Rp H v d) : EvD (tC v) σ H d := fun H1 a Q q => q v H1 (Ex.refl H1) (r.up a)
theorem Ev.toD {v : V} (h : Ev te σ H v) (r : Rp H v d) : EvD te σ H d := fun H1 a Q q => h H1 a _ fun H2 e2 => q v H2 e2 (r.up (a.trans e2))
theorem rps_ints {H : Hp} : ∀ {vs : List V} {ns : List Int}, Rps H vs (ns.map PyData.int) → vs = ns.map V.int := by
  intro vs ns
  induction ns generalizing vs with
  | nil =>
    intro r
    cases r
    rfl
  | cons n ns ih =>
    intro r
    cases r with
    | cons r1 r2 => rw [r1.int_inv, ih r2]; rfl
theorem evd_maxL {ns : List Int} {m : Int} (ha : EvD ta σ H (.list (ns.map .int))) (hm : m ∈ ns) (hle : ∀ y ∈ ns, y ≤ m) : EvD (tCB (rMax K) (tCons ta tNil)) σ H (.int m) := fun H1 a Q q => ha H1 a _ fun v H2 e2 r2 => by
  obtain ⟨l, xs, rfl, hl, rs⟩ := r2.lst_inv
  have ex := rps_ints rs
  subst ex
  refine ⟨l, ns, rfl, sq_of hl, List.length_pos_of_mem hm, fun m' h1 h2 => ?_⟩
  have : m' = m := Int.le_antisymm (hle _ h1) (h2 _ hm)
  rw [this]
  exact q _ H2 e2 (.int m)
theorem evd_maxN {ns : List Nat} {m : Nat} (ha : EvD ta σ H (.list (ns.map dI))) (hm : m ∈ ns) (hle : ∀ y ∈ ns, y ≤ m) : EvD (tCB (rMax K) (tCons ta tNil)) σ H (dI m) := by
  refine evd_maxL (ns := ns.map fun n : Nat => (n : Int)) (ha.is ?_) (List.mem_map.mpr ⟨m, hm, rfl⟩) fun y hy => ?_
  · rw [List.map_map]
    rfl
  · obtain ⟨n, hn, rfl⟩ := List.mem_map.mp hy
    have := hle n hn
    omega
theorem d_new {i : Nat} (k : ∀ p H1, H p = none → Ex H H1 → Dd P w H1 p [] → D.nx (σ.set i (some (.ref p))) H1) : tAsg (tNNew P w) (gName i) D σ H := k
theorem d_retMax {vs : List Nat} {R : List PyData → Prop} (h : EvM tl σ H R) (k : ∀ p xs es H1, H p = none → Ex H H1 → H1 p = some (.lst xs) → Rps H1 xs es → R es → tRet (tCB (rMax K) (tCons (tLc (iList K (tC (.ref p))) g tt te vs) tNil)) D σ H1) :
    tRet (tCB (rMax K) (tCons (tLc (iList K tl) g tt te vs) tNil)) D σ H := h H (Ex.refl H) _ k
/-- a table of numbers -/
def tabN (l : List Stay) (f : Stay → Nat) : Tbl := l.map fun s => (kStay s, V.int (f s : Nat))
theorem tabN_zip (l : List Stay) (f : Stay → Nat) : tabN l f = (l.map kStay).zip ((l.map fun s => ((f s : Nat) : Int)).map V.int) := by
  unfold tabN
  rw [List.map_map]
  induction l with
  | nil => rfl
  | cons s l ih => rw [List.map_cons, List.map_cons, List.map_cons, List.zip_cons_cons, ih]; rfl
theorem evd_eqN {l : List Stay} {f h : Stay → Nat} (ha : Ev ta σ H (.ref a)) (hb : Ev tb σ H (.ref b)) (xa : Dd P w H a (tabN l f)) (xb : Dd P w H b (tabN l h)) : EvD (tOp (rEqN P w) ta tb) σ H (.bool (decide (∀ s ∈ l, f s = h s))) := fun H1 a1 Q q => ha H1 a1 _ fun H2 e2 => hb H2 (a1.trans e2) _ fun H3 e3 => by
  rw [tabN_zip] at xa xb
  refine ⟨a, b, l.map kStay, l.map (fun s => ((f s : Nat) : Int)), l.map (fun s => ((h s : Nat) : Int)), rfl, rfl, by rw [List.length_map, List.length_map], by rw [List.length_map, List.length_map], xa.up ((a1.trans e2).trans e3), xb.up ((a1.trans e2).trans e3), ?_⟩
  have : decide (l.map (fun s => ((f s : Nat) : Int)) = l.map (fun s => ((h s : Nat) : Int))) = decide (∀ s ∈ l, f s = h s) := decide_eq_decide.mpr (by
    rw [List.map_inj_left]
    constructor
    · intro z s hs
      have := z s hs
      omega
    · intro z s hs
      rw [z s hs])
  rw [this]
  exact q _ H3 (e2.trans e3) (.bl _)
end
open K48G in
theorem starts_ne {k : Cache} {L : Nat} {l : List Stay} (h : ∀ s, s ∈ l ↔ K48M.St k L s) : ∃ s, s ∈ l := ⟨_, (h _).mpr (.miss .zero)⟩
theorem mx_mem {l : List Nat} (h : l ≠ []) : K48G.mx l ∈ l := by
  rcases K48G.mx_at l with e | e
  · cases l with
    | nil => exact absurd rfl h
    | cons x l =>
      have := K48G.le_mx (l := x :: l) (List.mem_cons_self ..)
      have : x = K48G.mx (x :: l) := by omega
      rw [← this]
      exact List.mem_cons_self ..
  · exact e
section
variable {P : Program} {w : World} {K : PySem.W.Frag} {mg : Str → Option Value} {base : Heap}
def Rmost (C L : Nat) (ds : List PyData) (Post : PyData → Prop) : Prop := ∃ k, ds = [dCache k] ∧ Ok C L k ∧ C ≤ 4 ∧ L ≤ 3 ∧ Post = fun d => ∃ o, d = dO o ∧ K48G.Told (succ k) (K48M.St k L) o
theorem ok_most_met {C L : Nat} {f : Addr} {fd : FuncData} (F : Fun K "most_met" "most_met" s_most_met f fd) (T : Mg mg) (c3 : Cal P w K mg base CX0 3 "all_stays" ["cache"] (spM (Rall C L))) (c2 : Cal P w K mg base CX0 2 "stay_starts" ["cache"] (spM (Rstarts C L))) (c1 : Cal P w K mg base CX0 1 "stay_steps" ["cache", "stay"] (spN (Rsteps C L))) : FnOk P w K mg base CX0 4 f fd ["cache"] (spE (Rmost C L)) := by
  refine F.ok sc_most_met (fun vs H Q E h => spE_len h fun ds d ⟨k, e, _⟩ => by rw [e]; rfl) (fun cdv A outer sh H vs Q E hr h => ?_)
  obtain ⟨ds, Post, r, ⟨k, rfl, o, hC, hL, rfl⟩, q⟩ := h
  cases r with
  | cons r1 r =>
  cases r
  have hun := hr.un
  refine ⟨_, pss_cons (ps_set (i := 1) sc_most_met.nd rfl (.inl rfl) (pe_cal c3 hr (by decide) (by rfl) (pa_cons (pv 0) pa_nil)))
    (pss_cons (ps_set (i := 3) sc_most_met.nd rfl (.inr rfl) (pe_ndc (own := [("stay", 2)]) (g := gName 2) (tt := tYes) (u64 hr) rfl sc_most_met.nd (pi_list (pv 1)) (blkOk_by (N := N_most_met) (sc := defScope s_most_met) (by decide +kernel)) (fun _ _ _ _ _ => pg_name (i := 2) sc_most_met.nd rfl (Or.inl rfl)) (fun _ _ _ _ _ => pts_nil) (fun _ _ _ _ _ => pv 2) (fun _ _ _ _ _ => pe_int)))
    (pss_cons (ps_for PassesOwn.never rfl (pi_range1 (by rfl) T.range (pa_cons (pe_op op_add (pe_callB call_len_seq (by rfl) T.len (by decide +kernel) (pa_cons (pv 1) pa_nil)) pe_int) pa_nil)) (pg_name (i := 4) sc_most_met.nd rfl (.inl rfl))
      (pss_cons (ps_set (i := 5) sc_most_met.nd rfl (.inl rfl) pe_nnew)
      (pss_cons (ps_for PassesOwn.never rfl (pi_list (pv 1)) (pg_name (i := 2) sc_most_met.nd rfl (.inl rfl))
        (pss_one (ps_nput (u64 hr) (pv 5) (pv 2) (pe_callB (cr_max rfl) (by rfl) T.max (by decide +kernel) (pa_cons (pe_op op_cat (pe_lst (pa_cons pe_int pa_nil))
          (pe_lc (own := [("gain", 6), ("further", 7)]) (g := gTup K 2 (gCons (gName 6) (gCons (gName 7) gNil))) (tt := tYes) rfl sc_most_met.nd (pi_list (pe_cal c1 hr (by decide) (by rfl) (pa_cons (pv 0) (pa_cons (pv 2) pa_nil)))) (blkOk_by (N := N_most_met) (sc := defScope s_most_met) (by decide +kernel))
            (fun _ _ _ _ _ => pg_tup rfl (pgs_cons (pg_name (i := 6) sc_most_met.nd rfl (Or.inl rfl)) (pgs_cons (pg_name (i := 7) sc_most_met.nd rfl (Or.inl rfl)) pgs_nil))) (fun _ _ _ _ _ => pts_nil)
            (fun _ _ _ _ _ => pe_op op_add (pv 6) (pe_ngetB (P := P) (w := w) rfl rfl (u64 hr) (pv 3) (pv 7) (fun _ _ => rfl))))) pa_nil)) (by rfl))))
      (pss_cons (ps_if (pt_cmpR (op_eqN (u64 hr)) (pv 5) (pv 3) (by rfl))
        (pss_one (ps_ret (pe_callB (cr_max rfl) (by rfl) T.max (by decide +kernel) (pa_cons
          (pe_lc (own := [("stay", 2)]) (g := gName 2) (tt := tYes) rfl sc_most_met.nd (pi_list (pe_cal c2 hr (by decide) (by rfl) (pa_cons (pv 0) pa_nil))) (blkOk_by (N := N_most_met) (sc := defScope s_most_met) (by decide +kernel))
            (fun _ _ _ _ _ => pg_name (i := 2) sc_most_met.nd rfl (Or.inl rfl)) (fun _ _ _ _ _ => pts_nil) (fun _ _ _ _ _ => pe_ngetB (P := P) (w := w) rfl rfl (u64 hr) (pv 3) (pv 2) (fun _ _ => rfl))) pa_nil)))) pss_nil)
      (pss_one (ps_set (i := 3) sc_most_met.nd rfl (.inr rfl) (pv 5)))))))
    (pss_one (ps_ret pe_non)))), ?_⟩
  refine d_seq (d_asgM (evm_call (evds_cons (evd_var rfl r1) evds_nil) ⟨k, rfl, o, hC, hL, rfl⟩) fun p xs es H1 np e1 hx1 rs1 ⟨l, el, A⟩ => ?_)
  subst el
  have ll := A.len hC hL
  have rl1 : Rp H1 (.ref p) (.list (l.map dStay)) := .lst hx1 rs1
  refine d_seq (d_ndc (vs := [2]) l dStay kStay (.int 0) (evd_var rfl rl1) (by omega) A.inj (fun s v H3 hs e3 r3 Q qq => qq _ rfl ⟨_, evd_var rfl r3, isk_Stay s⟩ ev_c) fun md H2 nd e2 d2 => ?_)
  have n0 : (((l.map dStay).length : Nat) : Int) + 1 = ((l.length + 1 : Nat) : Int) := by
    rw [List.length_map]
    omega
  refine d_seq (d_forR1 (evds_cons ((evd_add (evd_lenL (evd_var rfl (rl1.up e2))) evd_int).is (congrArg PyData.int n0)) evds_nil) ⟨by omega, by omega⟩
    (fun i σ' H' => ∃ a2 md a4 a5, σ' = [some _, some (.ref p), a2, some (.ref md), a4, a5, none, none] ∧ Ex H2 H' ∧ Dd P w H' md (tabN l (K48G.best (succ k) i)) ∧ ∀ t, t < i → ∃ s ∈ l, K48G.best (succ k) (t + 1) s ≠ K48G.best (succ k) t s)
    (fun H3 e3 => ⟨none, md, none, none, rfl, e3, d2.up e3, fun t ht => absurd ht (Nat.not_lt_zero _)⟩) (fun i σ' H3 hi ⟨a2, md, a4, a5, es, e3, dm, hne⟩ => ?_) (fun σ' H3 ⟨a2, md, a4, a5, es, e3, dm, hne⟩ => ?_))
  · subst es
    refine d_seq (d_new fun ld H4 nld e4 d4 => ?_)
    have hx4 : H4 p = some (.lst xs) := e4 _ _ (e3 _ _ (e2 _ _ hx1))
    have dl : ld ≠ p := d4.ne_lst hx4
    have dm4 := dm.up e4
    have nm : md ≠ ld := fun z => by
      obtain ⟨_, h, _⟩ := dm
      rw [z, nld] at h
      cases h
    have nml : md ∉ [ld] := fun z => nm (List.mem_singleton.mp z)
    refine d_seq (d_forL (ev_slot rfl) hx4 (fun j σ' H' => ∃ a2, σ' = [some _, some (.ref p), a2, some (.ref md), some (.int (i : Nat)), some (.ref ld), none, none] ∧ But [ld] H4 H' ∧ Dd P w H' ld (tabN (l.take j) (K48G.best (succ k) (i + 1))))
      (fun H5 e5 => ⟨a2, rfl, But.ex e5, by rw [List.take_zero]; exact d4.up e5⟩) (fun j σ' H' ⟨_, _, b, _⟩ => b.go (fun z => dl (List.mem_singleton.mp z).symm) hx4) (fun j y σ' H5 hj ⟨a2', es, b, d5⟩ => ?_) (fun σ' H5 ⟨a2', es, b, d5⟩ => ?_))
    · subst es
      obtain ⟨d, hd, rd⟩ := rs1.getV hj
      rw [List.getElem?_map] at hd
      obtain ⟨s, hs, rfl⟩ := Option.map_eq_some_iff.mp hd
      have e14 : Ex H1 H4 := (e2.trans e3).trans e4
      have tk := b.tk d4.noT
      have ry : Rp H5 y (dStay s) := Rp.tk tk _ (tupD_Stay s) (rd.up e14)
      have rc : Rp H5 _ (dCache k) := Rp.tk tk _ (tupD_Cache k) (r1.up (e1.trans e14))
      have dm5 := dm4.go b nml d4.noT
      have hsl := List.mem_of_getElem? hs
      have hsn : (succ k s).length ≤ 5 := by
        unfold succ
        rw [List.length_append, List.length_map]
        have h1 := List.length_filter_le (fun j => decide (j ≠ s.2.2.1)) (trues s.2.1)
        have h2 := trues_len s.2.1
        rw [(A.ok s hsl).f] at h2
        split
        · simp only [List.length_singleton]
          omega
        · simp only [List.length_nil]
          omega
      refine d_nput (d := dI (K48G.best (succ k) (i + 1) s)) (evd_maxN (ns := 0 :: (succ k s).map fun p => p.1 + K48G.best (succ k) i p.2) (EvN.toD (evn_catL (ds := [dI 0]) (es := (succ k s).map fun p => dI (p.1 + K48G.best (succ k) i p.2)) (EvN.toD (evn_lst (evds_cons evd_int evds_nil)))
        (EvN.toD (evn_mapLg (ds := (succ k s).map dGain) (vs := [6, 7]) (EvN.toD (evn_call (evds_cons (evd_var rfl rc) (evds_cons (evd_var rfl ry) evds_nil)) (spN_n ⟨k, s, rfl, o, A.ok s hsl, by omega, rfl⟩))) (by rw [List.length_map]; omega) (by rw [List.length_map, List.length_map]) (tupDs_map (fun _ => rfl) _) (fun n d e v H6 hd he e6 r6 Q qq => ?g1))) (by simp only [List.length_map, List.length_singleton]; omega)) |>.is ?g2) ?g3 ?g4)
        (ev_slot rfl) d5 (evd_var rfl ry) (isk_Stay s) (by
          unfold tabN
          rw [List.length_map, List.length_take]
          omega) fun v H6 H7 e6 rv d7 b7 => ?_
      case g1 =>
        rw [List.getElem?_map] at hd he
        obtain ⟨p, hp, rfl⟩ := Option.map_eq_some_iff.mp hd
        rw [hp] at he
        have he : some (dI (p.1 + K48G.best (succ k) i p.2)) = some e := he
        cases he
        have hpm := List.mem_of_getElem? hp
        refine g_two r6 fun v6 v7 h6 h7 => qq _ rfl ((evd_add (evd_var rfl h6) (Ev.toD (d := dI (K48G.best (succ k) i p.2)) (ev_nget (ev_slot rfl) (dm5.up e6) (evd_var rfl h7) (isk_Stay p.2) (valV_at (κ := kStay) (f := fun s => V.int (K48G.best (succ k) i s : Nat)) (fun y hy e => key_inj (A.ok y hy) (A.ok _ (A.cl s hsl p hpm)) e) (A.cl s hsl p hpm))) (.int _))).is (congrArg PyData.int ?_))
        exact (Int.natCast_add _ _).symm
      case g2 =>
        rw [List.map_cons, List.map_map]
        rfl
      case g3 =>
        show K48G.mx _ ∈ _
        rcases K48G.mx_at ((succ k s).map fun p => p.1 + K48G.best (succ k) i p.2) with z | z
        · rw [z]
          exact List.mem_cons_self ..
        · exact List.mem_cons_of_mem _ z
      case g4 =>
        intro y hy
        rcases List.mem_cons.mp hy with rfl | hy
        · exact Nat.zero_le _
        · exact K48G.le_mx hy
      have ev := rv.int_inv
      subst ev
      refine ⟨_, rfl, (b.trans (But.ex e6)).trans b7, ?_⟩
      unfold tabN at d7 ⊢
      rw [putK_new _ (valV_no (κ := kStay) (f := fun s => V.int (K48G.best (succ k) (i + 1) s : Nat)) fun y hy ey => ?_)] at d7
      · rw [take_snoc hs]
        rw [List.map_append]
        exact d7
      · have hyl := List.mem_of_mem_take hy
        have := key_inj (A.ok y hyl) (A.ok s hsl) ey
        subst this
        obtain ⟨j2, hj2⟩ := List.getElem?_of_mem hy
        rw [List.getElem?_take] at hj2
        split at hj2
        · rename_i hji
          have hjl := (List.getElem?_eq_some_iff.mp hj2).1
          have := (List.getElem?_inj hjl A.nd).mp (hj2.trans hs.symm)
          omega
        · cases hj2
    · subst es
      have hxl : xs.length = l.length := by rw [rs1.len, List.length_map]
      rw [hxl, List.take_length] at d5
      have dm5 := dm4.go b nml d4.noT
      have e35 : Ex H3 H5 := e4.trans_but b nld
      refine d_seq (d_when (b := decide (∀ s ∈ l, K48G.best (succ k) (i + 1) s = K48G.best (succ k) i s)) (evt_test (evd_eqN (ev_slot rfl) (ev_slot rfl) d5 dm5)) (fun hb H6 e6 => ?_) (fun hb H6 e6 => ?_))
      · have hst : ∀ s ∈ l, K48G.best (succ k) (i + 1) s = K48G.best (succ k) i s := of_decide_eq_true hb
        have e06 : Ex H H6 := ((e1.trans e2).trans (e3.trans e35)).trans e6
        refine d_retMax (evm_call (evds_cons (evd_var rfl (r1.up e06)) evds_nil) ⟨k, rfl, o, hC, hL, rfl⟩) fun p2 xs2 es2 H7 np2 e7 hx2 rs2 ⟨l2, el2, nd2, hl2⟩ => ?_
        subst el2
        have l2l : l2.length ≤ 1000 := Nat.le_trans (nodup_len_le nd2 fun s hs => A.st s ((hl2 s).mp hs)) ll
        refine d_ret (d := dI (K48G.mx (l2.map (K48G.best (succ k) i)))) (evd_maxN (ns := l2.map (K48G.best (succ k) i)) ((EvN.toD (evn_mapLe (vs := [2]) l2 dStay (fun s => dI (K48G.best (succ k) i s)) (evd_c (.lst hx2 rs2)) (by omega) (fun _ _ => rfl) (fun _ => rfl) (fun s v H8 hs e8 r8 =>
          Ev.toD (ev_nget (ev_slot rfl) (((dm5.up e6).up e7).up e8) (evd_var rfl r8) (isk_Stay s) (valV_at (κ := kStay) (f := fun s => V.int (K48G.best (succ k) i s : Nat)) (fun y hy e => key_inj (A.ok y hy) (A.ok _ (A.st s ((hl2 s).mp hs))) e) (A.st s ((hl2 s).mp hs)))) (.int _)))).is (by rw [List.map_map]; rfl)) (mx_mem ?_) fun y hy => K48G.le_mx hy) fun v H8 e8 rv => q v _ H8 ((e06.trans e7).trans e8) rv ⟨some _, rfl, ?_⟩
        · obtain ⟨s, hs⟩ := starts_ne hl2
          intro z
          have := List.map_eq_nil_iff.mp z
          rw [this] at hs
          cases hs
        · refine K48G.told_some (succ k) (ns := l) A.cl A.st hst (fun s hs => K48G.le_mx (List.mem_map.mpr ⟨s, (hl2 s).mpr hs, rfl⟩)) ?_
          have hne : l2.map (K48G.best (succ k) i) ≠ [] := by
            obtain ⟨s, hs⟩ := starts_ne hl2
            intro z
            have := List.map_eq_nil_iff.mp z
            rw [this] at hs
            cases hs
          obtain ⟨s, hs, e⟩ := List.mem_map.mp (mx_mem hne)
          exact ⟨s, (hl2 s).mp hs, e⟩
      · have hst : ¬ ∀ s ∈ l, K48G.best (succ k) (i + 1) s = K48G.best (succ k) i s := of_decide_eq_false hb
        refine s_asg (ev_slot rfl) fun H7 e7 => ?_
        refine ⟨a2', ld, some (.int (i : Nat)), some (.ref ld), rfl, (e3.trans e35).trans (e6.trans e7), (d5.up e6).up e7, fun t ht => ?_⟩
        by_cases hti : t = i
        · subst hti
          have ⟨s, hs⟩ := Classical.not_forall.mp hst
          have ⟨h1, h2⟩ := Classical.not_imp.mp hs
          exact ⟨s, h1, h2⟩
        · exact hne t (by omega)
  · subst es
    refine q .non .none H3 ((e1.trans e2).trans e3) .non ⟨none, rfl, ?_⟩
    refine K48G.told_none (succ k) (ns := l) A.cl A.rc fun t ht => hne t ?_
    show t < (((l.length + 1 : Nat) : Int)).toNat
    omega
end
end K48
/-! stay_most, least_cap. -/
namespace K48
open PySem L2 Evl K48M
theorem isBelow_nat {n c : Nat} (h : n < c) : isBelowD (c : Int) (dI n) = true := by
  show (decide ((0 : Int) ≤ (n : Int)) && decide ((n : Int) < (c : Int))) = true
  rw [decide_eq_true (by omega), decide_eq_true (by omega)]
  rfl
theorem ctlFit_ok {C L : Nat} {k : Cache} (o : Ok C L k) (hL : L ≤ 4) {x : Ctl} (hx : x ∈ k) : ctlFit L C (dCtl x) = true := by
  obtain ⟨c, hc⟩ := List.getElem?_of_mem hx
  have hcC : c < C := by
    rw [← o.len]
    exact (List.getElem?_eq_some_iff.mp hc).1
  have ex : ctl k c = x := by
    unfold ctl
    rw [List.getD_eq_getElem?_getD, hc]
    rfl
  have h1 := o.hlen c hcC
  have h2 := o.hlt c
  have h3 := o.lin c hcC
  have h4 := o.nx c hcC
  have h0 := o.l1
  rw [ex] at h1 h3 h4
  show ((decide (1 ≤ L) && decide (L ≤ 4)) && (decide (((x.hits.map dI).length : Int) = (L : Int)) && belowAll (C : Int) (x.hits.map dI) && (isBelowD (L : Int) (dI x.line) && isBelowD (C : Int) (dI x.nxt)))) = true
  rw [decide_eq_true h0, decide_eq_true hL, decide_eq_true (by rw [List.length_map, h1]), isBelow_nat h3, isBelow_nat h4]
  have : belowAll (C : Int) (x.hits.map dI) = true := by
    unfold belowAll
    rw [List.all_eq_true]
    intro d hd
    obtain ⟨n, hn, rfl⟩ := List.mem_map.mp hd
    obtain ⟨j, hj⟩ := List.getElem?_of_mem hn
    refine isBelow_nat ?_
    have hjL : j < L := by
      rw [← h1]
      exact (List.getElem?_eq_some_iff.mp hj).1
    have := h2 j hcC hjL
    unfold hit at this
    rw [ex, List.getD_eq_getElem?_getD, hj] at this
    exact this
  rw [this]
  rfl
theorem cacheRes_ok {C L : Nat} {k : Cache} (CC : Addr) (o : Ok C L k) (hC : C ≤ 60) (hL : L ≤ 4) : cacheRes CC (dCache k) = .inl (dCache k) := by
  have hl := o.len
  have h1 := o.c1
  cases k with
  | nil =>
    have hl : (0 : Nat) = C := hl
    omega
  | cons x k =>
    have e0 : linesOf (dCtl x) = L := by
      have h2 := o.hlen 0 h1
      have h2 : x.hits.length = L := h2
      show (x.hits.map dI).length = L
      rw [List.length_map, h2]
    show (if (dCtl x :: k.map dCtl).length ≤ 60 then ((match badAt (ctlFit (linesOf (dCtl x)) (dCtl x :: k.map dCtl).length) (dCtl x :: k.map dCtl) with
      | some i => .inr (CC, "at", dI i)
      | none => .inl (.tuple (dCtl x :: k.map dCtl)) : Res)) else .inr (CC, "at", .int (-1)) : Res) = _
    have e1 : (dCtl x :: k.map dCtl).length = C := by
      rw [List.length_cons, List.length_map]
      exact hl
    rw [e1, if_pos hC, e0]
    have : badAt (ctlFit L C) (dCtl x :: k.map dCtl) = none := badAt_none fun j z hz => by
      obtain ⟨y, hy, rfl⟩ := List.mem_map.mp (show z ∈ (x :: k).map dCtl from List.mem_of_getElem? hz)
      exact ctlFit_ok o hL hy
    rw [this]
    rfl
theorem smallC_ok {C L : Nat} {k : Cache} (o : Ok C L k) (hL : L ≤ 4) : smallC (dCache k) := fun y hy zs ez => by
  obtain ⟨x, hx, rfl⟩ := List.mem_map.mp hy
  obtain ⟨c, hc⟩ := List.getElem?_of_mem hx
  have hcC : c < C := by
    rw [← o.len]
    exact (List.getElem?_eq_some_iff.mp hc).1
  have ex : ctl k c = x := by
    unfold ctl
    rw [List.getD_eq_getElem?_getD, hc]
    rfl
  have h1 := o.hlen c hcC
  rw [ex] at h1
  unfold dCtl at ez
  cases ez
  refine ⟨Nat.le_of_ble_eq_true rfl, fun hs r e => ?_⟩
  unfold dNs at e
  cases e
  rw [List.length_map, h1]
  omega
section
variable {K : PySem.W.Frag} {σ : S} {H H' : Hp} {te : TE} {D : Ends}
theorem d_retE {R : PyData → Prop} (h : EvE te σ H R) (k : ∀ v d H1, Ex H H1 → Rp H1 v d → R d → D.rt v H1) : tRet te D σ H := h H (Ex.refl H) _ k
end
section
variable {P : Program} {w : World} {K : PySem.W.Frag} {mg : Str → Option Value} {base : Heap} {CC : Addr}
theorem ok_stay_most {C L : Nat} {f : Addr} {fd : FuncData} (F : Fun K "stay_most" "stay_most" s_stay_most f fd) (T : Mg mg) (c4 : Cal P w K mg base CX0 4 "most_met" ["cache"] (spE (Rmost C L))) (c5 : CalX P w K mg base 5 "need_cache" ["value"] [] (spX (Rcache CC))) : FnOk P w K mg base CX0 6 f fd ["cache"] (spE (Rmost C L)) := by
  refine F.ok sc_stay_most (fun vs H Q E h => spE_len h fun ds d ⟨k, e, _⟩ => by rw [e]; rfl) (fun cdv A outer sh H vs Q E hr h => ?_)
  obtain ⟨ds, Post, r, ⟨k, rfl, o, hC, hL, rfl⟩, q⟩ := h
  cases r with
  | cons r1 r =>
  cases r
  refine ⟨_, pss_one (ps_ret (pe_cal c4 hr (by decide) (by rfl) (pa_cons (pe_calX c5 hr (by decide) (by rfl) passL (pa_cons (pv 0) pa_nil)) pa_nil))), ?_⟩
  exact d_retE (eve_call (evds_cons (evd_callX (dd := []) (evds_cons (evd_var rfl r1) evds_nil) (fun _ => .nil) ⟨_, rfl, smallC_ok o (by omega), (cacheRes_ok CC o (by omega) (by omega)).symm⟩) evds_nil) ⟨k, rfl, o, hC, hL, rfl⟩) fun v d H1 e r p => q v d H1 e r p
def Rleast (C L : Nat) (ds : List PyData) (Post : PyData → Prop) : Prop := ∃ k, ds = [dCache k] ∧ Ok C L k ∧ C ≤ 4 ∧ L ≤ 3 ∧ Post = fun d => ∃ o, d = dO (o.map (· + 1)) ∧ K48G.Told (succ k) (K48M.St k L) o
theorem ok_least_cap {C L : Nat} {f : Addr} {fd : FuncData} (F : Fun K "least_cap" "least_cap" s_least_cap f fd) (T : Mg mg) (c6 : Cal P w K mg base CX0 6 "stay_most" ["cache"] (spE (Rmost C L))) : FnOk P w K mg base CX0 7 f fd ["cache"] (spE (Rleast C L)) := by
  refine F.ok sc_least_cap (fun vs H Q E h => spE_len h fun ds d ⟨k, e, _⟩ => by rw [e]; rfl) (fun cdv A outer sh H vs Q E hr h => ?_)
  obtain ⟨ds, Post, r, ⟨k, rfl, o, hC, hL, rfl⟩, q⟩ := h
  cases r with
  | cons r1 r =>
  cases r
  refine ⟨_, pss_cons (ps_set (i := 1) sc_least_cap.nd rfl (.inl rfl) (pe_cal c6 hr (by decide) (by rfl) (pa_cons (pv 0) pa_nil)))
    (pss_one (ps_ret (pe_ifExp (pt_cmpR op_isN (pv 1) pe_non (nomark _)) pe_non (pe_op op_add (pv 1) pe_int)))), ?_⟩
  refine d_seq (d_asgE (eve_call (evds_cons (evd_var rfl r1) evds_nil) ⟨k, rfl, o, hC, hL, rfl⟩) fun v d H1 e1 rv ⟨m, em, hm⟩ => ?_)
  subst em
  refine d_ret (d := dO (m.map (· + 1))) (evd_if (b := isNone (dO m)) (evt_test (evd_isN (evd_var rfl rv))) (fun hb => ?_) (fun hb => ?_)) fun v2 H2 e2 r2 => q v2 _ H2 (e1.trans e2) r2 ⟨m, rfl, hm⟩
  · cases m with
    | none => exact evd_non
    | some n => cases hb
  · cases m with
    | none => cases hb
    | some n => exact (evd_add (evd_var rfl rv) evd_int).is (congrArg PyData.int (Int.natCast_add n 1).symm)
end
end K48
/-! Plain: names met told by the row behind the last access; distinct names. -/
namespace K48M
/-- how many names -/
def nd (r : List Nat) : Nat := (stk r).length
theorem met_drop {y : Nat} : ∀ (r : List Nat) (j : Nat), r[j]? = some y → (∀ i, j < i → r[i]? ≠ some y) → ∀ z, z ∈ met r y ↔ z ∈ r.drop (j + 1) := by
  refine snoc_ind (fun j h => by cases h) fun r x ih j hj hn z => ?_
  have hjl : j < (r ++ [x]).length := (List.getElem?_eq_some_iff.mp hj).1
  rw [List.length_append, List.length_singleton] at hjl
  by_cases e : x = y
  · subst e
    have hl : j = r.length := by
      by_cases q : j = r.length
      · exact q
      · exact absurd (by simp) (hn r.length (by omega))
    subst hl
    rw [met_self]
    simp
  · have hjr : j < r.length := by
      by_cases q : j = r.length
      · subst q
        rw [List.getElem?_append_right (Nat.le_refl _)] at hj
        simp at hj
        exact absurd hj e
      · omega
    rw [List.getElem?_append_left hjr] at hj
    have := ih j hj (fun i hi h => hn i hi (by
      rw [List.getElem?_append_left (List.getElem?_eq_some_iff.mp h).1]
      exact h)) z
    rw [mem_met r (Ne.symm e), this, List.drop_append_of_le_length (by omega), List.mem_append, List.mem_singleton]
    constructor
    · rintro (h | h)
      · exact .inr h
      · exact .inl h
    · rintro (h | h)
      · exact .inr h
      · exact .inl h
/-- the places of a name -/
def places (r : List Nat) (y n : Nat) : List Nat := (List.range n).filter fun j => decide (r[j]? = some y)
theorem mem_places {r : List Nat} {y n j : Nat} : j ∈ places r y n ↔ j < n ∧ r[j]? = some y := by
  unfold places
  rw [List.mem_filter, List.mem_range, decide_eq_true_eq]
theorem sorted_places (r : List Nat) (y n : Nat) : (places r y n).Pairwise (· < ·) := List.Pairwise.filter _ List.pairwise_lt_range
theorem places_nil {r : List Nat} {y n : Nat} (h : places r y n = []) : y ∉ r.take n := fun hy => by
  obtain ⟨j, hj⟩ := List.getElem?_of_mem hy
  have hjn : j < n := by
    have := (List.getElem?_eq_some_iff.mp hj).1
    rw [List.length_take] at this
    omega
  rw [List.getElem?_take, if_pos hjn] at hj
  have : j ∈ places r y n := mem_places.mpr ⟨hjn, hj⟩
  rw [h] at this
  cases this
theorem places_last {r : List Nat} {y n j : Nat} {l : List Nat} (h : places r y n = l ++ [j]) : j < n ∧ (r.take n)[j]? = some y ∧ ∀ i, j < i → (r.take n)[i]? ≠ some y := by
  have hj : j ∈ places r y n := by
    rw [h]
    simp
  obtain ⟨h1, h2⟩ := mem_places.mp hj
  refine ⟨h1, by rw [List.getElem?_take, if_pos h1]; exact h2, fun i hi e => ?_⟩
  have hin : i < n := by
    have := (List.getElem?_eq_some_iff.mp e).1
    rw [List.length_take] at this
    omega
  rw [List.getElem?_take, if_pos hin] at e
  have hi' : i ∈ places r y n := mem_places.mpr ⟨hin, e⟩
  have hs := sorted_places r y n
  rw [h] at hi' hs
  rcases List.mem_append.mp hi' with q | q
  · have := (List.pairwise_append.mp hs).2.2 i q j (List.mem_singleton.mpr rfl)
    omega
  · have := List.mem_singleton.mp q
    omega
theorem nil_or_snoc {α : Type} (l : List α) : l = [] ∨ ∃ a x, l = a ++ [x] := by
  rcases List.eq_nil_or_concat l with h | ⟨a, x, h⟩
  · exact .inl h
  · exact .inr ⟨a, x, by rw [h, List.concat_eq_append]⟩
theorem age_none {r : List Nat} {y cap : Nat} (h : y ∉ r) : age cap r y = cap := if_neg h
theorem age_some {r : List Nat} {y cap j : Nat} (h : r[j]? = some y) : age cap r y = min cap (met r y).length := if_pos (List.mem_of_getElem? h)
theorem ages_at {cap : Nat} {r : List Nat} {i y : Nat} (h : r[i]? = some y) : (ages cap r)[i]? = some (age cap (r.take i) y) := by
  unfold ages
  rw [List.getElem?_map, List.getElem?_range (List.getElem?_eq_some_iff.mp h).1]
  show some (age cap (r.take i) (r.getD i 0)) = _
  rw [List.getD_eq_getElem?_getD, h]
  rfl
theorem ages_take {cap : Nat} {r : List Nat} {i y : Nat} (h : r[i]? = some y) : (ages cap r).take (i + 1) = (ages cap r).take i ++ [age cap (r.take i) y] := by
  rw [List.take_add_one, ages_at h]
  rfl
end K48M
/-! access_ages. -/
namespace K48
open PySem L2 Evl K48M
theorem cut_last {α : Type} (xs : List α) (x : α) : cutD (xs ++ [x]) (some (-1)) none = [x] := by
  unfold cutD
  have h1 : HT.sIx (xs ++ [x]).length 0 (some (-1)) = xs.length := by
    unfold HT.sIx
    simp
    omega
  have h2 : HT.sIx (xs ++ [x]).length (xs ++ [x]).length none = (xs ++ [x]).length := rfl
  rw [h1, h2, List.length_append, List.drop_left]
  simp
theorem cut_last0 {α : Type} : cutD ([] : List α) (some (-1)) none = [] := by
  unfold cutD
  simp
theorem eqv_nil (xs : List PyData) : PyData.eqv (.list xs) (.list []) = decide (xs = []) := by
  cases xs with
  | nil => rw [PyData.eqv, PyData.eqvAll]; rfl
  | cons x xs => rw [PyData.eqv, PyData.eqvAll]; rfl
section
variable {K : PySem.W.Frag} {w : World} {σ : S} {H : Hp} {ta tb tc : TE}
theorem evd_min {i j : Nat} (ha : EvD ta σ H (dI i)) (hb : EvD tb σ H (dI j)) : EvD (tCB (fun xs H Q => ∃ i j, xs = [V.int i, V.int j] ∧ Q (.int (if j < i then j else i)) H) (tCons ta (tCons tb tNil))) σ H (dI (min i j)) := evd_cb (evds_cons ha (evds_cons hb evds_nil)) fun vs H1 _ r Q q => by
  cases r with
  | cons r1 r => cases r with
  | cons r2 r =>
  cases r
  rw [r1.int_inv, r2.int_inv]
  refine ⟨_, _, rfl, ?_⟩
  have : (if (j : Int) < (i : Int) then (j : Int) else (i : Int)) = ((min i j : Nat) : Int) := by
    split <;> omega
  rw [this]
  exact q _ H1 (Ex.refl _) (.int _)
theorem same2_nat {l m : List Nat} (h1 : l.Nodup) (h : ∀ z, z ∈ l ↔ z ∈ m) : Same2 (l.map fun n : Nat => (n : Int)) (m.map fun n : Nat => (n : Int)) := by
  refine ⟨List.Pairwise.map _ (fun a b hne e => hne (by omega)) h1, fun k => ?_⟩
  rw [List.mem_map, List.mem_map]
  constructor
  · rintro ⟨z, hz, e⟩
    exact ⟨z, (h z).mp hz, e⟩
  · rintro ⟨z, hz, e⟩
    exact ⟨z, (h z).mpr hz, e⟩
theorem evd_lensetN {l m : List Nat} (h : EvD ta σ H (dNs m)) (hz : m.length ≤ 4000) (h1 : l.Nodup) (h2 : ∀ z, z ∈ l ↔ z ∈ m) : EvD (tCB (rLenSetO w) (tCons (tCB (rSetTI K w) (tCons ta tNil)) tNil)) σ H (dI l.length) := by
  have := evd_lenset (K := K) (w := w) (ns := m.map fun n : Nat => (n : Int)) (h.is (by unfold dNs; rw [List.map_map]; rfl)) (by rw [List.length_map]; exact hz) (same2_nat h1 h2)
  rw [List.length_map] at this
  exact this
end
/-- the filter of places, told of data -/
def atP (r : List Nat) (y : Nat) : PyData → Bool
  | .int i => decide (r[i.toNat]? = some y)
  | _ => false
theorem places_data (r : List Nat) (y n : Nat) : (((List.range n).map fun i : Nat => PyData.int (i : Nat)).filter (atP r y)).map (fun d => d) = (places r y n).map dI := by
  rw [List.map_id'', List.filter_map]
  · rfl
  · intro x
    rfl
theorem isNum_I (n : Nat) : isNumD (dI n) = true := decide_eq_true (by omega : (0 : Int) ≤ (n : Int))
theorem bad_Ns (r : List Nat) : badAt isNumD (r.map dI) = none := badAt_none fun j z hz => by
  rw [List.getElem?_map] at hz
  obtain ⟨n, _, rfl⟩ := Option.map_eq_some_iff.mp hz
  exact isNum_I n
theorem accRes_ok (CI : Addr) (r : List Nat) : accRes CI (r.map dI) = .inl (dNs r) := by
  unfold accRes
  rw [bad_Ns]
  rfl
theorem many_nat (n : Nat) : manyOk 0 (dI n) = true := decide_eq_true (by omega : (0 : Int) ≤ (n : Int))
section
variable {P : Program} {w : World} {K : PySem.W.Frag} {mg : Str → Option Value} {base : Heap} {CC CI CZ : Addr}
/-- what access_ages tells: a bad row, a bad cap, the ages -/
inductive AgesR (CI CZ : Addr) : PyData → PyData → Res → Prop
  | row {x c : PyData} {r : Addr × Str × PyData} : Racs CI [x] (.inr r) → AgesR CI CZ x c (.inr r)
  | cap {x c : PyData} {r : List Nat} : SeqD x (r.map dI) → manyOk 0 c = false → AgesR CI CZ x c (.inr (CZ, "word", .str "cap"))
  | ok {x : PyData} {r : List Nat} {cap : Nat} : SeqD x (r.map dI) → r.length ≤ 1000 → AgesR CI CZ x (dI cap) (.inl (dNs (ages cap r)))
def Rages (CI CZ : Addr) (ds : List PyData) (r : Res) : Prop := ∃ x c, ds = [x, c] ∧ AgesR CI CZ x c r
theorem rps0 : ∀ H, Rps H [V.int 0] [PyData.int 0] := fun H => .cons (.int 0) .nil
theorem ok_access_ages {f : Addr} {fd : FuncData} (F : Fun K "access_ages" "access_ages" s_access_ages f fd) (T : Mg mg) (c3 : CalX P w K mg base 3 "need_accesses" ["value"] [] (spX (Racs CI))) (c2 : CalX P w K mg base 2 "need_many" ["value", "word", "least"] [.int 0] (spX (Rmany CZ))) :
    FnOk P w K mg base (L2.CX P w) 4 f fd ["row", "cap"] (spX (Rages CI CZ)) := by
  refine F.okX sc_access_ages (fun vs H Q E h => spX_len h fun ds d ⟨x, c, e, _⟩ => by rw [e]; rfl) (fun cdv A outer s H vs Q E hr h => ?_)
  obtain ⟨ds, res, r, ⟨x, c, rfl, hx⟩, q⟩ := h
  cases r with
  | cons r1 r => cases r with
  | cons r2 r =>
  cases r
  refine ⟨_, pss_cons (ps_set (i := 0) sc_access_ages.nd rfl (.inr rfl) (pe_calX c3 hr (by decide) (by rfl) (passes_call (takes_of rfl rfl rfl rfl) (fun _ _ _ _ h => h)) (pa_cons (pv 0) pa_nil)))
    (pss_cons (ps_expr (pe_calX c2 hr (by decide) (by rfl) (passes_call (takes_of rfl rfl rfl rfl) (fun _ _ _ _ h => h)) (pa_cons (pv 1) (pa_cons pe_str pa_nil))))
    (pss_cons (ps_set (i := 2) sc_access_ages.nd rfl (.inl rfl) (pe_lst pa_nil))
    (pss_cons (ps_for (passes_of rfl) rfl (pi_enumX (by rfl) T.enumerate (pa_cons (pv 0) pa_nil)) (pg_tup rfl (pgs_cons (pg_name (i := 3) sc_access_ages.nd rfl (.inl rfl)) (pgs_cons (pg_name (i := 4) sc_access_ages.nd rfl (.inr rfl)) pgs_nil)))
      (pss_cons (ps_set (i := 5) sc_access_ages.nd rfl (.inl rfl) (pe_slice sl_list (pe_lc (own := [("place", 6)]) (g := gName 6) (tt := tTest (tOp rEq (tOp (rIxT K) (tVar 0) (tVar 6)) (tVar 4))) rfl sc_access_ages.nd (pi_range1 (by rfl) T.range (pa_cons (pv 3) pa_nil)) (blkOk_by (N := N_access_ages) (sc := defScope s_access_ages) (by decide +kernel))
          (fun _ _ _ _ _ => pg_name (i := 6) sc_access_ages.nd rfl (Or.inl rfl)) (fun _ _ _ _ _ => pts_one (pt_cmpR op_eq (pe_ix (r := rIxT K) ix_tup (pv 0) (pv 6) (fun _ _ => rfl)) (pv 4) (nomark _))) (fun _ _ _ _ _ => pv 6)) (po_some (pe_un un_neg pe_int)) po_none))
      (pss_one (ps_expr (pe_bm PySem.F.plainAttrs_list PySem.F.slot_list_append PySem.F.type_list_append mt_append (pv 2) (pa_cons
        (pe_ifExp (pt_cmpR (op_eqD (u64 hr)) (pv 5) (pe_lst pa_nil) (nomark _)) (pv 1)
          (pe_callB (call_min2 rfl) (by rfl) T.min (by decide +kernel) (pa_cons (pv 1) (pa_cons (pe_callB cr_lenSetO (by rfl) T.len (by decide +kernel) (pa_cons (pe_callTy (cr_setTI rfl) (by rfl) T.set (by decide +kernel) (pa_cons (pe_slice sl_tupP (pv 0) (po_some (pe_op op_add (pe_ix ix_list (pv 5) pe_int (fun _ _ => rfl)) pe_int)) (po_some (pv 3))) pa_nil)) pa_nil)) pa_nil)))) pa_nil))))))
    (pss_one (ps_ret (pe_callTy call_tupleP (by rfl) T.tuple (by decide +kernel) (pa_cons (pv 2) pa_nil))))))), ?_⟩
  cases hx with
  | @row _ r hr1 => exact d_seq (ev_raiseX (dd := []) (evds_cons (evd_var rfl r1) evds_nil) (fun _ => .nil) hr1 q _)
  | @cap _ r hs hc =>
    refine d_seq (d_asg (evd_callX (d := dNs r) (dd := []) (evds_cons (evd_var rfl r1) evds_nil) (fun _ => .nil) ⟨_, rfl, .inr ⟨_, hs, (accRes_ok CI r).symm⟩⟩) fun v H1 e1 rv => ?_)
    refine d_seq (ev_raiseX (dd := [.int 0]) (evds_cons (evd_var rfl (r2.up e1)) (evds_cons evd_str evds_nil)) rps0 ⟨_, _, _, rfl, ?_⟩ (Rsd.mono q e1) _)
    rw [if_neg (by rw [hc]; decide)]
  | @ok r cap hs hl =>
    refine d_seq (d_asg (evd_callX (d := dNs r) (dd := []) (evds_cons (evd_var rfl r1) evds_nil) (fun _ => .nil) ⟨_, rfl, .inr ⟨_, hs, (accRes_ok CI r).symm⟩⟩) fun v0 H1 e1 rv0 => ?_)
    refine d_seq (d_drop (evd_callX (d := dI cap) (dd := [.int 0]) (evds_cons (evd_var rfl (r2.up e1)) (evds_cons evd_str evds_nil)) rps0 ⟨_, _, _, rfl, by rw [if_pos (many_nat cap)]⟩) fun H2 e2 => ?_)
    refine d_seq (d_asgN (evn_lst evds_nil) fun l xs H3 nl e3 hl3 rl => ?_)
    cases rl
    have rv3 := (rv0.up e2).up e3
    have rc3 := ((r2.up e1).up e2).up e3
    refine d_seq (d_forE (ds := r.map dI) (evd_var rfl rv3) (.inr rfl) fun v H4 e4 rv4 => ⟨fun i σ' H' => ∃ a3 a4 a5 acc, σ' = [some v0, some _, some (.ref l), a3, a4, a5, none] ∧ But [l] H4 H' ∧ H' l = some (.lst acc) ∧ Rps H' acc (((ages cap r).take i).map dI),
      ⟨none, none, none, [], rfl, But.refl, e4 _ _ hl3, by rw [List.take_zero]; exact .nil⟩, fun i σ' H' ⟨_, _, _, _, _, b, _, _⟩ => Rp.tk (b.tk (noT_one (e4 _ _ hl3))) _ (tupD_Ns r) rv4, fun i y d σ' H5 H6 hi hd ⟨a3, a4, a5, acc, es, b, hlH, rac⟩ ex re => ?_, fun σ' H5 ⟨a3, a4, a5, acc, es, b, hlH, rac⟩ => ?_⟩)
    · subst es
      rw [List.getElem?_map] at hd
      obtain ⟨nm, hnm, rfl⟩ := Option.map_eq_some_iff.mp hd
      have hir : i < r.length := (List.getElem?_eq_some_iff.mp hnm).1
      have tk := b.tk (noT_one (e4 _ _ hl3))
      have kr : Rp H6 v0 (dNs r) := (Rp.tk tk _ (tupD_Ns r) (rv3.up e4)).up ex
      have kc : Rp H6 _ (dI cap) := (Rp.tk tk _ (tupD_I cap) (rc3.up e4)).up ex
      have hl6 := ex _ _ hlH
      -- last
      have hget : ∀ j, j < i → r[j]? = some (r.getD j 0) := fun j hj => by
        rw [List.getD_eq_getElem?_getD, List.getElem?_eq_getElem (by omega)]
        rfl
      refine d_seq (d_asgN (evn_slL (ds := (places r nm i).map dI) ((EvN.toD (evn_lcR (vs := [6]) (atP r nm) (fun d => d) (evds_cons (evd_var rfl (.int _)) evds_nil) (by omega) (fun _ _ _ => rfl) (fun _ => rfl) (fun j H7 hj e7 => ⟨evt_test ((evd_eqI (evd_ixT (evd_var rfl (kr.up e7)) (evd_var rfl (.int _)) (atI_map (hget j hj))) (evd_var rfl (re.up e7))).is ?gh), fun _ => evd_var rfl (.int _)⟩))).is (congrArg PyData.list (places_data r nm i))) (evdo_some (evd_neg evd_int)) evdo_none) fun l5 xs5 H7 n5 e7 h7 r7 => ?_)
      case gh =>
        show PyData.bool (decide (((r.getD j 0 : Nat) : Int) = (nm : Int))) = PyData.bool (decide (r[((j : Nat) : Int).toNat]? = some nm))
        rw [Int.toNat_natCast, hget j hj]
        exact congrArg PyData.bool (decide_eq_decide.mpr (by rw [Option.some.injEq]; omega))
      have kr7 := kr.up e7
      have kc7 := kc.up e7
      have hl7 := e7 _ _ hl6
      have hacc : acc.length ≤ 1000 := by
        rw [rac.len, List.length_map, List.length_take]
        omega
      obtain ⟨ps, eps⟩ : ∃ ps : List Nat, cutD ((places r nm i).map dI) (some (-1)) none = ps.map dI ∧ ((ps = [] ∧ places r nm i = []) ∨ ∃ a j, ps = [j] ∧ places r nm i = a ++ [j]) := by
        rcases nil_or_snoc (places r nm i) with h | ⟨a, j, h⟩
        · exact ⟨[], by rw [h]; exact cut_last0, .inl ⟨rfl, h⟩⟩
        · refine ⟨[j], ?_, .inr ⟨a, j, rfl, h⟩⟩
          rw [h, List.map_append]
          exact cut_last _ _
      obtain ⟨eps, hps⟩ := eps
      rw [eps] at r7
      have rl7 : Rp H7 (.ref l5) (.list (ps.map dI)) := .lst h7 r7
      refine d_app hl7 (ev_slot rfl) (d := dI (age cap (r.take i) nm)) (evd_if (b := decide (ps.map dI = [])) (evt_test ((evd_eqD (evd_var rfl rl7) (EvN.toD (evn_lst evds_nil)) (shp_lst (shp_map shp_I _)).shaped rfl).is (congrArg PyData.bool (eqv_nil _)))) (fun hb => ?_) (fun hb => ?_)) (by omega) fun v8 H8 e8 r8 => ?_
      · have hp : ps = [] := List.map_eq_nil_iff.mp (of_decide_eq_true hb)
        rcases hps with ⟨_, hp2⟩ | ⟨a, j, hp2, _⟩
        · rw [age_none (places_nil hp2)]
          exact evd_var rfl kc7
        · rw [hp] at hp2
          cases hp2
      · have hp : ps ≠ [] := fun z => by
          rw [z] at hb
          cases hb
        rcases hps with ⟨hp2, _⟩ | ⟨a, j, rfl, hp2⟩
        · exact absurd hp2 hp
        · obtain ⟨q1, q2, q3⟩ := places_last hp2
          rw [age_some q2]
          have hti : (r.take i).length = i := by
            rw [List.length_take]
            omega
          refine evd_min (evd_var rfl kc7) (evd_lensetN (m := (r.take i).drop (j + 1)) ((evd_slT (evd_var rfl kr7) (evdo_some ((evd_add (evd_ixL (evd_var rfl rl7) evd_int rfl) evd_int).is (congrArg PyData.int (Int.natCast_add j 1).symm))) (evdo_some (evd_var rfl (.int _)))).is ?_) (by
            rw [List.length_drop, hti]
            omega) (nodup_met _ _) (met_drop _ _ q2 q3))
          rw [cut_mid _ (by omega) (by rw [List.length_map]; omega), List.drop_take]
          unfold dNs
          rw [List.map_take, List.map_drop]
      · have hl8 := e8 _ _ hl7
        refine ⟨_, _, _, _, rfl, ((b.trans (But.ex ex)).trans (But.ex (e7.trans e8))).trans (But.upd (List.mem_singleton.mpr rfl)), upd_same, ?_⟩
        rw [ages_take hnm, List.map_append]
        have tk8 := Tk.upd (o := .lst (acc ++ [v8])) hl8
        exact Rps.append (Rps.tk tk8 _ (tupDs_map (fun _ => rfl) _) (((rac.up ex).up e7).up e8)) (.cons (Rp.tk tk8 _ rfl r8) .nil)
    · subst es
      rw [List.length_map, List.take_of_length_le (by rw [ages_length]; exact Nat.le_refl _)] at rac
      have eH : Ex H H5 := (((e1.trans e2).trans e3).trans e4).trans_but b (fresh_back (e1.trans e2) nl)
      exact d_ret (evd_tupL (evd_var rfl (.lst hlH rac))) fun v' H6 e6 r6 => q v' H6 (eH.trans e6) r6
end
end K48
/-! Plain: walks as rows; the search by layers. -/
namespace K48M
open K48G
/-- the names are 0, 1, .. -/
def Can (r : List Nat) : Prop := ∀ x, x ∈ r ↔ x < nd r
theorem can_nil : Can [] := fun x => ⟨fun h => (List.not_mem_nil h).elim, fun h => absurd h (Nat.not_lt_zero _)⟩
theorem nd_snoc (r : List Nat) (y : Nat) : nd (r ++ [y]) = if y ∈ r then nd r else nd r + 1 := by
  unfold nd
  rw [stk_snoc, List.length_cons]
  by_cases h : y ∈ r
  · rw [if_pos h, filter_len (nodup_stk r) ((mem_stk y r).mpr h)]
  · rw [if_neg h, filter_ne_of_not_mem fun z => h ((mem_stk y r).mp z)]
theorem Can.new {r : List Nat} (h : Can r) : nd r ∉ r := fun z => absurd ((h _).mp z) (Nat.lt_irrefl _)
theorem Can.snoc {r : List Nat} {y : Nat} (h : Can r) (hy : y ∈ r ∨ y = nd r) : Can (r ++ [y]) := fun x => by
  rw [nd_snoc, List.mem_append, List.mem_singleton]
  by_cases hm : y ∈ r
  · rw [if_pos hm, ← h x]
    constructor
    · rintro (z | rfl)
      · exact z
      · exact hm
    · exact .inl
  · rw [if_neg hm, h x]
    rcases hy with q | rfl
    · exact absurd q hm
    · omega
section
variable {C L : Nat} {k : Cache}
/-- a name that a walk may take next -/
def Nx (k : Cache) (L : Nat) (r : List Nat) (y : Nat) : Prop := some y ∈ (atR k L r).2 ∨ y = nd r
theorem Nx.mem (o : Ok C L k) {r : List Nat} {y : Nat} (h : Nx k L r y) : y ∈ r ∨ y = nd r := by
  rcases h with h | h
  · obtain ⟨j, hj⟩ := List.getElem?_of_mem h
    exact .inl ((run_at o r).held j y hj)
  · exact .inr h
theorem Nx.can (o : Ok C L k) {r : List Nat} {y : Nat} (h : Nx k L r y) (c : Can r) : Can (r ++ [y]) := c.snoc (h.mem o)
theorem new_out (o : Ok C L k) {r : List Nat} (c : Can r) : ¬ some (nd r) ∈ (atR k L r).2 := fun h => by
  obtain ⟨j, hj⟩ := List.getElem?_of_mem h
  exact c.new ((run_at o r).held j _ hj)
theorem go_hit {s : Nat × Lines} {y : Nat} (h : some y ∈ s.2) : go k s y = (1, (hit k s.1 (s.2.idxOf (some y)), s.2)) := by
  unfold go
  rw [if_pos h]
theorem go_miss {s : Nat × Lines} {y : Nat} (h : ¬ some y ∈ s.2) : go k s y = (0, ((ctl k s.1).nxt, s.2.set (ctl k s.1).line (some y))) := by
  unfold go
  rw [if_neg h]
theorem at_hit {r : List Nat} {y : Nat} (h : some y ∈ (atR k L r).2) : atR k L (r ++ [y]) = (hit k (atR k L r).1 ((atR k L r).2.idxOf (some y)), (atR k L r).2) := by
  rw [atR_snoc, go_hit h]
theorem at_miss {r : List Nat} {y : Nat} (h : ¬ some y ∈ (atR k L r).2) : atR k L (r ++ [y]) = ((ctl k (atR k L r).1).nxt, (atR k L r).2.set (ctl k (atR k L r).1).line (some y)) := by
  rw [atR_snoc, go_miss h]
theorem idx_at (o : Ok C L k) {r : List Nat} {j x : Nat} (h : (atR k L r).2[j]? = some (some x)) : (atR k L r).2.idxOf (some x) = j := idxOf_eq h fun i hi => (run_at o r).dist i j x hi h
/-- a name held, behind the access of another one that is held -/
theorem stay_hit (o : Ok C L k) {r : List Nat} {x y j i : Nat} (hx : (atR k L r).2[j]? = some (some x)) (hy : (atR k L r).2[i]? = some (some y)) (hxy : x ≠ y) :
    (atR k L (r ++ [y])).2[j]? = some (some x) ∧ stayOf k L (r ++ [y]) j x = (hit k (atR k L r).1 i, fl (atR k L r).2, j, (mf (met r x) (atR k L r).2).set i true) ∧
    (met (r ++ [y]) x).length = (met r x).length + (if (mf (met r x) (atR k L r).2).getD i false then 0 else 1) := by
  have R := run_at o r
  have hm : some y ∈ (atR k L r).2 := List.mem_of_getElem? hy
  have hi := idx_at o hy
  have ha := at_hit (k := k) (L := L) hm
  rw [hi] at ha
  refine ⟨by rw [ha]; exact hx, ?_, ?_⟩
  · unfold stayOf
    rw [ha, mf_ext (m := met r x) (ls := (atR k L r).2) (j := i) (y := y) rfl hy ((mem_met r hxy).mpr (.inl rfl)) (fun _ _ => rfl) (fun n z hn hz => ?_)]
    rw [mem_met r hxy]
    constructor
    · rintro (e | e)
      · exact absurd (R.dist n _ y (e ▸ hz) hy) hn
      · exact e
    · exact .inr
  · rw [mf_getD hy, met_count r hxy]
    by_cases q : y ∈ met r x
    · simp [q]
    · simp [q]
/-- .. behind the access of a new one -/
theorem stay_miss (o : Ok C L k) {r : List Nat} {x y j : Nat} (hx : (atR k L r).2[j]? = some (some x)) (hy : y ∉ r) (hl : (ctl k (atR k L r).1).line ≠ j) :
    (atR k L (r ++ [y])).2[j]? = some (some x) ∧ stayOf k L (r ++ [y]) j x = ((ctl k (atR k L r).1).nxt, (fl (atR k L r).2).set (ctl k (atR k L r).1).line true, j, (mf (met r x) (atR k L r).2).set (ctl k (atR k L r).1).line true) ∧
    (met (r ++ [y]) x).length = (met r x).length + 1 := by
  have R := run_at o r
  have hm : ¬ some y ∈ (atR k L r).2 := fun h => by
    obtain ⟨i, hi⟩ := List.getElem?_of_mem h
    exact hy (R.held i y hi)
  have hxy : x ≠ y := fun e => hy (e ▸ R.held j x hx)
  have ha := at_miss (k := k) (L := L) hm
  have hll : (ctl k (atR k L r).1).line < (atR k L r).2.length := by
    rw [R.len]
    exact o.lin _ R.lt
  refine ⟨by rw [ha]; show ((atR k L r).2.set _ _)[j]? = _; rw [List.getElem?_set_ne hl]; exact hx, ?_, ?_⟩
  · unfold stayOf
    rw [ha]
    show (_, fl ((atR k L r).2.set _ _), _, mf _ ((atR k L r).2.set _ _)) = _
    rw [fl_set, mf_ext (m := met r x) (ls := (atR k L r).2) (ls' := (atR k L r).2.set (ctl k (atR k L r).1).line (some y)) (j := (ctl k (atR k L r).1).line) (y := y) (by simp) (List.getElem?_set_self hll) ((mem_met r hxy).mpr (.inl rfl)) (fun i hi => List.getElem?_set_ne (Ne.symm hi)) (fun i z hi hz => ?_)]
    rw [mem_met r hxy]
    rw [List.getElem?_set_ne (Ne.symm hi)] at hz
    constructor
    · rintro (q | q)
      · exact absurd (List.mem_of_getElem? (q ▸ hz)) hm
      · exact q
    · exact .inr
  · rw [met_count r hxy, if_neg fun z => hy (met_sub r x y z)]
abbrev Pair := List Nat × Nat
/-- a walk and a name that it holds -/
structure Pr (k : Cache) (L : Nat) (p : Pair) : Prop where
  can : Can p.1
  held : some p.2 ∈ (atR k L p.1).2
def pk (k : Cache) (L : Nat) (p : Pair) : Stay := stayOf k L p.1 ((atR k L p.1).2.idxOf (some p.2)) p.2
def mc (p : Pair) : Nat := (met p.1 p.2).length
/-- what further_stays takes -/
def Fu (k : Cache) (L : Nat) (p q : Pair) : Prop := ∃ y, Nx k L p.1 y ∧ y ≠ p.2 ∧ some p.2 ∈ (atR k L (p.1 ++ [y])).2 ∧ q = (p.1 ++ [y], p.2)
theorem Fu.pr (o : Ok C L k) {p q : Pair} (h : Fu k L p q) (hp : Pr k L p) : Pr k L q := by
  obtain ⟨y, h1, h2, h3, rfl⟩ := h
  exact ⟨h1.can o hp.can, h3⟩
theorem Fu.len {p q : Pair} (h : Fu k L p q) : q.1.length = p.1.length + 1 := by
  obtain ⟨y, h1, h2, h3, rfl⟩ := h
  simp
theorem Fu.same {p q : Pair} (h : Fu k L p q) : q.2 = p.2 := by
  obtain ⟨y, h1, h2, h3, rfl⟩ := h
  rfl
theorem pk_at (o : Ok C L k) {r : List Nat} {j x : Nat} (h : (atR k L r).2[j]? = some (some x)) : pk k L (r, x) = stayOf k L r j x := by
  unfold pk
  rw [idx_at o h]
/-- a further walk goes by a step of the graph, with its gain -/
theorem Fu.step (o : Ok C L k) {p q : Pair} (h : Fu k L p q) (hp : Pr k L p) : ∃ e, (e, pk k L q) ∈ succ k (pk k L p) ∧ mc q = mc p + e := by
  obtain ⟨y, h1, h2, h3, rfl⟩ := h
  obtain ⟨r, x⟩ := p
  have R := run_at o r
  have hj := get_of_mem hp.held
  simp only at h1 h2 h3 hj ⊢
  generalize (atR k L r).2.idxOf (some x) = j at hj
  rw [pk_at o hj]
  by_cases hm : some y ∈ (atR k L r).2
  · obtain ⟨i, hi⟩ := List.getElem?_of_mem hm
    obtain ⟨a1, a2, a3⟩ := stay_hit o hj hi (Ne.symm h2)
    refine ⟨_, ?_, a3⟩
    rw [pk_at o a1, a2]
    have hn : i ≠ j := fun e => by
      rw [e, hj] at hi
      exact h2 (by simpa using hi.symm)
    exact succ_hit (k := k) (c := (atR k L r).1) (h := j) (F := fl (atR k L r).2) (M := mf (met r x) (atR k L r).2) (fl_get hi) hn
  · have hy : y = nd r := by
      rcases h1 with h1 | h1
      · exact absurd h1 hm
      · exact h1
    have hyr : y ∉ r := by
      rw [hy]
      exact hp.can.new
    have hl : (ctl k (atR k L r).1).line ≠ j := fun e => by
      rw [at_miss hm] at h3
      obtain ⟨i, hi⟩ := List.getElem?_of_mem h3
      rcases set_get hi with ⟨_, z⟩ | ⟨a, b⟩
      · exact h2 z.symm
      · exact a ((R.dist i j x b hj).trans e.symm)
    obtain ⟨a1, a2, a3⟩ := stay_miss o hj hyr hl
    refine ⟨1, ?_, a3⟩
    rw [pk_at o a1, a2]
    exact succ_miss (k := k) (c := (atR k L r).1) (h := j) (F := fl (atR k L r).2) (M := mf (met r x) (atR k L r).2) hl
/-- each step of the graph is gone by a further walk -/
theorem real (o : Ok C L k) {p : Pair} (hp : Pr k L p) {e : Nat} {s : Stay} (hs : (e, s) ∈ succ k (pk k L p)) : ∃ q, Fu k L p q ∧ pk k L q = s ∧ mc q = mc p + e := by
  obtain ⟨r, x⟩ := p
  have R := run_at o r
  have hj := get_of_mem hp.held
  simp only at hj
  generalize (atR k L r).2.idxOf (some x) = j at hj
  rw [pk_at o hj] at hs
  rcases succ_cases hs with ⟨i, h1, h2, h3⟩ | ⟨h2, h3⟩
  · obtain ⟨y, hy⟩ := fl_true h1
    have hxy : x ≠ y := fun z => h2 (R.dist i j y hy (z ▸ hj))
    obtain ⟨a1, a2, a3⟩ := stay_hit o hj hy hxy
    cases h3
    exact ⟨(r ++ [y], x), ⟨y, .inl (List.mem_of_getElem? hy), Ne.symm hxy, List.mem_of_getElem? a1, rfl⟩, (pk_at o a1).trans a2, a3⟩
  · have hn := hp.can.new
    obtain ⟨a1, a2, a3⟩ := stay_miss o hj hn h2
    cases h3
    refine ⟨(r ++ [nd r], x), ⟨nd r, .inr rfl, fun z => hn ?_, List.mem_of_getElem? a1, rfl⟩, (pk_at o a1).trans a2, a3⟩
    have z : nd r = x := z
    rw [z]
    exact R.held j x hj
/-- a walk's last name, new in its stay -/
theorem start_pr (o : Ok C L k) {r : List Nat} {y : Nat} (c : Can r) (h : Nx k L r y) : Pr k L (r ++ [y], y) ∧ mc (r ++ [y], y) = 0 := by
  refine ⟨⟨h.can o c, ?_⟩, by unfold mc; rw [met_self]; rfl⟩
  by_cases hm : some y ∈ (atR k L r).2
  · show some y ∈ (atR k L (r ++ [y])).2
    rw [at_hit hm]
    exact hm
  · show some y ∈ (atR k L (r ++ [y])).2
    rw [at_miss hm]
    have R := run_at o r
    refine List.mem_of_getElem? (i := (ctl k (atR k L r).1).line) (List.getElem?_set_self ?_)
    rw [R.len]
    exact o.lin _ R.lt
theorem start_real (o : Ok C L k) {b : List (List Nat)} (hb : ∀ r ∈ b, Can r) (hc : ∀ c F, FS k L c F → ∃ r ∈ b, (atR k L r).1 = c ∧ fl (atR k L r).2 = F) {s : Stay} (h : St k L s) : ∃ r ∈ b, ∃ y, Nx k L r y ∧ pk k L (r ++ [y], y) = s := by
  cases h with
  | @hit c F j h hj =>
    obtain ⟨r, hr, rfl, rfl⟩ := hc c F h
    obtain ⟨y, hy⟩ := fl_true hj
    have hm := List.mem_of_getElem? hy
    have hi := idx_at o hy
    have R := run_at o r
    have ha := at_hit (k := k) (L := L) hm
    rw [hi] at ha
    refine ⟨r, hr, y, .inl hm, ?_⟩
    have h1 : (atR k L (r ++ [y])).2[j]? = some (some y) := by rw [ha]; exact hy
    rw [pk_at o h1]
    unfold stayOf
    rw [ha, met_self, mf_nil R.len]
  | @miss c F h =>
    obtain ⟨r, hr, rfl, rfl⟩ := hc c F h
    have R := run_at o r
    have hm := new_out o (hb r hr)
    have ha := at_miss (k := k) (L := L) hm
    refine ⟨r, hr, nd r, .inr rfl, ?_⟩
    have hll : (ctl k (atR k L r).1).line < (atR k L r).2.length := by
      rw [R.len]
      exact o.lin _ R.lt
    have h1 : (atR k L (r ++ [nd r])).2[(ctl k (atR k L r).1).line]? = some (some (nd r)) := by
      rw [ha]
      exact List.getElem?_set_self hll
    rw [pk_at o h1]
    unfold stayOf
    rw [ha, met_self, mf_nil (L := L) (by rw [List.length_set]; exact R.len)]
    show (_, fl ((atR k L r).2.set _ _), _, _) = _
    rw [fl_set]
/-! ### layers -/
def Seeds (k : Cache) (L : Nat) (t : Nat) (l : List Pair) : Prop := (t = 0 → ∀ s, St k L s → ∃ p ∈ l, pk k L p = s) ∧ ∀ t' s0 s, t = t' + 1 → Rg (succ k) (St k L) t' s0 → (1, s) ∈ succ k s0 → ∃ p ∈ l, pk k L p = s
def Full (k : Cache) (L : Nat) (t : Nat) (l : List Pair) : Prop := ∀ s, Rg (succ k) (St k L) t s → ∃ p ∈ l, pk k L p = s
theorem full_of (o : Ok C L k) {t : Nat} {l m : List Pair} (hs : Seeds k L t l) (hm : ∀ p ∈ m, Pr k L p ∧ mc p = t) (hk : ∀ p ∈ l, ∃ q ∈ m, pk k L q = pk k L p) (hc : ∀ p ∈ m, ∀ q, Fu k L p q → mc q = t → ∃ q' ∈ m, pk k L q' = pk k L q) : Full k L t m := by
  have key : ∀ g s, Rg (succ k) (St k L) g s → g = t → ∃ p ∈ m, pk k L p = s := by
    intro g s h
    induction h with
    | @zero s h0 =>
      intro e
      obtain ⟨p, hp, e1⟩ := hs.1 e.symm s h0
      obtain ⟨q, hq, e2⟩ := hk p hp
      exact ⟨q, hq, e2.trans e1⟩
    | @step g e s s' h0 hst ih =>
      intro eq
      have he := succ_01 s _ hst
      have he : e ≤ 1 := he
      by_cases z : e = 0
      · subst z
        obtain ⟨p, hp, rfl⟩ := ih eq
        obtain ⟨hp1, hp2⟩ := hm p hp
        obtain ⟨q, hf, hq, hcn⟩ := real o hp1 hst
        obtain ⟨q', hq', e'⟩ := hc p hp q hf (by omega)
        exact ⟨q', hq', e'.trans hq⟩
      · have : e = 1 := by omega
        subst this
        obtain ⟨p, hp, e1⟩ := hs.2 g s s' eq.symm h0 hst
        obtain ⟨q, hq, e2⟩ := hk p hp
        exact ⟨q, hq, e2.trans e1⟩
  exact fun s h => key t s h rfl
theorem seeds_next (o : Ok C L k) {t : Nat} {m n : List Pair} (hf : Full k L t m) (hm : ∀ p ∈ m, Pr k L p ∧ mc p = t) (hn : ∀ p ∈ m, ∀ q, Fu k L p q → t < mc q → ∃ q' ∈ n, pk k L q' = pk k L q) : Seeds k L (t + 1) n := by
  refine ⟨fun h => by omega, fun t' s0 s e h hs => ?_⟩
  have : t' = t := by omega
  subst this
  obtain ⟨p, hp, rfl⟩ := hf s0 h
  obtain ⟨hp1, hp2⟩ := hm p hp
  obtain ⟨q, hfu, hq, hcn⟩ := real o hp1 hs
  obtain ⟨q', hq', e'⟩ := hn p hp q hfu (by omega)
  exact ⟨q', hq', e'.trans hq⟩
/-- a pair's stay comes, with at least its names met -/
theorem pr_rg (o : Ok C L k) {p : Pair} (h : Pr k L p) : ∃ g, mc p ≤ g ∧ ∃ s, Rg (succ k) (St k L) g s := by
  obtain ⟨g, rg, hg⟩ := stays_in o p.1 _ p.2 (get_of_mem h.held)
  exact ⟨g, hg, _, rg⟩
end
end K48M
/-! Plain: the most that a stay may meet is less than the stays. -/
namespace K48G
section
variable {S : Type} (succ : S → List (Nat × S))
inductive Pth : Nat → S → S → Prop
  | refl (s : S) : Pth 0 s s
  | step {g e : Nat} {s s' s2 : S} : Pth g s s' → (e, s2) ∈ succ s' → Pth (g + e) s s2
theorem rg_pth {st : S → Prop} {g d : Nat} {s s' : S} (h : Rg succ st g s) (p : Pth succ d s s') : Rg succ st (g + d) s' := by
  induction p with
  | refl => exact h
  | step _ hs ih =>
    have := Rg.step (ih h) hs
    rwa [Nat.add_assoc] at this
theorem cycle {st : S → Prop} {g d : Nat} {s : S} (h : Rg succ st g s) (p : Pth succ d s s) : ∀ n, Rg succ st (g + n * d) s := by
  intro n
  induction n with
  | zero => rw [Nat.zero_mul]; exact h
  | succ n ih =>
    have := rg_pth succ ih p
    rwa [Nat.add_assoc, ← Nat.succ_mul] at this
theorem chain {st : S → Prop} (e01 : ∀ s p, p ∈ succ s → p.1 ≤ 1) {g : Nat} {s : S} (h : Rg succ st g s) : ∃ vs : List S, vs.length = g + 1 ∧ (∀ v ∈ vs, ∃ g', Rg succ st g' v) ∧ (∀ v ∈ vs, ∃ d, Pth succ d v s) ∧ vs.Pairwise fun a b => ∃ d, 1 ≤ d ∧ Pth succ d b a := by
  induction h with
  | @zero s h => exact ⟨[s], rfl, fun v hv => ⟨0, by rw [List.mem_singleton.mp hv]; exact .zero h⟩, fun v hv => ⟨0, by rw [List.mem_singleton.mp hv]; exact .refl s⟩, by simp⟩
  | @step g e s s' h0 hs ih =>
    obtain ⟨vs, h1, h2, h3, h4⟩ := ih
    have he := e01 s _ hs
    have he : e ≤ 1 := he
    by_cases z : e = 0
    · subst z
      refine ⟨vs, h1, h2, fun v hv => ?_, h4⟩
      obtain ⟨d, p⟩ := h3 v hv
      exact ⟨_, .step p hs⟩
    · have : e = 1 := by omega
      subst this
      refine ⟨s' :: vs, by rw [List.length_cons, h1], fun v hv => ?_, fun v hv => ?_, List.pairwise_cons.mpr ⟨fun v hv => ?_, h4⟩⟩
      · rcases List.mem_cons.mp hv with rfl | hv
        · exact ⟨_, .step h0 hs⟩
        · exact h2 v hv
      · rcases List.mem_cons.mp hv with rfl | hv
        · exact ⟨0, .refl _⟩
        · obtain ⟨d, p⟩ := h3 v hv
          exact ⟨_, .step p hs⟩
      · obtain ⟨d, p⟩ := h3 v hv
        exact ⟨d + 1, by omega, .step p hs⟩
end
theorem told_bound {S : Type} [DecidableEq S] (succ : S → List (Nat × S)) {st : S → Prop} (e01 : ∀ s p, p ∈ succ s → p.1 ≤ 1) {m : Nat} (h : Told succ st (some m)) {U : List S} (hU : ∀ s, Rc succ st s → s ∈ U) : m + 1 ≤ U.length := by
  obtain ⟨s, hs⟩ := h.some_rg succ e01 (Nat.le_refl m)
  obtain ⟨vs, h1, h2, h3, h4⟩ := chain succ e01 hs
  rw [← h1]
  have nd : vs.Nodup := h4.imp_of_mem fun {a b} ha hb hd => by
    obtain ⟨d, hd, p⟩ := hd
    intro e
    subst e
    obtain ⟨g', hg⟩ := h2 a ha
    have h5 := h.some_le succ (cycle succ hg p (m + 1))
    have : (m + 1) * 1 ≤ (m + 1) * d := Nat.mul_le_mul_left _ hd
    omega
  refine K48M.nodup_len_le nd fun v hv => ?_
  obtain ⟨g', hg⟩ := h2 v hv
  exact hU v hg.rc
end K48G
/-! Rows as walks in data; keys of states and stays by flags. -/
namespace K48
open PySem L2 Evl K48M
def enc (k : Cache) (L : Nat) (r : List Nat) : PyData := dW (r, (atR k L r).1, (atR k L r).2)
def dPair (k : Cache) (L : Nat) (p : Pair) : PyData := .tuple [enc k L p.1, dI p.2]
theorem tupD_enc (k : Cache) (L : Nat) (r : List Nat) : tupD (enc k L r) = true := tupD_W _
theorem tupD_Pair (k : Cache) (L : Nat) (p : Pair) : tupD (dPair k L p) = true := by
  unfold dPair
  rw [tupD, tupDs, tupDs, tupDs, tupD_enc]
  rfl
/-- a state by flags -/
def dKF (s : FSt) : PyData := .tuple [dI s.1, dBs s.2]
theorem tupD_KF (s : FSt) : tupD (dKF s) = true := by
  unfold dKF
  rw [tupD, tupDs, tupDs, tupDs, tupD_Bs]
  rfl
theorem shp_KF (s : FSt) : Shp 2 (dKF s) := shp_tup (forall_list ⟨(shp_I _).mono (by decide), shp_Bs _, trivial⟩)
theorem eqv_KF (a b : FSt) : PyData.eqv (dKF a) (dKF b) = decide (a = b) := by
  obtain ⟨c, F⟩ := a
  obtain ⟨d, G⟩ := b
  unfold dKF
  rw [PyData.eqv, PyData.eqvAll, PyData.eqvAll, PyData.eqvAll, eqv_I, eqv_Bs, Bool.and_true]
  by_cases h1 : c = d
  · by_cases h2 : F = G
    · simp [h1, h2]
    · simp [h1, h2]
  · simp [h1]
/-- a stay by flags -/
def dSK (s : Stay) : PyData := .tuple [dI s.1, dBs s.2.1, dI s.2.2.1, dBs s.2.2.2]
def kBs (l : List Bool) : NestedKey := .tup (l.map fun b : Bool => .num (if b = true then 1 else 0))
def kSK (s : Stay) : NestedKey := .tup [.num (s.1 : Int), kBs s.2.1, .num (s.2.2.1 : Int), kBs s.2.2.2]
theorem nk_Bs (l : List Bool) : nk (dBs l) = kBs l := by
  unfold dBs kBs
  rw [nk, nks_map (f := PyData.bool) (g := fun b => .num (if b = true then 1 else 0)) fun b => by rw [nk]]
theorem tupD_SK (s : Stay) : tupD (dSK s) = true := by
  unfold dSK
  rw [tupD, tupDs, tupDs, tupDs, tupDs, tupDs, tupD_Bs, tupD_Bs]
  rfl
theorem nk_SK (s : Stay) : nk (dSK s) = kSK s := by
  unfold dSK kSK
  rw [nk, nks, nks, nks, nks, nks, nk_I, nk_I, nk_Bs, nk_Bs]
theorem kBs_inj : ∀ {l m : List Bool}, kBs l = kBs m → l = m := by
  have key : ∀ {l m : List Bool}, (l.map fun b : Bool => NestedKey.num (if b = true then 1 else 0)) = m.map (fun b : Bool => NestedKey.num (if b = true then 1 else 0)) → l = m := by
    intro l
    induction l with
    | nil =>
      intro m h
      cases m with
      | nil => rfl
      | cons b m => cases h
    | cons a l ih =>
      intro m h
      cases m with
      | nil => cases h
      | cons b m =>
        rw [List.map_cons, List.map_cons] at h
        have h1 := List.cons.inj h
        rw [ih h1.2]
        have h2 := NestedKey.num.inj h1.1
        cases a <;> cases b <;> first | rfl | (exact absurd h2 (by decide))
  intro l m h
  exact key (NestedKey.tup.inj h)
theorem kSK_inj {s t : Stay} (h : kSK s = kSK t) : s = t := by
  obtain ⟨c, F, j, M⟩ := s
  obtain ⟨c', F', j', M'⟩ := t
  unfold kSK at h
  have h := NestedKey.tup.inj h
  have h1 := List.cons.inj h
  have h2 := List.cons.inj h1.2
  have h3 := List.cons.inj h2.2
  have h4 := List.cons.inj h3.2
  have e1 := NestedKey.num.inj h1.1
  have e2 := kBs_inj h2.1
  have e3 := NestedKey.num.inj h3.1
  have e4 := kBs_inj h4.1
  simp only at e1 e2 e3 e4
  have e1 : c = c' := by omega
  have e3 : j = j' := by omega
  rw [e1, e2, e3, e4]
theorem depth_Bs (l : List Bool) : (kBs l).depth ≤ 1 := by
  unfold kBs
  rw [NestedKey.depth]
  have : NestedKey.depthAll (l.map fun b : Bool => NestedKey.num (if b = true then 1 else 0)) = 0 := by
    induction l with
    | nil => rw [List.map_nil, NestedKey.depthAll]
    | cons a l ih => rw [List.map_cons, NestedKey.depthAll, NestedKey.depth, ih]; rfl
  rw [this]
  exact Nat.le_refl _
theorem kSK_depth (s : Stay) : (kSK s).depth ≤ 8 := by
  unfold kSK
  rw [NestedKey.depth, NestedKey.depthAll, NestedKey.depthAll, NestedKey.depthAll, NestedKey.depthAll, NestedKey.depthAll, NestedKey.depth, NestedKey.depth]
  have h1 := depth_Bs s.2.1
  have h2 := depth_Bs s.2.2.2
  omega
theorem isk_SK (s : Stay) : IsK (dSK s) (kSK s) := ⟨tupD_SK s, nk_SK s, kSK_depth s, _, rfl⟩
end K48
/-! next_lines, renamed_stay, met_names, staying_key. -/
namespace K48
open PySem L2 Evl K48M
section
variable {K : PySem.W.Frag} {w : World} {σ : S} {H : Hp} {ta tb tc : TE} {D : Ends}
theorem evm_sorted {l : List Nat} (h : EvD ta σ H (.list (l.map dI))) (hz : l.length < 64) : EvM (tCB (rSorted K) (tCons ta tNil)) σ H (fun es => ∃ ns : List Nat, es = ns.map dI ∧ ns.Perm l) := fun H1 a Q q => h H1 a _ fun v H2 e2 r2 => by
  obtain ⟨b, xs, rfl, hl, rs⟩ := r2.lst_inv
  have ex := rps_ints (ns := l.map fun n : Nat => (n : Int)) (by rw [List.map_map]; exact rs)
  subst ex
  refine ⟨b, _, rfl, sq_of hl, by rw [List.length_map]; exact hz, fun ns' p hp _ hf => ?_⟩
  have key : ∀ ns' : List Int, (∀ i ∈ ns', ∃ n ∈ l, (n : Int) = i) → ∃ ms : List Nat, ns' = ms.map fun n : Nat => (n : Int) := by
    intro ns'
    induction ns' with
    | nil => intro _; exact ⟨[], rfl⟩
    | cons i ns' ih =>
      intro h
      obtain ⟨n, _, rfl⟩ := h i (List.mem_cons_self ..)
      obtain ⟨ms, rfl⟩ := ih fun i hi => h i (List.mem_cons_of_mem _ hi)
      exact ⟨n :: ms, rfl⟩
  obtain ⟨ms, rfl⟩ := key ns' fun i hi => List.mem_map.mp (hp.mem_iff.mp hi)
  have hms : ms.Perm l := by
    have h2 := hp.map Int.toNat
    rw [List.map_map, List.map_map] at h2
    have e : (Int.toNat ∘ fun n : Nat => (n : Int)) = id := funext fun n => Int.toNat_natCast n
    rw [e, List.map_id, List.map_id] at h2
    exact h2
  refine q p _ _ _ (fresh_back e2 hf) (e2.trans (Ex.new hf)) upd_same ?_ ⟨ms, rfl, hms⟩
  have := Rps.of_ints (H := upd H2 p (.lst ((ms.map fun n : Nat => (n : Int)).map V.int))) (ms.map fun n : Nat => (n : Int))
  have e3 : (ms.map fun n : Nat => (n : Int)).map PyData.int = ms.map dI := by rw [List.map_map]; rfl
  rw [e3] at this
  exact this
theorem evm_cat {R : List PyData → Prop} {fs : List PyData} (h : EvM ta σ H R) (hb : EvD tb σ H (.list fs)) (hz : ∀ es, R es → es.length + fs.length ≤ 1000000) : EvM (tOp rCat ta tb) σ H (fun es => ∃ a, R a ∧ es = a ++ fs) := fun H0 e0 Q q => h H0 e0 _ fun p xs es H1 hp e1 hx r1 hR =>
  (evn_catL (ta := tC (.ref p)) (σ := σ) (H := H1) (evd_c (.lst hx r1)) (hb.mono (e0.trans e1)) (hz es hR)) H1 (Ex.refl H1) Q fun p2 xs2 H2 hp2 e2 hx2 r2 => q p2 xs2 _ H2 (fresh_back e1 hp2) (e1.trans e2) hx2 r2 ⟨es, hR, rfl⟩
end
/-- the names that lines hold -/
def names (ls : Lines) : List Nat := ls.filterMap id
theorem mem_names {ls : Lines} {x : Nat} : x ∈ names ls ↔ some x ∈ ls := by
  unfold names
  rw [List.mem_filterMap]
  constructor
  · rintro ⟨a, ha, e⟩
    have e : a = some x := e
    rw [← e]
    exact ha
  · intro h
    exact ⟨_, h, rfl⟩
theorem names_data (ls : Lines) : (((ls.map dO).filter fun d => !isNone d)).map (fun d => d) = (names ls).map dI := by
  rw [List.map_id'' (fun _ => rfl)]
  unfold names
  induction ls with
  | nil => rfl
  | cons a ls ih =>
    cases a with
    | none =>
      rw [List.map_cons, List.filter_cons_of_neg (by show ¬ (!isNone PyData.none) = true; decide), List.filterMap_cons_none rfl]
      exact ih
    | some n =>
      rw [List.map_cons, List.filter_cons_of_pos (by show (!isNone (dI n)) = true; rfl), List.filterMap_cons_some (f := id) (b := n) rfl, List.map_cons, ih]
      rfl
section
variable {P : Program} {w : World} {K : PySem.W.Frag} {mg : Str → Option Value} {base : Heap}
/-! ### next_lines -/
def Rnext (C L : Nat) (ds : List PyData) (Post : List PyData → Prop) : Prop := ∃ k r, ds = [dCache k, enc k L r] ∧ Ok C L k ∧ L ≤ 3 ∧ r.length ≤ 4000 ∧ Post = fun es => ∃ l : List (List Nat), es = l.map (enc k L) ∧ l.length ≤ 4 ∧ ∀ r', r' ∈ l ↔ ∃ y, Nx k L r y ∧ r' = r ++ [y]
theorem ok_next_lines {C L : Nat} {f : Addr} {fd : FuncData} (F : Fun K "next_lines" "next_lines" s_next_lines f fd) (T : Mg mg) (c1 : Cal P w K mg base CX0 1 "accessed" ["cache", "control", "lines", "name"] (spD (Racc C L))) : FnOk P w K mg base CX0 2 f fd ["cache", "walk"] (spM (Rnext C L)) := by
  refine F.ok sc_next_lines (fun vs H Q E h => spM_len h fun ds d ⟨k, r, e, _⟩ => by rw [e]; rfl) (fun cdv A outer sh H vs Q E hr h => ?_)
  obtain ⟨ds, Post, r, ⟨k, r0, rfl, o, hL, hz, rfl⟩, q⟩ := h
  cases r with
  | cons r1 r => cases r with
  | cons r2 r =>
  cases r
  refine ⟨_, pss_cons (ps_asg (pv 1) (pg_tup rfl (pgs_cons (pg_name (i := 2) sc_next_lines.nd rfl (.inl rfl)) (pgs_cons (pg_name (i := 3) sc_next_lines.nd rfl (.inl rfl)) (pgs_cons (pg_name (i := 4) sc_next_lines.nd rfl (.inl rfl)) pgs_nil)))))
    (pss_cons (ps_set (i := 5) sc_next_lines.nd rfl (.inl rfl) (pe_lst pa_nil))
    (pss_cons (ps_for PassesOwn.never rfl (pi_list (pe_op op_cat (pe_callB cr_sorted (by rfl) T.sorted (by decide +kernel) (pa_cons
          (pe_lc (own := [("name", 6)]) (g := gName 6) (tt := tTest (tOp rNotN0 (tVar 6) (tC .non))) rfl sc_next_lines.nd (pi_tup (pv 4)) (blkOk_by (N := N_next_lines) (sc := defScope s_next_lines) (by decide +kernel)) (fun _ _ _ _ _ => pg_name (i := 6) sc_next_lines.nd rfl (Or.inl rfl)) (fun _ _ _ _ _ => pts_one (pt_cmpR op_notN (pv 6) pe_non (nomark _))) (fun _ _ _ _ _ => pv 6)) pa_nil))
        (pe_lst (pa_cons (pe_callB cr_lenSetO (by rfl) T.len (by decide +kernel) (pa_cons (pe_callTy (cr_setTI rfl) (by rfl) T.set (by decide +kernel) (pa_cons (pv 2) pa_nil)) pa_nil)) pa_nil)))) (pg_name (i := 6) sc_next_lines.nd rfl (.inl rfl))
      (pss_cons (ps_asg (pe_cal c1 hr (by decide) (by rfl) (pa_cons (pv 0) (pa_cons (pv 3) (pa_cons (pv 4) (pa_cons (pv 6) pa_nil))))) (pg_tup rfl (pgs_cons (pg_name (i := 7) sc_next_lines.nd rfl (.inl rfl)) (pgs_cons (pg_name (i := 8) sc_next_lines.nd rfl (.inl rfl)) (pgs_cons (pg_name (i := 9) sc_next_lines.nd rfl (.inl rfl)) pgs_nil)))))
      (pss_one (ps_expr (pe_bm PySem.F.plainAttrs_list PySem.F.slot_list_append PySem.F.type_list_append mt_append (pv 5) (pa_cons (pe_tupP (pa_cons (pe_op op_catP (pv 2) (pe_tupP (pa_cons (pv 6) pa_nil))) (pa_cons (pv 8) (pa_cons (pv 9) pa_nil)))) pa_nil))))))
    (pss_one (ps_ret (pv 5))))), ?_⟩
  have R := run_at o r0
  refine d_seq (d_asgG (evd_var rfl r2) fun v0 H0 e0 rv0 => ?_)
  refine g_three rv0 fun v2 v3 v4 h2 h3 h4 => ?_
  refine d_seq (d_asgN (evn_lst evds_nil) fun l xs H1 nl e1 hl rl => ?_)
  cases rl
  have k2 := h2.up e1
  have k3 := h3.up e1
  have k4 := h4.up e1
  have hnl : (names (atR k L r0).2).length ≤ 3 := by
    unfold names
    refine Nat.le_trans (List.length_filterMap_le _ _) ?_
    rw [R.len]
    exact hL
  refine d_seq (d_forM (evm_cat (fs := [dI (nd r0)]) (evm_sorted (l := names (atR k L r0).2) ((EvN.toD (evn_lcT (vs := [6]) (fun d => !isNone d) (fun d => d) (evd_var rfl k4) (by rw [List.length_map, R.len]; omega) (fun d hd _ => tupDs_iff.mp (tupDs_map tupD_O _) d hd) (fun _ => rfl) (fun d v H3 hd e3 r3 => ⟨evt_test (evd_notN (evd_var rfl r3)), fun _ => evd_var rfl r3⟩))).is (congrArg PyData.list (names_data _))) (by omega))
    (EvN.toD (evn_lst (evds_cons (evd_lensetN (evd_var rfl k2) hz (nodup_stk r0) (fun z => mem_stk z r0)) evds_nil))) (fun es ⟨ns, e, hp⟩ => by
      rw [e, List.length_map, hp.length_eq]
      show _ + 1 ≤ _
      omega)) fun p xs es H2 np e2 hx rx ⟨a, ⟨ns, ea, hp⟩, ees⟩ => ?_)
  have ees : es = (ns ++ [nd r0]).map dI := by rw [ees, ea, List.map_append]; rfl
  subst ees
  have hNx : ∀ y, y ∈ ns ++ [nd r0] ↔ Nx k L r0 y := fun y => by
    rw [List.mem_append, List.mem_singleton, hp.mem_iff, mem_names]
    exact Iff.rfl
  have hnsl : (ns ++ [nd r0]).length ≤ 4 := by
    rw [List.length_append, hp.length_eq]
    show _ + 1 ≤ 4
    omega
  generalize ns ++ [nd r0] = ys at hNx hnsl rx
  have hlf := e2 _ _ hl
  have pl : p ≠ l := fun z => by
    rw [z, hl] at np
    cases np
  refine ⟨fun i σ' H' => ∃ acc a6 a7 a8 a9, σ' = [some _, some _, some v2, some v3, some v4, some (.ref l), a6, a7, a8, a9] ∧ But [l] H2 H' ∧ H' l = some (.lst acc) ∧ Rps H' acc (((ys.take i).map fun y => r0 ++ [y]).map (enc k L)),
    ⟨[], none, none, none, none, rfl, But.refl, hlf, by rw [List.take_zero]; exact .nil⟩, fun i σ' H' ⟨_, _, _, _, _, _, b, _, _⟩ => b.go (by rw [List.mem_singleton]; exact pl) hx, fun i v σ' H' hi ⟨acc, a6, a7, a8, a9, es, b, hlH, rac⟩ => ?_, fun σ' H' ⟨acc, a6, a7, a8, a9, es, b, hlH, rac⟩ => ?_⟩
  · subst es
    obtain ⟨d, hd, rv⟩ := rx.getV hi
    rw [List.getElem?_map] at hd
    obtain ⟨y, hy, rfl⟩ := Option.map_eq_some_iff.mp hd
    have tk := b.tk (noT_one hlf)
    have e02 := (e0.trans e1).trans e2
    have rc : Rp H' _ (dCache k) := Rp.tk tk _ (tupD_Cache k) (r1.up e02)
    have j2 : Rp H' v2 (dNs r0) := Rp.tk tk _ (tupD_Ns _) (k2.up e2)
    have j3 : Rp H' v3 (dI (atR k L r0).1) := Rp.tk tk _ (tupD_I _) (k3.up e2)
    have j4 : Rp H' v4 (dLs (atR k L r0).2) := Rp.tk tk _ (tupD_Ls _) (k4.up e2)
    have rv' : Rp H' v (dI y) := Rp.tk tk _ (tupD_I _) rv
    refine d_seq (d_asgG (evd_call (evds_cons (evd_var rfl rc) (evds_cons (evd_var rfl j3) (evds_cons (evd_var rfl j4) (evds_cons (evd_var rfl rv') evds_nil)))) (spD_d ⟨k, _, _, y, rfl, o, R.lt, R.len, by omega, rfl⟩)) fun v7' H3 e3 rv7 => ?_)
    refine g_three rv7 fun v7 v8 v9 h7 h8 h9 => ?_
    have hl3 := e3 _ _ hlH
    refine d_app hl3 (ev_slot rfl) (d := enc k L (r0 ++ [y])) (evd_tup (evds_cons ((evd_catT (evd_var rfl (j2.up e3)) (evd_tup (evds_cons (evd_var rfl (rv'.up e3)) evds_nil)) (by rw [List.length_map]; show _ + 1 ≤ _; omega)).is (by unfold dNs; rw [List.map_append]; rfl)) (evds_cons ((evd_var rfl h8).is (by rw [atR_snoc])) (evds_cons ((evd_var rfl h9).is (by rw [atR_snoc])) evds_nil)))) (by
      rw [rac.len, List.length_map, List.length_map, List.length_take]
      omega) fun v' H4 e4 r4 => ?_
    have hl4 := e4 _ _ hl3
    have tk4 := Tk.upd (o := .lst (acc ++ [v'])) hl4
    refine ⟨_, _, _, _, _, rfl, (b.trans (But.ex (e3.trans e4))).trans (But.upd (List.mem_singleton.mpr rfl)), upd_same, ?_⟩
    rw [take_snoc hy, List.map_append, List.map_append]
    exact Rps.append (Rps.tk tk4 _ (tupDs_map (tupD_enc k L) _) ((rac.up e3).up e4)) (.cons (Rp.tk tk4 _ (tupD_enc k L _) r4) .nil)
  · subst es
    have hxl : xs.length = ys.length := by rw [rx.len, List.length_map]
    rw [hxl, List.take_length] at rac
    have eH : Ex H H' := ((e0.trans e1).trans e2).trans_but b (fresh_back e0 nl)
    refine ⟨.ref l, rfl, q l acc _ H' (fresh_back e0 nl) eH hlH rac ⟨_, rfl, by rw [List.length_map]; exact hnsl, fun r' => ?_⟩⟩
    rw [List.mem_map]
    constructor
    · rintro ⟨y, hy, e⟩
      exact ⟨y, (hNx y).mp hy, e.symm⟩
    · rintro ⟨y, hy, e⟩
      exact ⟨y, (hNx y).mpr hy, e.symm⟩
end
end K48
/-! renamed_stay, met_names, staying_key. -/
namespace K48
open PySem L2 Evl K48M
section
variable {K : PySem.W.Frag} {w : World} {σ : S} {H : Hp} {ta tb tc : TE} {D : Ends}
theorem evd_rep {ds : List PyData} {n : Nat} (ha : EvD ta σ H (.tuple ds)) (hb : EvD tb σ H (.int (n : Int))) (hne : ds ≠ []) (h1 : 1 ≤ n) (h2 : n ≤ 1000) (h3 : ds.length ≤ 1000) : EvD (tOp (rRepP K) ta tb) σ H (.tuple (List.replicate n ds).flatten) := evd_op ha hb fun x y H1 _ rx ry Q q => by
  obtain ⟨l, o, xs, rfl, hx, hn, rs⟩ := rx.tup_inv
  rw [ry.int_inv]
  refine ⟨l, n, xs, o, rfl, rfl, hx, hn, fun z => hne ?_, by omega, by omega, by rw [rs.len]; exact h3, fun z => ?_, fun _ => ?_⟩
  · rw [z] at rs
    cases rs
    rfl
  · have : n = 1 := by omega
    subst this
    refine q _ H1 (Ex.refl _) ?_
    rw [show (List.replicate 1 ds).flatten = ds by simp]
    exact .tup hx hn rs
  · rw [Int.toNat_natCast]
    have key : ∀ n : Nat, Rps H1 (List.replicate n xs).flatten (List.replicate n ds).flatten := by
      intro n
      induction n with
      | zero => exact .nil
      | succ n ih =>
        rw [List.replicate_succ, List.replicate_succ, List.flatten_cons, List.flatten_cons]
        exact rs.append ih
    exact newT (key n) (fun v H' e r => q _ _ e r)
end
theorem atI_last {α : Type} (xs : List α) (x : α) : L2.atI (xs ++ [x]) (-1) = some x := by
  unfold L2.atI ixN
  have h1 : ¬ (0 : Int) ≤ -1 := by decide
  have h2 : -(((xs ++ [x]).length : Nat) : Int) ≤ -1 := by
    rw [List.length_append, List.length_singleton]
    omega
  rw [if_neg h1, if_pos h2]
  have h3 : ((-1 : Int) + (((xs ++ [x]).length : Nat) : Int)).toNat = xs.length := by
    rw [List.length_append, List.length_singleton]
    omega
  rw [h3]
  show (xs ++ [x])[xs.length]? = some x
  rw [List.getElem?_append_right (Nat.le_refl _)]
  simp
theorem isNone_O (o : Option Nat) : (!isNone (dO o)) = o.isSome := by cases o <;> rfl
/-- the names met, in order -/
def ml (r : List Nat) (x : Nat) : List Nat := (List.range (K48G.mx (met r x) + 1)).filter fun z => decide (z ∈ met r x)
theorem mem_ml {r : List Nat} {x z : Nat} : z ∈ ml r x ↔ z ∈ met r x := by
  unfold ml
  rw [List.mem_filter, List.mem_range, decide_eq_true_eq]
  constructor
  · exact fun h => h.2
  · exact fun h => ⟨Nat.lt_succ_of_le (K48G.le_mx h), h⟩
theorem ml_sorted (r : List Nat) (x : Nat) : (ml r x).Pairwise (· < ·) := List.Pairwise.filter _ List.pairwise_lt_range
theorem ml_nodup (r : List Nat) (x : Nat) : (ml r x).Nodup := (ml_sorted r x).imp fun h => Nat.ne_of_lt h
theorem ml_len (r : List Nat) (x : Nat) : (ml r x).length = (met r x).length := ((List.perm_ext_iff_of_nodup (ml_nodup r x) (nodup_met r x)).mpr fun z => mem_ml).length_eq
/-- the test of places, told of data -/
def eqP (x : Nat) : PyData → Bool
  | .int i => decide (i = (x : Int))
  | _ => false
theorem eqP_I (x y : Nat) : eqP x (dI y) = decide (y = x) := decide_eq_decide.mpr (by omega)
theorem places_snoc (r : List Nat) (y x : Nat) : places (r ++ [y]) x (r.length + 1) = places r x r.length ++ if y = x then [r.length] else [] := by
  unfold places
  rw [List.range_succ, List.filter_append]
  congr 1
  · apply List.filter_congr
    intro j hj
    rw [List.getElem?_append_left (List.mem_range.mp hj)]
  · by_cases h : y = x
    · rw [if_pos h, List.filter_cons_of_pos (by simp [h])]
      rfl
    · rw [if_neg h, List.filter_cons_of_neg (by simp [h])]
      rfl
theorem places_zip (x : Nat) : ∀ r : List Nat, ((r.map dI).zipIdx.filter fun q => eqP x q.1).map (fun q => dI q.2) = (places r x r.length).map dI := by
  refine snoc_ind rfl fun r y ih => ?_
  rw [List.map_append, List.zipIdx_append, List.filter_append, List.map_append, ih, List.length_append, List.length_singleton, places_snoc, List.map_append]
  congr 1
  rw [List.length_map, Nat.zero_add]
  by_cases h : y = x
  · rw [if_pos h]
    show ([(dI y, r.length)].filter fun q => eqP x q.1).map (fun q => dI q.2) = _
    rw [List.filter_cons_of_pos (by show eqP x (dI y) = true; rw [eqP_I, decide_eq_true h])]
    rfl
  · rw [if_neg h]
    show ([(dI y, r.length)].filter fun q => eqP x q.1).map (fun q => dI q.2) = _
    rw [List.filter_cons_of_neg (by show ¬ eqP x (dI y) = true; rw [eqP_I, decide_eq_false h]; decide)]
    rfl
theorem any_IO (l : List Nat) (o : Option Nat) : ((l.map dI).any fun z => PyData.eqv z (dO o)) = (match o with | some z => decide (z ∈ l) | none => false) := by
  cases o with
  | some z => exact any_I l z
  | none =>
    induction l with
    | nil => rfl
    | cons a l ih =>
      rw [List.map_cons, List.any_cons, ih]
      rfl
section
variable {P : Program} {w : World} {K : PySem.W.Frag} {mg : Str → Option Value} {base : Heap}
/-! ### renamed_stay -/
def Rren (ds : List PyData) (d : PyData) : Prop := ∃ (r : List Nat) (c : Nat) (ls : Lines), ds = [dW (r, c, ls)] ∧ ls.length ≤ 1000 ∧ d = dKF (c, fl ls)
theorem ok_renamed_stay {f : Addr} {fd : FuncData} (F : Fun K "renamed_stay" "renamed_stay" s_renamed_stay f fd) (T : Mg mg) : FnOk P w K mg base CX0 1 f fd ["walk"] (spD Rren) := by
  refine F.ok sc_renamed_stay (fun vs H Q E h => spD_len h fun ds d ⟨r, c, ls, e, _⟩ => by rw [e]; rfl) (fun cdv A outer sh H vs Q E hr h => ?_)
  obtain ⟨ds, d, r, ⟨r0, c, ls, rfl, hl, rfl⟩, q⟩ := h
  cases r with
  | cons r1 r =>
  cases r
  refine ⟨_, pss_cons (ps_asg (pv 0) (pg_tup rfl (pgs_cons (pg_name (i := 1) sc_renamed_stay.nd rfl (.inl rfl)) (pgs_cons (pg_name (i := 2) sc_renamed_stay.nd rfl (.inl rfl)) (pgs_cons (pg_name (i := 3) sc_renamed_stay.nd rfl (.inl rfl)) pgs_nil)))))
    (pss_one (ps_ret (pe_tupP (pa_cons (pv 2) (pa_cons (pe_callTy call_tupleP (by rfl) T.tuple (by decide +kernel) (pa_cons
      (pe_lc (own := [("name", 4)]) (g := gName 4) (tt := tYes) rfl sc_renamed_stay.nd (pi_tup (pv 3)) (blkOk_by (N := N_renamed_stay) (sc := defScope s_renamed_stay) (by decide +kernel)) (fun _ _ _ _ _ => pg_name (i := 4) sc_renamed_stay.nd rfl (Or.inl rfl)) (fun _ _ _ _ _ => pts_nil)
        (fun _ _ _ _ _ => pe_cmpR op_notN (pv 4) pe_non (nomark _))) pa_nil)) pa_nil))))), ?_⟩
  refine d_seq (d_asgG (evd_var rfl r1) fun v0 H0 e0 rv0 => ?_)
  refine g_three rv0 fun v1 v2 v3 h1 h2 h3 => ?_
  refine d_ret (d := dKF (c, fl ls)) (evd_tup (evds_cons (evd_var rfl h2) (evds_cons ((evd_tupL (EvN.toD (evn_mapTe (vs := [4]) ls dO (fun o => .bool o.isSome) (evd_var rfl h3) (by omega) (fun _ _ => rfl) (fun _ => rfl) (fun o v H3 ho e3 r3 => (evd_notN (evd_var rfl r3)).is (congrArg PyData.bool (isNone_O o)))))).is ?_) evds_nil))) fun v H1 e1 rv => q v H1 (e0.trans e1) rv
  unfold dBs fl
  rw [List.map_map]
  rfl
/-! ### met_names -/
def Rmet (ds : List PyData) (es : List PyData) : Prop := ∃ (r : List Nat) (x : Nat), ds = [dNs r, dI x] ∧ x ∈ r ∧ r.length ≤ 4000 ∧ es = (ml r x).map dI
theorem ok_met_names {f : Addr} {fd : FuncData} (F : Fun K "met_names" "met_names" s_met_names f fd) (T : Mg mg) : FnOk P w K mg base CX0 1 f fd ["row", "name"] (spN Rmet) := by
  refine F.ok sc_met_names (fun vs H Q E h => spN_len h fun ds d ⟨r, x, e, _⟩ => by rw [e]; rfl) (fun cdv A outer sh H vs Q E hr h => ?_)
  obtain ⟨ds, es, r, ⟨r0, x, rfl, hx, hl, rfl⟩, q⟩ := h
  cases r with
  | cons r1 r => cases r with
  | cons r2 r =>
  cases r
  refine ⟨_, pss_cons (ps_set (i := 2) sc_met_names.nd rfl (.inl rfl) (pe_ix ix_list
      (pe_lc (own := [("at", 3), ("one", 4)]) (g := gTup K 2 (gCons (gName 3) (gCons (gName 4) gNil))) (tt := tTest (tOp rEq (tVar 4) (tVar 1))) rfl sc_met_names.nd (pi_enumX (by rfl) T.enumerate (pa_cons (pv 0) pa_nil)) (blkOk_by (N := N_met_names) (sc := defScope s_met_names) (by decide +kernel))
        (fun _ _ _ _ _ => pg_tup rfl (pgs_cons (pg_name (i := 3) sc_met_names.nd rfl (Or.inl rfl)) (pgs_cons (pg_name (i := 4) sc_met_names.nd rfl (Or.inl rfl)) pgs_nil))) (fun _ _ _ _ _ => pts_one (pt_cmpR op_eq (pv 4) (pv 1) (nomark _))) (fun _ _ _ _ _ => pv 3)) (pe_un un_neg pe_int) (fun _ _ => rfl)))
    (pss_one (ps_ret (pe_callB (cr_sortSetO rfl) (by rfl) T.sorted (by decide +kernel) (pa_cons (pe_callTy (cr_setTI rfl) (by rfl) T.set (by decide +kernel) (pa_cons (pe_slice sl_tupP (pv 0) (po_some (pe_op op_add (pv 2) pe_int)) po_none) pa_nil)) pa_nil)))), ?_⟩
  have hne : places r0 x r0.length ≠ [] := fun z => by
    have := places_nil z
    rw [List.take_length] at this
    exact this hx
  obtain ⟨a, j, hp⟩ : ∃ a j, places r0 x r0.length = a ++ [j] := by
    rcases nil_or_snoc (places r0 x r0.length) with h | h
    · exact absurd h hne
    · exact h
  obtain ⟨p1, p2, p3⟩ := places_last hp
  rw [List.take_length] at p2 p3
  refine d_seq (d_asg (d := dI j) (evd_ixL (ds := (places r0 x r0.length).map dI) ((EvN.toD (evn_lcE (vs := [3, 4]) (fun _ d => eqP x d) (fun i _ => dI i) (evd_var rfl r1) (by rw [List.length_map]; omega) (fun _ _ _ _ => rfl) (fun _ _ => rfl) (fun i d v H1 hd e1 rv => ⟨evt_test (?g1 : EvD _ _ _ _), fun _ => evd_var rfl (.int _)⟩))).is (congrArg PyData.list (places_zip x r0))) (evd_neg evd_int) ?g2) fun v2 H1 e1 rv2 => ?_)
  case g1 =>
    rw [List.getElem?_map] at hd
    obtain ⟨y, _, rfl⟩ := Option.map_eq_some_iff.mp hd
    exact evd_eqI (evd_var rfl rv) (evd_var rfl (r2.up e1))
  case g2 =>
    rw [hp, List.map_append]
    exact atI_last _ _
  refine d_retN (ds := (ml r0 x).map dI) ((evn_sortset (ns := (r0.drop (j + 1)).map fun n : Nat => (n : Int)) (l := (ml r0 x).map fun n : Nat => (n : Int)) ((evd_slT (evd_var rfl (r1.up e1)) (evdo_some ((evd_add (evd_var rfl rv2) evd_int).is (congrArg PyData.int (Int.natCast_add j 1).symm))) evdo_none).is ?_) (by
      rw [List.length_map, List.length_drop]
      omega) (List.Pairwise.map _ (fun a b h => by omega) (ml_sorted r0 x)) fun z => ?_).is (by rw [List.map_map]; rfl)) fun p xs H2 np e2 hx2 r2' => q p xs H2 (fresh_back e1 np) (e1.trans e2) hx2 r2'
  · rw [cut_from _ (by rw [List.length_map]; omega), List.map_map, ← List.map_drop]
    rfl
  · rw [List.mem_map, List.mem_map]
    constructor
    · rintro ⟨n, hn, e⟩
      exact ⟨n, (met_drop r0 j p2 p3 n).mp (mem_ml.mp hn), e⟩
    · rintro ⟨n, hn, e⟩
      exact ⟨n, mem_ml.mpr ((met_drop r0 j p2 p3 n).mpr hn), e⟩
/-! ### staying_key -/
def Rkey (C L : Nat) (ds : List PyData) (d : PyData) : Prop := ∃ k p, ds = [enc k L p.1, dI p.2] ∧ Ok C L k ∧ L ≤ 3 ∧ some p.2 ∈ (atR k L p.1).2 ∧ p.1.length ≤ 4000 ∧ d = dSK (pk k L p)
theorem ok_staying_key {C L : Nat} {f : Addr} {fd : FuncData} (F : Fun K "staying_key" "staying_key" s_staying_key f fd) (T : Mg mg) (c1 : Cal P w K mg base CX0 1 "met_names" ["row", "name"] (spN Rmet)) : FnOk P w K mg base CX0 2 f fd ["walk", "name"] (spD (Rkey C L)) := by
  refine F.ok sc_staying_key (fun vs H Q E h => spD_len h fun ds d ⟨k, p, e, _⟩ => by rw [e]; rfl) (fun cdv A outer sh H vs Q E hr h => ?_)
  obtain ⟨ds, d, r, ⟨k, ⟨r0, x⟩, rfl, o, hL, hx, hl, rfl⟩, q⟩ := h
  cases r with
  | cons r1 r => cases r with
  | cons r2 r =>
  cases r
  simp only at hx hl
  refine ⟨_, pss_cons (ps_asg (pv 0) (pg_tup rfl (pgs_cons (pg_name (i := 2) sc_staying_key.nd rfl (.inl rfl)) (pgs_cons (pg_name (i := 3) sc_staying_key.nd rfl (.inl rfl)) (pgs_cons (pg_name (i := 4) sc_staying_key.nd rfl (.inl rfl)) pgs_nil)))))
    (pss_cons (ps_set (i := 5) sc_staying_key.nd rfl (.inr rfl) (pe_cal c1 hr (by decide) (by rfl) (pa_cons (pv 2) (pa_cons (pv 1) pa_nil))))
    (pss_one (ps_ret (pe_tupP (pa_cons (pv 3) (pa_cons (pe_callTy call_tupleP (by rfl) T.tuple (by decide +kernel) (pa_cons
      (pe_lc (own := [("one", 6)]) (g := gName 6) (tt := tYes) rfl sc_staying_key.nd (pi_tup (pv 4)) (blkOk_by (N := N_staying_key) (sc := defScope s_staying_key) (by decide +kernel)) (fun _ _ _ _ _ => pg_name (i := 6) sc_staying_key.nd rfl (Or.inl rfl)) (fun _ _ _ _ _ => pts_nil)
        (fun _ _ _ _ _ => pe_cmpR op_notN (pv 6) pe_non (nomark _))) pa_nil)) (pa_cons (pe_tix (pv 4) (pv 1)) (pa_cons (pe_callTy call_tupleP (by rfl) T.tuple (by decide +kernel) (pa_cons
      (pe_lc (own := [("one", 6)]) (g := gName 6) (tt := tYes) rfl sc_staying_key.nd (pi_tup (pv 4)) (blkOk_by (N := N_staying_key) (sc := defScope s_staying_key) (by decide +kernel)) (fun _ _ _ _ _ => pg_name (i := 6) sc_staying_key.nd rfl (Or.inl rfl)) (fun _ _ _ _ _ => pts_nil)
        (fun _ _ _ _ _ => pe_cmpR (r := rIn K false) op_in_seq (pv 6) (pv 5) (by rfl))) pa_nil)) pa_nil)))))))), ?_⟩
  have R := run_at o r0
  obtain ⟨j0, hj0⟩ := List.getElem?_of_mem hx
  have hxr := R.held j0 x hj0
  refine d_seq (d_asgG (evd_var rfl r1) fun v0 H0 e0 rv0 => ?_)
  refine g_three rv0 fun v2 v3 v4 h2 h3 h4 => ?_
  refine d_seq (d_asgN (evn_call (evds_cons (evd_var rfl h2) (evds_cons (evd_var rfl (r2.up e0)) evds_nil)) (spN_n ⟨r0, x, rfl, hxr, hl, rfl⟩)) fun l xs H1 nl e1 hl1 rl => ?_)
  have k3 := h3.up e1
  have k4 := h4.up e1
  have hfi := first_O hx
  refine d_ret (d := dSK (pk k L (r0, x))) (evd_tup (evds_cons (evd_var rfl k3) (evds_cons ((evd_tupL (EvN.toD (evn_mapTe (vs := [6]) (atR k L r0).2 dO (fun o => .bool o.isSome) (evd_var rfl k4) (by rw [R.len]; omega) (fun _ _ => rfl) (fun _ => rfl) (fun o v H3 ho e3 r3 => (evd_notN (evd_var rfl r3)).is (congrArg PyData.bool (isNone_O o)))))).is ?g1)
    (evds_cons (evd_tix (evd_var rfl k4) (evd_var rfl ((r2.up e0).up e1)) (flat_I x) (flat_Os _) hfi.1 (eqv_I x x |>.trans (decide_eq_true rfl)) hfi.2) (evds_cons ((evd_tupL (EvN.toD (evn_mapTe (vs := [6]) (atR k L r0).2 dO (fun o => .bool (match o with | some z => decide (z ∈ ml r0 x) | none => false)) (evd_var rfl k4) (by rw [R.len]; omega) (fun _ _ => rfl) (fun _ => rfl) (fun o v H3 ho e3 r3 =>
      (evd_inL (neg := false) (evd_var rfl r3) (evd_var rfl (Rp.up (.lst hl1 rl) e3)) (flat_O o) (flat_Is _)).is (congrArg PyData.bool (any_IO _ o)))))).is ?g2) evds_nil))))) fun v H2 e2 rv => q v H2 ((e0.trans e1).trans e2) rv
  case g1 =>
    unfold pk stayOf dBs fl
    rw [List.map_map]
    rfl
  case g2 =>
    unfold pk stayOf mf dBs
    rw [List.map_map]
    congr 1
    apply List.map_congr_left
    intro o _
    cases o with
    | none => rfl
    | some z => exact congrArg PyData.bool (decide_eq_decide.mpr mem_ml)
end
end K48
/-! Plain: the walks that begin. -/
namespace K48M
/-- a walk's state -/
def kap (k : Cache) (L : Nat) (r : List Nat) : Nat × List Bool := ((atR k L r).1, fl (atR k L r).2)
def addK (k : Cache) (L : Nat) (l : List (List Nat)) (r : List Nat) : List (List Nat) := if kap k L r ∈ l.map (kap k L) then l else l ++ [r]
theorem addK_sub {k : Cache} {L : Nat} {l : List (List Nat)} {r : List Nat} : ∀ x ∈ l, x ∈ addK k L l r := fun x hx => by
  unfold addK
  split
  · exact hx
  · exact List.mem_append_left _ hx
theorem addK_key {k : Cache} {L : Nat} {l : List (List Nat)} {r : List Nat} : kap k L r ∈ (addK k L l r).map (kap k L) := by
  unfold addK
  split
  · assumption
  · rw [List.map_append]
    exact List.mem_append_right _ (List.mem_singleton.mpr rfl)
theorem addK_mem {k : Cache} {L : Nat} {l : List (List Nat)} {r x : List Nat} (h : x ∈ addK k L l r) : x ∈ l ∨ x = r := by
  unfold addK at h
  split at h
  · exact .inl h
  · rcases List.mem_append.mp h with h | h
    · exact .inl h
    · exact .inr (List.mem_singleton.mp h)
theorem addK_pre {k : Cache} {L : Nat} {l : List (List Nat)} {r : List Nat} : l <+: addK k L l r := by
  unfold addK
  split
  · exact List.prefix_rfl
  · exact List.prefix_append l [r]
def addKs (k : Cache) (L : Nat) (l ns : List (List Nat)) : List (List Nat) := ns.foldl (addK k L) l
theorem addKs_snoc (k : Cache) (L : Nat) (l ns : List (List Nat)) (x : List Nat) : addKs k L l (ns ++ [x]) = addK k L (addKs k L l ns) x := by
  unfold addKs
  rw [List.foldl_append]
  rfl
theorem addKs_pre {k : Cache} {L : Nat} : ∀ {ns l : List (List Nat)}, l <+: addKs k L l ns := by
  intro ns
  induction ns with
  | nil => exact List.prefix_rfl
  | cons x ns ih => exact addK_pre.trans ih
/-- a right list of walks -/
structure BOk (C L : Nat) (k : Cache) (l : List (List Nat)) : Prop where
  nd : (l.map (kap k L)).Nodup
  can : ∀ r ∈ l, Can r
  len : ∀ (i : Nat) (r : List Nat), l[i]? = some r → r.length ≤ i
theorem BOk.add {C L : Nat} {k : Cache} {l : List (List Nat)} (B : BOk C L k l) {r : List Nat} (h1 : Can r) (h2 : r.length ≤ l.length) : BOk C L k (addK k L l r) := by
  unfold addK
  split
  · exact B
  · rename_i hn
    refine ⟨?_, fun x hx => ?_, fun i x hx => ?_⟩
    · rw [List.map_append]
      refine List.nodup_append.mpr ⟨B.nd, by simp, ?_⟩
      intro a ha b hb e
      have hb : b = kap k L r := by simpa using hb
      rw [e, hb] at ha
      exact hn ha
    · rcases List.mem_append.mp hx with h | h
      · exact B.can x h
      · rw [List.mem_singleton.mp h]
        exact h1
    · by_cases hi : i < l.length
      · rw [List.getElem?_append_left hi] at hx
        exact B.len i x hx
      · rw [List.getElem?_append_right (by omega)] at hx
        have h3 := (List.getElem?_eq_some_iff.mp hx).1
        rw [List.length_singleton] at h3
        have : i - l.length = 0 := by omega
        rw [this] at hx
        have : r = x := by simpa using hx
        rw [← this]
        omega
theorem BOk.adds {C L : Nat} {k : Cache} : ∀ {ns l : List (List Nat)}, BOk C L k l → (∀ r ∈ ns, Can r ∧ r.length ≤ l.length) → BOk C L k (addKs k L l ns) := by
  intro ns
  induction ns with
  | nil => exact fun B _ => B
  | cons x ns ih =>
    intro l B h
    refine ih (B.add (h x (List.mem_cons_self ..)).1 (h x (List.mem_cons_self ..)).2) fun r hr => ⟨(h r (List.mem_cons_of_mem _ hr)).1, Nat.le_trans (h r (List.mem_cons_of_mem _ hr)).2 (pre_len addK_pre)⟩
/-- .. worked up to n -/
structure BWork (C L : Nat) (k : Cache) (l : List (List Nat)) (n : Nat) : Prop extends BOk C L k l where
  first : [] ∈ l
  done : ∀ (i : Nat) (r : List Nat), i < n → l[i]? = some r → ∀ y, Nx k L r y → kap k L (r ++ [y]) ∈ l.map (kap k L)
  le : n ≤ l.length
theorem addKs_keys {k : Cache} {L : Nat} : ∀ {ns l : List (List Nat)}, ∀ r ∈ ns, kap k L r ∈ (addKs k L l ns).map (kap k L) := by
  intro ns
  induction ns with
  | nil => intro l r h; cases h
  | cons x ns ih =>
    intro l r h
    rcases List.mem_cons.mp h with rfl | h
    · have h1 : kap k L r ∈ (addK k L l r).map (kap k L) := addK_key
      obtain ⟨z, hz, e⟩ := List.mem_map.mp h1
      obtain ⟨t, ht⟩ := addKs_pre (k := k) (L := L) (l := addK k L l r) (ns := ns)
      refine List.mem_map.mpr ⟨z, ?_, e⟩
      show z ∈ addKs k L (addK k L l r) ns
      rw [← ht]
      exact List.mem_append_left _ hz
    · exact ih r h
theorem BWork.next {C L : Nat} {k : Cache} {l ns : List (List Nat)} {n : Nat} {r : List Nat} (W : BWork C L k l n) (hr : l[n]? = some r) (h : ∀ r', r' ∈ ns ↔ ∃ y, Nx k L r y ∧ r' = r ++ [y]) (o : Ok C L k) : BWork C L k (addKs k L l ns) (n + 1) := by
  have hpre : l <+: addKs k L l ns := addKs_pre
  have hnl := (List.getElem?_eq_some_iff.mp hr).1
  refine ⟨W.toBOk.adds fun r' hr' => ?_, ?_, fun i x hi hx y hy => ?_, ?_⟩
  · obtain ⟨y, hy, rfl⟩ := (h r').mp hr'
    refine ⟨hy.can o (W.can r (List.mem_of_getElem? hr)), ?_⟩
    have := W.len n r hr
    rw [List.length_append, List.length_singleton]
    omega
  · obtain ⟨t, ht⟩ := hpre
    rw [← ht]
    exact List.mem_append_left _ W.first
  · have hl : i < l.length := by omega
    have e := pre_get hpre (List.getElem?_eq_getElem hl)
    rw [hx] at e
    have e := Option.some.inj e
    by_cases q : i = n
    · subst q
      rw [List.getElem?_eq_getElem hl] at hr
      have : x = r := e.trans (Option.some.inj hr)
      rw [this] at hy ⊢
      exact addKs_keys _ ((h _).mpr ⟨y, hy, rfl⟩)
    · have h1 := W.done i x (by omega) (by rw [List.getElem?_eq_getElem hl, e]) y hy
      obtain ⟨t, ht⟩ := hpre
      rw [← ht, List.map_append]
      exact List.mem_append_left _ h1
  · have := pre_len hpre
    omega
theorem BWork.cover {C L : Nat} {k : Cache} {l : List (List Nat)} (W : BWork C L k l l.length) (o : Ok C L k) : ∀ c F, FS k L c F → ∃ r ∈ l, (atR k L r).1 = c ∧ fl (atR k L r).2 = F := by
  have step : ∀ r ∈ l, ∀ y, Nx k L r y → ∃ r2 ∈ l, kap k L r2 = kap k L (r ++ [y]) := fun r hr y hy => by
    obtain ⟨i, hi⟩ := List.getElem?_of_mem hr
    exact List.mem_map.mp (W.done i r (List.getElem?_eq_some_iff.mp hi).1 hi y hy)
  intro c F h
  induction h with
  | zero =>
    refine ⟨[], W.first, rfl, ?_⟩
    show fl (List.replicate L none) = _
    unfold fl
    rw [List.map_replicate]
    rfl
  | @hit c F j _ hj ih =>
    obtain ⟨r, hr, rfl, rfl⟩ := ih
    obtain ⟨y, hy⟩ := fl_true hj
    have hm := List.mem_of_getElem? hy
    obtain ⟨r2, hr2, e⟩ := step r hr y (.inl hm)
    unfold kap at e
    rw [at_hit hm, idx_at o hy] at e
    exact ⟨r2, hr2, congrArg Prod.fst e, congrArg Prod.snd e⟩
  | @miss c F _ ih =>
    obtain ⟨r, hr, rfl, rfl⟩ := ih
    have hm := new_out o (W.can r hr)
    obtain ⟨r2, hr2, e⟩ := step r hr (nd r) (.inr rfl)
    unfold kap at e
    rw [at_miss hm] at e
    exact ⟨r2, hr2, congrArg Prod.fst e, (congrArg Prod.snd e).trans (fl_set _ _ _)⟩
theorem bwork0 {C L : Nat} {k : Cache} : BWork C L k [[]] 0 := by
  refine ⟨⟨by simp, fun r hr => by rw [List.mem_singleton.mp hr]; exact can_nil, fun i r h => ?_⟩, by simp, fun i r hi => absurd hi (Nat.not_lt_zero _), Nat.zero_le _⟩
  have : r = [] := List.mem_singleton.mp (List.mem_of_getElem? h)
  rw [this]
  exact Nat.zero_le _
/-- what begin_walks tells -/
structure BAll (k : Cache) (L : Nat) (l : List (List Nat)) : Prop where
  can : ∀ r ∈ l, Can r
  len : ∀ r ∈ l, r.length ≤ 32
  cover : ∀ c F, FS k L c F → ∃ r ∈ l, (atR k L r).1 = c ∧ fl (atR k L r).2 = F
  many : l.length ≤ 32
end K48M
/-! begin_walks. -/
namespace K48
open PySem L2 Evl K48M
section
variable {K : PySem.W.Frag} {w : World} {σ : S} {H : Hp} {ta tb tc : TE} {D : Ends} {ds es : List PyData} {d : PyData}
theorem d_par3NN {i j l : Nat} (h1 : EvN ta σ H ds) (h2 : EvN tb σ H es) (h3 : EvD tc σ H d) (k : ∀ p xs q ys v H1, H p = none → H q = none → p ≠ q → Ex H H1 → H1 p = some (.lst xs) → H1 q = some (.lst ys) → Rps H1 xs ds → Rps H1 ys es → Rp H1 v d → D.nx (((σ.set i (some (.ref p))).set j (some (.ref q))).set l (some v)) H1) :
    tPar3 i j l (tCons ta (tCons tb (tCons tc tNil))) D σ H :=
  h1 H (Ex.refl H) _ fun p xs H1 hp e1 hx r1 => h2 H1 e1 _ fun q ys H2 hq e2 hy r2 => h3 H2 (e1.trans e2) _ fun v H3 e3 r3 => ⟨.ref p, .ref q, v, rfl, k p xs q ys v H3 hp (fresh_back e1 hq) (fun z => by
    rw [z, hq] at hx
    cases hx) ((e1.trans e2).trans e3) (e3 _ _ (e2 _ _ hx)) (e3 _ _ hy) ((r1.up e2).up e3) (r2.up e3) r3⟩
end
theorem flat_rep {α : Type} (a : α) : ∀ n, (List.replicate n [a]).flatten = List.replicate n a
  | 0 => rfl
  | n + 1 => by rw [List.replicate_succ, List.flatten_cons, flat_rep a n, List.replicate_succ]; rfl
theorem kap_ok {C L : Nat} {k : Cache} (o : Ok C L k) (r : List Nat) : kap k L r ∈ uFS C L := by
  have R := run_at o r
  refine mem_uFS R.lt ?_
  show (fl (atR k L r).2).length = L
  unfold fl
  rw [List.length_map]
  exact R.len
theorem uFS_32 {C L : Nat} (hC : C ≤ 4) (hL : L ≤ 3) : (uFS C L).length ≤ 32 := by
  rw [len_uFS]
  have : 2 ^ L ≤ 2 ^ 3 := Nat.pow_le_pow_right (by decide) hL
  have : C * 2 ^ L ≤ 4 * 2 ^ 3 := Nat.mul_le_mul hC this
  omega
theorem _root_.K48M.BOk.bound {C L : Nat} {k : Cache} {l : List (List Nat)} (B : BOk C L k l) (o : Ok C L k) : l.length ≤ (uFS C L).length := by
  have := nodup_len_le B.nd fun s hs => by
    obtain ⟨r, _, rfl⟩ := List.mem_map.mp hs
    exact kap_ok o r
  rwa [List.length_map] at this
section
variable {P : Program} {w : World} {K : PySem.W.Frag} {mg : Str → Option Value} {base : Heap}
def Rbeg (C L : Nat) (ds : List PyData) (Post : List PyData → Prop) : Prop := ∃ k, ds = [dCache k] ∧ Ok C L k ∧ C ≤ 4 ∧ L ≤ 3 ∧ Post = fun es => ∃ l : List (List Nat), es = l.map (enc k L) ∧ BAll k L l
theorem ok_begin_walks {C L : Nat} {f : Addr} {fd : FuncData} (F : Fun K "begin_walks" "begin_walks" s_begin_walks f fd) (T : Mg mg) (c2 : Cal P w K mg base CX0 2 "next_lines" ["cache", "walk"] (spM (Rnext C L))) (c1 : Cal P w K mg base CX0 1 "renamed_stay" ["walk"] (spD Rren)) : FnOk P w K mg base CX0 3 f fd ["cache"] (spM (Rbeg C L)) := by
  refine F.ok sc_begin_walks (fun vs H Q E h => spM_len h fun ds d ⟨k, e, _⟩ => by rw [e]; rfl) (fun cdv A outer sh H vs Q E hr h => ?_)
  obtain ⟨ds, Post, r, ⟨k, rfl, o, hC, hL, rfl⟩, q⟩ := h
  cases r with
  | cons r1 r =>
  cases r
  refine ⟨_, pss_cons (ps_par3 (i := 1) (j := 2) (l := 3) (by rfl) sc_begin_walks.nd rfl rfl rfl (by decide) (by decide) (by decide) rfl rfl rfl
      (pa_cons (pe_lst (pa_cons (pe_tupP (pa_cons (pe_tupP pa_nil) (pa_cons pe_int (pa_cons (pe_op op_repP (pe_tupP (pa_cons pe_non pa_nil)) (pe_callB call_len_seq (by rfl) T.len (by decide +kernel) (pa_cons (pe_ix ix_tup (pe_ix ix_tup (pv 0) pe_int (fun _ _ => rfl)) pe_int (fun _ _ => rfl)) pa_nil))) pa_nil)))) pa_nil)) (pa_cons (pe_lst pa_nil) (pa_cons pe_int pa_nil))) (by rfl))
    (pss_cons (ps_expr (pe_bm PySem.F.plainAttrs_list PySem.F.slot_list_append PySem.F.type_list_append mt_append (pv 2) (pa_cons (pe_cal c1 hr (by decide) (by rfl) (pa_cons (pe_ix ix_list (pv 1) pe_int (fun _ _ => rfl)) pa_nil)) pa_nil)))
    (pss_cons (ps_while PassesOwn.never (pt_cmpR op_lt (pv 3) (pe_callB call_len_seq (by rfl) T.len (by decide +kernel) (pa_cons (pv 1) pa_nil)) (nomark _))
      (pss_cons (ps_for PassesOwn.never rfl (pi_list (pe_cal c2 hr (by decide) (by rfl) (pa_cons (pv 0) (pa_cons (pe_ix ix_list (pv 1) (pv 3) (fun _ _ => rfl)) pa_nil)))) (pg_name (i := 4) sc_begin_walks.nd rfl (.inl rfl))
        (pss_one (ps_if (pt_cmpR (op_notInD (u65 hr)) (pe_cal c1 hr (by decide) (by rfl) (pa_cons (pv 4) pa_nil)) (pv 2) (by rfl))
          (pss_cons (ps_expr (pe_bm PySem.F.plainAttrs_list PySem.F.slot_list_append PySem.F.type_list_append mt_append (pv 2) (pa_cons (pe_cal c1 hr (by decide) (by rfl) (pa_cons (pv 4) pa_nil)) pa_nil)))
          (pss_one (ps_expr (pe_bm PySem.F.plainAttrs_list PySem.F.slot_list_append PySem.F.type_list_append mt_append (pv 1) (pa_cons (pv 4) pa_nil))))) pss_nil)))
      (pss_one (ps_aug (i := 3) sc_begin_walks.nd rfl (.inl rfl) pe_int ip_add))))
    (pss_one (ps_ret (pv 1))))), ?_⟩
  have R0 := run_at o []
  refine d_seq (d_par3NN (ds := [enc k L []]) (es := []) (evn_lst (evds_cons (evd_tup (evds_cons (d := dNs []) (evd_tup evds_nil) (evds_cons (d := dI 0) evd_int (evds_cons (d := dLs (List.replicate L none)) ((evd_rep (ds := [.none]) (n := L) (evd_tup (evds_cons evd_non evds_nil)) ((evd_lenT (evd_ixT (evd_ixT (evd_var rfl r1) evd_int (atI_map (ctl_get o o.c1))) evd_int rfl)).is ?g1) (by simp) o.l1 (by omega) (by decide)).is ?g2) evds_nil)))) evds_nil)) (evn_lst evds_nil) evd_int fun l xs0 qq ys0 v3 H2 nl nq lq e2 hl hq rl rq rv3 => ?_)
  case g1 =>
    rw [List.length_map, o.hlen 0 o.c1]
  case g2 =>
    rw [flat_rep]
    unfold dLs
    rw [List.map_replicate]
    rfl
  have ev3 := rv3.int_inv
  subst ev3
  cases rq
  have renK : ∀ r : List Nat, Rren [enc k L r] (dKF (kap k L r)) := fun r => ⟨r, _, _, rfl, by rw [(run_at o r).len]; omega, rfl⟩
  have rl' : Rp H2 (.ref l) (.list [enc k L []]) := .lst hl rl
  refine d_seq (d_app (l := qq) hq (ev_slot rfl) (d := dKF (kap k L [])) (evd_call (evds_cons (evd_ixL (evd_var rfl rl') evd_int rfl) evds_nil) (spD_d (renK []))) (by decide) fun v' H3 e3 r3 => ?_)
  have hq3 := e3 _ _ hq
  have hl3 := e3 _ _ hl
  generalize hH4 : upd H3 qq (.lst ([] ++ [v'])) = H4
  have hq4 : H4 qq = some (.lst [v']) := by rw [← hH4]; exact upd_same
  have tk4 : Tk H3 H4 := by rw [← hH4]; exact Tk.upd hq3
  have b4 : But [qq] H3 H4 := by rw [← hH4]; exact But.upd (List.mem_singleton.mpr rfl)
  have hl4 : H4 l = some (.lst xs0) := b4.go (fun z => lq (List.mem_singleton.mp z)) hl3
  have rl4 : Rps H4 xs0 ([[]].map (enc k L)) := Rps.tk tk4 _ (tupDs_map (tupD_enc k L) _) (rl.up e3)
  have rq4 : Rps H4 [v'] (([[]].map (kap k L)).map dKF) := .cons (Rp.tk tk4 _ (tupD_KF _) r3) .nil
  have rc4 : Rp H4 _ (dCache k) := Rp.tk tk4 _ (tupD_Cache k) ((r1.up e2).up e3)
  have eH4 : Ex H H4 := (e2.trans e3).trans_but b4 nq
  clear hH4 tk4 b4
  have nT4 : NoT [l, qq] H4 := noT_two (noT_one hl4) (noT_one hq4)
  have hU := uFS_32 hC hL
  refine d_seq (d_while (fun m σ' H' => ∃ M at_ acc kac a4, σ' = [some _, some (.ref l), some (.ref qq), some (.int (at_ : Nat)), a4] ∧ But [l, qq] H4 H' ∧ H' l = some (.lst acc) ∧ H' qq = some (.lst kac) ∧ Rps H' acc (M.map (enc k L)) ∧ Rps H' kac ((M.map (kap k L)).map dKF) ∧ BWork C L k M at_ ∧ m = (uFS C L).length - at_) _
    ⟨[[]], 0, xs0, [v'], none, rfl, But.refl, hl4, hq4, rl4, rq4, bwork0, rfl⟩ fun m σ' H' ⟨M, at_, acc, kac, a4, es, b, hlH, hqH, rac, rka, W, hm⟩ => ?_)
  subst es
  have tk := b.tk nT4
  have rc : Rp H' _ (dCache k) := Rp.tk tk _ (tupD_Cache k) rc4
  have rlist : Rp H' (.ref l) (.list (M.map (enc k L))) := .lst hlH rac
  have hMl := W.toBOk.bound o
  refine ⟨decide (at_ < M.length), evt_test ((evd_lt (evd_var rfl (.int _)) (evd_lenL (evd_var rfl rlist))).is ?_), fun hb H5 e5 => ?_, fun hb H5 e5 => ?_⟩
  · rw [List.length_map]
    congr 1
    exact decide_eq_decide.mpr (by omega)
  · have hat : at_ < M.length := of_decide_eq_true hb
    have hs : M[at_]? = some M[at_] := List.getElem?_eq_getElem hat
    generalize M[at_] = s at hs
    refine ⟨_, fun _ _ z => z, ?_⟩
    have hl5 := e5 _ _ hlH
    have hq5 := e5 _ _ hqH
    have hsl := W.len at_ s hs
    refine d_seq (d_forM (evm_call (evds_cons (evd_var rfl (rc.up e5)) (evds_cons (d := enc k L s) (evd_ixL (evd_var rfl (rlist.up e5)) (evd_var rfl (.int _)) (atI_map hs)) evds_nil)) ⟨k, s, rfl, o, hL, by omega, rfl⟩) fun p xs es H6 np e6 hx6 r6 ⟨ns, ens, nsl, hns⟩ => ?_)
    subst ens
    have W' := W.next hs hns o
    have hl6 := e6 _ _ hl5
    have hq6 := e6 _ _ hq5
    have pl : p ≠ l := fun z => by
      rw [z, hl5] at np
      cases np
    have pq : p ≠ qq := fun z => by
      rw [z, hq5] at np
      cases np
    have nT6 : NoT [l, qq] H6 := noT_two (noT_one hl6) (noT_one hq6)
    have hpreW : ∀ i, addKs k L M (ns.take i) <+: addKs k L M ns := fun i => by
      have : addKs k L M ns = addKs k L (addKs k L M (ns.take i)) (ns.drop i) := by
        show ns.foldl _ M = (ns.drop i).foldl _ ((ns.take i).foldl _ M)
        rw [← List.foldl_append, List.take_append_drop]
      rw [this]
      exact addKs_pre
    refine ⟨fun i σ' H' => ∃ a4 acc kac, σ' = [some _, some (.ref l), some (.ref qq), some (.int (at_ : Nat)), a4] ∧ But [l, qq] H6 H' ∧ H' l = some (.lst acc) ∧ H' qq = some (.lst kac) ∧ Rps H' acc ((addKs k L M (ns.take i)).map (enc k L)) ∧ Rps H' kac (((addKs k L M (ns.take i)).map (kap k L)).map dKF),
      ⟨a4, acc, kac, rfl, But.refl, hl6, hq6, by rw [List.take_zero]; exact (rac.up e5).up e6, by rw [List.take_zero]; exact (rka.up e5).up e6⟩, fun i σ' H' ⟨_, _, _, _, b7, _⟩ => b7.go (fun z => by
        rcases List.mem_cons.mp z with z | z
        · exact pl z
        · exact pq (List.mem_singleton.mp z)) hx6, fun i y σ' H' hi ⟨a4', acc', kac', es, b7, hl7, hq7, r7, rk7⟩ => ?_, fun σ' H' ⟨a4', acc', kac', es, b7, hl7, hq7, r7, rk7⟩ => ?_⟩
    · subst es
      obtain ⟨d, hd, rd⟩ := r6.getV hi
      rw [List.getElem?_map] at hd
      obtain ⟨t, ht, rfl⟩ := Option.map_eq_some_iff.mp hd
      have tk7 := b7.tk nT6
      have ry : Rp H' y (enc k L t) := Rp.tk tk7 _ (tupD_enc k L t) rd
      have hMi : (addKs k L M (ns.take i)).length ≤ 32 := Nat.le_trans (pre_len (hpreW i)) (Nat.le_trans (W'.toBOk.bound o) hU)
      have hlen7 : acc'.length ≤ 32 := by
        rw [r7.len, List.length_map]
        exact hMi
      have hlenk7 : kac'.length ≤ 32 := by
        rw [rk7.len, List.length_map, List.length_map]
        exact hMi
      have etk : addKs k L M (ns.take (i + 1)) = addK k L (addKs k L M (ns.take i)) t := by rw [take_snoc ht, addKs_snoc]
      refine d_when (b := decide (kap k L t ∉ (addKs k L M (ns.take i)).map (kap k L))) (evt_test ((evd_niD (evd_call (evds_cons (evd_var rfl ry) evds_nil) (spD_d (renK t))) (evd_var rfl (.lst hq7 rk7)) (shp_KF _).shaped (shp_lst (shp_map shp_KF _)).shaped).is ?_)) (fun hb H8 e8 => ?_) (fun hb H8 e8 => ?_)
      · rw [any_map fun a ha => eqv_KF a (kap k L t), decide_not]
        exact congrArg (fun b => PyData.bool (!b)) (decide_eq_decide.mpr Iff.rfl)
      · have hn : kap k L t ∉ (addKs k L M (ns.take i)).map (kap k L) := of_decide_eq_true hb
        have hl8 := e8 _ _ hl7
        have hq8 := e8 _ _ hq7
        refine d_seq (d_app (l := qq) hq8 (ev_slot rfl) (d := dKF (kap k L t)) (evd_call (evds_cons (evd_var rfl (ry.up e8)) evds_nil) (spD_d (renK t))) (by omega) fun v9 H9 e9 r9 => ?_)
        have hq9 := e9 _ _ hq8
        have hl9 := e9 _ _ hl8
        have tk10 := Tk.upd (o := .lst (kac' ++ [v9])) hq9
        have b10 : But [qq] H9 (upd H9 qq (.lst (kac' ++ [v9]))) := But.upd (List.mem_singleton.mpr rfl)
        have hl10 : (upd H9 qq (.lst (kac' ++ [v9]))) l = some (.lst acc') := b10.go (fun z => lq (List.mem_singleton.mp z)) hl9
        refine d_app (l := l) hl10 (ev_slot rfl) (d := enc k L t) (evd_var rfl (Rp.tk tk10 _ (tupD_enc k L t) ((ry.up e8).up e9))) (by omega) fun v11 H11 e11 r11 => ?_
        have hl11 := e11 _ _ hl10
        have hq11 := e11 _ _ (upd_same (H := H9) (a := qq) (o := .lst (kac' ++ [v9])))
        have tk11 := Tk.upd (o := .lst (acc' ++ [v11])) hl11
        have b11 : But [l] H11 (upd H11 l (.lst (acc' ++ [v11]))) := But.upd (List.mem_singleton.mpr rfl)
        refine ⟨_, _, _, rfl, (((b7.trans (But.ex (e8.trans e9))).trans (b10.mono fun a h => List.mem_cons_of_mem _ h)).trans (But.ex e11)).trans (But.upd (List.mem_cons_self ..)), upd_same, b11.go (fun z => lq (List.mem_singleton.mp z).symm) hq11, ?_, ?_⟩
        · rw [etk]
          unfold addK
          rw [if_neg hn, List.map_append]
          exact Rps.append (Rps.tk tk11 _ (tupDs_map (tupD_enc k L) _) ((Rps.tk tk10 _ (tupDs_map (tupD_enc k L) _) ((r7.up e8).up e9)).up e11)) (.cons (Rp.tk tk11 _ (tupD_enc k L t) r11) .nil)
        · rw [etk]
          unfold addK
          rw [if_neg hn, List.map_append, List.map_append]
          exact Rps.append (Rps.tk tk11 _ (tupDs_map tupD_KF _) ((Rps.tk tk10 _ (tupDs_map tupD_KF _) ((rk7.up e8).up e9)).up e11)) (.cons (Rp.tk tk11 _ (tupD_KF _) ((Rp.tk tk10 _ (tupD_KF _) r9).up e11)) .nil)
      · have hn : kap k L t ∈ (addKs k L M (ns.take i)).map (kap k L) := Classical.not_not.mp (of_decide_eq_false hb)
        refine ⟨_, _, _, rfl, b7.trans (But.ex e8), e8 _ _ hl7, e8 _ _ hq7, ?_, ?_⟩
        · rw [etk]
          unfold addK
          rw [if_pos hn]
          exact r7.up e8
        · rw [etk]
          unfold addK
          rw [if_pos hn]
          exact rk7.up e8
    · subst es
      have hx : xs.length = ns.length := by rw [r6.len, List.length_map]
      rw [hx, List.take_length] at r7 rk7
      refine d_aug rfl evd_int fun H8 e8 => ?_
      have hb8 : But [l, qq] H4 H8 := ((b.trans (But.ex (e5.trans e6))).trans b7).trans (But.ex e8)
      refine ⟨(uFS C L).length - (at_ + 1), by omega, addKs k L M ns, at_ + 1, acc', kac', a4', ?_, hb8, e8 _ _ hl7, e8 _ _ hq7, r7.up e8, rk7.up e8, W', rfl⟩
      have : ((at_ : Int) + 1) = ((at_ + 1 : Nat) : Int) := by omega
      rw [← this]
      rfl
  · have hat : at_ = M.length := by
      have := of_decide_eq_false hb
      have := W.le
      omega
    subst hat
    refine ⟨.ref l, rfl, q l acc _ H5 nl (fun a ob ha => ?_) (e5 _ _ hlH) (rac.up e5) ⟨M, rfl, W.can, fun r hr => ?_, W.cover o, Nat.le_trans hMl hU⟩⟩
    · refine (b.trans (But.ex e5)) a ob (fun z => ?_) (eH4 a ob ha)
      rcases List.mem_cons.mp z with rfl | z
      · rw [nl] at ha
        cases ha
      · rw [List.mem_singleton.mp z, nq] at ha
        cases ha
    · obtain ⟨i, hi⟩ := List.getElem?_of_mem hr
      have h1 := W.len i r hi
      have h2 := (List.getElem?_eq_some_iff.mp hi).1
      omega
end
end K48
/-! Plain: what is alike by a key; a layer with all that is met no more. -/
namespace K48M
open K48G
section
variable {α β : Type} [DecidableEq β] {κ : α → β}
def addB (κ : α → β) (l : List α) (x : α) : List α := if κ x ∈ l.map κ then l else l ++ [x]
def addBs (κ : α → β) (l ns : List α) : List α := ns.foldl (addB κ) l
theorem addB_pre {l : List α} {x : α} : l <+: addB κ l x := by
  unfold addB
  split
  · exact List.prefix_rfl
  · exact List.prefix_append l [x]
theorem addB_key {l : List α} {x : α} : κ x ∈ (addB κ l x).map κ := by
  unfold addB
  split
  · assumption
  · rw [List.map_append]
    exact List.mem_append_right _ (List.mem_singleton.mpr rfl)
theorem addB_mem {l : List α} {x y : α} (h : y ∈ addB κ l x) : y ∈ l ∨ y = x := by
  unfold addB at h
  split at h
  · exact .inl h
  · rcases List.mem_append.mp h with h | h
    · exact .inl h
    · exact .inr (List.mem_singleton.mp h)
theorem addB_nd {l : List α} {x : α} (h : (l.map κ).Nodup) : ((addB κ l x).map κ).Nodup := by
  unfold addB
  split
  · exact h
  · rename_i hn
    rw [List.map_append]
    refine List.nodup_append.mpr ⟨h, by simp, ?_⟩
    intro a ha b hb e
    have hb : b = κ x := by simpa using hb
    rw [e, hb] at ha
    exact hn ha
theorem addBs_snoc (l ns : List α) (x : α) : addBs κ l (ns ++ [x]) = addB κ (addBs κ l ns) x := by
  unfold addBs
  rw [List.foldl_append]
  rfl
theorem pre_keys {l m : List α} {b : β} (h : l <+: m) (hb : b ∈ l.map κ) : b ∈ m.map κ := by
  obtain ⟨t, rfl⟩ := h
  rw [List.map_append]
  exact List.mem_append_left _ hb
theorem pre_mem {l m : List α} {b : α} (h : l <+: m) (hb : b ∈ l) : b ∈ m := by
  obtain ⟨t, rfl⟩ := h
  exact List.mem_append_left _ hb
theorem addBs_pre : ∀ {ns l : List α}, l <+: addBs κ l ns := by
  intro ns
  induction ns with
  | nil => exact List.prefix_rfl
  | cons x ns ih => exact addB_pre.trans ih
theorem addBs_nd : ∀ {ns l : List α}, (l.map κ).Nodup → ((addBs κ l ns).map κ).Nodup := by
  intro ns
  induction ns with
  | nil => exact fun h => h
  | cons x ns ih => exact fun h => ih (addB_nd h)
theorem addBs_mem : ∀ {ns l : List α} {y : α}, y ∈ addBs κ l ns → y ∈ l ∨ y ∈ ns := by
  intro ns
  induction ns with
  | nil => exact fun h => .inl h
  | cons x ns ih =>
    intro l y h
    rcases ih h with h | h
    · rcases addB_mem h with h | h
      · exact .inl h
      · exact .inr (h ▸ List.mem_cons_self ..)
    · exact .inr (List.mem_cons_of_mem _ h)
theorem addBs_keys : ∀ {ns l : List α}, ∀ r ∈ ns, κ r ∈ (addBs κ l ns).map κ := by
  intro ns
  induction ns with
  | nil => intro l r h; cases h
  | cons x ns ih =>
    intro l r h
    rcases List.mem_cons.mp h with rfl | h
    · exact pre_keys (addBs_pre (ns := ns)) addB_key
    · exact ih r h
theorem addBs_len : ∀ {ns l : List α}, (addBs κ l ns).length ≤ l.length + ns.length := by
  intro ns
  induction ns with
  | nil => intro l; exact Nat.le_refl _
  | cons x ns ih =>
    intro l
    have h1 := ih (l := addB κ l x)
    have h2 : (addB κ l x).length ≤ l.length + 1 := by
      unfold addB
      split
      · omega
      · rw [List.length_append]
        exact Nat.le_refl _
    show (addBs κ (addB κ l x) ns).length ≤ _
    rw [List.length_cons]
    omega
end
section
variable {C L : Nat} {k : Cache}
/-- what unlike_stays tells -/
structure UAll (k : Cache) (L : Nat) (l0 l : List Pair) : Prop where
  nd : (l.map (pk k L)).Nodup
  sub : ∀ p ∈ l, p ∈ l0
  all : ∀ p ∈ l0, pk k L p ∈ l.map (pk k L)
theorem uall_of (k : Cache) (L : Nat) (l : List Pair) : UAll k L l (addBs (pk k L) [] l) :=
  ⟨addBs_nd (by simp), fun p hp => by
    rcases addBs_mem hp with h | h
    · cases h
    · exact h, fun p hp => addBs_keys p hp⟩
theorem set_same {M : List Bool} {j : Nat} (h : M.getD j false = true) : M.set j true = M := by
  apply List.ext_getElem?
  intro i
  by_cases e : i = j
  · subst e
    by_cases hl : i < M.length
    · rw [List.getElem?_set_self hl, List.getElem?_eq_getElem hl]
      rw [List.getD_eq_getElem?_getD, List.getElem?_eq_getElem hl] at h
      have h : M[i] = true := h
      rw [h]
    · rw [List.getElem?_eq_none (by rw [List.length_set]; omega), List.getElem?_eq_none (by omega)]
  · rw [List.getElem?_set_ne (Ne.symm e)]
/-- a step that gains nothing turns the control alone -/
theorem zero_step {s s' : Stay} (h : (0, s') ∈ succ k s) : s'.2 = s.2 := by
  rcases succ_cases h with ⟨j, _, _, e⟩ | ⟨_, e⟩
  · have e1 := congrArg Prod.fst e
    have e2 := congrArg Prod.snd e
    have e1 : 0 = if s.2.2.2.getD j false then 0 else 1 := e1
    have hm : s.2.2.2.getD j false = true := by
      cases q : s.2.2.2.getD j false with
      | true => rfl
      | false =>
        rw [q] at e1
        exact absurd e1 (by decide)
    have e2 : s' = (hit k s.1 j, s.2.1, s.2.2.1, s.2.2.2.set j true) := e2
    rw [e2, set_same hm]
  · have e1 := congrArg Prod.fst e
    exact absurd e1 (by show ¬ (0 : Nat) = 1; decide)
/-- a layer, under work -/
structure SOk2 (C L : Nat) (k : Cache) (t B : Nat) (l0 l : List Pair) : Prop where
  nd : (l.map (pk k L)).Nodup
  ok : ∀ q ∈ l, Pr k L q ∧ mc q = t
  base : ∀ p ∈ l0, pk k L p ∈ l.map (pk k L)
  len : ∀ q ∈ l, ∃ cs : List Nat, cs.Nodup ∧ q.1.length + 1 ≤ B + cs.length ∧ ∀ c ∈ cs, c < C ∧ (c, (pk k L q).2) ∈ l.map (pk k L)
theorem SOk2.row {t B : Nat} {l0 l : List Pair} (S : SOk2 C L k t B l0 l) : ∀ q ∈ l, q.1.length + 1 ≤ B + C := fun q hq => by
  obtain ⟨cs, h1, h2, h3⟩ := S.len q hq
  have := nodup_len_le (U := List.range C) h1 fun c hc => List.mem_range.mpr (h3 c hc).1
  rw [List.length_range] at this
  omega
theorem SOk2.add {t B : Nat} {l0 l : List Pair} (S : SOk2 C L k t B l0 l) (o : Ok C L k) {p q : Pair} (hp : p ∈ l) (hf : Fu k L p q) (hm : mc q = t) : SOk2 C L k t B l0 (addB (pk k L) l q) := by
  obtain ⟨p1, p2⟩ := S.ok p hp
  obtain ⟨e, hs, he⟩ := hf.step o p1
  have : e = 0 := by omega
  subst this
  have hz := zero_step hs
  have hpre : l <+: addB (pk k L) l q := addB_pre
  refine ⟨addB_nd S.nd, fun x hx => ?_, fun x hx => pre_keys hpre (S.base x hx), fun x hx => ?_⟩
  · rcases addB_mem hx with h | h
    · exact S.ok x h
    · rw [h]
      exact ⟨hf.pr o p1, hm⟩
  · by_cases hxl : x ∈ l
    · obtain ⟨cs, h1, h2, h3⟩ := S.len x hxl
      exact ⟨cs, h1, h2, fun c hc => ⟨(h3 c hc).1, pre_keys hpre (h3 c hc).2⟩⟩
    · have ex : x = q := by
        rcases addB_mem hx with h | h
        · exact absurd h hxl
        · exact h
      subst ex
      have hn : pk k L x ∉ l.map (pk k L) := fun z => by
        unfold addB at hx
        rw [if_pos z] at hx
        exact hxl hx
      obtain ⟨cs, h1, h2, h3⟩ := S.len p hp
      have R := run_at o x.1
      have hl := hf.len
      refine ⟨(pk k L x).1 :: cs, List.nodup_cons.mpr ⟨fun z => hn ?_, h1⟩, by rw [List.length_cons]; omega, fun c hc => ?_⟩
      · have := (h3 _ z).2
        rw [← hz] at this
        exact this
      · rcases List.mem_cons.mp hc with rfl | hc
        · exact ⟨R.lt, addB_key⟩
        · have := h3 c hc
          rw [← hz] at this
          exact ⟨this.1, pre_keys hpre this.2⟩
/-- a further walk's turn -/
def addS (k : Cache) (L t : Nat) (l : List Pair) (q : Pair) : List Pair := if mc q = t then addB (pk k L) l q else l
def addSs (k : Cache) (L t : Nat) (l ns : List Pair) : List Pair := ns.foldl (addS k L t) l
theorem addSs_snoc (k : Cache) (L t : Nat) (l ns : List Pair) (x : Pair) : addSs k L t l (ns ++ [x]) = addS k L t (addSs k L t l ns) x := by
  unfold addSs
  rw [List.foldl_append]
  rfl
theorem addS_pre {t : Nat} {l : List Pair} {q : Pair} : l <+: addS k L t l q := by
  unfold addS
  split
  · exact addB_pre
  · exact List.prefix_rfl
theorem addSs_pre {t : Nat} : ∀ {ns l : List Pair}, l <+: addSs k L t l ns := by
  intro ns
  induction ns with
  | nil => exact List.prefix_rfl
  | cons x ns ih => exact addS_pre.trans ih
theorem addSs_keys {t : Nat} : ∀ {ns l : List Pair}, ∀ q ∈ ns, mc q = t → pk k L q ∈ (addSs k L t l ns).map (pk k L) := by
  intro ns
  induction ns with
  | nil => intro l r h; cases h
  | cons x ns ih =>
    intro l r h hm
    rcases List.mem_cons.mp h with rfl | h
    · refine pre_keys (addSs_pre (ns := ns)) ?_
      unfold addS
      rw [if_pos hm]
      exact addB_key
    · exact ih r h hm
theorem SOk2.adds {t B : Nat} (o : Ok C L k) {p : Pair} : ∀ {ns l0 l : List Pair}, SOk2 C L k t B l0 l → p ∈ l → (∀ q ∈ ns, Fu k L p q) → SOk2 C L k t B l0 (addSs k L t l ns) := by
  intro ns
  induction ns with
  | nil => exact fun S _ _ => S
  | cons x ns ih =>
    intro l0 l S hp h
    have hx := h x (List.mem_cons_self ..)
    refine ih (l := addS k L t l x) ?_ (pre_mem addS_pre hp) fun q hq => h q (List.mem_cons_of_mem _ hq)
    unfold addS
    split
    · rename_i hm
      exact S.add o hp hx hm
    · exact S
structure SWork (C L : Nat) (k : Cache) (t B : Nat) (l0 l : List Pair) (n : Nat) : Prop extends SOk2 C L k t B l0 l where
  done : ∀ (i : Nat) (p : Pair), i < n → l[i]? = some p → ∀ q, Fu k L p q → mc q = t → pk k L q ∈ l.map (pk k L)
  le : n ≤ l.length
theorem SWork.next {t B : Nat} {l0 l ns : List Pair} {n : Nat} {p : Pair} (W : SWork C L k t B l0 l n) (o : Ok C L k) (hp : l[n]? = some p) (h : ∀ q, q ∈ ns ↔ Fu k L p q) : SWork C L k t B l0 (addSs k L t l ns) (n + 1) := by
  have hpre : l <+: addSs k L t l ns := addSs_pre
  refine ⟨W.toSOk2.adds o (List.mem_of_getElem? hp) fun q hq => (h q).mp hq, fun i x hi hx q hq hm => ?_, ?_⟩
  · have hl : i < l.length := by
      have := (List.getElem?_eq_some_iff.mp hp).1
      omega
    have e := pre_get hpre (List.getElem?_eq_getElem hl)
    rw [hx] at e
    have e := Option.some.inj e
    by_cases z : i = n
    · subst z
      rw [List.getElem?_eq_getElem hl] at hp
      have : x = p := e.trans (Option.some.inj hp)
      rw [this] at hq
      exact addSs_keys q ((h q).mpr hq) hm
    · exact pre_keys hpre (W.done i x (by omega) (by rw [List.getElem?_eq_getElem hl, e]) q hq hm)
  · have := pre_len hpre
    have := (List.getElem?_eq_some_iff.mp hp).1
    omega
/-- what same_met tells -/
structure SMet (C L : Nat) (k : Cache) (t B : Nat) (l0 l : List Pair) : Prop where
  nd : (l.map (pk k L)).Nodup
  ok : ∀ q ∈ l, Pr k L q ∧ mc q = t
  row : ∀ q ∈ l, q.1.length + 1 ≤ B + C
  base : ∀ p ∈ l0, ∃ q ∈ l, pk k L q = pk k L p
  cl : ∀ p ∈ l, ∀ q, Fu k L p q → mc q = t → ∃ q' ∈ l, pk k L q' = pk k L q
theorem smet_of {t B : Nat} {l0 l : List Pair} (W : SWork C L k t B l0 l l.length) : SMet C L k t B l0 l where
  nd := W.nd
  ok := W.ok
  row := W.toSOk2.row
  base := fun p hp => List.mem_map.mp (W.base p hp)
  cl := fun p hp q hq hm => by
    obtain ⟨i, hi⟩ := List.getElem?_of_mem hp
    exact List.mem_map.mp (W.done i p (List.getElem?_eq_some_iff.mp hi).1 hi q hq hm)
theorem swork0 (o : Ok C L k) {t B : Nat} {l0 l : List Pair} (U : UAll k L l0 l) (h : ∀ p ∈ l0, (Pr k L p ∧ mc p = t) ∧ p.1.length ≤ B) : SWork C L k t B l0 l 0 := by
  refine ⟨⟨U.nd, fun q hq => (h q (U.sub q hq)).1, U.all, fun q hq => ⟨[(pk k L q).1], by simp, by have := (h q (U.sub q hq)).2; simp only [List.length_singleton]; omega, fun c hc => ?_⟩⟩, fun i p hi => absurd hi (Nat.not_lt_zero _), Nat.zero_le _⟩
  rw [List.mem_singleton.mp hc]
  exact ⟨(run_at o q.1).lt, List.mem_map.mpr ⟨q, hq, rfl⟩⟩
/-- a row is no longer than this in the layer t -/
def rowB (C t : Nat) : Nat := 33 + C * t
end
end K48M
/-! unlike_stays, further_stays. -/
namespace K48
open PySem L2 Evl K48M
section
variable {P : Program} {w : World} {K : PySem.W.Frag} {σ : S} {H H' : Hp} {ta tb tc te tk tv tl td ty : TE} {d e : PyData} {ds es : List PyData} {D : Ends} {g : TG} {a : Addr} {kvs : Tbl} {k : NestedKey}
theorem d_nset (hd : Ev td σ H (.ref a)) (x : Dd P w H a kvs) (he : EvD ty σ H e) (ik : IsK e k) (hv : EvD tv σ H d) (hz : kvs.length < 900000)
    (h1 : (valV kvs k).isSome = true → ∀ H1, Ex H H1 → D.nx σ H1) (h2 : valV kvs k = none → ∀ v H1 H2, Ex H H1 → Rp H1 v d → Dd P w H2 a (putK kvs k v) → But [a] H1 H2 → D.nx σ H2) : tDrop (tNSet P w td ty tv) D σ H := hd H (Ex.refl _) _ fun H1 e1 => by
  refine ⟨a, kvs, rfl, x.up e1, he H1 e1 _ fun y H2 e2 r2 => hv H2 (e1.trans e2) _ fun v H3 e3 r3 => ?_⟩
  obtain ⟨b, rfl, kb⟩ := ik.at r2
  refine ⟨b, k, kvs, rfl, x.up ((e1.trans e2).trans e3), kb.tk (Tk.ex e3), hz, fun u hu => h1 (by rw [hu]; rfl) H3 ((e1.trans e2).trans e3), fun hn H4 d4 b4 => h2 hn v H3 H4 ((e1.trans e2).trans e3) r3 d4 b4⟩
theorem valsO_not {p q a : Addr} {xs : List V} : ¬ valsO p a = HO.lst xs := fun h => by cases h
theorem evn_vals (hd : Ev td σ H (.ref a)) (x : Dd P w H a kvs) (r : Rps H (kvs.map (·.2)) ds) : EvN (tCB (rListVals P w) (tCons (tNVals P w td) tNil)) σ H ds := fun H1 a1 Q q => hd H1 a1 _ fun H2 e2 => by
  have x2 := x.up (a1.trans e2)
  refine ⟨a, kvs, rfl, x2, fun p hp => ?_⟩
  have e3 : Ex H2 (upd H2 p (valsO p a)) := Ex.new hp
  refine ⟨p, a, kvs, rfl, upd_same, x2.up e3, fun l hl => ?_⟩
  have e4 : Ex (upd H2 p (valsO p a)) (upd (upd H2 p (valsO p a)) l (.lst (kvs.map (·.2)))) := Ex.new hl
  exact q l _ _ (fresh_back e2 (fresh_back e3 hl)) ((e2.trans e3).trans e4) upd_same (((r.up (a1.trans e2)).up e3).up e4)
end
/-- a table's keys, in order, told by a list -/
theorem valV_keys {α : Type} {κ : α → NestedKey} : ∀ {kvs : Tbl} {l : List α} {x : NestedKey}, kvs.map (·.1) = l.map κ → ((valV kvs x).isSome = true ↔ x ∈ l.map κ) := by
  intro kvs l x h
  rw [← h]
  induction kvs generalizing l with
  | nil => simp [valV_nil]
  | cons p kvs ih =>
    rw [List.map_cons, List.mem_cons]
    by_cases e : p.1 = x
    · rw [valV_pos e]
      simp [e]
    · rw [valV_neg e]
      cases l with
      | nil => cases h
      | cons y l =>
        rw [List.map_cons, List.map_cons] at h
        rw [ih (List.cons.inj h).2]
        constructor
        · exact .inr
        · rintro (z | z)
          · exact absurd z.symm e
          · exact z
theorem pk_keys {k : Cache} {L : Nat} {l : List Pair} {p : Pair} : kSK (pk k L p) ∈ l.map (fun q => kSK (pk k L q)) ↔ pk k L p ∈ l.map (pk k L) := by
  rw [List.mem_map, List.mem_map]
  constructor
  · rintro ⟨q, hq, e⟩
    exact ⟨q, hq, kSK_inj e⟩
  · rintro ⟨q, hq, e⟩
    exact ⟨q, hq, congrArg kSK e⟩
section
variable {P : Program} {w : World} {K : PySem.W.Frag} {mg : Str → Option Value} {base : Heap}
/-! ### unlike_stays -/
/-- pairs that the defs may take -/
def PsOk (k : Cache) (L : Nat) (l : List Pair) : Prop := ∀ p ∈ l, some p.2 ∈ (atR k L p.1).2 ∧ p.1.length ≤ 3900
def Runl (C L : Nat) (ds : List PyData) (es : List PyData) : Prop := ∃ k l, ds = [.list (l.map (dPair k L))] ∧ Ok C L k ∧ L ≤ 3 ∧ PsOk k L l ∧ l.length ≤ 100000 ∧ es = (addBs (pk k L) [] l).map (dPair k L)
theorem ok_unlike_stays {C L : Nat} {f : Addr} {fd : FuncData} (F : Fun K "unlike_stays" "unlike_stays" s_unlike_stays f fd) (T : Mg mg) (c2 : Cal P w K mg base CX0 2 "staying_key" ["walk", "name"] (spD (Rkey C L))) : FnOk P w K mg base CX0 3 f fd ["pairs"] (spN (Runl C L)) := by
  refine F.ok sc_unlike_stays (fun vs H Q E h => spN_len h fun ds d ⟨k, l, e, _⟩ => by rw [e]; rfl) (fun cdv A outer sh H vs Q E hr h => ?_)
  obtain ⟨ds, es, r, ⟨k, l0, rfl, o, hL, hps, hz, rfl⟩, q⟩ := h
  cases r with
  | cons r1 r =>
  cases r
  refine ⟨_, pss_cons (ps_set (i := 1) sc_unlike_stays.nd rfl (.inl rfl) pe_nnew)
    (pss_cons (ps_for PassesOwn.never rfl (pi_list (pv 0)) (pg_tup rfl (pgs_cons (pg_name (i := 2) sc_unlike_stays.nd rfl (.inl rfl)) (pgs_cons (pg_name (i := 3) sc_unlike_stays.nd rfl (.inl rfl)) pgs_nil)))
      (pss_one (ps_expr (pe_nset (u64 hr) (pv 1) (pe_cal c2 hr (by decide) (by rfl) (pa_cons (pv 2) (pa_cons (pv 3) pa_nil))) (pe_tupP (pa_cons (pv 2) (pa_cons (pv 3) pa_nil))) ⟨rfl, rfl, rfl, rfl⟩))))
    (pss_one (ps_ret (pe_callTy (cr_listVals rfl) (by rfl) T.list (by decide +kernel) (pa_cons (pe_nvals (pv 1)) pa_nil))))), ?_⟩
  obtain ⟨pl, xs, rfl, hx, rs⟩ := r1.lst_inv
  refine d_seq (d_new fun dk H1 nd e1 d1 => ?_)
  have hx1 := e1 _ _ hx
  have dl : dk ≠ pl := d1.ne_lst hx1
  have rs1 := rs.up e1
  refine d_seq (d_forL (ev_slot rfl) hx1 (fun i σ' H' => ∃ a2 a3 kvs, σ' = [some (.ref pl), some (.ref dk), a2, a3] ∧ But [dk] H1 H' ∧ Dd P w H' dk kvs ∧ kvs.map (·.1) = (addBs (pk k L) [] (l0.take i)).map (fun p => kSK (pk k L p)) ∧ Rps H' (kvs.map (·.2)) ((addBs (pk k L) [] (l0.take i)).map (dPair k L)))
    (fun H2 e2 => ⟨none, none, [], rfl, But.ex e2, d1.up e2, by rw [List.take_zero]; rfl, by rw [List.take_zero]; exact .nil⟩) (fun i σ' H' ⟨_, _, _, _, b, _⟩ => b.go (fun z => dl (List.mem_singleton.mp z).symm) hx1) (fun i v σ' H2 hi ⟨a2, a3, kvs, es, b, dd, hk, rk⟩ => ?_) (fun σ' H2 ⟨a2, a3, kvs, es, b, dd, hk, rk⟩ => ?_))
  · subst es
    obtain ⟨d, hd, rd⟩ := rs1.getV hi
    rw [List.getElem?_map] at hd
    obtain ⟨p, hp, rfl⟩ := Option.map_eq_some_iff.mp hd
    have tk := b.tk d1.noT
    have rp : Rp H2 v (dPair k L p) := Rp.tk tk _ (tupD_Pair k L p) rd
    obtain ⟨hp1, hp2⟩ := hps p (List.mem_of_getElem? hp)
    refine g_two rp fun v2 v3 h2 h3 => ?_
    have hlk : kvs.length ≤ 100000 := by
      have h1 := congrArg List.length hk
      rw [List.length_map, List.length_map] at h1
      have h2 := addBs_len (κ := pk k L) (ns := l0.take i) (l := [])
      rw [List.length_take, List.length_nil] at h2
      omega
    have etk : addBs (pk k L) [] (l0.take (i + 1)) = addB (pk k L) (addBs (pk k L) [] (l0.take i)) p := by rw [take_snoc hp, addBs_snoc]
    refine d_nset (ev_slot rfl) dd (evd_call (evds_cons (evd_var rfl h2) (evds_cons (evd_var rfl h3) evds_nil)) (spD_d ⟨k, p, rfl, o, hL, hp1, by omega, rfl⟩)) (isk_SK _) (d := dPair k L p) (evd_tup (evds_cons (evd_var rfl h2) (evds_cons (evd_var rfl h3) evds_nil))) (by omega) (fun hs H3 e3 => ?_) (fun hn v' H3 H4 e3 rv d4 b4 => ?_)
    · have hin : pk k L p ∈ (addBs (pk k L) [] (l0.take i)).map (pk k L) := pk_keys.mp ((valV_keys hk).mp hs)
      refine ⟨_, _, kvs, rfl, b.trans (But.ex e3), dd.up e3, ?_, ?_⟩
      · rw [etk, addB, if_pos hin]
        exact hk
      · rw [etk, addB, if_pos hin]
        exact rk.up e3
    · have hin : pk k L p ∉ (addBs (pk k L) [] (l0.take i)).map (pk k L) := fun z => by
        have := (valV_keys hk).mpr (pk_keys.mpr z)
        rw [hn] at this
        cases this
      have dd3 := dd.up e3
      have tk4 := b4.tk dd3.noT
      rw [putK_new _ hn] at d4
      refine ⟨_, _, _, rfl, (b.trans (But.ex e3)).trans b4, d4, ?_, ?_⟩
      · rw [etk, addB, if_neg hin, List.map_append, List.map_append, hk]
        rfl
      · rw [etk, addB, if_neg hin, List.map_append, List.map_append]
        exact Rps.append (Rps.tk tk4 _ (tupDs_map (tupD_Pair k L) _) (rk.up e3)) (.cons (Rp.tk tk4 _ (tupD_Pair k L p) rv) .nil)
  · subst es
    have hxl : xs.length = l0.length := by rw [rs.len, List.length_map]
    rw [hxl, List.take_length] at rk
    exact d_retN (evn_vals (ev_slot rfl) dd rk) fun p2 ys H3 n3 e3 h3 r3 => q p2 ys H3 (fresh_back (e1.trans_but b nd) n3) ((e1.trans_but b nd).trans e3) h3 r3
/-! ### further_stays -/
def Rfur (C L : Nat) (ds : List PyData) (Post : List PyData → Prop) : Prop := ∃ k l, ds = [dCache k, .list (l.map (dPair k L))] ∧ Ok C L k ∧ L ≤ 3 ∧ PsOk k L l ∧ l.length ≤ 10000 ∧ Post = fun es => ∃ m : List Pair, es = m.map (dPair k L) ∧ m.length ≤ 4 * l.length ∧ ∀ q, q ∈ m ↔ ∃ p ∈ l, Fu k L p q
theorem ok_further_stays {C L : Nat} {f : Addr} {fd : FuncData} (F : Fun K "further_stays" "further_stays" s_further_stays f fd) (T : Mg mg) (c2 : Cal P w K mg base CX0 2 "next_lines" ["cache", "walk"] (spM (Rnext C L))) : FnOk P w K mg base CX0 3 f fd ["cache", "layer"] (spM (Rfur C L)) := by
  refine F.ok sc_further_stays (fun vs H Q E h => spM_len h fun ds d ⟨k, l, e, _⟩ => by rw [e]; rfl) (fun cdv A outer sh H vs Q E hr h => ?_)
  obtain ⟨ds, Post, r, ⟨k, l0, rfl, o, hL, hps, hz, rfl⟩, q⟩ := h
  cases r with
  | cons r1 r => cases r with
  | cons r2 r =>
  cases r
  refine ⟨_, pss_cons (ps_set (i := 2) sc_further_stays.nd rfl (.inl rfl) (pe_lst pa_nil))
    (pss_cons (ps_for PassesOwn.never rfl (pi_list (pv 1)) (pg_tup rfl (pgs_cons (pg_name (i := 3) sc_further_stays.nd rfl (.inl rfl)) (pgs_cons (pg_name (i := 4) sc_further_stays.nd rfl (.inl rfl)) pgs_nil)))
      (pss_one (ps_for PassesOwn.never rfl (pi_list (pe_cal c2 hr (by decide) (by rfl) (pa_cons (pv 0) (pa_cons (pv 3) pa_nil)))) (pg_name (i := 5) sc_further_stays.nd rfl (.inl rfl))
        (pss_one (ps_if (pw_and (pt_cmpR op_ne (pe_ix ix_tup (pe_ix ix_tup (pv 5) pe_int (fun _ _ => rfl)) (pe_un un_neg pe_int) (fun _ _ => rfl)) (pv 4) (nomark _)) (pw_and1 (pt_cmpR op_in_seq (pv 4) (pe_ix ix_tup (pv 5) pe_int (fun _ _ => rfl)) (by rfl)))).pt
          (pss_one (ps_expr (pe_bm PySem.F.plainAttrs_list PySem.F.slot_list_append PySem.F.type_list_append mt_append (pv 2) (pa_cons (pe_tupP (pa_cons (pv 5) (pa_cons (pv 4) pa_nil))) pa_nil)))) pss_nil)))))
    (pss_one (ps_ret (pv 2)))), ?_⟩
  obtain ⟨pl, xs, rfl, hx, rs⟩ := r2.lst_inv
  refine d_seq (d_asgN (evn_lst evds_nil) fun l ys H1 nl e1 hl rl => ?_)
  cases rl
  have hx1 := e1 _ _ hx
  have rs1 := rs.up e1
  have pll : pl ≠ l := fun z => by
    rw [z, nl] at hx
    cases hx
  refine d_seq (d_forL (ev_slot rfl) hx1 (fun i σ' H' => ∃ a3 a4 a5 acc m, σ' = [some _, some (.ref pl), some (.ref l), a3, a4, a5] ∧ But [l] H1 H' ∧ H' l = some (.lst acc) ∧ Rps H' acc (m.map (dPair k L)) ∧ m.length ≤ 4 * i ∧ ∀ q, q ∈ m ↔ ∃ p ∈ l0.take i, Fu k L p q)
    (fun H2 e2 => ⟨none, none, none, [], [], rfl, But.ex e2, e2 _ _ hl, .nil, Nat.zero_le _, fun q => ⟨fun h => (List.not_mem_nil h).elim, fun ⟨p, hp, _⟩ => by rw [List.take_zero] at hp; cases hp⟩⟩) (fun i σ' H' ⟨_, _, _, _, _, _, b, _⟩ => b.go (fun z => pll (List.mem_singleton.mp z)) hx1) (fun i v σ' H2 hi ⟨a3, a4, a5, acc, m, es, b, hl2, ra, hm, hmem⟩ => ?_) (fun σ' H2 ⟨a3, a4, a5, acc, m, es, b, hl2, ra, hm, hmem⟩ => ?_))
  · subst es
    obtain ⟨d, hd, rd⟩ := rs1.getV hi
    rw [List.getElem?_map] at hd
    obtain ⟨p, hp, rfl⟩ := Option.map_eq_some_iff.mp hd
    have il : i < l0.length := (List.getElem?_eq_some_iff.mp hp).1
    have tk := b.tk (noT_one hl)
    have rp : Rp H2 v (dPair k L p) := Rp.tk tk _ (tupD_Pair k L p) rd
    have rc : Rp H2 _ (dCache k) := Rp.tk tk _ (tupD_Cache k) (r1.up e1)
    obtain ⟨hp1, hp2⟩ := hps p (List.mem_of_getElem? hp)
    refine g_two rp fun v3 v4 h3 h4 => ?_
    refine d_forM (evm_call (evds_cons (evd_var rfl rc) (evds_cons (evd_var rfl h3) evds_nil)) ⟨k, p.1, rfl, o, hL, by omega, rfl⟩) fun p6 xs6 es6 H3 n3 e3 hx3 rx3 ⟨ns, ens, nsl, hns⟩ => ?_
    subst ens
    have hl3 := e3 _ _ hl2
    have p6l : p6 ≠ l := fun z => by
      rw [z, hl2] at n3
      cases n3
    refine ⟨fun j σ' H' => ∃ a5 acc m', σ' = [some _, some (.ref pl), some (.ref l), some v3, some v4, a5] ∧ But [l] H3 H' ∧ H' l = some (.lst acc) ∧ Rps H' acc (m'.map (dPair k L)) ∧ m'.length ≤ 4 * i + j ∧ ∀ q, q ∈ m' ↔ q ∈ m ∨ ∃ r' ∈ ns.take j, ∃ y, r' = p.1 ++ [y] ∧ y ≠ p.2 ∧ some p.2 ∈ (atR k L r').2 ∧ q = (r', p.2),
      ⟨a5, acc, m, rfl, But.refl, hl3, ra.up e3, by omega, fun q => ⟨.inl, fun h => by
        rcases h with h | ⟨r', hr', _⟩
        · exact h
        · rw [List.take_zero] at hr'
          cases hr'⟩⟩, fun j σ' H' ⟨_, _, _, _, b7, _⟩ => b7.go (fun z => p6l (List.mem_singleton.mp z)) hx3, fun j v5 σ' H4 hj ⟨a5', acc', m', es, b7, hl4, ra4, hm4, hmem4⟩ => ?_, fun σ' H4 ⟨a5', acc', m', es, b7, hl4, ra4, hm4, hmem4⟩ => ?_⟩
    · subst es
      obtain ⟨d5, hd5, rd5⟩ := rx3.getV hj
      rw [List.getElem?_map] at hd5
      obtain ⟨r', hr', rfl⟩ := Option.map_eq_some_iff.mp hd5
      obtain ⟨y, hy, er⟩ := (hns r').mp (List.mem_of_getElem? hr')
      have tk7 := b7.tk (noT_one hl3)
      have k5 : Rp H4 v5 (enc k L r') := Rp.tk tk7 _ (tupD_enc k L r') rd5
      have k4 : Rp H4 v4 (dI p.2) := Rp.tk tk7 _ (tupD_I _) (h4.up e3)
      have e5 : ∀ {σ : S}, σ[5]? = some (some v5) → EvD (tVar 5) σ H4 (enc k L r') := fun h => evd_var h k5
      have hjn : j < ns.length := (List.getElem?_eq_some_iff.mp hr').1
      have hacc : acc'.length ≤ 4 * i + j := by
        rw [ra4.len, List.length_map]
        exact hm4
      have hstep : ∀ q, (∃ r2 ∈ ns.take (j + 1), ∃ y, r2 = p.1 ++ [y] ∧ y ≠ p.2 ∧ some p.2 ∈ (atR k L r2).2 ∧ q = (r2, p.2)) ↔ (∃ r2 ∈ ns.take j, ∃ y, r2 = p.1 ++ [y] ∧ y ≠ p.2 ∧ some p.2 ∈ (atR k L r2).2 ∧ q = (r2, p.2)) ∨ (y ≠ p.2 ∧ some p.2 ∈ (atR k L r').2 ∧ q = (r', p.2)) := fun q => by
        rw [take_snoc hr']
        constructor
        · rintro ⟨r2, h, y2, a1, a2, a3, a4⟩
          rcases List.mem_append.mp h with h | h
          · exact .inl ⟨r2, h, y2, a1, a2, a3, a4⟩
          · have := List.mem_singleton.mp h
            subst this
            have : y2 = y := by
              rw [er] at a1
              have := List.append_cancel_left a1
              simpa using this.symm
            subst this
            exact .inr ⟨a2, a3, a4⟩
        · rintro (⟨r2, h, y2, a1, a2, a3, a4⟩ | ⟨a2, a3, a4⟩)
          · exact ⟨r2, List.mem_append_left _ h, y2, a1, a2, a3, a4⟩
          · exact ⟨r', List.mem_append_right _ (List.mem_singleton.mpr rfl), y, er, a2, a3, a4⟩
      refine d_when (b := decide (y ≠ p.2) && decide (some p.2 ∈ (atR k L r').2)) (et_and (evt_test ((evd_neI (i := (y : Int)) (j := (p.2 : Int)) (evd_ixT (ds := r'.map dI) (evd_ixT (e5 rfl) evd_int rfl) (evd_neg evd_int) ?g1) (evd_var rfl k4)).is ?g2)) fun _ => evt_test ((evd_inT (neg := false) (evd_var rfl k4) (evd_ixT (e5 rfl) evd_int rfl) (flat_I _) (flat_Os _)).is (by rw [← any_O]; rfl))) (fun hb H5 e5' => ?_) (fun hb H5 e5' => ?_)
      case g1 =>
        rw [er, List.map_append]
        exact atI_last _ _
      case g2 =>
        congr 1
        by_cases z : y = p.2
        · simp [z]
        · have : ¬ (y : Int) = (p.2 : Int) := by omega
          simp [z, this]
      · rw [Bool.and_eq_true, decide_eq_true_eq, decide_eq_true_eq] at hb
        have hl5 := e5' _ _ hl4
        refine d_app hl5 (ev_slot rfl) (d := dPair k L (r', p.2)) (evd_tup (evds_cons (evd_var rfl (k5.up e5')) (evds_cons (evd_var rfl (k4.up e5')) evds_nil))) (by omega) fun v9 H9 e9 r9 => ?_
        have hl9 := e9 _ _ hl5
        have tk9 := Tk.upd (o := .lst (acc' ++ [v9])) hl9
        refine ⟨_, _, m' ++ [(r', p.2)], rfl, (b7.trans (But.ex (e5'.trans e9))).trans (But.upd (List.mem_singleton.mpr rfl)), upd_same, ?_, by rw [List.length_append, List.length_singleton]; omega, fun q => ?_⟩
        · rw [List.map_append]
          exact Rps.append (Rps.tk tk9 _ (tupDs_map (tupD_Pair k L) _) ((ra4.up e5').up e9)) (.cons (Rp.tk tk9 _ (tupD_Pair k L _) r9) .nil)
        · rw [List.mem_append, List.mem_singleton, hmem4 q, hstep q]
          constructor
          · rintro ((h | h) | h)
            · exact .inl h
            · exact .inr (.inl h)
            · exact .inr (.inr ⟨hb.1, hb.2, h⟩)
          · rintro (h | h | h)
            · exact .inl (.inl h)
            · exact .inl (.inr h)
            · exact .inr h.2.2
      · have hb' : ¬ (y ≠ p.2 ∧ some p.2 ∈ (atR k L r').2) := fun z => by
          rw [decide_eq_true z.1, decide_eq_true z.2] at hb
          cases hb
        refine ⟨_, _, m', rfl, b7.trans (But.ex e5'), e5' _ _ hl4, ra4.up e5', by omega, fun q => ?_⟩
        rw [hmem4 q, hstep q]
        constructor
        · rintro (h | h)
          · exact .inl h
          · exact .inr (.inl h)
        · rintro (h | h | h)
          · exact .inl h
          · exact .inr h
          · exact absurd ⟨h.1, h.2.1⟩ hb'
    · subst es
      have hxl : xs6.length = ns.length := by rw [rx3.len, List.length_map]
      rw [hxl] at hm4 hmem4
      rw [List.take_length] at hmem4
      refine ⟨_, _, _, acc', m', rfl, (b.trans (But.ex e3)).trans b7, hl4, ra4, by omega, fun q => ?_⟩
      rw [hmem4 q, hmem q, take_snoc hp]
      constructor
      · rintro (⟨p', hp', h⟩ | ⟨r', hr', y, a1, a2, a3, a4⟩)
        · exact ⟨p', List.mem_append_left _ hp', h⟩
        · refine ⟨p, List.mem_append_right _ (List.mem_singleton.mpr rfl), y, ?_, a2, by rw [← a1]; exact a3, by rw [← a1]; exact a4⟩
          obtain ⟨y2, hy2, e⟩ := (hns r').mp hr'
          have : y2 = y := by
            rw [e] at a1
            have := List.append_cancel_left a1
            simpa using this
          rw [← this]
          exact hy2
      · rintro ⟨p', hp', y, a1, a2, a3, a4⟩
        rcases List.mem_append.mp hp' with h | h
        · exact .inl ⟨p', h, y, a1, a2, a3, a4⟩
        · have := List.mem_singleton.mp h
          subst this
          exact .inr ⟨p'.1 ++ [y], (hns _).mpr ⟨y, a1, rfl⟩, y, rfl, a2, a3, a4⟩
  · subst es
    have hxl : xs.length = l0.length := by rw [rs.len, List.length_map]
    rw [hxl] at hm hmem
    rw [List.take_length] at hmem
    exact ⟨.ref l, rfl, q l acc _ H2 nl (e1.trans_but b nl) hl2 ra ⟨m, rfl, hm, hmem⟩⟩
end
end K48
/-! same_met. -/
namespace K48
open PySem L2 Evl K48M
theorem pk_ok {C L : Nat} {k : Cache} (o : Ok C L k) {p : Pair} (h : Pr k L p) : SOk C L (pk k L p) := by
  have R := run_at o p.1
  have hj := List.idxOf_lt_length_iff.mpr h.held
  rw [R.len] at hj
  refine ⟨R.lt, ?_, hj, ?_⟩
  · show (fl (atR k L p.1).2).length = L
    unfold fl
    rw [List.length_map]
    exact R.len
  · show (mf (met p.1 p.2) (atR k L p.1).2).length = L
    unfold mf
    rw [List.length_map]
    exact R.len
theorem _root_.K48M.SOk2.bound {C L : Nat} {k : Cache} {t B : Nat} {l0 l : List Pair} (S : SOk2 C L k t B l0 l) (o : Ok C L k) : l.length ≤ (uStay C L).length := by
  have := nodup_len_le S.nd fun s hs => by
    obtain ⟨p, hp, rfl⟩ := List.mem_map.mp hs
    exact mem_uStay (pk_ok o (S.ok p hp).1)
  rwa [List.length_map] at this
def tabP (k : Cache) (L : Nat) (l : List Pair) : Tbl := l.map fun p => (kSK (pk k L p), V.bl true)
theorem tabP_keys (k : Cache) (L : Nat) (l : List Pair) : (tabP k L l).map (·.1) = l.map (fun p => kSK (pk k L p)) := by
  unfold tabP
  rw [List.map_map]
  rfl
theorem tabP_some {k : Cache} {L : Nat} {l : List Pair} {p : Pair} : (valV (tabP k L l) (kSK (pk k L p))).isSome = decide (pk k L p ∈ l.map (pk k L)) := by
  by_cases h : pk k L p ∈ l.map (pk k L)
  · rw [decide_eq_true h]
    exact (valV_keys (tabP_keys k L l)).mpr (pk_keys.mpr h)
  · rw [decide_eq_false h]
    cases q : (valV (tabP k L l) (kSK (pk k L p))).isSome with
    | true => exact absurd (pk_keys.mp ((valV_keys (tabP_keys k L l)).mp q)) h
    | false => rfl
section
variable {P : Program} {w : World} {K : PySem.W.Frag} {mg : Str → Option Value} {base : Heap}
def Rsame (C L : Nat) (ds : List PyData) (Post : List PyData → Prop) : Prop := ∃ k l0 t B, ds = [dCache k, .list (l0.map (dPair k L))] ∧ Ok C L k ∧ C ≤ 4 ∧ L ≤ 3 ∧ (∀ p ∈ l0, (Pr k L p ∧ mc p = t) ∧ p.1.length ≤ B) ∧ B + C ≤ 3800 ∧ l0.length ≤ 10000 ∧
  Post = fun es => ∃ m : List Pair, es = m.map (dPair k L) ∧ SMet C L k t B l0 m
theorem held_mem {C L : Nat} {k : Cache} (o : Ok C L k) {p : Pair} (h : Pr k L p) : p.2 ∈ p.1 := by
  obtain ⟨j, hj⟩ := List.getElem?_of_mem h.held
  exact (run_at o p.1).held j p.2 hj
theorem ok_same_met {C L : Nat} {f : Addr} {fd : FuncData} (F : Fun K "same_met" "same_met" s_same_met f fd) (T : Mg mg) (cu : Cal P w K mg base CX0 3 "unlike_stays" ["pairs"] (spN (Runl C L))) (cf : Cal P w K mg base CX0 3 "further_stays" ["cache", "layer"] (spM (Rfur C L))) (ck : Cal P w K mg base CX0 2 "staying_key" ["walk", "name"] (spD (Rkey C L))) (cm : Cal P w K mg base CX0 1 "met_names" ["row", "name"] (spN Rmet)) : FnOk P w K mg base CX0 4 f fd ["cache", "layer"] (spM (Rsame C L)) := by
  refine F.ok sc_same_met (fun vs H Q E h => spM_len h fun ds d ⟨k, l, t, B, e, _⟩ => by rw [e]; rfl) (fun cdv A outer sh H vs Q E hr h => ?_)
  obtain ⟨ds, Post, r, ⟨k, l0, t, B, rfl, o, hC, hL, hps, hB, hz, rfl⟩, q⟩ := h
  cases r with
  | cons r1 r => cases r with
  | cons r2 r =>
  cases r
  refine ⟨_, pss_cons (ps_par (by rfl) sc_same_met.nd (i := 2) (j := 3) rfl rfl (by decide) rfl rfl (pa_cons (pe_cal cu hr (by decide) (by rfl) (pa_cons (pv 1) pa_nil)) (pa_cons pe_int pa_nil)) (by rfl))
    (pss_cons (ps_setNdc (i := 6) (own := [("walk", 4), ("name", 5)]) (g := gTup K 2 (gCons (gName 4) (gCons (gName 5) gNil))) (tt := tYes) (u64 hr) rfl sc_same_met.nd rfl rfl (sw_trueD rfl rfl rfl rfl) (pi_list (pv 2)) (blkOk_by (N := N_same_met) (sc := defScope s_same_met) (by decide +kernel))
      (fun _ _ _ _ _ => pg_tup rfl (pgs_cons (pg_name (i := 4) sc_same_met.nd rfl (Or.inl rfl)) (pgs_cons (pg_name (i := 5) sc_same_met.nd rfl (Or.inl rfl)) pgs_nil))) (fun _ _ _ _ _ => pts_nil) (fun _ _ _ _ _ => pe_cal ck hr (by decide) (by rfl) (pa_cons (pv 4) (pa_cons (pv 5) pa_nil))) (fun _ _ _ _ _ => pe_bl))
    (pss_cons (ps_while PassesOwn.never (pt_cmpR op_lt (pv 3) (pe_callB call_len_seq (by rfl) T.len (by decide +kernel) (pa_cons (pv 2) pa_nil)) (nomark _))
      (pss_cons (ps_asg (pe_ix ix_list (pv 2) (pv 3) (fun _ _ => rfl)) (pg_tup rfl (pgs_cons (pg_name (i := 4) sc_same_met.nd rfl (.inl rfl)) (pgs_cons (pg_name (i := 5) sc_same_met.nd rfl (.inl rfl)) pgs_nil))))
      (pss_cons (ps_for PassesOwn.never rfl (pi_list (pe_cal cf hr (by decide) (by rfl) (pa_cons (pv 0) (pa_cons (pe_lst (pa_cons (pe_ix ix_list (pv 2) (pv 3) (fun _ _ => rfl)) pa_nil)) pa_nil)))) (pg_tup rfl (pgs_cons (pg_name (i := 7) sc_same_met.nd rfl (.inl rfl)) (pgs_cons (pg_name (i := 8) sc_same_met.nd rfl (.inl rfl)) pgs_nil)))
        (pss_cons (ps_set (i := 9) sc_same_met.nd rfl (.inl rfl) (pe_cal ck hr (by decide) (by rfl) (pa_cons (pv 7) (pa_cons (pv 8) pa_nil))))
        (pss_one (ps_if (pw_and (pt_cmpR op_eq (pe_callB call_len_seq (by rfl) T.len (by decide +kernel) (pa_cons (pe_cal cm hr (by decide) (by rfl) (pa_cons (pe_ix ix_tup (pv 7) pe_int (fun _ _ => rfl)) (pa_cons (pv 8) pa_nil))) pa_nil))
              (pe_callB call_len_seq (by rfl) T.len (by decide +kernel) (pa_cons (pe_cal cm hr (by decide) (by rfl) (pa_cons (pe_ix ix_tup (pv 4) pe_int (fun _ _ => rfl)) (pa_cons (pv 8) pa_nil))) pa_nil)) (nomark _)) (pw_and1 (pt_cmpR (op_niN (u64 hr)) (pv 9) (pv 6) (by rfl)))).pt
          (pss_cons (ps_nput (u64 hr) (pv 6) (pv 9) pe_bl (by rfl))
          (pss_one (ps_expr (pe_bm PySem.F.plainAttrs_list PySem.F.slot_list_append PySem.F.type_list_append mt_append (pv 2) (pa_cons (pe_tupP (pa_cons (pv 7) (pa_cons (pv 8) pa_nil))) pa_nil))))) pss_nil))))
      (pss_one (ps_aug (i := 3) sc_same_met.nd rfl (.inl rfl) pe_int ip_add)))))
    (pss_one (ps_ret (pv 2))))), ?_⟩
  have hps' : PsOk k L l0 := fun p hp => ⟨(hps p hp).1.1.held, by have := (hps p hp).2; omega⟩
  have U := uall_of k L l0
  generalize hb0 : addBs (pk k L) [] l0 = b0 at U
  have W0 := swork0 (B := B) o U hps
  have N4 := len_uStay_le hC hL
  have b0l := W0.toSOk2.bound o
  have rowB : ∀ {M : List Pair} {n : Nat}, SWork C L k t B l0 M n → ∀ q ∈ M, q.1.length ≤ 3800 := fun W q hq => by
    have := W.toSOk2.row q hq
    omega
  refine d_seq (d_parN (ds := b0.map (dPair k L)) (evn_call (evds_cons (evd_var rfl r2) evds_nil) (spN_n ⟨k, l0, rfl, o, hL, hps', by omega, by rw [← hb0]⟩)) evd_int fun l xs0 v3 H2 nl e2 hl rl rv3 => ?_)
  have ev3 := rv3.int_inv
  subst ev3
  refine d_seq (d_ndc (vs := [4, 5]) b0 (dPair k L) (fun p => kSK (pk k L p)) (.bl true) (evd_var rfl (.lst hl rl)) (by omega) ?n0 (fun p v H3 hp e3 r3 Q qq => g_two r3 fun v4 v5 h4 h5 => qq _ rfl ⟨_, evd_call (evds_cons (evd_var rfl h4) (evds_cons (evd_var rfl h5) evds_nil)) (spD_d ⟨k, p, rfl, o, hL, (W0.ok p hp).1.held, by have := rowB W0 p hp; omega, rfl⟩), isk_SK _⟩ ev_c) fun dk H3 nd e3 d3 => ?_)
  case n0 =>
    have : (b0.map fun p => kSK (pk k L p)) = (b0.map (pk k L)).map kSK := by rw [List.map_map]; rfl
    rw [this]
    exact List.Pairwise.map kSK (fun a b hne e => hne (kSK_inj e)) U.nd
  have hl3 := e3 _ _ hl
  have rl3 := rl.up e3
  have dl : dk ≠ l := d3.ne_lst hl3
  have nT3 : NoT [l, dk] H3 := noT_two (noT_one hl3) d3.noT
  refine d_seq (d_while (fun m σ' H' => ∃ M at_ acc a4 a5 a7 a8 a9, σ' = [some _, some _, some (.ref l), some (.int (at_ : Nat)), a4, a5, some (.ref dk), a7, a8, a9] ∧ But [l, dk] H3 H' ∧ H' l = some (.lst acc) ∧ Rps H' acc (M.map (dPair k L)) ∧ Dd P w H' dk (tabP k L M) ∧ SWork C L k t B l0 M at_ ∧ m = (uStay C L).length - at_) _
    ⟨b0, 0, xs0, none, none, none, none, none, rfl, But.refl, hl3, rl3, d3, W0, rfl⟩ fun m σ' H' ⟨M, at_, acc, a4, a5, a7, a8, a9, es, b, hlH, rac, dd, W, hm⟩ => ?_)
  subst es
  have tk := b.tk nT3
  have rc : Rp H' _ (dCache k) := Rp.tk tk _ (tupD_Cache k) ((r1.up e2).up e3)
  have rlist : Rp H' (.ref l) (.list (M.map (dPair k L))) := .lst hlH rac
  have hMl := W.toSOk2.bound o
  refine ⟨decide (at_ < M.length), evt_test ((evd_lt (evd_var rfl (.int _)) (evd_lenL (evd_var rfl rlist))).is ?_), fun hb H4 e4 => ?_, fun hb H4 e4 => ?_⟩
  · rw [List.length_map]
    congr 1
    exact decide_eq_decide.mpr (by omega)
  · have hat : at_ < M.length := of_decide_eq_true hb
    have hs : M[at_]? = some M[at_] := List.getElem?_eq_getElem hat
    generalize M[at_] = p at hs
    have hpM := List.mem_of_getElem? hs
    have okp := W.ok p hpM
    have hp38 := rowB W p hpM
    refine ⟨_, fun _ _ z => z, ?_⟩
    refine d_seq (d_asgG (evd_ixL (d := dPair k L p) (evd_var rfl (rlist.up e4)) (evd_var rfl (.int _)) (atI_map hs)) fun v H5 e5 rv => ?_)
    refine g_two rv fun v4 v5 h4 h5 => ?_
    have hl4 := e5 _ _ (e4 _ _ hlH)
    have hps1 : PsOk k L [p] := fun p' hp' => by
      rw [List.mem_singleton.mp hp']
      exact ⟨okp.1.held, by omega⟩
    refine d_seq (d_forM (evm_call (evds_cons (evd_var rfl ((rc.up e4).up e5)) (evds_cons (d := .list ([p].map (dPair k L))) (EvN.toD (evn_lst (evds_cons (evd_ixL (evd_var rfl ((rlist.up e4).up e5)) (evd_var rfl (.int _)) (atI_map hs)) evds_nil))) evds_nil)) ⟨k, [p], rfl, o, hL, hps1, Nat.le_of_ble_eq_true rfl, rfl⟩) fun pf xs es H6 np e6 hx6 r6 ⟨fs, efs, fsl, hfs⟩ => ?_)
    subst efs
    have hfs' : ∀ q, q ∈ fs ↔ Fu k L p q := fun q => by
      rw [hfs q]
      constructor
      · rintro ⟨p', hp', h⟩
        rw [List.mem_singleton.mp hp'] at h
        exact h
      · intro h
        exact ⟨p, List.mem_singleton.mpr rfl, h⟩
    have W' := W.next o hs hfs'
    have hM2 := W'.toSOk2.bound o
    have hl6 := e6 _ _ hl4
    have dd6 := ((dd.up e4).up e5).up e6
    have pl : pf ≠ l := fun z => by
      rw [z, hl4] at np
      cases np
    have pd : pf ≠ dk := dd6.ne_lst hx6 |>.symm
    have nT6 : NoT [l, dk] H6 := noT_two (noT_one hl6) dd6.noT
    have hpre : ∀ i, addSs k L t M (fs.take i) <+: addSs k L t M fs := fun i => by
      have : addSs k L t M fs = addSs k L t (addSs k L t M (fs.take i)) (fs.drop i) := by
        show fs.foldl _ M = (fs.drop i).foldl _ ((fs.take i).foldl _ M)
        rw [← List.foldl_append, List.take_append_drop]
      rw [this]
      exact addSs_pre
    refine ⟨fun i σ' H' => ∃ a7 a8 a9 acc, σ' = [some _, some _, some (.ref l), some (.int (at_ : Nat)), some v4, some v5, some (.ref dk), a7, a8, a9] ∧ But [l, dk] H6 H' ∧ H' l = some (.lst acc) ∧ Rps H' acc ((addSs k L t M (fs.take i)).map (dPair k L)) ∧ Dd P w H' dk (tabP k L (addSs k L t M (fs.take i))),
      ⟨a7, a8, a9, acc, rfl, But.refl, hl6, by rw [List.take_zero]; exact ((rac.up e4).up e5).up e6, by rw [List.take_zero]; exact dd6⟩, fun i σ' H' ⟨_, _, _, _, _, b7, _⟩ => b7.go (fun z => by
        rcases List.mem_cons.mp z with z | z
        · exact pl z
        · exact pd (List.mem_singleton.mp z)) hx6, fun i y σ' H' hi ⟨a7', a8', a9', acc', es, b7, hl7, r7, d7⟩ => ?_, fun σ' H' ⟨a7', a8', a9', acc', es, b7, hl7, r7, d7⟩ => ?_⟩
    · subst es
      obtain ⟨d, hd, rd⟩ := r6.getV hi
      rw [List.getElem?_map] at hd
      obtain ⟨u, hu, rfl⟩ := Option.map_eq_some_iff.mp hd
      have hfu := (hfs' u).mp (List.mem_of_getElem? hu)
      have hpr := hfu.pr o okp.1
      have hlen := hfu.len
      have tk7 := b7.tk nT6
      have ry : Rp H' y (dPair k L u) := Rp.tk tk7 _ (tupD_Pair k L u) rd
      have k4 : Rp H' v4 (enc k L p.1) := Rp.tk tk7 _ (tupD_enc k L _) (h4.up e6)
      have hMi : (addSs k L t M (fs.take i)).length ≤ 1000 := Nat.le_trans (pre_len (hpre i)) (Nat.le_trans hM2 N4)
      have hacc : acc'.length ≤ 1000 := by
        rw [r7.len, List.length_map]
        exact hMi
      have etk : addSs k L t M (fs.take (i + 1)) = addS k L t (addSs k L t M (fs.take i)) u := by rw [take_snoc hu, addSs_snoc]
      refine g_two ry fun v7 v8 h7 h8 => ?_
      refine d_seq (d_asg (d := dSK (pk k L u)) (evd_call (evds_cons (evd_var rfl h7) (evds_cons (evd_var rfl h8) evds_nil)) (spD_d ⟨k, u, rfl, o, hL, hpr.held, by omega, rfl⟩)) fun v9 H8 e8 r9 => ?_)
      have hl8 := e8 _ _ hl7
      have j7 := h7.up e8
      have j8 := h8.up e8
      have j4 := k4.up e8
      have d8 := d7.up e8
      have hsame : u.2 = p.2 := hfu.same
      have hu2 : u.2 ∈ p.1 := by
        rw [hsame]
        exact held_mem o okp.1
      have lenmc : ∀ (r : List Nat) (x : Nat), ((((ml r x).map dI).length : Nat) : Int) = ((met r x).length : Int) := fun r x => by rw [List.length_map, ml_len]
      refine d_when (b := decide (mc u = t) && decide (pk k L u ∉ (addSs k L t M (fs.take i)).map (pk k L))) (et_and (evt_test ((evd_eqI (evd_lenL (EvN.toD (evn_call (evds_cons (d := dNs u.1) (evd_ixT (evd_var rfl j7) evd_int rfl) (evds_cons (evd_var rfl j8) evds_nil)) (spN_n ⟨u.1, u.2, rfl, held_mem o hpr, by omega, rfl⟩)))) (evd_lenL (EvN.toD (evn_call (evds_cons (d := dNs p.1) (evd_ixT (evd_var rfl j4) evd_int rfl) (evds_cons (evd_var rfl j8) evds_nil)) (spN_n ⟨p.1, u.2, rfl, hu2, by omega, rfl⟩))))).is ?g1))
        (fun _ => evt_test ((evd_niN (ev_slot rfl) d8 (evd_var rfl r9) (isk_SK _)).is ?g2))) (fun hb H9 e9 => ?_) (fun hb H9 e9 => ?_)
      case g1 =>
        rw [lenmc, lenmc, hsame]
        have h1 : (met p.1 p.2).length = t := okp.2
        have h2 : mc u = (met u.1 p.2).length := by
          unfold mc
          rw [hsame]
        rw [h1, h2]
        exact congrArg PyData.bool (decide_eq_decide.mpr (by omega))
      case g2 =>
        rw [tabP_some, decide_not]
      · rw [Bool.and_eq_true, decide_eq_true_eq, decide_eq_true_eq] at hb
        obtain ⟨hb1, hb2⟩ := hb
        have hl9 := e9 _ _ hl8
        refine d_seq (d_nput evd_bl (ev_slot rfl) (d8.up e9) (evd_var rfl (r9.up e9)) (isk_SK _) (by
          unfold tabP
          rw [List.length_map]
          omega) fun vt H10 H11 e10 rvt d11 b11 => ?_)
        have evt := rvt.bool_inv
        subst evt
        have d10 := (d8.up e9).up e10
        have hl10 := e10 _ _ hl9
        have hl11 : H11 l = some (.lst acc') := b11.go (fun z => dl (List.mem_singleton.mp z).symm) hl10
        have tk11 := b11.tk d10.noT
        refine d_app hl11 (ev_slot rfl) (d := dPair k L u) (evd_tup (evds_cons (evd_var rfl (Rp.tk tk11 _ (tupD_enc k L _) ((j7.up e9).up e10))) (evds_cons (evd_var rfl (Rp.tk tk11 _ (tupD_I _) ((j8.up e9).up e10))) evds_nil))) (by omega) fun v' H12 e12 r12 => ?_
        have hl12 := e12 _ _ hl11
        have h12l : ¬ dk ∈ [l] := fun z => dl (List.mem_singleton.mp z)
        have hadd : addSs k L t M (fs.take (i + 1)) = addSs k L t M (fs.take i) ++ [u] := by
          rw [etk, addS, if_pos hb1, addB, if_neg hb2]
        refine ⟨_, _, _, _, rfl, (((b7.trans (But.ex ((e8.trans e9).trans e10))).trans (b11.mono fun a h => List.mem_cons_of_mem _ h)).trans (But.ex e12)).trans (But.upd (List.mem_cons_self ..)), upd_same, ?_, ?_⟩
        · rw [hadd, List.map_append]
          have tk12 := Tk.upd (o := .lst (acc' ++ [v'])) hl12
          exact Rps.append (Rps.tk tk12 _ (tupDs_map (tupD_Pair k L) _) ((Rps.tk tk11 _ (tupDs_map (tupD_Pair k L) _) (((r7.up e8).up e9).up e10)).up e12)) (.cons (Rp.tk tk12 _ (tupD_Pair k L u) r12) .nil)
        · rw [hadd]
          have d12 := (d11.up e12).go (But.upd (H := H12) (l := l) (o := .lst (acc' ++ [v'])) (List.mem_singleton.mpr rfl)) h12l (noT_one hl12)
          rw [putK_new _ (by
            have h := tabP_some (k := k) (L := L) (l := addSs k L t M (fs.take i)) (p := u)
            rw [decide_eq_false hb2] at h
            exact Option.not_isSome_iff_eq_none.mp (by rw [h]; decide))] at d12
          unfold tabP at d12 ⊢
          rw [List.map_append]
          exact d12
      · have hadd : addSs k L t M (fs.take (i + 1)) = addSs k L t M (fs.take i) := by
          rw [etk, addS]
          split
          · rename_i h1
            rw [addB, if_pos]
            refine Classical.byContradiction fun h2 => ?_
            rw [decide_eq_true h1, decide_eq_true h2] at hb
            cases hb
          · rfl
        refine ⟨_, _, _, _, rfl, b7.trans (But.ex (e8.trans e9)), e9 _ _ hl8, ?_, ?_⟩
        · rw [hadd]
          exact (r7.up e8).up e9
        · rw [hadd]
          exact d8.up e9
    · subst es
      have hx : xs.length = fs.length := by rw [r6.len, List.length_map]
      rw [hx, List.take_length] at r7 d7
      refine d_aug rfl evd_int fun H8 e8 => ?_
      have hb8 : But [l, dk] H3 H8 := ((b.trans (But.ex ((e4.trans e5).trans e6))).trans b7).trans (But.ex e8)
      refine ⟨(uStay C L).length - (at_ + 1), by omega, addSs k L t M fs, at_ + 1, acc', some v4, some v5, a7', a8', a9', ?_, hb8, e8 _ _ hl7, r7.up e8, d7.up e8, W', rfl⟩
      have : ((at_ : Int) + 1) = ((at_ + 1 : Nat) : Int) := by omega
      rw [← this]
      rfl
  · have hat : at_ = M.length := by
      have := of_decide_eq_false hb
      have := W.le
      omega
    subst hat
    exact ⟨.ref l, rfl, q l acc _ H4 nl (trans_but2 (e2.trans e3) (b.trans (But.ex e4)) nl (fresh_back e2 nd)) (e4 _ _ hlH) (rac.up e4) ⟨M, rfl, smet_of W⟩⟩
end
end K48
/-! staying_row. -/
namespace K48
open PySem L2 Evl K48M
section
variable {K : PySem.W.Frag} {w : World} {σ : S} {H : Hp} {ta tb tc te tl : TE} {D : Ends} {g : TG} {tt : TT} {ds es : List PyData}
theorem evm_of {R : List PyData → Prop} (h : EvN te σ H ds) (hR : R ds) : EvM te σ H R := fun H0 e0 Q q => h H0 e0 Q fun p xs H1 hp e1 hx r => q p xs ds H1 hp e1 hx r hR
theorem evm_lc {vs : List Nat} {R R' : List PyData → Prop} (h : EvM tl σ H R) (k : ∀ p xs es H1, Ex H H1 → H1 p = some (.lst xs) → Rps H1 xs es → R es → EvM (tLc (iList K (tC (.ref p))) g tt te vs) σ H1 R') : EvM (tLc (iList K tl) g tt te vs) σ H R' := fun H0 e0 Q q => h H0 e0 _ fun p xs es H1 hp e1 hx r1 hR =>
  k p xs es H1 (e0.trans e1) hx r1 hR H1 (Ex.refl _) Q fun p2 xs2 es2 H2 hp2 e2 hx2 r2 hR2 => q p2 xs2 es2 H2 (fresh_back e1 hp2) (e1.trans e2) hx2 r2 hR2
theorem d_extM {R : List PyData → Prop} {l : Addr} {xs : List V} (hl : H l = some (.lst xs)) (ha : Ev ta σ H (.ref l)) (h : EvM te σ H R) (hz : ∀ es, R es → xs.length + es.length < 1000000) (k : ∀ ys es H1, Ex H H1 → Rps H1 ys es → R es → D.nx σ (upd H1 l (.lst (xs ++ ys)))) :
    tDrop (tBM K "list" rExtend ta (tCons te tNil)) D σ H := ha H (Ex.refl H) _ fun H1 e1 =>
  ⟨.inl ⟨rfl, xs, sq_of (e1 l _ hl)⟩, h H1 e1 _ fun p ys es H2 hp e2 hx rs hR =>
    ⟨l, p, xs, ys, rfl, rfl, e2 l _ (e1 l _ hl), hx, by have := hz es hR; rw [rs.len, sizeLine_eq]; omega, k ys es H2 (e1.trans e2) rs hR⟩⟩
/-- [gg(a) for a in .. if pa(a)], told by encoders -/
theorem evn_filtL {α : Type} {vs : List Nat} (l : List α) (enc gg : α → PyData) (pa : α → Bool) (h : EvD tl σ H (.list (l.map enc))) (hz : l.length ≤ 1000000) (hg : ∀ a ∈ l, tupD (gg a) = true)
    (hs : ∀ a v H1, a ∈ l → Ex H H1 → Rp H1 v (enc a) → ∀ Q : S → Hp → Prop, (∀ σ2, wipe σ2 vs = wipe σ vs → EvT tt σ2 H1 (pa a) → (pa a = true → EvD te σ2 H1 (gg a)) → Q σ2 H1) → g v (wipe σ vs) H1 Q) :
    EvN (tLc (iList K tl) g tt te vs) σ H ((l.filter pa).map gg) := fun H0 e0 Q q => h H0 e0 _ fun v H1 e1 r1 => by
  obtain ⟨a, xs, rfl, hx, rs⟩ := r1.lst_inv
  refine ⟨a, rfl, ⟨xs, sq_of hx⟩, fun Dl hD => ?_⟩
  have nx : Ex H1 (L2.upd H1 Dl (.lst [])) := Ex.new hD
  refine lc_list (xs := xs) (fun i H' => ∃ acc, H' Dl = some (.lst acc) ∧ Ex H1 H' ∧ Rps H' acc (((l.take i).filter pa).map gg)) ⟨[], upd_same, nx, by rw [List.take_zero]; exact .nil⟩ (fun i H' _ ⟨_, _, e, _⟩ => sq_of (e _ _ hx)) (fun i x H' hi ⟨acc, hd, e, r⟩ => ?_) (fun H' ⟨acc, hd, e, r⟩ => ?_)
  · obtain ⟨d, hd', rd⟩ := rs.getV hi
    rw [List.getElem?_map] at hd'
    obtain ⟨b, hb, rfl⟩ := Option.map_eq_some_iff.mp hd'
    have hbl := List.mem_of_getElem? hb
    have hacc : acc.length ≤ l.length := by
      rw [r.len, List.length_map]
      refine Nat.le_trans (List.length_filter_le _ _) ?_
      rw [List.length_take]
      omega
    refine hs b x H' hbl ((e0.trans e1).trans e) (rd.up e) _ fun σ2 hw ht hev => ⟨hw, ?_⟩
    refine ht H' (Ex.refl _) _ fun H3 e3 => ?_
    cases hp : pa b with
    | true =>
      refine hev hp H3 e3 _ fun y H4 e4 r4 => ⟨acc, e4 _ _ (e3 _ _ hd), by rw [sizeLine_eq]; omega, _, upd_same, Ex.mut ((e.trans e3).trans e4) hD, ?_⟩
      have tk := Tk.upd (o := .lst (acc ++ [y])) (e4 _ _ (e3 _ _ hd))
      rw [take_snoc hb, List.filter_append, List.map_append, List.filter_cons_of_pos hp]
      refine Rps.append (Rps.tk tk _ (tupDs_iff.mpr fun z hz' => ?_) ((r.up e3).up e4)) (.cons (Rp.tk tk _ (hg b hbl) r4) .nil)
      obtain ⟨c, hc, rfl⟩ := List.mem_map.mp hz'
      exact hg c (List.mem_of_mem_take (List.mem_filter.mp hc).1)
    | false =>
      refine ⟨acc, e3 _ _ hd, e.trans e3, ?_⟩
      rw [take_snoc hb, List.filter_append, List.filter_cons_of_neg (by rw [hp]; decide), List.filter_nil, List.append_nil]
      exact r.up e3
  · rw [rs.len, List.length_map, List.take_length] at r
    exact q Dl acc H' (fresh_back e1 hD) (e1.trans e) hd r
/-- a return, wherever the loop's ends stand -/
theorem d_retX {Q : VK} {d : PyData} (h : EvD te σ H d) (k : ∀ v H1, Ex H H1 → Rp H1 v d → Q v H1) : te σ H Q := h H (Ex.refl H) _ k
end
/-- a row's last name -/
def lstN (r : List Nat) : Nat := r.getLast?.getD 0
theorem lstN_snoc (r : List Nat) (y : Nat) : lstN (r ++ [y]) = y := by
  unfold lstN
  rw [List.getLast?_concat]
  rfl
section
variable {P : Program} {w : World} {K : PySem.W.Frag} {mg : Str → Option Value} {base : Heap}
/-- what staying_row tells -/
inductive RowR (k : Cache) (L t : Nat) : PyData → Prop
  | some {p : Pair} : Pr k L p → mc p = t → p.1.length ≤ 3800 → RowR k L t (dPair k L p)
  | none : (∀ s, ¬ K48G.Rg (succ k) (K48M.St k L) t s) → RowR k L t .none
def Rrow (C L : Nat) (ds : List PyData) (Post : PyData → Prop) : Prop := ∃ k t, ds = [dCache k, dI t] ∧ Ok C L k ∧ C ≤ 4 ∧ L ≤ 3 ∧ t ≤ 900 ∧ Post = RowR k L t
theorem ok_staying_row {C L : Nat} {f : Addr} {fd : FuncData} (F : Fun K "staying_row" "staying_row" s_staying_row f fd) (T : Mg mg) (cb : Cal P w K mg base CX0 3 "begin_walks" ["cache"] (spM (Rbeg C L))) (cn : Cal P w K mg base CX0 2 "next_lines" ["cache", "walk"] (spM (Rnext C L))) (cs : Cal P w K mg base CX0 4 "same_met" ["cache", "layer"] (spM (Rsame C L))) (cu : Cal P w K mg base CX0 3 "unlike_stays" ["pairs"] (spN (Runl C L))) (cf : Cal P w K mg base CX0 3 "further_stays" ["cache", "layer"] (spM (Rfur C L))) (cm : Cal P w K mg base CX0 1 "met_names" ["row", "name"] (spN Rmet)) : FnOk P w K mg base CX0 5 f fd ["cache", "many"] (spE (Rrow C L)) := by
  refine F.ok sc_staying_row (fun vs H Q E h => spE_len h fun ds d ⟨k, t, e, _⟩ => by rw [e]; rfl) (fun cdv A outer sh H vs Q E hr h => ?_)
  obtain ⟨ds, Post, r, ⟨k, many, rfl, o, hC, hL, ht9, rfl⟩, q⟩ := h
  cases r with
  | cons r1 r => cases r with
  | cons r2 r =>
  cases r
  refine ⟨_, pss_cons (ps_set (i := 2) sc_staying_row.nd rfl (.inl rfl) (pe_lst pa_nil))
    (pss_cons (ps_for PassesOwn.never rfl (pi_list (pe_cal cb hr (by decide) (by rfl) (pa_cons (pv 0) pa_nil))) (pg_name (i := 3) sc_staying_row.nd rfl (.inl rfl))
      (pss_one (ps_expr (pe_bm PySem.F.plainAttrs_list PySem.F.slot_list_extend PySem.F.type_list_extend mt_extend (pv 2) (pa_cons
        (pe_lc (own := [("further", 4)]) (g := gName 4) (tt := tYes) rfl sc_staying_row.nd (pi_list (pe_cal cn hr (by decide) (by rfl) (pa_cons (pv 0) (pa_cons (pv 3) pa_nil)))) (blkOk_by (N := N_staying_row) (sc := defScope s_staying_row) (by decide +kernel)) (fun _ _ _ _ _ => pg_name (i := 4) sc_staying_row.nd rfl (Or.inl rfl)) (fun _ _ _ _ _ => pts_nil)
          (fun _ _ _ _ _ => pe_tupP (pa_cons (pv 4) (pa_cons (pe_ix (r := rIxT K) ix_tup (pe_ix (r := rIxT K) ix_tup (pv 4) pe_int (fun _ _ => rfl)) (pe_un un_neg pe_int) (fun _ _ => rfl)) pa_nil)))) pa_nil)))))
    (pss_cons (ps_for PassesOwn.never rfl (pi_range1 (by rfl) T.range (pa_cons (pe_op op_add (pv 1) pe_int) pa_nil)) (pg_name (i := 5) sc_staying_row.nd rfl (.inr rfl))
      (pss_cons (ps_set (i := 2) sc_staying_row.nd rfl (.inl rfl) (pe_cal cs hr (by decide) (by rfl) (pa_cons (pv 0) (pa_cons (pv 2) pa_nil))))
      (pss_cons (ps_if (pw_or (pt_cmpR op_eq (pv 5) (pv 1) (nomark _)) (pw_or1 (pt_cmpR op_eq (pe_callB call_len_seq (by rfl) T.len (by decide +kernel) (pa_cons (pv 2) pa_nil)) pe_int (nomark _)))).pt (pss_one ps_break) pss_nil)
      (pss_cons (ps_setLc (i := 4) (own := [("walk", 3), ("name", 6)]) (g := gTup K 2 (gCons (gName 3) (gCons (gName 6) gNil))) (tt := tTest (tOp rGtI (tCB (rLenQ K) (tCons (tCall (spN Rmet) [] E0 (tCons (tOp (rIxT K) (tVar 3) (tC (.int 0))) (tCons (tVar 6) tNil))) tNil)) (tVar 5))) rfl sc_staying_row.nd rfl rfl (sw_true rfl rfl rfl rfl) (pi_list (pe_cal cf hr (by decide) (by rfl) (pa_cons (pv 0) (pa_cons (pv 2) pa_nil)))) (blkOk_by (N := N_staying_row) (sc := defScope s_staying_row) (by decide +kernel))
          (fun _ _ _ _ _ => pg_tup rfl (pgs_cons (pg_name (i := 3) sc_staying_row.nd rfl (Or.inl rfl)) (pgs_cons (pg_name (i := 6) sc_staying_row.nd rfl (Or.inl rfl)) pgs_nil)))
          (fun _ _ _ _ _ => pts_one (pt_cmpR op_gt (pe_callB (r := rLenQ K) call_len_seq (by rfl) T.len (by decide +kernel) (pa_cons (pe_cal cm hr (by decide) (by rfl) (pa_cons (pe_ix (r := rIxT K) ix_tup (pv 3) pe_int (fun _ _ => rfl)) (pa_cons (pv 6) pa_nil))) pa_nil)) (pv 5) (nomark _)))
          (fun _ _ _ _ _ => pe_tupP (pa_cons (pv 3) (pa_cons (pv 6) pa_nil))))
      (pss_one (ps_set (i := 2) sc_staying_row.nd rfl (.inl rfl) (pe_cal cu hr (by decide) (by rfl) (pa_cons (pv 4) pa_nil))))))))
    (pss_one (ps_ret (pe_ifExp (pt_cmpR op_gt (pe_callB call_len_seq (by rfl) T.len (by decide +kernel) (pa_cons (pv 2) pa_nil)) pe_int (nomark _)) (pe_ix ix_list (pv 2) pe_int (fun _ _ => rfl)) pe_non))))), ?_⟩
  refine d_seq (d_asgN (evn_lst evds_nil) fun l xs0 H1 nl e1 hl rl => ?_)
  cases rl
  refine d_seq (d_forM (evm_call (evds_cons (evd_var rfl (r1.up e1)) evds_nil) ⟨k, rfl, o, hC, hL, rfl⟩) fun pb xb eb H2 nb e2 hb rb ⟨b, ebb, BA⟩ => ?_)
  subst ebb
  have hl2 := e2 _ _ hl
  have pbl : pb ≠ l := fun z => by
    rw [z, hl] at nb
    cases nb
  have hC900 : ∀ i, i ≤ many → C * i ≤ 3600 := fun i hi => Nat.mul_le_mul hC (Nat.le_trans hi ht9)
  refine ⟨fun i σ' H' => ∃ a3 acc m, σ' = [some _, some _, some (.ref l), a3, none, none, none] ∧ But [l] H2 H' ∧ H' l = some (.lst acc) ∧ Rps H' acc (m.map (dPair k L)) ∧ m.length ≤ 4 * i ∧ (∀ p ∈ m, (Pr k L p ∧ mc p = 0) ∧ p.1.length ≤ 33) ∧ ∀ r ∈ b.take i, ∀ y, Nx k L r y → (r ++ [y], y) ∈ m,
    ⟨none, [], [], rfl, But.refl, hl2, .nil, Nat.zero_le _, fun p hp => (List.not_mem_nil hp).elim, fun r hr => by rw [List.take_zero] at hr; exact (List.not_mem_nil hr).elim⟩, fun i σ' H' ⟨_, _, _, _, bb, _⟩ => bb.go (fun z => pbl (List.mem_singleton.mp z)) hb, fun i v σ' H' hi ⟨a3, acc, m, es, bb, hlH, ra, hm, hok, hall⟩ => ?_, fun σ' H' ⟨a3, acc, m, es, bb, hlH, ra, hm, hok, hall⟩ => ?_⟩
  · subst es
    obtain ⟨d, hd, rd⟩ := rb.getV hi
    rw [List.getElem?_map] at hd
    obtain ⟨r, hr', rfl⟩ := Option.map_eq_some_iff.mp hd
    have hrb := List.mem_of_getElem? hr'
    have hil := (List.getElem?_eq_some_iff.mp hr').1
    have hmany := BA.many
    have tk := bb.tk (noT_one hl2)
    have rc : Rp H' _ (dCache k) := Rp.tk tk _ (tupD_Cache k) ((r1.up e1).up e2)
    have rv : Rp H' v (enc k L r) := Rp.tk tk _ (tupD_enc k L r) rd
    have hrl := BA.len r hrb
    refine d_extM (R := fun es => ∃ ns : List (List Nat), es = ns.map (fun r' => dPair k L (r', lstN r')) ∧ ns.length ≤ 4 ∧ ∀ r', r' ∈ ns ↔ ∃ y, Nx k L r y ∧ r' = r ++ [y]) hlH (ev_slot rfl) (evm_lc (evm_call (evds_cons (evd_var rfl rc) (evds_cons (evd_var rfl rv) evds_nil)) ⟨k, r, rfl, o, hL, by omega, rfl⟩) fun p xs es H3 e3 hx rs ⟨ns, ens, nsl, hns⟩ => ?g1) (fun es ⟨ns, e, h, _⟩ => by
      rw [e, List.length_map, ra.len, List.length_map]
      omega) fun ys es H3 e3 rys ⟨ns, ees, nsl, hns⟩ => ?_
    case g1 =>
      subst ens
      refine evm_of (evn_mapLe (vs := [4]) ns (enc k L) (fun r' => dPair k L (r', lstN r')) (evd_c (.lst hx rs)) (by omega) (fun r' _ => tupD_Pair k L _) (fun _ => rfl) (fun r' v4 H4 hr4 e4 rv4 => ?_)) ⟨ns, rfl, nsl, hns⟩
      obtain ⟨y, hy, er⟩ := (hns r').mp hr4
      refine evd_tup (evds_cons (evd_var rfl rv4) (evds_cons (evd_ixT (ds := r'.map dI) (evd_ixT (evd_var rfl rv4) evd_int rfl) (evd_neg evd_int) ?_) evds_nil))
      rw [er, List.map_append, lstN_snoc]
      exact atI_last _ _
    · subst ees
      have hl3 := e3 _ _ hlH
      have tk3 := Tk.upd (o := .lst (acc ++ ys)) hl3
      refine ⟨_, _, m ++ ns.map (fun r' => (r', lstN r')), rfl, (bb.trans (But.ex e3)).trans (But.upd (List.mem_singleton.mpr rfl)), upd_same, ?_, by rw [List.length_append, List.length_map]; omega, fun p hp => ?_, fun r2 hr2 y hy => ?_⟩
      · have e : (m ++ ns.map (fun r' => (r', lstN r'))).map (dPair k L) = m.map (dPair k L) ++ ns.map (fun r' => dPair k L (r', lstN r')) := by
          rw [List.map_append, List.map_map]
          rfl
        rw [e]
        exact Rps.append (Rps.tk tk3 _ (tupDs_map (tupD_Pair k L) _) (ra.up e3)) (Rps.tk tk3 _ (tupDs_map (fun r' => tupD_Pair k L _) _) rys)
      · rcases List.mem_append.mp hp with h | h
        · exact hok p h
        · obtain ⟨r', hr4, rfl⟩ := List.mem_map.mp h
          obtain ⟨y, hy, er⟩ := (hns r').mp hr4
          subst er
          rw [lstN_snoc]
          refine ⟨start_pr o (BA.can r hrb) hy, ?_⟩
          show (r ++ [y]).length ≤ 33
          rw [List.length_append, List.length_singleton]
          omega
      · rw [take_snoc hr'] at hr2
        rcases List.mem_append.mp hr2 with h | h
        · exact List.mem_append_left _ (hall r2 h y hy)
        · have := List.mem_singleton.mp h
          subst this
          refine List.mem_append_right _ (List.mem_map.mpr ⟨r2 ++ [y], (hns _).mpr ⟨y, hy, rfl⟩, ?_⟩)
          rw [lstN_snoc]
  · subst es
    have hxb : xb.length = b.length := by rw [rb.len, List.length_map]
    rw [hxb] at hm hall
    rw [List.take_length] at hall
    have hmany := BA.many
    have eH : Ex H H' := (e1.trans e2).trans_but bb nl
    have seeds0 : Seeds k L 0 m := ⟨fun _ s hs => by
      obtain ⟨r, hr1, y, hy, e⟩ := start_real o BA.can BA.cover hs
      exact ⟨_, hall r hr1 y hy, e⟩, fun t' s0 s e => by omega⟩
    have rc := r1.up eH
    have rm := r2.up eH
    refine d_seq (d_forR1 (n := (many : Int) + 1) (evds_cons (evd_add (evd_var rfl rm) evd_int) evds_nil) ⟨by omega, by omega⟩
      (fun i σ' H2 => i ≤ many ∧ ∃ a3 a4 a5 pl xs m, σ' = [some _, some _, some (.ref pl), a3, a4, a5, none] ∧ Ex H' H2 ∧ H2 pl = some (.lst xs) ∧ Rps H2 xs (m.map (dPair k L)) ∧ m.length ≤ 10000 ∧ (∀ p ∈ m, (Pr k L p ∧ mc p = i) ∧ p.1.length ≤ 33 + C * i) ∧ Seeds k L i m)
      (fun H3 e3 => ⟨Nat.zero_le _, _, none, none, l, acc, m, rfl, e3, e3 _ _ hlH, ra.up e3, by omega, fun p hp => ⟨(hok p hp).1, Nat.le_trans (hok p hp).2 (Nat.le_add_right _ _)⟩, seeds0⟩) (fun i σ' H3 hi ⟨him, a3, a4, a5, pl, xs, m, es, e3, hx, rx, hml, hmo, hsd⟩ => ?_) (fun σ' H3 ⟨him, _⟩ => ?_))
    · subst es
      have hCi := hC900 i him
      refine d_seq (d_asgM (evm_call (evds_cons (evd_var rfl (rc.up e3)) (evds_cons (evd_var rfl (.lst hx rx)) evds_nil)) ⟨k, m, i, 33 + C * i, rfl, o, hC, hL, hmo, by omega, hml, rfl⟩) fun pl2 xs2 es2 H5 n5 e5 hx5 rx5 ⟨m2, em2, SM⟩ => ?_)
      subst em2
      have rl5 : Rp H5 (.ref pl2) (.list (m2.map (dPair k L))) := .lst hx5 rx5
      have hF := full_of o hsd SM.ok SM.base SM.cl
      have m2l : m2.length ≤ 1000 := by
        have h1 := nodup_len_le SM.nd (U := uStay C L) fun s hs => by
          obtain ⟨p, hp, rfl⟩ := List.mem_map.mp hs
          exact mem_uStay (pk_ok o (SM.ok p hp).1)
        rw [List.length_map] at h1
        exact Nat.le_trans h1 (len_uStay_le hC hL)
      have m2r : ∀ q ∈ m2, q.1.length + 1 ≤ 33 + C * i + C := SM.row
      refine d_seq (d_when (b := decide (i = many) || decide (m2 = [])) (et_or (evt_test ((evd_eqI (evd_var rfl (.int _)) (evd_var rfl (rm.up (e3.trans e5)))).is (congrArg PyData.bool (decide_eq_decide.mpr (by omega))))) (fun _ => evt_test ((evd_eqI (evd_lenL (evd_var rfl rl5)) evd_int).is (congrArg PyData.bool (decide_eq_decide.mpr (by rw [List.length_map, ← List.length_eq_zero_iff]; omega)))))) (fun hb H6 e6 => ?_) (fun hb H6 e6 => ?_))
      · have e06 := (eH.trans e3).trans (e5.trans e6)
        have hb' : i = many ∨ m2 = [] := by
          rw [Bool.or_eq_true, decide_eq_true_eq, decide_eq_true_eq] at hb
          exact hb
        cases m2 with
        | nil =>
          refine d_retX (d := .none) (evd_if (b := false) (evt_test ((evd_gt (evd_lenL (evd_var rfl (rl5.up e6))) evd_int).is rfl)) (fun h => by cases h) (fun _ => evd_non)) fun v H7 e7 rv => q v _ H7 (e06.trans e7) rv (.none fun s hs => ?_)
          obtain ⟨s', hs'⟩ := hs.less (succ k) succ_01 i him
          obtain ⟨p, hp, _⟩ := hF s' hs'
          cases hp
        | cons p m2 =>
          have eim : i = many := by
            rcases hb' with h | h
            · exact h
            · cases h
          subst eim
          have okp := SM.ok p (List.mem_cons_self ..)
          have hrow := m2r p (List.mem_cons_self ..)
          refine d_retX (d := dPair k L p) (evd_if (b := true) (evt_test ((evd_gt (evd_lenL (evd_var rfl (rl5.up e6))) evd_int).is (congrArg PyData.bool (decide_eq_true (by rw [List.length_map, List.length_cons]; omega))))) (fun _ => evd_ixL (evd_var rfl (rl5.up e6)) evd_int (atI_map (xs := p :: m2) (j := 0) rfl)) (fun h => by cases h)) fun v H7 e7 rv => q v _ H7 (e06.trans e7) rv (.some okp.1 okp.2 (by omega))
      · rw [Bool.or_eq_false_iff, decide_eq_false_iff_not, decide_eq_false_iff_not] at hb
        have i1 : i + 1 ≤ many := by omega
        have e36 := e3.trans (e5.trans e6)
        have hps2 : PsOk k L m2 := fun p hp => ⟨(SM.ok p hp).1.held, by have := m2r p hp; omega⟩
        refine d_seq (d_asgM (R := fun es => ∃ fs : List Pair, es = fs.map (dPair k L) ∧ fs.length ≤ 4000 ∧ ∀ q, q ∈ fs ↔ (∃ p ∈ m2, Fu k L p q) ∧ i < mc q) (evm_lc (evm_call (evds_cons (evd_var rfl (rc.up e36)) (evds_cons (evd_var rfl (rl5.up e6)) evds_nil)) ⟨k, m2, rfl, o, hL, hps2, by omega, rfl⟩) fun p xs es H7 e7 hx7 rx7 ⟨fs, efs, fsl, hfs⟩ => ?g2) fun pf xf ef H7 n7 e7 hx7 rx7 ⟨fs, efs, fsl, hfs⟩ => ?_)
        case g2 =>
          subst efs
          refine evm_of (evn_filtL (vs := [3, 6]) fs (dPair k L) (dPair k L) (fun q => decide (i < mc q)) (evd_c (.lst hx7 rx7)) (by omega) (fun q _ => tupD_Pair k L q) (fun q v H8 hq e8 rv Q qq => ?_)) ⟨fs.filter (fun q => decide (i < mc q)), rfl, Nat.le_trans (List.length_filter_le _ _) (by omega), fun q => ?_⟩
          · obtain ⟨p0, hp0, hfu⟩ := (hfs q).mp hq
            have hpr := hfu.pr o (SM.ok p0 hp0).1
            have hlen := hfu.len
            have hrow := m2r p0 hp0
            refine g_two rv fun v3 v6 h3 h6 => qq _ rfl (evt_test ((evd_gt (evd_lenL (EvN.toD (evn_call (evds_cons (d := dNs q.1) (evd_ixT (evd_var rfl h3) evd_int rfl) (evds_cons (evd_var rfl h6) evds_nil)) (spN_n ⟨q.1, q.2, rfl, held_mem o hpr, by omega, rfl⟩)))) (evd_var rfl (.int _))).is (congrArg PyData.bool (decide_eq_decide.mpr ?_)))) (fun _ => evd_tup (evds_cons (evd_var rfl h3) (evds_cons (evd_var rfl h6) evds_nil)))
            rw [List.length_map, ml_len]
            unfold mc
            omega
          · rw [List.mem_filter, hfs q, decide_eq_true_eq]
        subst efs
        have hfq : ∀ q ∈ fs, (Pr k L q ∧ mc q = i + 1) ∧ q.1.length ≤ 33 + C * (i + 1) := fun q hq => by
          obtain ⟨⟨p0, hp0, hfu⟩, hlt⟩ := (hfs q).mp hq
          have hok0 := SM.ok p0 hp0
          obtain ⟨e, hst, hme⟩ := hfu.step o hok0.1
          have he := succ_01 _ _ hst
          have he : e ≤ 1 := he
          have hlen := hfu.len
          have hrow := m2r p0 hp0
          refine ⟨⟨hfu.pr o hok0.1, ?_⟩, ?_⟩
          · have := hok0.2
            omega
          · rw [Nat.mul_succ]
            omega
        have U := uall_of k L fs
        have hCi1 := hC900 (i + 1) i1
        refine d_asgN (evn_call (evds_cons (evd_var rfl (.lst hx7 rx7)) evds_nil) (spN_n ⟨k, fs, rfl, o, hL, fun q hq => ⟨(hfq q hq).1.1.held, by have := (hfq q hq).2; omega⟩, by omega, rfl⟩)) fun pl3 xs3 H8 n8 e8 hx8 rx8 => ?_
        refine ⟨i1, _, _, _, pl3, xs3, addBs (pk k L) [] fs, rfl, e36.trans (e7.trans e8), hx8, rx8, ?_, fun p hp => hfq p (U.sub p hp), seeds_next o hF SM.ok fun p hp q hfu hlt => ?_⟩
        · have := addBs_len (κ := pk k L) (ns := fs) (l := [])
          rw [List.length_nil] at this
          omega
        · exact List.mem_map.mp (U.all q ((hfs q).mpr ⟨⟨p, hp, hfu⟩, hlt⟩))
    · have : (((many : Int) + 1).toNat) = many + 1 := by omega
      rw [this] at him
      omega
end
end K48
/-! cap_rows. -/
namespace K48
open PySem L2 Evl K48M
/-- a promise: data or an exception, of which a property is true -/
def spXP (R : List PyData → (Res → Prop) → Prop) : Sp := fun vs H Q E => ∃ ds Post, Rps H vs ds ∧ R ds Post ∧ (∀ v d H', Ex H H' → Rp H' v d → Post (.inl d) → Q v H') ∧ ∀ q, Post (.inr q) → Rsd E q.1 q.2.1 q.2.2 H
section
variable {K : PySem.W.Frag} {σ : S} {H : Hp} {tA : TA} {ds dd : List PyData} {R : List PyData → (Res → Prop) → Prop} {E : XK} {D : Ends} {dvs : List V}
theorem spXP_len {n : Nat} {vs : List V} {Q : VK} (h : spXP R vs H Q E) (hR : ∀ ds d, R ds d → ds.length = n) : vs.length = n := by
  obtain ⟨ds, d, r, hr, _⟩ := h
  rw [r.len]
  exact hR ds d hr
/-- a call that tells data -/
theorem eve_callX {Post : Res → Prop} (h : EvDs tA σ H ds) (hd : ∀ H, Rps H dvs dd) (hR : R (ds ++ dd) Post) (hn : ∀ q, ¬ Post (.inr q)) : EvE (tCall (spXP R) dvs E tA) σ H (fun d => Post (.inl d)) := fun H1 a Q q => h H1 a _ fun vs H2 e2 r2 =>
  ⟨ds ++ dd, Post, r2.append (hd H2), hR, fun v d H3 e3 r3 po => q v d H3 (e2.trans e3) r3 po, fun z hz => (hn z hz).elim⟩
/-- a call that raises -/
theorem ev_raiseXP {Post : Res → Prop} {C : Addr} {par : Str} {d : PyData} (h : EvDs tA σ H ds) (hd : ∀ H, Rps H dvs dd) (hR : R (ds ++ dd) Post) (hp : ∀ r, Post r → r = .inr (C, par, d)) (r : Rsd E C par d H) (Q : VK) : tCall (spXP R) dvs E tA σ H Q := h H (Ex.refl H) _ fun vs H2 e2 r2 =>
  ⟨ds ++ dd, Post, r2.append (hd H2), hR, fun v d' H3 e3 r3 po => (Sum.inl_ne_inr (hp _ po)).elim, fun z hz => (show Rsd E z.1 z.2.1 z.2.2 H2 from (Sum.inr.inj (hp _ hz)) ▸ r.mono e2)⟩
end
section
variable {P : Program} {w : World} {K : PySem.W.Frag} {mg : Str → Option Value} {base : Heap} {CC CI CZ : Addr}
/-- the rows that cap_rows tells, or None -/
inductive RowsR (k : Cache) (L t : Nat) : PyData → Prop
  | some {p : Pair} : Pr k L p → mc p = t → p.1.length ≤ 3800 → RowsR k L t (.tuple [dNs (p.1 ++ [p.2]), dNs (p.1 ++ [nd p.1])])
  | none : (∀ s, ¬ K48G.Rg (succ k) (K48M.St k L) t s) → RowsR k L t .none
inductive CapsR (CC CZ : Addr) : PyData → PyData → (Res → Prop) → Prop
  | cache {x c : PyData} {z : Addr × Str × PyData} : smallC x → cacheRes CC x = .inr z → CapsR CC CZ x c (fun r => r = .inr z)
  | cap {C L : Nat} {k : Cache} {c : PyData} : Ok C L k → C ≤ 4 → L ≤ 3 → manyOk 0 c = false → CapsR CC CZ (dCache k) c (fun r => r = .inr (CZ, "word", .str "cap"))
def Rcaps (C L : Nat) (CC CZ : Addr) (ds : List PyData) (Post : Res → Prop) : Prop := ∃ x c, ds = [x, c] ∧ (CapsR CC CZ x c Post ∨ ∃ k t, x = dCache k ∧ c = dI t ∧ Ok C L k ∧ C ≤ 4 ∧ L ≤ 3 ∧ t ≤ 900 ∧ Post = fun r => ∃ d, r = .inl d ∧ RowsR k L t d)
theorem ok_cap_rows {C L : Nat} {f : Addr} {fd : FuncData} (F : Fun K "cap_rows" "cap_rows" s_cap_rows f fd) (T : Mg mg) (c5 : CalX P w K mg base 5 "need_cache" ["value"] [] (spX (Rcache CC))) (c2 : CalX P w K mg base 2 "need_many" ["value", "word", "least"] [.int 0] (spX (Rmany CZ))) (cr : Cal P w K mg base CX0 5 "staying_row" ["cache", "many"] (spE (Rrow C L))) :
    FnOk P w K mg base (L2.CX P w) 6 f fd ["cache", "cap"] (spXP (Rcaps C L CC CZ)) := by
  refine F.okX sc_cap_rows (fun vs H Q E h => spXP_len h fun ds d ⟨x, c, e, _⟩ => by rw [e]; rfl) (fun cdv A outer s H vs Q E hr h => ?_)
  obtain ⟨ds, Post, r, ⟨x, c, rfl, hx⟩, q, qx⟩ := h
  cases r with
  | cons r1 r => cases r with
  | cons r2 r =>
  cases r
  refine ⟨_, pss_cons (ps_set (i := 0) sc_cap_rows.nd rfl (.inl rfl) (pe_calX c5 hr (by decide) (by rfl) (passes_call (takes_of rfl rfl rfl rfl) (fun _ _ _ _ h => h)) (pa_cons (pv 0) pa_nil)))
    (pss_cons (ps_expr (pe_calX c2 hr (by decide) (by rfl) (passes_call (takes_of rfl rfl rfl rfl) (fun _ _ _ _ h => h)) (pa_cons (pv 1) (pa_cons pe_str pa_nil))))
    (pss_cons (ps_set (i := 2) sc_cap_rows.nd rfl (.inl rfl) (pe_cal cr hr (by decide) (by rfl) (pa_cons (pv 0) (pa_cons (pv 1) pa_nil))))
    (pss_cons (ps_if (pt_cmpR op_isN (pv 2) pe_non (nomark _)) (pss_one (ps_ret pe_non)) pss_nil)
    (pss_cons (ps_asg (pv 2) (pg_tup rfl (pgs_cons (pg_name (i := 3) sc_cap_rows.nd rfl (.inl rfl)) (pgs_cons (pg_name (i := 4) sc_cap_rows.nd rfl (.inl rfl)) pgs_nil))))
    (pss_cons (ps_set (i := 5) sc_cap_rows.nd rfl (.inl rfl) (pe_ix ix_tup (pv 3) pe_int (fun _ _ => rfl)))
    (pss_one (ps_ret (pe_tupP (pa_cons (pe_op op_catP (pv 5) (pe_tupP (pa_cons (pv 4) pa_nil))) (pa_cons (pe_op op_catP (pv 5) (pe_tupP (pa_cons (pe_callB cr_lenSetO (by rfl) T.len (by decide +kernel) (pa_cons (pe_callTy (cr_setTI rfl) (by rfl) T.set (by decide +kernel) (pa_cons (pv 5) pa_nil)) pa_nil)) pa_nil))) pa_nil)))))))))), ?_⟩
  rcases hx with hx | ⟨k, t, rfl, rfl, o, hC, hL, ht, rfl⟩
  · cases hx with
    | @cache _ _ z hsm hz => exact d_seq (ev_raiseX (dd := []) (evds_cons (evd_var rfl r1) evds_nil) (fun _ => .nil) ⟨x, rfl, hsm, hz.symm⟩ (qx z rfl) _)
    | @cap C' L' k c' o hC hL hc =>
      refine d_seq (d_asg (evd_callX (d := dCache k) (dd := []) (evds_cons (evd_var rfl r1) evds_nil) (fun _ => .nil) ⟨_, rfl, smallC_ok o (by omega), (cacheRes_ok CC o (by omega) (by omega)).symm⟩) fun v H1 e1 rv => ?_)
      refine d_seq (ev_raiseX (dd := [.int 0]) (evds_cons (evd_var rfl (r2.up e1)) (evds_cons evd_str evds_nil)) rps0 ⟨_, _, _, rfl, ?_⟩ ((qx (CZ, "word", .str "cap") rfl).mono e1) _)
      rw [if_neg (by rw [hc]; decide)]
  · refine d_seq (d_asg (evd_callX (d := dCache k) (dd := []) (evds_cons (evd_var rfl r1) evds_nil) (fun _ => .nil) ⟨_, rfl, smallC_ok o (by omega), (cacheRes_ok CC o (by omega) (by omega)).symm⟩) fun v0 H1 e1 rv0 => ?_)
    refine d_seq (d_drop (evd_callX (d := dI t) (dd := [.int 0]) (evds_cons (evd_var rfl (r2.up e1)) (evds_cons evd_str evds_nil)) rps0 ⟨_, _, _, rfl, by rw [if_pos (many_nat t)]⟩) fun H2 e2 => ?_)
    refine d_seq (d_asgE (eve_call (evds_cons (evd_var rfl (rv0.up e2)) (evds_cons (evd_var rfl ((r2.up e1).up e2)) evds_nil)) ⟨k, t, rfl, o, hC, hL, ht, rfl⟩) fun v2 d2 H3 e3 rv2 hrow => ?_)
    have e03 := (e1.trans e2).trans e3
    cases hrow with
    | none hno =>
      refine d_seq (d_when (b := true) (evt_test (evd_isN (evd_var rfl rv2))) (fun _ H4 e4 => ?_) (fun h => by cases h))
      exact d_ret evd_non fun v H5 e5 rv => q v _ H5 (e03.trans (e4.trans e5)) rv ⟨_, rfl, .none hno⟩
    | @some p hp hm hl =>
      refine d_seq (d_when (b := false) (evt_test (evd_isN (evd_var rfl rv2))) (fun h => by cases h) (fun _ H4 e4 => ?_))
      refine d_seq (d_asgG (evd_var rfl (rv2.up e4)) fun v H5 e5 rv => ?_)
      refine g_two rv fun v3 v4 h3 h4 => ?_
      refine d_seq (d_asg (d := dNs p.1) (evd_ixT (evd_var rfl h3) evd_int rfl) fun v5 H6 e6 r6 => ?_)
      refine d_ret (d := .tuple [dNs (p.1 ++ [p.2]), dNs (p.1 ++ [nd p.1])]) (evd_tup (evds_cons ((evd_catT (evd_var rfl r6) (evd_tup (evds_cons (evd_var rfl (h4.up e6)) evds_nil)) (by rw [List.length_map]; show _ + 1 ≤ _; omega)).is (by unfold dNs; rw [List.map_append]; rfl))
        (evds_cons ((evd_catT (evd_var rfl r6) (evd_tup (evds_cons (evd_lensetN (evd_var rfl r6) (by omega) (nodup_stk p.1) (fun z => mem_stk z p.1)) evds_nil)) (by rw [List.length_map]; show _ + 1 ≤ _; omega)).is (by unfold dNs; rw [List.map_append]; rfl)) evds_nil))) fun v7 H7 e7 rv7 => q v7 _ H7 (e03.trans ((e4.trans e5).trans (e6.trans e7))) rv7 ⟨_, rfl, .some hp hm hl⟩
end
end K48
/-! The law's own walk. -/
namespace K48
open PySem L2 Evl K48M
section
variable {K : PySem.W.Frag} {w : World} {σ : S} {H H' : Hp} {ta tb tc te to ti : TE} {D : Ends} {ds es : List PyData} {d e : PyData}
theorem d_par3INN {i j l : Nat} (h1 : EvD ta σ H d) (h2 : EvN tb σ H ds) (h3 : EvN tc σ H es) (k : ∀ v p xs q ys H1, H p = none → H q = none → p ≠ q → Ex H H1 → H1 p = some (.lst xs) → H1 q = some (.lst ys) → Rps H1 xs ds → Rps H1 ys es → Rp H1 v d → D.nx (((σ.set i (some v)).set j (some (.ref p))).set l (some (.ref q))) H1) :
    tPar3 i j l (tCons ta (tCons tb (tCons tc tNil))) D σ H :=
  h1 H (Ex.refl H) _ fun v H1 e1 r1 => h2 H1 e1 _ fun p xs H2 hp e2 hx r2 => h3 H2 (e1.trans e2) _ fun q ys H3 hq e3 hy r3 => ⟨v, .ref p, .ref q, rfl, k v p xs q ys H3 (fresh_back e1 hp) (fresh_back (e1.trans e2) hq) (fun z => by
    rw [z, hq] at hx
    cases hx) ((e1.trans e2).trans e3) (e3 _ _ hx) hy (r2.up e3) r3 ((r1.up e2).up e3)⟩
theorem evn_repL {n : Nat} (ha : EvN ta σ H ds) (hb : EvD tb σ H (.int (n : Int))) (hn : n ≤ 1000) (hd : ds.length ≤ 1000) : EvN (tOp rRep ta tb) σ H (List.replicate n ds).flatten := fun H0 e0 Q q => ha H0 e0 _ fun p xs H1 hp e1 hx r1 => hb H1 (e0.trans e1) _ fun v H2 e2 r2 => by
  rw [r2.int_inv]
  refine ⟨p, n, xs, rfl, rfl, e2 _ _ hx, by omega, by omega, ?_, fun p2 hp2 => ?_⟩
  · rw [Int.toNat_natCast, r1.len, sizeLine_eq]
    have := Nat.mul_le_mul hd hn
    omega
  · rw [Int.toNat_natCast]
    have e3 : Ex H2 (upd H2 p2 (.lst (List.replicate n xs).flatten)) := Ex.new hp2
    have key : ∀ n : Nat, Rps H2 (List.replicate n xs).flatten (List.replicate n ds).flatten := by
      intro n
      induction n with
      | zero => exact .nil
      | succ n ih =>
        rw [List.replicate_succ, List.replicate_succ, List.flatten_cons, List.flatten_cons]
        exact (r1.up e2).append ih
    exact q p2 _ _ (fresh_back e1 (fresh_back e2 hp2)) ((e1.trans e2).trans e3) upd_same ((key n).up e3)
theorem d_setL {l : Addr} {xs : List V} {j : Nat} (hl : H l = some (.lst xs)) (hv : EvD te σ H d) (ho : Ev to σ H (.ref l)) (hi : EvD ti σ H (dI j)) (hj : j < xs.length) (k : ∀ v H1, Ex H H1 → Rp H1 v d → D.nx σ (upd H1 l (.lst (xs.set j v)))) : tAsg te (gSub to ti rSetL) D σ H :=
  hv H (Ex.refl H) _ fun v H1 e1 r1 => ho H1 e1 _ fun H2 e2 => hi H2 (e1.trans e2) _ fun i H3 e3 r3 => by
    rw [r3.int_inv]
    refine ⟨l, xs, j, j, rfl, rfl, e3 _ _ (e2 _ _ (e1 _ _ hl)), ?_, k v H3 ((e1.trans e2).trans e3) ((r1.up e2).up e3)⟩
    unfold ixN
    rw [if_pos (by omega), if_pos (by omega)]
    rfl
/-- xs.index(x) -/
theorem evd_lix {z : PyData} {j : Nat} (h : EvD to σ H (.list ds)) (hx : EvD te σ H d) (fd : flatD d = true) (fs : ∀ z ∈ ds, flatD z = true) (hz : ds[j]? = some z) (he : PyData.eqv z d = true)
    (hno : ∀ (m : Nat) (z' : PyData), m < j → ds[m]? = some z' → PyData.eqv z' d = false) : EvD (tBM K "list" (rIndex K) to (tCons te tNil)) σ H (.int (j : Nat)) := fun H1 a Q q => h H1 a _ fun v H2 e2 r2 => by
  obtain ⟨b, ys, rfl, hb, rs⟩ := r2.lst_inv
  refine ⟨.inl ⟨rfl, ys, sq_of hb⟩, hx H2 (a.trans e2) _ fun y H3 e3 r3 => ?_⟩
  obtain ⟨w, hw, rw_⟩ := rs.get hz
  refine ⟨b, ys, y, j, w, rfl, rfl, sq_of (e3 _ _ hb), r3.flat fd, rs.flat fs, hw, ?_, fun m z' hm hz' => ?_, q _ H3 (e2.trans e3) (.int _)⟩
  · rw [eqV_eqv (rw_.up e3) r3 (fs z (List.mem_of_getElem? hz))]
    exact he
  · obtain ⟨d', hd', rd'⟩ := rs.getV hz'
    rw [eqV_eqv (rd'.up e3) r3 (fs d' (List.mem_of_getElem? hd'))]
    exact hno m d' hm hd'
end
section
variable {P : Program} {w : World} {K : PySem.W.Frag} {mg : Str → Option Value} {base : Heap}
def Rlw (C L : Nat) (ds : List PyData) (d : PyData) : Prop := ∃ k r, ds = [dCache k, dNs r] ∧ Ok C L k ∧ L ≤ 3 ∧ r.length ≤ 100000 ∧ d = .tuple [dNs (views k L r), dLs (atR k L r).2]
theorem ok_law_walk {C L : Nat} {f : Addr} {fd : FuncData} (F : Fun K "_law_walk" "_law_walk" s__law_walk f fd) (T : Mg mg) : FnOk P w K mg base CX0 1 f fd ["_law_cache_here", "_law_row"] (spD (Rlw C L)) := by
  refine F.ok sc__law_walk (fun vs H Q E h => spD_len h fun ds d ⟨k, r, e, _⟩ => by rw [e]; rfl) (fun cdv A outer sh H vs Q E hr h => ?_)
  obtain ⟨ds, d, r, ⟨k, r0, rfl, o, hL, hz, rfl⟩, q⟩ := h
  cases r with
  | cons r1 r => cases r with
  | cons r2 r =>
  cases r
  refine ⟨_, pss_cons (ps_par3 (i := 2) (j := 3) (l := 4) (by rfl) sc__law_walk.nd rfl rfl rfl (by decide) (by decide) (by decide) rfl rfl rfl
      (pa_cons pe_int (pa_cons (pe_op op_rep (pe_lst (pa_cons pe_non pa_nil)) (pe_callB call_len_seq (by rfl) T.len (by decide +kernel) (pa_cons (pe_ix ix_tup (pe_ix ix_tup (pv 0) pe_int (fun _ _ => rfl)) pe_int (fun _ _ => rfl)) pa_nil))) (pa_cons (pe_lst pa_nil) pa_nil))) (by rfl))
    (pss_cons (ps_for PassesOwn.never rfl (pi_tup (pv 1)) (pg_name (i := 5) sc__law_walk.nd rfl (.inl rfl))
      (pss_one (ps_if (pt_cmpR op_in_seq (pv 5) (pv 3) (by rfl))
        (pss_cons (ps_expr (pe_bm PySem.F.plainAttrs_list PySem.F.slot_list_append PySem.F.type_list_append mt_append (pv 4) (pa_cons pe_int pa_nil)))
        (pss_one (ps_set (i := 2) sc__law_walk.nd rfl (.inl rfl) (pe_ix ix_tup (pe_ix ix_tup (pe_ix ix_tup (pv 0) (pv 2) (fun _ _ => rfl)) pe_int (fun _ _ => rfl)) (pe_bm PySem.F.plainAttrs_list PySem.F.slot_list_index PySem.F.type_list_index mt_index (pv 3) (pa_cons (pv 5) pa_nil)) (fun _ _ => rfl)))))
        (pss_cons (ps_expr (pe_bm PySem.F.plainAttrs_list PySem.F.slot_list_append PySem.F.type_list_append mt_append (pv 4) (pa_cons pe_int pa_nil)))
        (pss_cons (ps_asg (pv 5) (pg_sub (pv 3) (pe_ix ix_tup (pe_ix ix_tup (pv 0) (pv 2) (fun _ _ => rfl)) pe_int (fun _ _ => rfl)) set_list))
        (pss_one (ps_set (i := 2) sc__law_walk.nd rfl (.inl rfl) (pe_ix ix_tup (pe_ix ix_tup (pv 0) (pv 2) (fun _ _ => rfl)) pe_int (fun _ _ => rfl)))))))))
    (pss_one (ps_ret (pe_tupP (pa_cons (pe_callTy call_tupleP (by rfl) T.tuple (by decide +kernel) (pa_cons (pv 4) pa_nil)) (pa_cons (pe_callTy call_tupleP (by rfl) T.tuple (by decide +kernel) (pa_cons (pv 3) pa_nil)) pa_nil)))))), ?_⟩
  refine d_seq (d_par3INN (d := dI 0) evd_int (evn_repL (ds := [.none]) (n := L) (evn_lst (evds_cons evd_non evds_nil)) ((evd_lenT (evd_ixT (evd_ixT (evd_var rfl r1) evd_int (atI_map (ctl_get o o.c1))) evd_int rfl)).is ?g1) (by omega) (by decide)) (evn_lst evds_nil) fun v2 h0 xs0 v0 ys0 H1 nh nv hne e1 hh hv rh rv0 rv2 => ?_)
  case g1 =>
    rw [List.length_map, o.hlen 0 o.c1]
  rw [flat_rep] at rh
  cases rv0
  have ev2 := rv2.int_inv
  subst ev2
  have r2' := r2.up e1
  obtain ⟨pr, op, zs, rfl, hpr, hpn, rz⟩ := id r2'.tup_inv
  have nT : NoT [h0, v0] H1 := noT_two (noT_one hh) (noT_one hv)
  have prn : pr ∉ [h0, v0] := fun z => by
    rcases List.mem_cons.mp z with rfl | z
    · exact tup_ne hpr hh rfl
    · exact tup_ne hpr hv (List.mem_singleton.mp z)
  refine d_seq (d_forT (ev_slot rfl) op hpr (fun i σ' H' => ∃ a5 hx vx, σ' = [some _, some (.ref pr), some (.int ((atR k L (r0.take i)).1 : Nat)), some (.ref h0), some (.ref v0), a5] ∧ But [h0, v0] H1 H' ∧ H' h0 = some (.lst hx) ∧ H' v0 = some (.lst vx) ∧ Rps H' hx ((atR k L (r0.take i)).2.map dO) ∧ Rps H' vx ((views k L (r0.take i)).map dI))
    (fun H2 e2 => ⟨none, xs0, [], rfl, But.ex e2, e2 _ _ hh, e2 _ _ hv, ?_, by rw [List.take_zero]; exact .nil⟩) (fun i σ' H' ⟨_, _, _, _, b, _⟩ => b.go prn hpr) (fun i y σ' H2 hi ⟨a5, hx, vx, es, b, hh2, hv2, rh2, rv2'⟩ => ?_) (fun σ' H2 ⟨a5, hx, vx, es, b, hh2, hv2, rh2, rv2'⟩ => ?_))
  · rw [List.take_zero]
    have : (List.replicate L (none : Option Nat)).map dO = List.replicate L .none := by rw [List.map_replicate]; rfl
    show Rps H2 xs0 ((List.replicate L (none : Option Nat)).map dO)
    rw [this]
    exact rh.up e2
  · subst es
    obtain ⟨d, hd, rd⟩ := rz.getV hi
    rw [List.getElem?_map] at hd
    obtain ⟨x, hx', rfl⟩ := Option.map_eq_some_iff.mp hd
    have R := run_at o (r0.take i)
    have etk : r0.take (i + 1) = r0.take i ++ [x] := take_snoc hx'
    have il : i < r0.length := (List.getElem?_eq_some_iff.mp hx').1
    have hvl : vx.length ≤ 100000 := by
      rw [rv2'.len, List.length_map, views_length, List.length_take]
      omega
    have tk := b.tk nT
    have rc : Rp H2 _ (dCache k) := Rp.tk tk _ (tupD_Cache k) (r1.up e1)
    have ry : Rp H2 y (dI x) := Rp.tk tk _ (tupD_I x) rd
    have hlen : hx.length = L := by rw [rh2.len, List.length_map, R.len]
    have rhl : Rp H2 (.ref h0) (.list ((atR k L (r0.take i)).2.map dO)) := .lst hh2 rh2
    have hcg := ctl_get o R.lt
    refine d_if (b := decide (some x ∈ (atR k L (r0.take i)).2)) (evt_test ((evd_inL (neg := false) (evd_var rfl ry) (evd_var rfl rhl) (flat_I x) (flat_Os _)).is (by rw [← any_O]; rfl))) (fun hb H3 e3 => ?_) (fun hb H3 e3 => ?_)
    · have hm := of_decide_eq_true hb
      have hfi := first_O hm
      have hjl : (atR k L (r0.take i)).2.idxOf (some x) < L := by
        have := List.idxOf_lt_length_iff.mpr hm
        rwa [R.len] at this
      refine d_seq (d_app (l := v0) (e3 _ _ hv2) (ev_slot rfl) (d := dI 1) evd_int (by omega) fun v' H4 e4 r4 => ?_)
      have hv4 := e4 _ _ (e3 _ _ hv2)
      have tk5 := Tk.upd (o := .lst (vx ++ [v'])) hv4
      have b5 : But [v0] H4 (upd H4 v0 (.lst (vx ++ [v']))) := But.upd (List.mem_singleton.mpr rfl)
      have hh5 : (upd H4 v0 (.lst (vx ++ [v']))) h0 = some (.lst hx) := b5.go (fun z => hne (List.mem_singleton.mp z)) (e4 _ _ (e3 _ _ hh2))
      have rh5 := Rps.tk tk5 _ (tupDs_map tupD_O _) ((rh2.up e3).up e4)
      refine d_asg (d := dI (hit k (atR k L (r0.take i)).1 ((atR k L (r0.take i)).2.idxOf (some x)))) (evd_ixT (evd_ixT (evd_ixT (evd_var rfl (Rp.tk tk5 _ (tupD_Cache k) ((rc.up e3).up e4))) (evd_var rfl (.int _)) (atI_map hcg)) evd_int rfl)
        (evd_lix (evd_var rfl (.lst hh5 rh5)) (evd_var rfl (Rp.tk tk5 _ (tupD_I x) ((ry.up e3).up e4))) (flat_I x) (flat_Os _) hfi.1 (eqv_I x x |>.trans (decide_eq_true rfl)) hfi.2) (atI_map (hit_get o R.lt hjl))) fun v6 H6 e6 r6 => ?_
      have ev6 := r6.int_inv
      subst ev6
      refine ⟨some y, hx, vx ++ [v'], ?_, (((b.trans (But.ex (e3.trans e4))).trans (b5.mono fun a h => List.mem_cons_of_mem _ h)).trans (But.ex e6)), e6 _ _ hh5, e6 _ _ upd_same, ?_, ?_⟩
      · rw [etk, at_hit hm]
        rfl
      · rw [etk, at_hit hm]
        exact rh5.up e6
      · rw [etk, views_snoc, go_hit hm, List.map_append]
        exact Rps.append ((Rps.tk tk5 _ (tupDs_map tupD_I _) ((rv2'.up e3).up e4)).up e6) (.cons ((Rp.tk tk5 _ (tupD_I 1) r4).up e6) .nil)
    · have hm := of_decide_eq_false hb
      refine d_seq (d_app (l := v0) (e3 _ _ hv2) (ev_slot rfl) (d := dI 0) evd_int (by omega) fun v' H4 e4 r4 => ?_)
      have hv4 := e4 _ _ (e3 _ _ hv2)
      have tk5 := Tk.upd (o := .lst (vx ++ [v'])) hv4
      have b5 : But [v0] H4 (upd H4 v0 (.lst (vx ++ [v']))) := But.upd (List.mem_singleton.mpr rfl)
      have hh5 : (upd H4 v0 (.lst (vx ++ [v']))) h0 = some (.lst hx) := b5.go (fun z => hne (List.mem_singleton.mp z)) (e4 _ _ (e3 _ _ hh2))
      have rh5 := Rps.tk tk5 _ (tupDs_map tupD_O _) ((rh2.up e3).up e4)
      have rc5 := Rp.tk tk5 _ (tupD_Cache k) ((rc.up e3).up e4)
      refine d_seq (d_setL (l := h0) (j := (ctl k (atR k L (r0.take i)).1).line) hh5 (d := dI x) (evd_var rfl (Rp.tk tk5 _ (tupD_I x) ((ry.up e3).up e4))) (ev_slot rfl) (evd_ixT (evd_ixT (evd_var rfl rc5) (evd_var rfl (.int _)) (atI_map hcg)) evd_int rfl) (by
        rw [hlen]
        exact o.lin _ R.lt) fun v6 H6 e6 r6 => ?_)
      have hh6 := e6 _ _ hh5
      have tk7 := Tk.upd (o := .lst (hx.set (ctl k (atR k L (r0.take i)).1).line v6)) hh6
      have b7 : But [h0] H6 (upd H6 h0 (.lst (hx.set (ctl k (atR k L (r0.take i)).1).line v6))) := But.upd (List.mem_singleton.mpr rfl)
      have hv7 : (upd H6 h0 (.lst (hx.set (ctl k (atR k L (r0.take i)).1).line v6))) v0 = some (.lst (vx ++ [v'])) := b7.go (fun z => hne (List.mem_singleton.mp z).symm) (e6 _ _ upd_same)
      refine d_asg (d := dI (ctl k (atR k L (r0.take i)).1).nxt) (evd_ixT (evd_ixT (evd_var rfl (Rp.tk tk7 _ (tupD_Cache k) (rc5.up e6))) (evd_var rfl (.int _)) (atI_map hcg)) evd_int rfl) fun v8 H8 e8 r8 => ?_
      have ev8 := r8.int_inv
      subst ev8
      refine ⟨some y, _, vx ++ [v'], ?_, (((((b.trans (But.ex (e3.trans e4))).trans (b5.mono fun a h => List.mem_cons_of_mem _ h)).trans (But.ex e6)).trans (b7.mono fun a h => by rw [List.mem_singleton.mp h]; exact List.mem_cons_self ..)).trans (But.ex e8)), e8 _ _ upd_same, e8 _ _ hv7, ?_, ?_⟩
      · rw [etk, at_miss hm]
        rfl
      · rw [etk, at_miss hm]
        show Rps H8 _ (((atR k L (r0.take i)).2.set _ _).map dO)
        rw [List.map_set]
        exact (Rps.set (Rp.tk tk7 _ (tupD_I x) r6) _ (Rps.tk tk7 _ (tupDs_map tupD_O _) (rh5.up e6))).up e8
      · rw [etk, views_snoc, go_miss hm, List.map_append]
        exact Rps.append ((Rps.tk tk7 _ (tupDs_map tupD_I _) ((Rps.tk tk5 _ (tupDs_map tupD_I _) ((rv2'.up e3).up e4)).up e6)).up e8) (.cons ((Rp.tk tk7 _ (tupD_I 0) ((Rp.tk tk5 _ (tupD_I 0) r4).up e6)).up e8) .nil)
  · subst es
    have hzl : zs.length = r0.length := by rw [rz.len, List.length_map]
    rw [hzl, List.take_length] at rh2 rv2'
    have eH : Ex H H2 := trans_but2 e1 b nh nv
    exact d_ret (d := .tuple [dNs (views k L r0), dLs (atR k L r0).2]) (evd_tup (evds_cons (evd_tupL (evd_var rfl (.lst hv2 rv2'))) (evds_cons (evd_tupL (evd_var rfl (.lst hh2 rh2))) evds_nil))) fun v H3 e3 rv => q v H3 (eH.trans e3) rv
end
end K48
/-! The law's own ages. -/
namespace K48
open PySem L2 Evl K48M
section
variable {K : PySem.W.Frag} {w : World} {σ : S} {H H' : Hp} {ta tb tc te to ti : TE} {tA : TA} {tu : TS} {D : Ends} {ds es : List PyData} {d e : PyData}
/-- s[i], s a list or a tuple -/
theorem evd_ixQ {i : Int} (hs : SeqD e ds) (ha : EvD ta σ H e) (hb : EvD tb σ H (.int i)) (h : L2.atI ds i = some d) : EvD (tOp (rIx K) ta tb) σ H d := fun H1 a Q q => by
  rcases hs with rfl | rfl
  · exact ha H1 a _ fun x H2 e2 r2 => hb H2 (a.trans e2) _ fun y H3 e3 r3 => .inl (by
      have := (evd_ixL (K := K) (σ := σ) (ta := tC x) (tb := tC y) (H := H3) (evd_c (r2.up e3)) (evd_c r3) h) H3 (Ex.refl _) Q fun v H4 e4 r4 => q v H4 ((e2.trans e3).trans e4) r4
      exact this)
  · exact ha H1 a _ fun x H2 e2 r2 => hb H2 (a.trans e2) _ fun y H3 e3 r3 => .inr (.inl (by
      have := (evd_ixT (K := K) (σ := σ) (ta := tC x) (tb := tC y) (H := H3) (evd_c (r2.up e3)) (evd_c r3) h) H3 (Ex.refl _) Q fun v H4 e4 r4 => q v H4 ((e2.trans e3).trans e4) r4
      exact this))
/-- for i, x in enumerate(v), v a value that stands -/
theorem d_forEV {tb : TS} {v : V} {i1 i2 : Nat} (h : Ev te σ H v) (r : Rp H v d) (hd : SeqD d ds) (Pv : Nat → S → Hp → Prop) (h0 : ∀ H1, Ex H H1 → Pv 0 σ H1) (hG : ∀ i σ' H', Pv i σ' H' → Rp H' v d)
    (hs : ∀ i x e σ' H1 H2, i < ds.length → ds[i]? = some e → Pv i σ' H1 → Ex H1 H2 → Rp H2 x e → tb { D with nx := Pv (i + 1), ct := Pv (i + 1), bk := D.nx } ((σ'.set i1 (some (.int (i : Nat)))).set i2 (some x)) H2) (hd' : ∀ σ' H', Pv ds.length σ' H' → D.nx σ' H') :
    tFor (iEnumX K (tCons te tNil)) (gTup K 2 (gCons (gName i1) (gCons (gName i2) gNil))) tb D σ H := h H (Ex.refl H) _ fun H1 e1 => by
  have r1 := r.up e1
  have h0 := h0 H1 e1
  have step : ∀ i x σ' H' H2, i < ds.length → Pv i σ' H' → (∃ T y e, x = .ref T ∧ Ex H' H2 ∧ H2 T = some (.tup [.int (i : Nat), y]) ∧ ds[i]? = some e ∧ Rp H2 y e) →
      gTup K 2 (gCons (gName i1) (gCons (gName i2) gNil)) x σ' H2 fun σ2 H2 => tb { D with nx := Pv (i + 1), ct := Pv (i + 1), bk := D.nx } σ2 H2 := fun i x σ' H' H2 hi p y => by
    obtain ⟨T, y, e, rfl, ex, hT, he, re⟩ := y
    exact ⟨T, _, rfl, sqT_tup hT, rfl, _, _, rfl, _, _, rfl, rfl, hs i y e σ' H' H2 hi he p ex re⟩
  rcases hd with rfl | rfl
  · obtain ⟨a, xs, rfl, hx, rs⟩ := id r1.lst_inv
    exact ⟨a, xs, rfl, .inl ⟨sq_of hx, for_it walk_enumL Pv h0 (fun i σ' H' _ q => hG i σ' H' q) step hd'⟩⟩
  · obtain ⟨a, o, xs, rfl, hx, hn, rs⟩ := id r1.tup_inv
    exact ⟨a, xs, rfl, .inr ⟨st_tp hx, for_it walk_enumT Pv h0 (fun i σ' H' _ q => hG i σ' H' q) step hd'⟩⟩
/-- for j in range(n - 1, -1, -1) -/
theorem d_forDown {j n : Nat} (h : EvDs tA σ H [.int ((n : Int) - 1), .int (-1), .int (-1)]) (hn : n ≤ 1000000) (Pv : Nat → S → Hp → Prop) (h0 : ∀ H1, Ex H H1 → Pv 0 σ H1)
    (hs : ∀ (i : Nat) σ' H', i < n → Pv i σ' H' → tu { D with nx := Pv (i + 1), ct := Pv (i + 1), bk := D.nx } (σ'.set j (some (.int ((n - 1 - i : Nat) : Int)))) H') (hd : ∀ σ' H', Pv n σ' H' → D.nx σ' H') : tFor (iRng3 tA) (gName j) tu D σ H :=
  h H (Ex.refl H) _ fun vs H1 e r => by
    cases r with
    | cons r1 r => cases r with
    | cons r2 r => cases r with
    | cons r3 r =>
    cases r
    rw [r1.int_inv, r2.int_inv, r3.int_inv]
    have hr := RgC.neg (i := (n : Int) - 1) (j := -1) (by omega) (by omega) (by decide) (by decide)
    have hnn : ((n : Int) - 1 - -1).toNat = n := by omega
    rw [hnn] at hr
    refine ⟨_, _, _, n, rfl, hr, for_rangeC Pv (h0 H1 e) (fun i σ' H' hi p => ?_) hd⟩
    have e1 : (n : Int) - 1 + (i : Nat) * (-1) = ((n - 1 - i : Nat) : Int) := by omega
    show tu { D with nx := Pv (i + 1), ct := Pv (i + 1), bk := D.nx } (σ'.set j (some (.int ((n : Int) - 1 + (i : Nat) * (-1))))) H'
    rw [e1]
    exact hs i σ' H' hi p
end
section
variable {P : Program} {w : World} {K : PySem.W.Frag} {mg : Str → Option Value} {base : Heap}
def Rla (ds : List PyData) (d : PyData) : Prop := ∃ x r cap, ds = [x, dI cap] ∧ SeqD x (r.map dI) ∧ r.length ≤ 100000 ∧ d = dNs (ages cap r)
theorem ok_law_ages {f : Addr} {fd : FuncData} (F : Fun K "_law_ages" "_law_ages" s__law_ages f fd) (T : Mg mg) : FnOk P w K mg base CX0 1 f fd ["_law_row", "_law_cap"] (spD Rla) := by
  refine F.ok sc__law_ages (fun vs H Q E h => spD_len h fun ds d ⟨x, r, c, e, _⟩ => by rw [e]; rfl) (fun cdv A outer sh H vs Q E hr h => ?_)
  obtain ⟨ds, d, r, ⟨x, r0, cap, rfl, hsq, hz, rfl⟩, q⟩ := h
  cases r with
  | cons r1 r => cases r with
  | cons r2 r =>
  cases r
  refine ⟨_, pss_cons (ps_set (i := 2) sc__law_ages.nd rfl (.inl rfl) (pe_lst pa_nil))
    (pss_cons (ps_for PassesOwn.never rfl (pi_enumX (by rfl) T.enumerate (pa_cons (pv 0) pa_nil)) (pg_tup rfl (pgs_cons (pg_name (i := 3) sc__law_ages.nd rfl (.inl rfl)) (pgs_cons (pg_name (i := 4) sc__law_ages.nd rfl (.inl rfl)) pgs_nil)))
      (pss_cons (ps_par (by rfl) sc__law_ages.nd (i := 5) (j := 6) rfl rfl (by decide) rfl rfl (pa_cons (pe_lst pa_nil) (pa_cons (pv 1) pa_nil)) (by rfl))
      (pss_cons (ps_for PassesOwn.never rfl (pi_range3 (by rfl) T.range (pa_cons (pe_op op_sub (pv 3) pe_int) (pa_cons (pe_un un_neg pe_int) (pa_cons (pe_un un_neg pe_int) pa_nil)))) (pg_name (i := 7) sc__law_ages.nd rfl (.inl rfl))
        (pss_cons (ps_if (pt_cmpR op_eq (pe_ix ix_seq (pv 0) (pv 7) (fun _ _ => rfl)) (pv 4) (nomark _))
          (pss_cons (ps_set (i := 6) sc__law_ages.nd rfl (.inl rfl) (pe_callB (call_min2 rfl) (by rfl) T.min (by decide +kernel) (pa_cons (pv 1) (pa_cons (pe_callB call_len_seq (by rfl) T.len (by decide +kernel) (pa_cons (pv 5) pa_nil)) pa_nil))))
          (pss_one ps_break)) pss_nil)
        (pss_one (ps_set (i := 5) sc__law_ages.nd rfl (.inl rfl) (pe_op op_cat (pv 5) (pe_ifExp (pt_cmpR op_notIn_seq (pe_ix ix_seq (pv 0) (pv 7) (fun _ _ => rfl)) (pv 5) (by rfl)) (pe_lst (pa_cons (pe_ix ix_seq (pv 0) (pv 7) (fun _ _ => rfl)) pa_nil)) (pe_lst pa_nil)))))))
      (pss_one (ps_expr (pe_bm PySem.F.plainAttrs_list PySem.F.slot_list_append PySem.F.type_list_append mt_append (pv 2) (pa_cons (pv 6) pa_nil)))))))
    (pss_one (ps_ret (pe_callTy call_tupleP (by rfl) T.tuple (by decide +kernel) (pa_cons (pv 2) pa_nil))))), ?_⟩
  refine d_seq (d_asgN (evn_lst evds_nil) fun l xs H3 nl e3 hl3 rl => ?_)
  cases rl
  refine d_seq (d_forEV (ds := r0.map dI) (ev_slot rfl) (r1.up e3) hsq (fun i σ' H' => ∃ a3 a4 a5 a6 a7 acc, σ' = [some _, some _, some (.ref l), a3, a4, a5, a6, a7] ∧ But [l] H3 H' ∧ H' l = some (.lst acc) ∧ Rps H' acc (((ages cap r0).take i).map dI))
    (fun H4 e4 => ⟨none, none, none, none, none, [], rfl, But.ex e4, e4 _ _ hl3, by rw [List.take_zero]; exact .nil⟩) (fun i σ' H' ⟨_, _, _, _, _, _, _, b, _, _⟩ => r1.up (e3.trans_but b nl)) (fun i y d σ' H5 H6 hi hd ⟨a3, a4, a5, a6, a7, acc, es, b, hlH, rac⟩ ex re => ?_) (fun σ' H5 ⟨a3, a4, a5, a6, a7, acc, es, b, hlH, rac⟩ => ?_))
  · subst es
    rw [List.getElem?_map] at hd
    obtain ⟨nm, hnm, rfl⟩ := Option.map_eq_some_iff.mp hd
    have hir : i < r0.length := (List.getElem?_eq_some_iff.mp hnm).1
    have b6 := b.trans (But.ex (ls := [l]) ex)
    have eH6 : Ex H H6 := e3.trans_but b6 nl
    have hl6 := ex _ _ hlH
    have hacc : acc.length ≤ 100000 := by
      rw [rac.len, List.length_map, List.length_take, ages_length]
      omega
    have hti : (r0.take i).length = i := by
      rw [List.length_take]
      omega
    have hget : ∀ j, j < i → r0[j]? = some (r0.getD j 0) := fun j hj => by
      rw [List.getD_eq_getElem?_getD, List.getElem?_eq_getElem (by omega)]
      rfl
    refine d_seq (d_parN (evn_lst evds_nil) (evd_var rfl (r2.up eH6)) fun m0 ys v6 H7 nm0 e7 hm0 rm0 rv6 => ?_)
    cases rm0
    have ev6 := rv6.int_inv
    subst ev6
    have re7 := re.up e7
    have ey := re7.int_inv
    subst ey
    -- the age's append, wherever the loop ends
    have fin : ∀ {g : Nat} (hg : g = age cap (r0.take i) nm) {D : Ends} {v0 v1 : V} {a5 a7 : Option V} {H8 : Hp}, Ex H7 H8 → (∀ acc' H9, But [l] H3 H9 → H9 l = some (.lst acc') → Rps H9 acc' (((ages cap r0).take (i + 1)).map dI) → D.nx [some v0, some v1, some (.ref l), some (.int (i : Nat)), some (.int (nm : Nat)), a5, some (.int (g : Nat)), a7] H9) →
        tDrop (tBM K "list" rAppend (tVar 2) (tCons (tVar 6) tNil)) D [some v0, some v1, some (.ref l), some (.int (i : Nat)), some (.int (nm : Nat)), a5, some (.int (g : Nat)), a7] H8 := by
      intro g hg D v0 v1 a5 a7 H8 e8 k
      refine d_app (l := l) (e8 _ _ (e7 _ _ hl6)) (ev_slot rfl) (d := dI (age cap (r0.take i) nm)) ((evd_var (d := dI g) rfl (.int _)).is (congrArg dI hg)) (by omega) fun v9 H9 e9 r9 => ?_
      have hl9 := e9 _ _ (e8 _ _ (e7 _ _ hl6))
      have tk9 := Tk.upd (o := .lst (acc ++ [v9])) hl9
      refine k _ _ ((b6.trans (But.ex (e7.trans (e8.trans e9)))).trans (But.upd (List.mem_singleton.mpr rfl))) upd_same ?_
      rw [ages_take hnm, List.map_append]
      exact Rps.append (Rps.tk tk9 _ (tupDs_map (fun _ => rfl) _) ((((rac.up ex).up e7).up e8).up e9)) (.cons (Rp.tk tk9 _ rfl r9) .nil)
    refine d_seq (d_forDown (n := i) (evds_cons (evd_sub (evd_var rfl (.int _)) evd_int) (evds_cons (evd_neg evd_int) (evds_cons (evd_neg evd_int) evds_nil))) (by omega)
      (fun j σ' H' => ∃ mp ms a7, σ' = [some _, some _, some (.ref l), some (.int (i : Nat)), some (.int (nm : Nat)), some (.ref mp), some (.int (cap : Nat)), a7] ∧ Ex H7 H' ∧ Rp H' (.ref mp) (.list (ms.map dI)) ∧ ms.Nodup ∧ (∀ z, z ∈ ms ↔ z ∈ (r0.take i).drop (i - j)) ∧ (∀ p, i - j ≤ p → (r0.take i)[p]? ≠ some nm))
      (fun H8 e8 => ⟨m0, [], a7, rfl, e8, .lst (e8 _ _ hm0) .nil, List.nodup_nil, fun z => ?_, fun p hp h => ?_⟩) (fun j σ' H8 hj ⟨mp, ms, a7', es, e8, rms, hnd, hmem, hno⟩ => ?_) (fun σ' H8 ⟨mp, ms, a7', es, e8, rms, hnd, hmem, hno⟩ => ?_))
    · rw [Nat.sub_zero, List.drop_of_length_le (by omega)]
    · have := (List.getElem?_eq_some_iff.mp h).1
      omega
    · subst es
      have eH8 : Ex H H8 := eH6.trans (e7.trans e8)
      have hjp : i - 1 - j < i := by omega
      have hpl : (r0.take i)[i - 1 - j]? = some (r0.getD (i - 1 - j) 0) := by
        rw [List.getElem?_take, if_pos hjp]
        exact hget _ hjp
      have evp : ∀ {H9 : Hp} {σ : S}, Ex H8 H9 → σ[0]? = some (some _) → σ[7]? = some (some (.int ((i - 1 - j : Nat) : Int))) → EvD (tOp (rIx K) (tVar 0) (tVar 7)) σ H9 (dI (r0.getD (i - 1 - j) 0)) := fun {H9 σ} e9 h1 h2 => evd_ixQ hsq (evd_var h1 (r1.up (eH8.trans e9))) (evd_var h2 (.int _)) (atI_map (hget _ hjp))
      refine d_seq (d_when (b := decide (r0.getD (i - 1 - j) 0 = nm)) (evt_test ((evd_eqI (evp (Ex.refl _) rfl rfl) (evd_var rfl (.int _))).is (congrArg PyData.bool (decide_eq_decide.mpr (by omega))))) (fun hb H9 e9 => ?_) (fun hb H9 e9 => ?_))
      · have hb := of_decide_eq_true hb
        rw [hb] at hpl
        have hmet := met_drop (r0.take i) (i - 1 - j) hpl fun p hp => hno p (by omega)
        have h1 : i - 1 - j + 1 = i - j := by omega
        rw [h1] at hmet
        have hlen : ms.length = (met (r0.take i) nm).length := ((List.perm_ext_iff_of_nodup hnd (nodup_met _ _)).mpr fun z => (hmem z).trans (hmet z).symm).length_eq
        refine d_seq (d_asg (d := dI (age cap (r0.take i) nm)) ((evd_min (evd_var rfl (r2.up (eH8.trans e9))) ((evd_lenL (evd_var rfl (rms.up e9))).is (congrArg PyData.int (by rw [List.length_map])))).is (by rw [age_some hpl, hlen])) fun v10 H10 e10 r10 => ?_)
        have ev10 := r10.int_inv
        subst ev10
        exact fin rfl (e8.trans (e9.trans e10)) fun acc' H11 b11 h11 r11 => ⟨_, _, _, _, _, acc', rfl, b11, h11, r11⟩
      · have hb := of_decide_eq_false hb
        have hdr : (r0.take i).drop (i - (j + 1)) = r0.getD (i - 1 - j) 0 :: (r0.take i).drop (i - j) := by
          have h1 : i - (j + 1) = i - 1 - j := by omega
          have h2 : i - j = i - 1 - j + 1 := by omega
          rw [h1, h2]
          have hlt : i - 1 - j < (r0.take i).length := by omega
          rw [List.drop_eq_getElem_cons hlt]
          congr 1
          rw [List.getElem?_eq_getElem hlt] at hpl
          exact Option.some.inj hpl
        have hno' : ∀ p, i - (j + 1) ≤ p → (r0.take i)[p]? ≠ some nm := fun p hp h => by
          by_cases hpj : p = i - 1 - j
          · subst hpj
            rw [hpl] at h
            exact hb (Option.some.inj h)
          · exact hno p (by omega) h
        have hml : ms.length ≤ 100000 := by
          have h1 := nodup_len_le hnd fun z hz => (hmem z).mp hz
          rw [List.length_drop] at h1
          omega
        by_cases hin : r0.getD (i - 1 - j) 0 ∈ ms
        · refine d_asgN (ds := (ms ++ []).map dI) ((evn_catL (ds := ms.map dI) (es := []) (evd_var rfl (rms.up e9)) (evd_if (b := false) (evt_test ((evd_inL (neg := true) (evp e9 rfl rfl) (evd_var rfl (rms.up e9)) (flat_I _) (flat_Is _)).is (by rw [any_I, decide_eq_true hin]; rfl))) (fun h => by cases h) (fun _ => EvN.toD (evn_lst evds_nil))) (by rw [List.length_map]; show _ + 0 ≤ _; omega)).is (by rw [List.map_append]; rfl)) fun mp2 xs2 H10 n10 e10 h10 r10 => ?_
          rw [List.append_nil] at r10
          refine ⟨mp2, ms, _, rfl, e8.trans (e9.trans e10), .lst h10 r10, hnd, fun z => ?_, hno'⟩
          rw [hdr, List.mem_cons, hmem z]
          constructor
          · exact .inr
          · rintro (h | h)
            · rw [h]
              exact (hmem _).mp hin
            · exact h
        · refine d_asgN (ds := (ms ++ [r0.getD (i - 1 - j) 0]).map dI) ((evn_catL (ds := ms.map dI) (es := [dI (r0.getD (i - 1 - j) 0)]) (evd_var rfl (rms.up e9)) (evd_if (b := true) (evt_test ((evd_inL (neg := true) (evp e9 rfl rfl) (evd_var rfl (rms.up e9)) (flat_I _) (flat_Is _)).is (by rw [any_I, decide_eq_false hin]; rfl))) (fun _ => EvN.toD (evn_lst (evds_cons (evp e9 rfl rfl) evds_nil))) (fun h => by cases h)) (by rw [List.length_map]; show _ + 1 ≤ _; omega)).is (by rw [List.map_append]; rfl)) fun mp2 xs2 H10 n10 e10 h10 r10 => ?_
          refine ⟨mp2, ms ++ [r0.getD (i - 1 - j) 0], _, rfl, e8.trans (e9.trans e10), .lst h10 r10, List.nodup_append.mpr ⟨hnd, by simp, fun a ha c hc e => ?_⟩, fun z => ?_, hno'⟩
          · rw [List.mem_singleton.mp hc] at e
            rw [e] at ha
            exact hin ha
          · rw [hdr, List.mem_cons, List.mem_append, List.mem_singleton, hmem z]
            exact Or.comm
    · subst es
      have hout : nm ∉ r0.take i := fun h => by
        obtain ⟨p, hp⟩ := List.getElem?_of_mem h
        exact hno p (by omega) hp
      have e : age cap (r0.take i) nm = cap := age_none hout
      exact fin e.symm e8 fun acc' H11 b11 h11 r11 => ⟨_, _, _, _, _, acc', rfl, b11, h11, r11⟩
  · subst es
    rw [List.length_map, List.take_of_length_le (by rw [ages_length]; exact Nat.le_refl _)] at rac
    exact d_ret (evd_tupL (evd_var rfl (.lst hlH rac))) fun v' H6 e6 r6 => q v' H6 ((e3.trans_but b nl).trans e6) r6
end
end K48
/-! The law's rows, what they keep, what is told. -/
namespace K48
open PySem L2 Evl K48M
def fct : Nat → Nat
  | 0 => 1
  | n + 1 => (n + 1) * fct n
theorem fct_mono {i j : Nat} (h : i ≤ j) : fct i ≤ fct j := by
  induction h with
  | refl => exact Nat.le_refl _
  | step _ ih => exact Nat.le_trans ih (Nat.le_mul_of_pos_left _ (Nat.succ_pos _))
theorem isk_Ns (l : List Nat) : IsK (dNs l) (kNs l) := by
  refine ⟨tupD_Ns l, ?_, ?_, _, rfl⟩
  · unfold dNs kNs
    rw [nk, nks_map (f := dI) (g := fun n : Nat => .num (n : Int)) nk_I]
  · unfold kNs
    rw [NestedKey.depth, depth_nums]
    decide
theorem nd_le (r : List Nat) : nd r ≤ r.length := nodup_len_le (nodup_stk r) fun z hz => (mem_stk z r).mp hz
/-- new rows -/
def longer (r : List Nat) : List (List Nat) := (List.range (nd r + 1)).map fun y => r ++ [y]
section
variable {P : Program} {w : World} {K : PySem.W.Frag} {mg : Str → Option Value} {base : Heap}
def Rlr (ds : List PyData) (Post : List PyData → Prop) : Prop := ∃ n : Nat, ds = [dI n] ∧ n ≤ 6 ∧ Post = fun es => ∃ l : List (List Nat), es = l.map dNs ∧ l.length ≤ 720 ∧ ∀ r ∈ l, r.length = n
theorem ok_law_rows {f : Addr} {fd : FuncData} (F : Fun K "_law_rows" "_law_rows" s__law_rows f fd) (T : Mg mg) : FnOk P w K mg base CX0 1 f fd ["_law_many"] (spM Rlr) := by
  refine F.ok sc__law_rows (fun vs H Q E h => spM_len h fun ds d ⟨n, e, _⟩ => by rw [e]; rfl) (fun cdv A outer sh H vs Q E hr h => ?_)
  obtain ⟨ds, Post, r, ⟨n, rfl, hn6, rfl⟩, q⟩ := h
  cases r with
  | cons r1 r =>
  cases r
  refine ⟨_, pss_cons (ps_set (i := 1) sc__law_rows.nd rfl (.inl rfl) (pe_lst (pa_cons (pe_tupP pa_nil) pa_nil)))
    (pss_cons (ps_for PassesOwn.never rfl (pi_range1 (by rfl) T.range (pa_cons (pv 0) pa_nil)) (pg_name (i := 2) sc__law_rows.nd rfl (.inl rfl))
      (pss_cons (ps_set (i := 3) sc__law_rows.nd rfl (.inl rfl) (pe_lst pa_nil))
      (pss_cons (ps_for PassesOwn.never rfl (pi_list (pv 1)) (pg_name (i := 4) sc__law_rows.nd rfl (.inr rfl))
        (pss_one (ps_set (i := 3) sc__law_rows.nd rfl (.inl rfl) (pe_op op_cat (pv 3)
          (pe_lc (own := [("_law_name", 5)]) (g := gName 5) (tt := tYes) rfl sc__law_rows.nd (pi_range1 (by rfl) T.range (pa_cons (pe_op op_add (pe_callB cr_lenSetO (by rfl) T.len (by decide +kernel) (pa_cons (pe_callTy (cr_setTI rfl) (by rfl) T.set (by decide +kernel) (pa_cons (pv 4) pa_nil)) pa_nil)) pe_int) pa_nil)) (blkOk_by (N := N__law_rows) (sc := defScope s__law_rows) (by decide +kernel)) (fun _ _ _ _ _ => pg_name (i := 5) sc__law_rows.nd rfl (Or.inl rfl)) (fun _ _ _ _ _ => pts_nil)
            (fun _ _ _ _ _ => pe_op (r := rCatP K) op_catP (pv 4) (pe_tupP (pa_cons (pv 5) pa_nil))))))))
      (pss_one (ps_set (i := 1) sc__law_rows.nd rfl (.inl rfl) (pv 3))))))
    (pss_one (ps_ret (pv 1)))), ?_⟩
  refine d_seq (d_asgN (ds := [dNs []]) (evn_lst (evds_cons (evd_tup evds_nil) evds_nil)) fun l0 xs0 H1 nl e1 hl rl => ?_)
  have F6 : fct 6 = 720 := rfl
  refine d_seq (d_forR1 (n := (n : Int)) (evds_cons (evd_var rfl (r1.up e1)) evds_nil) ⟨by omega, by omega⟩
    (fun i σ' H' => i ≤ n ∧ ∃ p a2 a3 a4 xs l, σ' = [some _, some (.ref p), a2, a3, a4, none] ∧ (H p = none ∧ Ex H H') ∧ H' p = some (.lst xs) ∧ Rps H' xs (l.map dNs) ∧ l.length ≤ fct i ∧ ∀ r ∈ l, r.length = i)
    (fun H2 e2 => ⟨Nat.zero_le _, l0, none, none, none, xs0, [[]], rfl, ⟨nl, e1.trans e2⟩, e2 _ _ hl, rl.up e2, Nat.le_refl _, fun r hr => by rw [List.mem_singleton.mp hr]; rfl⟩) (fun i σ' H2 hi ⟨_, p, a2, a3, a4, xs, l, es, ⟨np, e2⟩, hx, rx, hlen, hall⟩ => ?_) (fun σ' H2 ⟨_, p, a2, a3, a4, xs, l, es, ⟨np, e2⟩, hx, rx, hlen, hall⟩ => ?_))
  · subst es
    have hin : i < n := by omega
    have f1 : fct (i + 1) = (i + 1) * fct i := rfl
    have fb : fct (i + 1) ≤ 720 := Nat.le_trans (fct_mono (by omega : i + 1 ≤ 6)) (Nat.le_of_eq F6)
    refine d_seq (d_asgN (evn_lst evds_nil) fun p3 xs3 H3 n3 e3 h3 r3 => ?_)
    cases r3
    have hx3 := e3 _ _ hx
    refine d_seq (d_forL (ev_slot rfl) hx3 (fun j σ' H' => ∃ p3 a4 ys m, σ' = [some _, some (.ref p), some (.int (i : Nat)), some (.ref p3), a4, none] ∧ (H p3 = none ∧ Ex H3 H') ∧ H' p3 = some (.lst ys) ∧ Rps H' ys (m.map dNs) ∧ m.length ≤ j * (i + 1) ∧ ∀ r ∈ m, r.length = i + 1)
      (fun H4 e4 => ⟨p3, a4, [], [], rfl, ⟨fresh_back e2 n3, e4⟩, e4 _ _ h3, .nil, Nat.zero_le _, fun r hr => (List.not_mem_nil hr).elim⟩) (fun j σ' H' ⟨_, _, _, _, _, ⟨_, e4⟩, _⟩ => e4 _ _ hx3) (fun j v σ' H4 hj ⟨p3, a4, ys, m, es, ⟨np3, e4⟩, hy, ry, hm, hmall⟩ => ?_) (fun σ' H4 ⟨p3, a4, ys, m, es, ⟨np3, e4⟩, hy, ry, hm, hmall⟩ => ?_))
    · subst es
      obtain ⟨d, hd, rd⟩ := rx.getV hj
      rw [List.getElem?_map] at hd
      obtain ⟨r0, hr0, rfl⟩ := Option.map_eq_some_iff.mp hd
      have hr0l := hall r0 (List.mem_of_getElem? hr0)
      have hndr := nd_le r0
      have rv : Rp H4 v (dNs r0) := (rd.up e3).up e4
      have hj1 : j < l.length := (List.getElem?_eq_some_iff.mp hr0).1
      have hb1 : j * (i + 1) + (i + 1) ≤ 720 := by
        have h1 : (j + 1) * (i + 1) ≤ fct i * (i + 1) := Nat.mul_le_mul_right _ (by omega)
        rw [Nat.succ_mul, Nat.mul_comm (fct i)] at h1
        omega
      have hlg : (longer r0).length = nd r0 + 1 := by
        unfold longer
        rw [List.length_map, List.length_range]
      refine d_asgN (ds := (m ++ longer r0).map dNs) ((evn_catL (ds := m.map dNs) (es := (longer r0).map dNs) (evd_var rfl (.lst hy ry)) ((EvN.toD (evn_lcR (vs := [5]) (n := nd r0 + 1) (fun _ => true) (fun d => match d with | .int y => dNs (r0 ++ [y.toNat]) | _ => .none) (evds_cons ((evd_add (evd_lensetN (evd_var rfl rv) (by omega) (nodup_stk r0) (fun z => mem_stk z r0)) evd_int).is (congrArg PyData.int (Int.natCast_add _ 1).symm)) evds_nil) (by omega) (fun y _ _ => tupD_Ns _) (fun _ => rfl) (fun y H5 hy5 e5 => ⟨evt_yes, fun _ => ?g1⟩))).is ?g2) (by rw [List.length_map, List.length_map, hlg]; omega)).is (by rw [List.map_append])) fun p5 zs H5 n5 e5 h5 r5 => ?_
      case g1 =>
        refine (evd_catT (ds := r0.map dI) (es := [dI y]) (evd_var rfl (rv.up e5)) (evd_tup (evds_cons (evd_var rfl (.int _)) evds_nil)) (by rw [List.length_map]; show _ + 1 ≤ _; omega)).is ?_
        show _ = dNs (r0 ++ [((y : Nat) : Int).toNat])
        rw [Int.toNat_natCast]
        unfold dNs
        rw [List.map_append]
        rfl
      case g2 =>
        rw [filter_yes, List.map_map]
        unfold longer
        rw [List.map_map]
        congr 1
      · refine ⟨p5, _, zs, m ++ longer r0, rfl, ⟨fresh_back ((e2.trans e3).trans e4) n5, e4.trans e5⟩, h5, r5, ?_, fun r hr => ?_⟩
        · rw [List.length_append, hlg, Nat.succ_mul]
          omega
        · rcases List.mem_append.mp hr with h | h
          · exact hmall r h
          · obtain ⟨y, _, rfl⟩ := List.mem_map.mp h
            rw [List.length_append, List.length_singleton, hr0l]
    · subst es
      have hxl : xs.length = l.length := by rw [rx.len, List.length_map]
      rw [hxl] at hm
      refine s_asg (ev_slot rfl) fun H5 e5 => ?_
      refine ⟨by omega, p3, _, _, _, ys, m, rfl, ⟨np3, ((e2.trans e3).trans e4).trans e5⟩, e5 _ _ hy, ry.up e5, ?_, hmall⟩
      rw [f1, Nat.mul_comm]
      exact Nat.le_trans hm (Nat.mul_le_mul_right _ hlen)
  · subst es
    rw [Int.toNat_natCast] at hlen hall
    exact ⟨.ref p, rfl, q p xs _ H2 np e2 hx rx ⟨l, rfl, Nat.le_trans hlen (Nat.le_trans (fct_mono hn6) (Nat.le_of_eq F6)), hall⟩⟩
end
end K48
/-! _law_keeps, _law_told. -/
namespace K48
open PySem L2 Evl K48M
section
variable {P : Program} {w : World} {K : PySem.W.Frag} {σ : S} {H H' : Hp} {ta tb tc te tw tv tl td ty : TE} {tu : TS} {d e : PyData} {ds es : List PyData} {D : Ends} {g : TG} {a : Addr} {kvs : Tbl} {k : NestedKey}
theorem d_keep (hd : Ev td σ H (.ref a)) (x : Dd P w H a kvs) (he : EvD ty σ H e) (ik : IsK e k) (hv : EvD tv σ H d) (hw : ∀ H1, Tk H H1 → EvD tw σ H1 d) (sd : SeqAt.shaped d = true) (hr : PyData.eqv d d = true) (hz : kvs.length < 900000) (ht : tupD d = true) (hu : ∀ u, valV kvs k = some u → Rp H u d)
    (k1 : ∀ H1, Ex H H1 → D.nx σ H1) (k2 : valV kvs k = none → ∀ v H1 H2, Ex H H1 → Rp H1 v d → Dd P w H2 a (putK kvs k v) → But [a] H1 H2 → ∀ H3, Ex H2 H3 → D.nx σ H3) : tIfS (tTest (tOp (rNeD K) (tNSet P w td ty tv) tw)) tu tNext D σ H := hd H (Ex.refl _) _ fun H1 e1 => by
  refine ⟨a, kvs, rfl, x.up e1, he H1 e1 _ fun y H2 e2 r2 => hv H2 (e1.trans e2) _ fun v H3 e3 r3 => ?_⟩
  obtain ⟨b, rfl, kb⟩ := ik.at r2
  have e13 := (e1.trans e2).trans e3
  refine ⟨b, k, kvs, rfl, x.up e13, kb.tk (Tk.ex e3), hz, fun u hu' => ?_, fun hn H4 d4 b4 => ?_⟩
  · refine hw H3 (Tk.ex e13) H3 (Ex.refl _) _ fun z H4 e4 r4 => ⟨d, d, ((hu u hu').up (e13.trans e4)).dp d, r4.dp d, sd, sd, false, by rw [hr]; rfl, ?_⟩
    exact k1 H4 (e13.trans e4)
  · have tk4 := b4.tk (x.up e13).noT
    refine hw H4 ((Tk.ex e13).trans tk4) H4 (Ex.refl _) _ fun z H5 e5 r5 => ⟨d, d, ((Rp.tk tk4 _ ht r3).up e5).dp d, r5.dp d, sd, sd, false, by rw [hr]; rfl, ?_⟩
    exact k2 hn v H3 H4 e13 r3 d4 b4 H5 e5
end
theorem valV_mem {kvs : Tbl} {k : NestedKey} {u : V} (h : valV kvs k = some u) : (k, u) ∈ kvs := by
  induction kvs with
  | nil => cases h
  | cons p kvs ih =>
    by_cases e : p.1 = k
    · rw [valV_pos e] at h
      have h := Option.some.inj h
      rw [← e, ← h]
      exact List.mem_cons_self ..
    · rw [valV_neg e] at h
      exact List.mem_cons_of_mem _ (ih h)
section
variable {P : Program} {w : World} {K : PySem.W.Frag} {mg : Str → Option Value} {base : Heap}
def Rlk (C L : Nat) (ds : List PyData) (d : PyData) : Prop := ∃ k cap n, ds = [dCache k, dI cap, dI n] ∧ Ok C L k ∧ L ≤ 3 ∧ n ≤ 6 ∧ (∀ r r', ages cap r = ages cap r' → views k L r = views k L r') ∧ d = .bool true
theorem ok_law_keeps {C L : Nat} {f : Addr} {fd : FuncData} (F : Fun K "_law_keeps" "_law_keeps" s__law_keeps f fd) (T : Mg mg) (cr : Cal P w K mg base CX0 1 "_law_rows" ["_law_many"] (spM Rlr)) (cw : Cal P w K mg base CX0 1 "_law_walk" ["_law_cache_here", "_law_row"] (spD (Rlw C L))) (ca : Cal P w K mg base CX0 1 "_law_ages" ["_law_row", "_law_cap"] (spD Rla)) : FnOk P w K mg base CX0 2 f fd ["_law_cache_here", "_law_cap", "_law_many"] (spD (Rlk C L)) := by
  refine F.ok sc__law_keeps (fun vs H Q E h => spD_len h fun ds d ⟨k, c, n, e, _⟩ => by rw [e]; rfl) (fun cdv A outer sh H vs Q E hr h => ?_)
  obtain ⟨ds, d, r, ⟨k, cap, n, rfl, o, hL, hn, hk, rfl⟩, q⟩ := h
  cases r with
  | cons r1 r => cases r with
  | cons r2 r => cases r with
  | cons r3 r =>
  cases r
  refine ⟨_, pss_cons (ps_set (i := 3) sc__law_keeps.nd rfl (.inl rfl) pe_nnew)
    (pss_cons (ps_for PassesOwn.never rfl (pi_list (pe_cal cr hr (by decide) (by rfl) (pa_cons (pv 2) pa_nil))) (pg_name (i := 4) sc__law_keeps.nd rfl (.inl rfl))
      (pss_cons (ps_set (i := 5) sc__law_keeps.nd rfl (.inl rfl) (pe_ix ix_tup (pe_cal cw hr (by decide) (by rfl) (pa_cons (pv 0) (pa_cons (pv 4) pa_nil))) pe_int (fun _ _ => rfl)))
      (pss_one (ps_if (pt_cmpR (op_neD (u64 hr)) (pe_nset (u64 hr) (pv 3) (pe_cal ca hr (by decide) (by rfl) (pa_cons (pv 4) (pa_cons (pv 1) pa_nil))) (pv 5) ⟨rfl, rfl, rfl, rfl⟩) (pv 5) (nomark _)) (pss_one (ps_ret pe_bl)) pss_nil))))
    (pss_one (ps_ret pe_bl))), ?_⟩
  refine d_seq (d_new fun dk H1 nd e1 d1 => ?_)
  refine d_seq (d_forM (evm_call (evds_cons (evd_var rfl (r3.up e1)) evds_nil) ⟨n, rfl, hn, rfl⟩) fun p xs es H2 np e2 hx rx ⟨l, el, hl, hall⟩ => ?_)
  subst el
  have d2 := d1.up e2
  have pd : p ≠ dk := d2.ne_lst hx |>.symm
  refine ⟨fun i σ' H' => ∃ a4 a5 kvs, σ' = [some _, some _, some _, some (.ref dk), a4, a5] ∧ But [dk] H2 H' ∧ Dd P w H' dk kvs ∧ kvs.length ≤ i ∧ ∀ z ∈ kvs, ∃ r, z.1 = kNs (ages cap r) ∧ Rp H' z.2 (dNs (views k L r)),
    ⟨none, none, [], rfl, But.refl, d2, Nat.le_refl _, fun z hz => (List.not_mem_nil hz).elim⟩, fun i σ' H' ⟨_, _, _, _, b, _⟩ => b.go (fun z => pd (List.mem_singleton.mp z)) hx, fun i v σ' H' hi ⟨a4, a5, kvs, es, b, dd, hlen, hinv⟩ => ?_, fun σ' H' ⟨a4, a5, kvs, es, b, dd, hlen, hinv⟩ => ?_⟩
  · subst es
    obtain ⟨d, hd, rd⟩ := rx.getV hi
    rw [List.getElem?_map] at hd
    obtain ⟨r0, hr0, rfl⟩ := Option.map_eq_some_iff.mp hd
    have hr0l := hall r0 (List.mem_of_getElem? hr0)
    have hil := (List.getElem?_eq_some_iff.mp hr0).1
    have tk := b.tk d2.noT
    have rv : Rp H' v (dNs r0) := Rp.tk tk _ (tupD_Ns _) rd
    have e02 : Ex H H' := (e1.trans e2).trans_but b nd
    refine d_seq (d_asg (d := dNs (views k L r0)) (evd_ixT (evd_call (evds_cons (evd_var rfl (r1.up e02)) (evds_cons (evd_var rfl rv) evds_nil)) (spD_d ⟨k, r0, rfl, o, hL, by omega, rfl⟩)) evd_int rfl) fun v5 H4 e4 r5 => ?_)
    have dd4 := dd.up e4
    have hadd : ∀ v6 H5 H6 H7, Ex H4 H5 → Rp H5 v6 (dNs (views k L r0)) → But [dk] H5 H6 → Ex H6 H7 → ∀ z ∈ kvs ++ [(kNs (ages cap r0), v6)], ∃ r, z.1 = kNs (ages cap r) ∧ Rp H7 z.2 (dNs (views k L r)) := fun v6 H5 H6 H7 e5 r6 b6 e7 z hz => by
      have tk6 := b6.tk (dd4.up e5).noT
      rcases List.mem_append.mp hz with h | h
      · obtain ⟨r, h1, h2⟩ := hinv z h
        exact ⟨r, h1, (Rp.tk tk6 _ (tupD_Ns _) ((h2.up e4).up e5)).up e7⟩
      · rw [List.mem_singleton.mp h]
        exact ⟨r0, rfl, (Rp.tk tk6 _ (tupD_Ns _) r6).up e7⟩
    refine d_keep (ev_slot rfl) dd4 (evd_call (evds_cons (evd_var rfl (rv.up e4)) (evds_cons (evd_var rfl (r2.up (e02.trans e4))) evds_nil)) (spD_d ⟨dNs r0, r0, cap, rfl, .inr rfl, by omega, rfl⟩)) (isk_Ns _) (evd_var rfl r5) (fun H5 t5 => evd_var rfl (Rp.tk t5 _ (tupD_Ns _) r5)) (shp_Ns _).shaped ((eqv_Ns _ _).trans (decide_eq_true rfl)) (by omega) (tupD_Ns _) (fun u hu => ?_) (fun H5 e5 => ?_) (fun hno v6 H5 H6 e5 r6 d6 b6 H7 e7 => ?_)
    · obtain ⟨r, h1, h2⟩ := hinv _ (valV_mem hu)
      rw [hk r0 r (kNs_inj h1)]
      exact h2.up e4
    · exact ⟨_, _, kvs, rfl, b.trans (But.ex (e4.trans e5)), dd4.up e5, by omega, fun z hz => by
        obtain ⟨r, h1, h2⟩ := hinv z hz
        exact ⟨r, h1, (h2.up e4).up e5⟩⟩
    · rw [putK_new _ hno] at d6
      exact ⟨_, _, _, rfl, ((b.trans (But.ex (e4.trans e5))).trans b6).trans (But.ex e7), d6.up e7, by rw [List.length_append, List.length_singleton]; omega, hadd v6 H5 H6 H7 e5 r6 b6 e7⟩
  · subst es
    exact q _ H' ((e1.trans e2).trans_but b nd) (.bl true)
/-! ### _law_told -/
def Rlt (C L : Nat) (ds : List PyData) (d : PyData) : Prop := ∃ (k : Cache) (t : Nat) (p : Pair), ds = [dCache k, dI t, .tuple [dNs (p.1 ++ [p.2]), dNs (p.1 ++ [nd p.1])]] ∧ Ok C L k ∧ L ≤ 3 ∧ Pr k L p ∧ mc p = t ∧ p.1.length ≤ 3800 ∧ d = .bool true
theorem ok_law_told {C L : Nat} {f : Addr} {fd : FuncData} (F : Fun K "_law_told" "_law_told" s__law_told f fd) (T : Mg mg) (cw : Cal P w K mg base CX0 1 "_law_walk" ["_law_cache_here", "_law_row"] (spD (Rlw C L))) (ca : Cal P w K mg base CX0 1 "_law_ages" ["_law_row", "_law_cap"] (spD Rla)) : FnOk P w K mg base CX0 2 f fd ["_law_cache_here", "_law_cap", "_law_told_here"] (spD (Rlt C L)) := by
  refine F.ok sc__law_told (fun vs H Q E h => spD_len h fun ds d ⟨k, c, n, e, _⟩ => by rw [e]; rfl) (fun cdv A outer sh H vs Q E hr h => ?_)
  obtain ⟨ds, d, r, ⟨k, t, ⟨r0, x⟩, rfl, o, hL, hp, hm, hz, rfl⟩, q⟩ := h
  cases r with
  | cons r1 r => cases r with
  | cons r2 r => cases r with
  | cons r3 r =>
  cases r
  simp only at r3 hz
  refine ⟨_, pss_cons (ps_if (pw_or (pt_not (pt_val (pe_callB call_isi (by rfl) T.isinstance (by decide +kernel) (pa_cons (pv 2) (pa_cons (pe_bltn (v := .ty "tuple") (by rfl) T.tuple (by decide +kernel) rfl) pa_nil)))))
      (pw_or (pt_cmpR op_ne (pe_callB call_len_seq (by rfl) T.len (by decide +kernel) (pa_cons (pv 2) pa_nil)) pe_int (nomark _)) (pw_or1 (pt_cmpR op_ne (pe_callB call_len_seq (by rfl) T.len (by decide +kernel) (pa_cons (pe_ix ix_tup (pv 2) pe_int (fun _ _ => rfl)) pa_nil)) (pe_callB call_len_seq (by rfl) T.len (by decide +kernel) (pa_cons (pe_ix ix_tup (pv 2) pe_int (fun _ _ => rfl)) pa_nil)) (nomark _))))).pt (pss_one (ps_ret pe_bl)) pss_nil)
    (pss_cons (ps_for PassesOwn.never rfl (pi_tup (pv 2)) (pg_name (i := 3) sc__law_told.nd rfl (.inl rfl))
      (pss_one (ps_if (pw_or (pt_not (pt_val (pe_callB call_isi (by rfl) T.isinstance (by decide +kernel) (pa_cons (pv 3) (pa_cons (pe_bltn (v := .ty "tuple") (by rfl) T.tuple (by decide +kernel) rfl) pa_nil)))))
          (pw_or1 (pt_cmpR (op_neD (u64 hr)) (pe_lc (own := [("_law_name", 4)]) (g := gName 4) (tt := tOr (tNot (tB (tCB (rIsi K) (tCons (tVar 4) (tCons (tC (.ty "int")) tNil))))) (tTest (tOp rLtI (tVar 4) (tC (.int 0))))) rfl sc__law_told.nd (pi_tup (pv 3)) (blkOk_by (N := N__law_told) (sc := defScope s__law_told) (by decide +kernel)) (fun _ _ _ _ _ => pg_name (i := 4) sc__law_told.nd rfl (Or.inl rfl))
              (fun _ _ _ _ _ => pts_one (pw_or (pt_not (pt_val (pe_callB (r := rIsi K) call_isi (by rfl) T.isinstance (by decide +kernel) (pa_cons (pv 4) (pa_cons (pe_bltn (v := .ty "int") (by rfl) T.int (by decide +kernel) rfl) pa_nil))))) (pw_or1 (pt_cmpR op_lt (pv 4) pe_int (nomark _)))).pt)
              (fun _ _ _ _ _ => pv 4)) (pe_lst pa_nil) (nomark _)))).pt (pss_one (ps_ret pe_bl)) pss_nil)))
    (pss_cons (ps_if (pt_cmpR (op_neD (u64 hr)) (pe_cal ca hr (by decide) (by rfl) (pa_cons (pe_ix ix_tup (pv 2) pe_int (fun _ _ => rfl)) (pa_cons (pv 1) pa_nil))) (pe_cal ca hr (by decide) (by rfl) (pa_cons (pe_ix ix_tup (pv 2) pe_int (fun _ _ => rfl)) (pa_cons (pv 1) pa_nil))) (nomark _)) (pss_one (ps_ret pe_bl)) pss_nil)
    (pss_one (ps_ret (pe_cmpR (op_neD (u64 hr)) (pe_ix ix_tup (pe_cal cw hr (by decide) (by rfl) (pa_cons (pv 0) (pa_cons (pe_ix ix_tup (pv 2) pe_int (fun _ _ => rfl)) pa_nil))) pe_int (fun _ _ => rfl)) (pe_ix ix_tup (pe_cal cw hr (by decide) (by rfl) (pa_cons (pv 0) (pa_cons (pe_ix ix_tup (pv 2) pe_int (fun _ _ => rfl)) pa_nil))) pe_int (fun _ _ => rfl)) (nomark _)))))), ?_⟩
  have R := run_at o r0
  have hC : ∀ {a b : List Nat}, PyData.eqv (dNs a) (dNs b) = decide (a = b) := fun {a b} => eqv_Ns a b
  have e3 : ∀ {H1 : Hp} {σ : S}, Ex H H1 → σ[2]? = some (some _) → EvD (tVar 2) σ H1 (.tuple [dNs (r0 ++ [x]), dNs (r0 ++ [nd r0])]) := fun e h => evd_var h (r3.up e)
  have len1 : ∀ y : Nat, (r0 ++ [y]).length = r0.length + 1 := fun y => by rw [List.length_append, List.length_singleton]
  -- the first test
  refine d_seq (d_when (b := false) (et_is (et_or (et_not (evt_B (evd_isi (e3 (Ex.refl _) rfl) (isTuple_kit _)))) fun _ => et_or (evt_test ((evd_neI (evd_lenT (e3 (Ex.refl _) rfl)) evd_int).is rfl)) fun _ => evt_test ((evd_neI (evd_lenT (ds := (r0 ++ [x]).map dI) (evd_ixT (e3 (Ex.refl _) rfl) (evd_int (i := 0)) rfl)) (evd_lenT (ds := (r0 ++ [nd r0]).map dI) (evd_ixT (e3 (Ex.refl _) rfl) (evd_int (i := 1)) rfl))).is (e := .bool false) ?g1)) rfl) (fun h => by cases h) (fun _ H1 e1 => ?_))
  case g1 =>
    rw [List.length_map, List.length_map, len1, len1, decide_eq_true rfl]
    rfl
  -- the rows
  obtain ⟨pt, ot, ys, rfl, hpt, hpn, ry⟩ := id (r3.up e1).tup_inv
  refine d_seq (d_forT (ev_slot rfl) ot hpt (fun i σ' H' => ∃ a3, σ' = [some _, some _, some (.ref pt), a3, none] ∧ Ex H1 H') (fun H2 e2 => ⟨none, rfl, e2⟩) (fun i σ' H' ⟨_, _, e⟩ => e _ _ hpt) (fun i v σ' H2 hi ⟨a3, es, e2⟩ => ?_) (fun σ' H2 ⟨a3, es, e2⟩ => ?_))
  · subst es
    obtain ⟨d, hd, rd⟩ := ry.getV hi
    obtain ⟨r', er⟩ : ∃ r' : List Nat, d = dNs r' ∧ r'.length ≤ 4000 := by
      match i, hd with
      | 0, hd => exact ⟨_, (Option.some.inj hd).symm, by rw [len1]; omega⟩
      | 1, hd => exact ⟨_, (Option.some.inj hd).symm, by rw [len1]; omega⟩
      | n + 2, hd => cases hd
    obtain ⟨rfl, hrl⟩ := er
    have rv := rd.up e2
    refine d_when (b := false) (et_is (et_or (et_not (evt_B (evd_isi (evd_var rfl rv) (isTuple_kit _)))) fun _ => evt_test ((evd_neD (EvN.toD (evn_lcT (vs := [4]) (fun _ => false) (fun d => d) (evd_var rfl rv) (by rw [List.length_map]; omega) (fun _ _ h => by cases h) (fun _ => rfl) (fun d v4 H3 hd3 e3' rv4 => ⟨?g2, fun h => by cases h⟩))) (EvN.toD (evn_lst evds_nil)) ?g3 rfl).is (e := .bool false) ?g4)) rfl) (fun h => by cases h) (fun _ H3 e3' => ⟨_, rfl, e2.trans e3'⟩)
    case g2 =>
      obtain ⟨n, _, rfl⟩ := List.mem_map.mp hd3
      exact et_is (et_or (et_not (evt_B (evd_isi (evd_var rfl rv4) (isInt_kit _)))) fun _ => evt_test ((evd_lt (evd_var rfl rv4) evd_int).is (congrArg PyData.bool (decide_eq_false (by omega))))) rfl
    case g3 =>
      have : ((r'.map dI).filter fun _ => false).map (fun d => d) = [] := by simp
      rw [this]
      rfl
    case g4 =>
      have : ((r'.map dI).filter fun _ => false).map (fun d => d) = [] := by simp
      rw [this]
      rfl
  · subst es
    have e02 := e1.trans e2
    have ht3 : ∀ {H3 : Hp} {σ : S}, Ex H2 H3 → σ[2]? = some (some (.ref pt)) → EvD (tVar 2) σ H3 (.tuple [dNs (r0 ++ [x]), dNs (r0 ++ [nd r0])]) := fun e h => evd_var h (r3.up (e02.trans e))
    -- ages: equal
    have hxr : x ∈ r0 := held_mem o hp
    have hage : ages t (r0 ++ [x]) = ages t (r0 ++ [nd r0]) := by
      rw [ages_snoc, ages_snoc]
      congr 2
      unfold age
      rw [if_pos hxr, if_neg hp.can.new]
      have : (met r0 x).length = t := hm
      omega
    refine d_seq (d_when (b := false) (evt_test ((evd_neD (d := dNs (ages t (r0 ++ [x]))) (e := dNs (ages t (r0 ++ [nd r0]))) (evd_call (evds_cons (d := dNs (r0 ++ [x])) (evd_ixT (ht3 (Ex.refl _) rfl) (evd_int (i := 0)) rfl) (evds_cons (evd_var rfl (r2.up e02)) evds_nil)) (spD_d ⟨_, r0 ++ [x], t, rfl, .inr rfl, by rw [len1]; omega, rfl⟩)) (evd_call (evds_cons (d := dNs (r0 ++ [nd r0])) (evd_ixT (ht3 (Ex.refl _) rfl) (evd_int (i := 1)) rfl) (evds_cons (evd_var rfl (r2.up e02)) evds_nil)) (spD_d ⟨_, r0 ++ [nd r0], t, rfl, .inr rfl, by rw [len1]; omega, rfl⟩)) (shp_Ns _).shaped (shp_Ns _).shaped).is (congrArg PyData.bool (by rw [hC, decide_eq_true hage]; rfl)))) (fun h => by cases h) (fun _ H3 e3' => ?_))
    -- views: unlike
    have hv : views k L (r0 ++ [x]) ≠ views k L (r0 ++ [nd r0]) := by
      rw [views_snoc, views_snoc, go_hit hp.held, go_miss (new_out o hp.can)]
      intro h
      have := List.append_cancel_left h
      cases this
    exact d_ret (d := .bool true) ((evd_neD (d := dNs (views k L (r0 ++ [x]))) (e := dNs (views k L (r0 ++ [nd r0]))) (evd_ixT (evd_call (evds_cons (evd_var rfl (r1.up (e02.trans e3'))) (evds_cons (d := dNs (r0 ++ [x])) (evd_ixT (ht3 e3' rfl) (evd_int (i := 0)) rfl) evds_nil)) (spD_d ⟨k, r0 ++ [x], rfl, o, hL, by rw [len1]; omega, rfl⟩)) evd_int rfl) (evd_ixT (evd_call (evds_cons (evd_var rfl (r1.up (e02.trans e3'))) (evds_cons (d := dNs (r0 ++ [nd r0])) (evd_ixT (ht3 e3' rfl) (evd_int (i := 1)) rfl) evds_nil)) (spD_d ⟨k, r0 ++ [nd r0], rfl, o, hL, by rw [len1]; omega, rfl⟩)) evd_int rfl) (shp_Ns _).shaped (shp_Ns _).shaped).is (congrArg PyData.bool (by rw [hC, decide_eq_false hv]; rfl))) fun v H4 e4 rv => q v H4 ((e02.trans e3').trans e4) rv
end
end K48
/-! The law's deal: _law_any, _law_of. -/
namespace K48
open PySem L2 Evl K48M
/-- a deal at d: its cells at p, its number -/
def DealAt (H : Hp) (d p : Addr) : Prop := ∃ (cs : List Int) (b : Int), H d = some (.lst [.ref p, .int b]) ∧ H p = some (.lst (cs.map V.int)) ∧ d ≠ p ∧ cs.length ≤ 48
theorem DealAt.up {H H' : Hp} {d p : Addr} (x : DealAt H d p) (e : Ex H H') : DealAt H' d p := by
  obtain ⟨cs, b, h1, h2, h3, h4⟩ := x
  exact ⟨cs, b, e _ _ h1, e _ _ h2, h3, h4⟩
theorem DealAt.noT {H : Hp} {d p : Addr} (x : DealAt H d p) : NoT [d, p] H := by
  obtain ⟨cs, b, h1, h2, h3, h4⟩ := x
  exact noT_two (noT_one h1) (noT_one h2)
section
variable {K : PySem.W.Frag} {w : World} {σ : S} {H H' : Hp} {ta tb tc te to ti : TE} {D : Ends} {ds es : List PyData} {d e : PyData}
theorem evd_rI {C : Int → Int → Prop} {g : Int → Int → V} {i j m : Int} (ha : EvD ta σ H (.int i)) (hb : EvD tb σ H (.int j)) (hc : C i j) (hg : g i j = .int m) : EvD (tOp (rI C g) ta tb) σ H (.int m) := evd_op ha hb fun x y H1 _ rx ry Q q => by
  rw [rx.int_inv, ry.int_inv]
  refine ⟨i, j, rfl, rfl, hc, ?_⟩
  rw [hg]
  exact q _ H1 (Ex.refl _) (.int m)
theorem evd_int1 {i : Int} (ha : EvD ta σ H (.int i)) : EvD (tCB (fun xs H Q => (∃ i, xs = [V.int i] ∧ Q (.int i) H) ∨ ∃ k, xs = [V.bl k] ∧ Q (.int (if k then 1 else 0)) H) (tCons ta tNil)) σ H (.int i) := evd_cb (evds_cons ha evds_nil) fun vs H1 _ r Q q => by
  cases r with
  | cons r1 r =>
  cases r
  rw [r1.int_inv]
  exact .inl ⟨i, rfl, q _ H1 (Ex.refl _) (.int i)⟩
theorem ev_ixL {l : Addr} {xs : List V} {i : Int} {v : V} (ha : Ev ta σ H (.ref l)) (hl : H l = some (.lst xs)) (hb : EvD tb σ H (.int i)) (h : L2.atI xs i = some v) : Ev (tOp (rIxL K) ta tb) σ H v := fun H1 a Q q => ha H1 a _ fun H2 e2 => hb H2 (a.trans e2) _ fun y H3 e3 r3 => by
  rw [r3.int_inv]
  exact ⟨l, xs, i, v, rfl, rfl, sq_of (e3 _ _ (e2 _ _ (a _ _ hl))), h, q H3 (e2.trans e3)⟩
theorem d_pop {l : Addr} {xs : List V} {y : V} (ho : Ev to σ H (.ref l)) (hl : H l = some (.lst (xs ++ [y]))) (k : ∀ H1, Ex H H1 → D.nx σ (upd H1 l (.lst xs))) : tDrop (tBM0 K "list" rPop to) D σ H := ho H (Ex.refl _) _ fun H1 e1 => by
  have h1 := e1 _ _ hl
  refine ⟨.inl ⟨rfl, _, sq_of h1⟩, l, xs ++ [y], y, rfl, rfl, h1, ?_, ?_⟩
  · rw [List.length_append, List.length_singleton, Nat.add_sub_cancel, List.getElem?_append_right (Nat.le_refl _)]
    simp
  · rw [List.dropLast_concat]
    exact k H1 e1
theorem d_asgPop {i : Nat} {l : Addr} {xs : List V} {c : Int} (ho : Ev to σ H (.ref l)) (hl : H l = some (.lst (xs ++ [.int c]))) (k : ∀ H1, Ex H H1 → D.nx (σ.set i (some (.int c))) (upd H1 l (.lst xs))) :
    tAsg (tCB (fun xs H Q => (∃ i, xs = [V.int i] ∧ Q (.int i) H) ∨ ∃ k, xs = [V.bl k] ∧ Q (.int (if k then 1 else 0)) H) (tCons (tBM0 K "list" rPop to) tNil)) (gName i) D σ H := ho H (Ex.refl _) _ fun H1 e1 => by
  have h1 := e1 _ _ hl
  refine ⟨.inl ⟨rfl, _, sq_of h1⟩, l, xs ++ [.int c], .int c, rfl, rfl, h1, ?_, ?_⟩
  · rw [List.length_append, List.length_singleton, Nat.add_sub_cancel, List.getElem?_append_right (Nat.le_refl _)]
    simp
  · rw [List.dropLast_concat]
    exact .inl ⟨c, rfl, k H1 e1⟩
end
theorem shp_ints (cs : List Int) : ∀ d ∈ cs.map PyData.int, Shp 0 d := fun d hd => by
  obtain ⟨i, _, rfl⟩ := List.mem_map.mp hd
  exact shp_int i
def spAny : Sp := fun vs H Q _ => ∃ (d p : Addr) (n : Nat), vs = [.ref d, .int n] ∧ 1 ≤ n ∧ n ≤ 1000 ∧ DealAt H d p ∧ ∀ (i : Nat) H', i < n → But [d, p] H H' → DealAt H' d p → Q (.int i) H'
section
variable {P : Program} {w : World} {K : PySem.W.Frag} {mg : Str → Option Value} {base : Heap}
theorem ok_law_any {f : Addr} {fd : FuncData} (F : Fun K "_law_any" "_law_any" s__law_any f fd) (T : Mg mg) : FnOk P w K mg base CX0 1 f fd ["_law_deal", "_law_bound"] spAny := by
  refine F.ok sc__law_any (fun vs H Q E h => ?_) (fun cdv A outer sh H vs Q E hr h => ?_)
  · obtain ⟨d, p, n, rfl, _⟩ := h
    rfl
  obtain ⟨d, p, n, rfl, hn1, hn2, ⟨cs, b, hd, hp, hdp, hcs⟩, q⟩ := h
  refine ⟨_, pss_cons (ps_while PassesOwn.never (pw_and (pt_cmpR (op_neD (u64 hr)) (pe_ix ix_list (pv 0) pe_int (fun _ _ => rfl)) (pe_lst pa_nil) (nomark _)) (pw_and1 (pt_cmpR op_eq (pe_ix ix_list (pe_ix ix_list (pv 0) pe_int (fun _ _ => rfl)) (pe_un un_neg pe_int) (fun _ _ => rfl)) pe_int (nomark _)))).pt
      (pss_one (ps_expr (pe_bm0 PySem.F.plainAttrs_list PySem.F.slot_list_pop PySem.F.type_list_pop mt_pop (pe_ix ix_list (pv 0) pe_int (fun _ _ => rfl))))))
    (pss_cons (ps_if (pt_cmpR (op_neD (u64 hr)) (pe_ix ix_list (pv 0) pe_int (fun _ _ => rfl)) (pe_lst pa_nil) (nomark _))
      (pss_cons (ps_set (i := 2) sc__law_any.nd rfl (.inl rfl) (pe_callTy call_int1 (by rfl) T.int (by decide +kernel) (pa_cons (pe_bm0 PySem.F.plainAttrs_list PySem.F.slot_list_pop PySem.F.type_list_pop mt_pop (pe_ix ix_list (pv 0) pe_int (fun _ _ => rfl))) pa_nil)))
      (pss_cons (ps_expr (pe_bm PySem.F.plainAttrs_list PySem.F.slot_list_append PySem.F.type_list_append mt_append (pe_ix ix_list (pv 0) pe_int (fun _ _ => rfl)) (pa_cons (pe_op op_fdiv (pv 2) (pv 1)) pa_nil)))
      (pss_one (ps_ret (pe_op op_mod (pv 2) (pv 1)))))) pss_nil)
    (pss_cons (ps_asg (pe_op op_mod (pe_callTy call_int1 (by rfl) T.int (by decide +kernel) (pa_cons (pe_op op_add (pe_op op_mul (pe_ix ix_list (pv 0) pe_int (fun _ _ => rfl)) pe_int) pe_int) pa_nil)) pe_int) (pg_sub (pv 0) pe_int set_list))
    (pss_one (ps_ret (pe_op op_mod (pe_callTy call_int1 (by rfl) T.int (by decide +kernel) (pa_cons (pe_op op_fdiv (pe_ix ix_list (pv 0) pe_int (fun _ _ => rfl)) pe_int) pa_nil)) (pv 1)))))), ?_⟩
  have data : ∀ {H1 : Hp} {cs : List Int} {b : Int}, H1 d = some (.lst [.ref p, .int b]) → H1 p = some (.lst (cs.map V.int)) → Rp H1 (.ref d) (.list [.list (cs.map .int), .int b]) := fun h1 h2 => .lst h1 (.cons (.lst h2 (Rps.of_ints _)) (.cons (.int _) .nil))
  have cells : ∀ {H1 : Hp} {cs : List Int} {b : Int} {σ : S}, H1 d = some (.lst [.ref p, .int b]) → H1 p = some (.lst (cs.map V.int)) → σ[0]? = some (some (.ref d)) → EvD (tOp (rIxL K) (tVar 0) (tC (.int 0))) σ H1 (.list (cs.map .int)) := fun h1 h2 h3 => evd_ixL (evd_var h3 (data h1 h2)) evd_int rfl
  have cref : ∀ {H1 : Hp} {b : Int} {σ : S}, H1 d = some (.lst [.ref p, .int b]) → σ[0]? = some (some (.ref d)) → Ev (tOp (rIxL K) (tVar 0) (tC (.int 0))) σ H1 (.ref p) := fun h1 h3 => ev_ixL (ev_slot h3) h1 evd_int rfl
  have bd : ∀ {H1 : Hp} {o : HO}, But [d, p] H1 (upd H1 d o) := fun {H1 o} => But.upd (List.mem_cons_self ..)
  have bp : ∀ {H1 : Hp} {o : HO}, But [d, p] H1 (upd H1 p o) := fun {H1 o} => But.upd (List.mem_cons_of_mem _ (List.mem_cons_self ..))
  have neC : ∀ {H1 : Hp} {cs : List Int} {b : Int} {σ : S}, H1 d = some (.lst [.ref p, .int b]) → H1 p = some (.lst (cs.map V.int)) → σ[0]? = some (some (.ref d)) → EvT (tTest (tOp (rNeD K) (tOp (rIxL K) (tVar 0) (tC (.int 0))) (tLst tNil))) σ H1 (decide (cs ≠ [])) := fun {H1 cs b σ} h1 h2 h3 => evt_test ((evd_neD (cells h1 h2 h3) (EvN.toD (evn_lst evds_nil)) (shp_lst (shp_ints cs)).shaped rfl).is (congrArg PyData.bool (by rw [eqv_nil]; cases cs <;> rfl)))
  have hlast : ∀ {cs : List Int} {H1 : Hp} {b : Int} {σ : S} {c : Int}, H1 d = some (.lst [.ref p, .int b]) → H1 p = some (.lst ((cs ++ [c]).map V.int)) → σ[0]? = some (some (.ref d)) → EvD (tOp (rIxL K) (tOp (rIxL K) (tVar 0) (tC (.int 0))) (tUn (rU fun i => .int (-i)) (tC (.int 1)))) σ H1 (.int c) := fun {cs H1 b σ c} h1 h2 h3 => evd_ixL (cells h1 h2 h3) (evd_neg evd_int) (by rw [List.map_append]; exact atI_last _ _)
  refine d_seq (d_while (fun m σ' H' => ∃ cs b a2, σ' = [some (.ref d), some (.int n), a2] ∧ But [d, p] H H' ∧ H' d = some (.lst [.ref p, .int b]) ∧ H' p = some (.lst (cs.map V.int)) ∧ cs.length ≤ 48 ∧ m = cs.length) cs.length
    ⟨cs, b, none, rfl, But.refl, hd, hp, hcs, rfl⟩ fun m σ' H' ⟨cs, b, a2, es, bb, hd1, hp1, hcs, hm⟩ => ?_)
  subst es
  obtain ⟨t, ht1, ht2⟩ : ∃ t, EvT (tAnd (tTest (tOp (rNeD K) (tOp (rIxL K) (tVar 0) (tC (.int 0))) (tLst tNil))) (tTest (tOp rEq (tOp (rIxL K) (tOp (rIxL K) (tVar 0) (tC (.int 0))) (tUn (rU fun i => .int (-i)) (tC (.int 1)))) (tC (.int 0))))) [some (.ref d), some (.int n), a2] H' t ∧ (t = true → ∃ cs' c, cs = cs' ++ [c]) := by
    rcases nil_or_snoc cs with rfl | ⟨cs', c, rfl⟩
    · exact ⟨false, et_and (b := false) (a := decide (([] : List Int) ≠ [])) (neC hd1 hp1 rfl) (fun h => by cases h), fun h => by cases h⟩
    · exact ⟨_, et_and (neC hd1 hp1 rfl) (fun _ => evt_test (evd_eqI (hlast hd1 hp1 rfl) evd_int)), fun _ => ⟨cs', c, rfl⟩⟩
  refine ⟨t, ht1, fun hb H1 e1 => ?_, fun hb H1 e1 => ?_⟩
  · obtain ⟨cs', c, rfl⟩ := ht2 hb
    refine ⟨_, fun _ _ z => z, ?_⟩
    refine d_pop (l := p) (xs := cs'.map V.int) (y := .int c) (cref (e1 _ _ hd1) rfl) (by
      have := e1 _ _ hp1
      rw [List.map_append] at this
      exact this) fun H2 e2 => ?_
    refine ⟨cs'.length, by rw [hm, List.length_append, List.length_singleton]; omega, cs', b, a2, rfl, (bb.trans (But.ex (e1.trans e2))).trans bp, ?_, upd_same, by rw [List.length_append] at hcs; omega, rfl⟩
    rw [upd_ne hdp]
    exact e2 _ _ (e1 _ _ hd1)
  · have hd2 := e1 _ _ hd1
    have hp2 := e1 _ _ hp1
    refine d_seq (d_when (neC hd2 hp2 rfl) (fun hb2 H2 e2 => ?_) (fun hb2 H2 e2 => ?_))
    · have hne : cs ≠ [] := of_decide_eq_true hb2
      obtain ⟨cs', c, rfl⟩ : ∃ cs' c, cs = cs' ++ [c] := by
        rcases nil_or_snoc cs with h | h
        · exact absurd h hne
        · exact h
      refine d_seq (d_asgPop (l := p) (xs := cs'.map V.int) (c := c) (cref (e2 _ _ hd2) rfl) (by
        have := e2 _ _ hp2
        rw [List.map_append] at this
        exact this) fun H3 e3 => ?_)
      have hd4 : (upd H3 p (.lst (cs'.map V.int))) d = some (.lst [.ref p, .int b]) := by
        rw [upd_ne hdp]
        exact e3 _ _ (e2 _ _ hd2)
      refine d_seq (d_app (l := p) (xs := cs'.map V.int) upd_same (cref hd4 rfl) (d := .int (c / (n : Int))) (evd_rI (i := c) (j := (n : Int)) (evd_var rfl (.int _)) (evd_var rfl (.int _)) ⟨by omega, by omega⟩ rfl) (by rw [List.length_map]; rw [List.length_append] at hcs; omega) fun v H5 e5 r5 => ?_)
      have hd6 : (upd H5 p (.lst (cs'.map V.int ++ [v]))) d = some (.lst [.ref p, .int b]) := by
        rw [upd_ne hdp]
        exact e5 _ _ hd4
      have ev := r5.int_inv
      subst ev
      have h0 : 0 ≤ c % (n : Int) := Int.emod_nonneg c (by omega)
      have h1 : c % (n : Int) < n := Int.emod_lt_of_pos c (by omega)
      refine d_ret (d := .int (c % (n : Int))) (evd_rI (i := c) (j := (n : Int)) (evd_var rfl (.int _)) (evd_var rfl (.int _)) (by show (0 : Int) < n; omega) rfl) fun v H7 e7 r7 => ?_
      rw [r7.int_inv]
      have e8 : c % (n : Int) = ((c % (n : Int)).toNat : Int) := (Int.toNat_of_nonneg h0).symm
      rw [e8]
      refine q _ H7 (by omega) (((((bb.trans (But.ex (e1.trans (e2.trans e3)))).trans bp).trans (But.ex e5)).trans bp).trans (But.ex e7)) ⟨cs' ++ [c / (n : Int)], b, e7 _ _ hd6, ?_, hdp, by rw [List.length_append, List.length_singleton] at hcs ⊢; exact hcs⟩
      rw [List.map_append]
      exact e7 _ _ upd_same
    · have hd3 := e2 _ _ hd2
      have hp3 := e2 _ _ hp2
      refine d_seq (d_setL (l := d) (j := 1) hd3 (d := .int ((b * 40693 + 71) % 2147483647)) (evd_rI (i := b * 40693 + 71) (j := 2147483647) (evd_int1 (evd_add (evd_rI (i := b) (j := 40693) (m := b * 40693) (evd_ixL (evd_var rfl (data hd3 hp3)) evd_int rfl) evd_int (.inr ⟨by decide, by decide⟩) rfl) evd_int)) evd_int (by decide) rfl) (ev_slot rfl) evd_int (Nat.lt_of_succ_le (Nat.le_of_ble_eq_true rfl)) fun v H4 e4 r4 => ?_)
      have ev := r4.int_inv
      subst ev
      generalize hb' : (b * 40693 + 71) % 2147483647 = b' at r4
      have hd5 : (upd H4 d (.lst (([V.ref p, V.int b] : List V).set 1 (.int b')))) d = some (.lst [.ref p, .int b']) := upd_same
      have hp5 : (upd H4 d (.lst (([V.ref p, V.int b] : List V).set 1 (.int b')))) p = some (.lst (cs.map V.int)) := by
        rw [upd_ne (Ne.symm hdp)]
        exact e4 _ _ hp3
      have h0 : 0 ≤ b' / 64 % (n : Int) := Int.emod_nonneg _ (by omega)
      have h1 : b' / 64 % (n : Int) < n := Int.emod_lt_of_pos _ (by omega)
      refine d_ret (d := .int (b' / 64 % (n : Int))) (evd_rI (i := b' / 64) (j := (n : Int)) (evd_int1 (evd_rI (i := b') (j := 64) (m := b' / 64) (evd_ixL (evd_var rfl (data hd5 hp5)) evd_int rfl) evd_int ⟨by decide, by decide⟩ rfl)) (evd_var rfl (.int _)) (by show (0 : Int) < n; omega) rfl) fun v H7 e7 r7 => ?_
      rw [r7.int_inv]
      have e8 : b' / 64 % (n : Int) = ((b' / 64 % (n : Int)).toNat : Int) := (Int.toNat_of_nonneg h0).symm
      rw [e8]
      exact q _ H7 (by omega) (((bb.trans (But.ex (e1.trans (e2.trans e4)))).trans bd).trans (But.ex e7)) ⟨cs, b', e7 _ _ hd5, e7 _ _ hp5, hdp, hcs⟩
end
end K48
/-! _law_of, _law_draw. -/
namespace K48
open PySem L2 Evl K48M
section
variable {K : PySem.W.Frag} {w : World} {σ : S} {H H' : Hp} {ta tb tc te to ti tn : TE} {D : Ends} {ds es : List PyData} {d e : PyData}
theorem any_call {i : Nat} {dl p : Addr} {n : Nat} {Q : VK} (h0 : σ[i]? = some (some (.ref dl))) (hn : EvD tn σ H (.int (n : Int))) (h1 : 1 ≤ n) (h2 : n ≤ 1000) (x : DealAt H dl p) (k : ∀ (j : Nat) H', j < n → But [dl, p] H H' → DealAt H' dl p → Q (.int j) H') : tCall spAny [] E0 (tCons (tVar i) (tCons tn tNil)) σ H Q :=
  ⟨.ref dl, h0, hn H (Ex.refl _) _ fun v H2 e2 r2 => ⟨dl, p, n, by rw [r2.int_inv]; rfl, h1, h2, x.up e2, fun j H' hj b d' => k j H' hj ((But.ex e2).trans b) d'⟩⟩
theorem evd_lenV {l : Addr} {xs : List V} (h : Ev ta σ H (.ref l)) (hl : H l = some (.lst xs)) : EvD (tCB (rLenQ K) (tCons ta tNil)) σ H (.int (xs.length : Nat)) := fun H1 a Q q => h H1 a _ fun H2 e2 => ⟨l, xs, rfl, .inl (sq_of (e2 _ _ (a _ _ hl))), q _ H2 e2 (.int _)⟩
/-- xs[lo:hi], a list or a literal one, of ints -/
theorem evn_slQ {tl th : TO} {a : Addr} {ns : List Int} {lo hi : Option Int} (h : Ev te σ H (.ref a)) (hs : SqL K H a (ns.map V.int)) (h1 : EvdO tl σ H lo) (h2 : EvdO th σ H hi) : EvN (tSl (rSlL K) te tl th) σ H ((cutD ns lo hi).map .int) := fun H1 a1 Q q =>
  h H1 a1 _ fun H2 e2 => h1 H2 (a1.trans e2) _ fun H3 e3 => h2 H3 ((a1.trans e2).trans e3) _ fun H4 e4 => by
    refine ⟨a, ns.map V.int, rfl, ex_l (((a1.trans e2).trans e3).trans e4) hs, fun p hp => ?_⟩
    have e5 : Ex H4 (upd H4 p (.lst (cutV (ns.map V.int) lo hi))) := Ex.new hp
    refine q p _ _ (fresh_back ((e2.trans e3).trans e4) hp) (((e2.trans e3).trans e4).trans e5) upd_same ?_
    have : cutV (ns.map V.int) lo hi = (cutD ns lo hi).map V.int := by
      unfold cutV cutD
      rw [List.map_take, List.map_drop, List.length_map]
    rw [this]
    exact Rps.of_ints _
end
theorem evd_abs {σ : S} {H : Hp} {ta : TE} {i : Int} (ha : EvD ta σ H (.int i)) : EvD (tCB (fun xs H Q => ∃ i, xs = [V.int i] ∧ Q (.int (if i < 0 then -i else i)) H) (tCons ta tNil)) σ H (.int (if i < 0 then -i else i)) := evd_cb (evds_cons ha evds_nil) fun vs H1 _ r Q q => by
  cases r with
  | cons r1 r =>
  cases r
  rw [r1.int_inv]
  exact ⟨i, rfl, q _ H1 (Ex.refl _) (.int _)⟩
theorem d_retRev {K : PySem.W.Frag} {σ : S} {H : Hp} {te tb : TE} {D : Ends} {bs : List Int} {b : Int} (h : EvN te σ H (bs.map .int)) (h2 : EvD tb σ H (.int b)) (k : ∀ d p H', H d = none → H p = none → d ≠ p → Ex H H' → H' d = some (.lst [.ref p, .int b]) → H' p = some (.lst (bs.reverse.map V.int)) → D.rt (.ref d) H') : tRet (tLst (tCons (tRevL K te) (tCons tb tNil))) D σ H := h H (Ex.refl H) _ fun p0 xs H1 n0 e1 h1 r1 => by
  have ey := rps_ints r1
  subst ey
  refine ⟨p0, _, rfl, sq_of h1, fun p1 hp1 => ?_⟩
  have e2 : Ex H1 (upd H1 p1 (.lst (bs.map V.int).reverse)) := Ex.new hp1
  refine h2 _ (e1.trans e2) _ fun v H3 e3 r3 => ⟨sz_of (Nat.le_of_ble_eq_true rfl), fun d hd => ?_⟩
  have ev := r3.int_inv
  subst ev
  have e4 : Ex H3 (upd H3 d (.lst [.ref p1, .int b])) := Ex.new hd
  refine k d p1 _ (fresh_back ((e1.trans e2).trans e3) hd) (fresh_back e1 hp1) (fun z => ?_) (((e1.trans e2).trans e3).trans e4) upd_same ?_
  · have := e3 _ _ (upd_same (H := H1) (a := p1) (o := .lst (bs.map V.int).reverse))
    rw [z, this] at hd
    cases hd
  · rw [List.map_reverse]
    exact e4 _ _ (e3 _ _ upd_same)
def bigP : PyData → Bool
  | .int i => decide ((10 : Int) ^ 18 ≤ i)
  | _ => false
def spOf : Sp := fun vs H Q _ => ∃ (d p s : Addr) (xs : List V), vs = [.ref d, .ref s] ∧ H s = some (.lst xs) ∧ 1 ≤ xs.length ∧ xs.length ≤ 1000 ∧ s ≠ d ∧ s ≠ p ∧ DealAt H d p ∧ ∀ (j : Nat) v H', xs[j]? = some v → But [d, p] H H' → DealAt H' d p → Q v H'
section
variable {P : Program} {w : World} {K : PySem.W.Frag} {mg : Str → Option Value} {base : Heap}
theorem ok_law_of {f : Addr} {fd : FuncData} (F : Fun K "_law_of" "_law_of" s__law_of f fd) (T : Mg mg) (ca : Cal P w K mg base CX0 1 "_law_any" ["_law_deal", "_law_bound"] spAny) : FnOk P w K mg base CX0 2 f fd ["_law_deal", "_law_some"] spOf := by
  refine F.ok sc__law_of (fun vs H Q E h => ?_) (fun cdv A outer sh H vs Q E hr h => ?_)
  · obtain ⟨d, p, s, xs, rfl, _⟩ := h
    rfl
  obtain ⟨d, p, s, xs, rfl, hs, hn1, hn2, hsd, hsp, hd, q⟩ := h
  refine ⟨_, pss_one (ps_ret (pe_ix ix_list (pv 1) (pe_cal ca hr (by decide) (by rfl) (pa_cons (pv 0) (pa_cons (pe_callB call_len_seq (by rfl) T.len (by decide +kernel) (pa_cons (pv 1) pa_nil)) pa_nil))) (fun _ _ => rfl))), ?_⟩
  refine ⟨.ref s, rfl, any_call (n := xs.length) rfl (evd_lenV (ev_slot rfl) hs) hn1 hn2 hd fun j H' hj b d' => ?_⟩
  have hs' : H' s = some (.lst xs) := b.go (fun z => by
    rcases List.mem_cons.mp z with z | z
    · exact hsd z
    · exact hsp (List.mem_singleton.mp z)) hs
  exact ⟨s, xs, j, xs[j], rfl, rfl, sq_of hs', atI_nat' (List.getElem?_eq_getElem hj), q j _ H' (List.getElem?_eq_getElem hj) b d'⟩
/-! ### _law_draw -/
def spDraw (K : PySem.W.Frag) : Sp := fun vs H Q _ => ∃ (a : Addr) (ns : List Int), vs = [.ref a, .int 48] ∧ SqL K H a (ns.map V.int) ∧ ns.length ≤ 63 ∧ ∀ (d p : Addr) H', H d = none → H p = none → Ex H H' → DealAt H' d p → Q (.ref d) H'
theorem ok_law_draw {f : Addr} {fd : FuncData} (F : Fun K "_law_draw" "_law_draw" s__law_draw f fd) (T : Mg mg) : FnOk P w K mg base CX0 1 f fd ["_law_script", "_law_salt"] (spDraw K) := by
  refine F.ok sc__law_draw (fun vs H Q E h => ?_) (fun cdv A outer sh H vs Q E hr h => ?_)
  · obtain ⟨a, ns, rfl, _⟩ := h
    rfl
  obtain ⟨a, ns, rfl, hs, hl, q⟩ := h
  refine ⟨_, pss_cons (ps_setLc (i := 3) (own := [("_law_cell", 2)]) (g := gName 2) (tt := tYes) rfl sc__law_draw.nd rfl rfl (sw_true rfl rfl rfl rfl) (pi_list (pe_slice sl_list (pv 0) po_none (po_some pe_int))) (blkOk_by (N := N__law_draw) (sc := defScope s__law_draw) (by decide +kernel)) (fun _ _ _ _ _ => pg_name (i := 2) sc__law_draw.nd rfl (Or.inl rfl)) (fun _ _ _ _ _ => pts_nil)
      (fun _ _ _ _ _ => pe_callB call_abs (by rfl) T.abs (by decide +kernel) (pa_cons (pe_callTy call_int1 (by rfl) T.int (by decide +kernel) (pa_cons (pv 2) pa_nil)) pa_nil)))
    (pss_cons (ps_set (i := 4) sc__law_draw.nd rfl (.inl rfl) (pe_op op_add pe_int (pe_op op_mul pe_int (pv 1))))
    (pss_cons (ps_for PassesOwn.never rfl (pi_list (pv 3)) (pg_name (i := 2) sc__law_draw.nd rfl (.inl rfl))
      (pss_one (ps_set (i := 4) sc__law_draw.nd rfl (.inl rfl) (pe_op op_mod (pe_callTy call_int1 (by rfl) T.int (by decide +kernel) (pa_cons (pe_op op_add (pe_op op_add (pe_op op_mul (pv 4) pe_int) (pe_op op_mod (pv 2) pe_int)) pe_int) pa_nil)) pe_int))))
    (pss_one (ps_ret (pe_lst (pa_cons (pe_revL (pe_lc (own := [("_law_cell", 2)]) (g := gName 2) (tt := tTest (tOp rGeI (tVar 2) (tOp (rI CPow fun i j => .int (i ^ j.toNat)) (tC (.int 10)) (tC (.int 18))))) rfl sc__law_draw.nd (pi_list (pv 3)) (blkOk_by (N := N__law_draw) (sc := defScope s__law_draw) (by decide +kernel)) (fun _ _ _ _ _ => pg_name (i := 2) sc__law_draw.nd rfl (Or.inl rfl))
        (fun _ _ _ _ _ => pts_one (pt_cmpR op_ge (pv 2) (pe_op op_pow pe_int pe_int) (nomark _))) (fun _ _ _ _ _ => pv 2))) (pa_cons (pv 4) pa_nil))))))), ?_⟩
  have hcut : (cutD ns none (some (48 : Int))).length ≤ 48 := by
    unfold cutD
    have h1 : HT.sIx ns.length 0 none = 0 := rfl
    have h2 : HT.sIx ns.length ns.length (some (48 : Int)) = min 48 ns.length := sIx_nat' _ _ 48
    rw [h1, h2, List.drop_zero, List.length_take]
    omega
  generalize hcs : cutD ns none (some (48 : Int)) = cs at hcut
  refine d_seq (d_asgN (evn_mapLe (vs := [2]) cs PyData.int (fun i => .int (if i < 0 then -i else i)) ((EvN.toD (evn_slQ (ev_slot rfl) hs evdo_none (evdo_some evd_int))).is (by rw [hcs])) (by omega) (fun _ _ => rfl) (fun _ => rfl) (fun i v H2 _ e2 rv => evd_abs (evd_int1 (evd_var rfl rv)))) fun lc xs1 H1 n1 e1 h1 rx => ?_)
  have ecs : cs.map (fun i : Int => PyData.int (if i < 0 then -i else i)) = (cs.map fun i : Int => if i < 0 then -i else i).map PyData.int := by rw [List.map_map]; rfl
  rw [ecs] at rx
  have hcl : (cs.map fun i : Int => if i < 0 then -i else i).length ≤ 48 := by rw [List.length_map]; exact hcut
  generalize (cs.map fun i : Int => if i < 0 then -i else i) = cs2 at rx hcl
  refine d_seq (d_asg (d := .int (7919 + 104729 * 48)) (evd_add evd_int (evd_rI (i := 104729) (j := 48) evd_int (evd_var rfl (.int _)) (.inr ⟨by decide, by decide⟩) rfl)) fun v4 H2 e2 r4 => ?_)
  have ev4 := r4.int_inv
  subst ev4
  have h2 := e2 _ _ h1
  refine d_seq (d_forL (ev_slot rfl) h2 (fun i σ' H' => ∃ a2 b, σ' = [some (.ref a), some (.int 48), a2, some (.ref lc), some (.int b)] ∧ Ex H2 H') (fun H3 e3 => ⟨none, _, rfl, e3⟩) (fun i σ' H' ⟨_, _, _, e⟩ => e _ _ h2) (fun i v σ' H3 hi ⟨a2, b, es, e3⟩ => ?_) (fun σ' H3 ⟨a2, b, es, e3⟩ => ?_))
  · subst es
    obtain ⟨d, hd, rd⟩ := rx.getV hi
    rw [List.getElem?_map] at hd
    obtain ⟨c, hc, rfl⟩ := Option.map_eq_some_iff.mp hd
    have ec := rd.int_inv
    subst ec
    refine d_asg (d := .int ((b * 48271 + c % 2147483549 + 11) % 2147483647)) (evd_rI (i := b * 48271 + c % 2147483549 + 11) (j := 2147483647) (evd_int1 (evd_add (evd_add (evd_rI (i := b) (j := 48271) (m := b * 48271) (evd_var rfl (.int _)) evd_int (.inr ⟨by decide, by decide⟩) rfl) (evd_rI (i := c) (j := 2147483549) (m := c % 2147483549) (evd_var rfl (.int _)) evd_int (by decide) rfl)) evd_int)) evd_int (by decide) rfl) fun v5 H4 e4 r5 => ?_
    have ev5 := r5.int_inv
    subst ev5
    exact ⟨_, _, rfl, e3.trans e4⟩
  · subst es
    have hl3 : Rp H3 (.ref lc) (.list (cs2.map PyData.int)) := .lst (e3 _ _ h2) (Rps.up (Rps.up rx e2) e3)
    have hlc : (((cs2.map PyData.int).filter bigP).map fun d => d) = (cs2.filter fun i => decide ((10 : Int) ^ 18 ≤ i)).map PyData.int := by
      rw [List.map_id'' (fun _ => rfl), List.filter_map]
      rfl
    have hbl : (cs2.filter fun i => decide ((10 : Int) ^ 18 ≤ i)).length ≤ 48 := Nat.le_trans (List.length_filter_le _ _) hcl
    exact d_retRev (b := b) ((evn_lcL (vs := [2]) (j := 2) bigP (fun d => d) (evd_var rfl hl3) (by rw [List.length_map]; omega) (fun d hd _ => by
      obtain ⟨i, _, rfl⟩ := List.mem_map.mp hd
      rfl) (fun _ => rfl) (fun d v H4 hd e4 rv => by
      obtain ⟨i, _, rfl⟩ := List.mem_map.mp hd
      exact ⟨evt_test (evd_ge (evd_var rfl rv) (evd_rI (i := 10) (j := 18) evd_int evd_int ⟨by decide, by decide, by decide⟩ rfl)), fun _ => evd_var rfl rv⟩)).is hlc) (evd_var rfl (.int _)) fun d p H' hd hp hdp e h1 h2 => q d p H' (fresh_back ((e1.trans e2).trans e3) hd) (fresh_back ((e1.trans e2).trans e3) hp) (((e1.trans e2).trans e3).trans e) ⟨_, b, h1, h2, hdp, by rw [List.length_reverse]; exact hbl⟩
end
end K48
/-! The law's cache. -/
namespace K48
open PySem L2 Evl K48M
theorem But.fresh {ls : List Addr} {H H1 : Hp} {a : Addr} {o : HO} (b : But ls H H1) (h : H a = none) : But ls H (L2.upd H1 a o) := fun x ob n e => by
  rw [upd_ne (fun z => by rw [z, h] at e; cases e)]
  exact b x ob n e
theorem DealAt.put {H : Hp} {d p a : Addr} {o : HO} (x : DealAt H d p) (h1 : a ≠ d) (h2 : a ≠ p) : DealAt (L2.upd H a o) d p := by
  obtain ⟨cs, b, q1, q2, q3, q4⟩ := x
  refine ⟨cs, b, ?_, ?_, q3, q4⟩
  · rw [upd_ne (Ne.symm h1)]
    exact q1
  · rw [upd_ne (Ne.symm h2)]
    exact q2
theorem DealAt.ne {H : Hp} {d p a : Addr} (x : DealAt H d p) (h : H a = none) : a ≠ d ∧ a ≠ p := by
  obtain ⟨cs, b, q1, q2, q3, q4⟩ := x
  refine ⟨fun z => ?_, fun z => ?_⟩
  · rw [z, q1] at h
    cases h
  · rw [z, q2] at h
    cases h
theorem DealAt.out {H : Hp} {d p a : Addr} (x : DealAt H d p) (h : H a = none) : a ∉ [d, p] := fun z => by
  rcases List.mem_cons.mp z with z | z
  · exact (x.ne h).1 z
  · exact (x.ne h).2 (List.mem_singleton.mp z)
/-- what evaluates to a number, and may turn the deal -/
def EvW (dl p : Addr) (te : TE) (σ : S) (R : Nat → Prop) : Prop := ∀ H1, DealAt H1 dl p → ∀ Q : VK, (∀ (i : Nat) H2, R i → But [dl, p] H1 H2 → DealAt H2 dl p → Q (.int i) H2) → te σ H1 Q
section
variable {K : PySem.W.Frag} {w : World} {σ : S} {H H' : Hp} {ta tb tc te to ti tn : TE} {tA : TA} {t : TT} {D : Ends} {ds es : List PyData} {d e : PyData} {dl p : Addr} {R R1 R2 R3 : Nat → Prop}
theorem evw_any {i n : Nat} (h0 : σ[i]? = some (some (.ref dl))) (hn : ∀ H1, EvD tn σ H1 (.int (n : Int))) (h1 : 1 ≤ n) (h2 : n ≤ 1000) : EvW dl p (tCall spAny [] E0 (tCons (tVar i) (tCons tn tNil))) σ (· < n) := fun H1 x Q q => any_call h0 (hn H1) h1 h2 x fun j H' hj b d' => q j H' hj b d'
theorem evw_d {i : Nat} (h : ∀ H1, EvD te σ H1 (dI i)) (hR : R i) : EvW dl p te σ R := fun H1 x Q q => h H1 H1 (Ex.refl _) _ fun v H2 e2 r2 => by
  rw [r2.int_inv]
  exact q i H2 hR (But.ex e2) (x.up e2)
theorem evw_if {b : Bool} (ht : ∀ H1, EvT t σ H1 b) (ha : b = true → EvW dl p ta σ R) (hb : b = false → EvW dl p tb σ R) : EvW dl p (tIf t ta tb) σ R := fun H1 x Q q => ht H1 H1 (Ex.refl _) _ fun H2 e2 => by
  cases b with
  | true => exact ha rfl H2 (x.up e2) Q fun i H3 hi b3 x3 => q i H3 hi ((But.ex e2).trans b3) x3
  | false => exact hb rfl H2 (x.up e2) Q fun i H3 hi b3 x3 => q i H3 hi ((But.ex e2).trans b3) x3
theorem evw_add1 (h : EvW dl p te σ R) : EvW dl p (tOp rAddI (tC (.int 1)) te) σ (fun i => ∃ j, R j ∧ i = j + 1) := fun H1 x Q q => h H1 x _ fun j H2 hj b2 x2 => by
  refine ⟨1, j, rfl, rfl, ?_⟩
  have e : (1 : Int) + (j : Int) = ((j + 1 : Nat) : Int) := by omega
  show Q (.int ((1 : Int) + (j : Int))) H2
  rw [e]
  exact q (j + 1) H2 ⟨j, hj, rfl⟩ b2 x2
theorem d_asgW {i : Nat} (h : EvW dl p te σ R) (x : DealAt H dl p) (k : ∀ (j : Nat) H1, R j → But [dl, p] H H1 → DealAt H1 dl p → D.nx (σ.set i (some (.int (j : Nat)))) H1) : tAsg te (gName i) D σ H := h H x _ fun j H1 hj b x1 => k j H1 hj b x1
theorem d_asg3W {i j l : Nat} (h1 : EvW dl p ta σ R1) (h2 : EvW dl p tb σ R2) (h3 : EvW dl p tc σ R3) (x : DealAt H dl p) (k : ∀ (a b c : Nat) H1, R1 a → R2 b → R3 c → But [dl, p] H H1 → DealAt H1 dl p → D.nx (((σ.set i (some (.int (a : Nat)))).set j (some (.int (b : Nat)))).set l (some (.int (c : Nat)))) H1) :
    tAsg (tTupP (tCons ta (tCons tb (tCons tc tNil)))) (gTup K 3 (gCons (gName i) (gCons (gName j) (gCons (gName l) gNil)))) D σ H :=
  h1 H x _ fun a H1 ha b1 x1 => h2 H1 x1 _ fun b H2 hb b2 x2 => h3 H2 x2 _ fun c H3 hc b3 x3 =>
    (evd_tup (ta := tCons (tC (.int a)) (tCons (tC (.int b)) (tCons (tC (.int c)) tNil))) (σ := σ) (H := H3) (evds_cons (d := dI a) (evd_c (.int _)) (evds_cons (d := dI b) (evd_c (.int _)) (evds_cons (d := dI c) (evd_c (.int _)) evds_nil)))) H3 (Ex.refl _) _ fun v H4 e4 r4 =>
      g_three r4 fun v1 v2 v3 q1 q2 q3 => by
        rw [q1.int_inv, q2.int_inv, q3.int_inv]
        exact k a b c H4 ha hb hc (((b1.trans b2).trans b3).trans (But.ex e4)) (x3.up e4)
theorem lcW {j n : Nat} {vs : List Nat} {Q : VK} (h : EvDs tA σ H [.int (n : Int)]) (hn : n ≤ 1000) (x : DealAt H dl p) (hw : ∀ x, wipe ((wipe σ vs).set j (some x)) vs = wipe σ vs) (hs : ∀ i : Nat, i < n → EvW dl p te ((wipe σ vs).set j (some (.int (i : Nat)))) R)
    (k : ∀ q (xs : List Nat) H1, H q = none → But [dl, p] H H1 → DealAt H1 dl p → H1 q = some (.lst (xs.map fun n : Nat => V.int n)) → xs.length = n → (∀ y ∈ xs, R y) → Q (.ref q) H1) : tLc (iRng1 tA) (gName j) tYes te vs σ H Q := h H (Ex.refl _) _ fun ws H1 e1 r1 => by
  cases r1 with
  | cons r1 r2 =>
    cases r2
    rw [r1.int_inv]
    refine ⟨(n : Int), rfl, by omega, by omega, fun Dl hD => ?_⟩
    have hDH : H Dl = none := fresh_back e1 hD
    have hne := (x.up e1).ne hD
    have hnm := (x.up e1).out hD
    refine lc_range (lo := 0) (n := (n : Int).toNat) (fun i H' => ∃ xs : List Nat, H' Dl = some (.lst (xs.map fun n : Nat => V.int n)) ∧ xs.length = i ∧ (∀ y ∈ xs, R y) ∧ But [dl, p] H H' ∧ DealAt H' dl p) ⟨[], upd_same, rfl, fun y hy => (List.not_mem_nil hy).elim, (But.ex e1).fresh hDH, (x.up e1).put hne.1 hne.2⟩ (fun i H' hi ⟨xs, hd, hl, hall, b, x'⟩ => ?_) (fun H' ⟨xs, hd, hl, hall, b, x'⟩ => ?_)
    · have hin : i < n := by omega
      have e00 : (0 : Int) + (i : Int) = (i : Int) := Int.zero_add _
      rw [e00]
      refine ⟨hw _, ?_⟩
      refine hs i hin H' x' _ fun y H4 hy b4 x4 => ?_
      have h4 : H4 Dl = some (.lst (xs.map fun n : Nat => V.int n)) := b4.go hnm hd
      refine ⟨_, h4, by rw [List.length_map, sizeLine_eq]; omega, xs ++ [y], by rw [List.map_append]; exact upd_same, by rw [List.length_append, List.length_singleton, hl], fun z hz => ?_, (b.trans b4).fresh hDH, x4.put hne.1 hne.2⟩
      rcases List.mem_append.mp hz with h | h
      · exact hall z h
      · rw [List.mem_singleton.mp h]
        exact hy
    · exact k Dl xs H' hDH b x' hd (by rw [hl]; omega) hall
theorem d_asgTupW {i j n : Nat} {vs : List Nat} (h : EvDs tA σ H [.int (n : Int)]) (hn : n ≤ 1000) (x : DealAt H dl p) (hw : ∀ x, wipe ((wipe σ vs).set j (some x)) vs = wipe σ vs) (hs : ∀ i : Nat, i < n → EvW dl p te ((wipe σ vs).set j (some (.int (i : Nat)))) R)
    (k : ∀ (xs : List Nat) v H1, But [dl, p] H H1 → DealAt H1 dl p → Rp H1 v (dNs xs) → xs.length = n → (∀ y ∈ xs, R y) → D.nx (σ.set i (some v)) H1) : tAsg (tCB (rTupOfP K) (tCons (tLc (iRng1 tA) (gName j) tYes te vs) tNil)) (gName i) D σ H :=
  lcW (Q := fun y H1 => rTupOfP K [y] H1 (fun v H3 => gName i v σ H3 D.nx)) h hn x hw hs fun q xs H1 hq b x1 h1 hlen hall =>
    (d_asg (D := D) (i := i) (σ := σ) (H := H1) (te := tCB (rTupOfP K) (tCons (tC (.ref q)) tNil)) (d := dNs xs) (evd_tupL (ds := xs.map dI) (evd_c (.lst h1 (by
      have := Rps.of_ints (H := H1) (xs.map fun n : Nat => (n : Int))
      rw [List.map_map, List.map_map] at this
      exact this)))) fun v H2 e2 rv => k xs v H2 (b.trans (But.ex e2)) (x1.up e2) rv hlen hall)
end
def spCache : Sp := fun vs H Q _ => ∃ (d p : Addr), vs = [.ref d] ∧ DealAt H d p ∧ ∀ v k C L H', Ok C L k → C ≤ 4 → L ≤ 3 → Rp H' v (dCache k) → But [d, p] H H' → DealAt H' d p → Q v H'
section
variable {P : Program} {w : World} {K : PySem.W.Frag} {mg : Str → Option Value} {base : Heap}
theorem ok_law_cache {f : Addr} {fd : FuncData} (F : Fun K "_law_cache" "_law_cache" s__law_cache f fd) (T : Mg mg) (ca : Cal P w K mg base CX0 1 "_law_any" ["_law_deal", "_law_bound"] spAny) : FnOk P w K mg base CX0 2 f fd ["_law_deal"] spCache := by
  refine F.ok sc__law_cache (fun vs H Q E h => ?_) (fun cdv A outer sh H vs Q E hr h => ?_)
  · obtain ⟨d, p, rfl, _⟩ := h
    rfl
  obtain ⟨d, p, rfl, x, q⟩ := h
  refine ⟨_, pss_cons (ps_asg (pe_tupP (pa_cons (pe_op op_add pe_int (pe_cal ca hr (by decide) (by rfl) (pa_cons (pv 0) (pa_cons pe_int pa_nil)))) (pa_cons (pe_op op_add pe_int (pe_cal ca hr (by decide) (by rfl) (pa_cons (pv 0) (pa_cons pe_int pa_nil)))) (pa_cons (pe_cal ca hr (by decide) (by rfl) (pa_cons (pv 0) (pa_cons pe_int pa_nil))) pa_nil))))
      (pg_tup rfl (pgs_cons (pg_name (i := 1) sc__law_cache.nd rfl (.inl rfl)) (pgs_cons (pg_name (i := 2) sc__law_cache.nd rfl (.inr rfl)) (pgs_cons (pg_name (i := 3) sc__law_cache.nd rfl (.inr rfl)) pgs_nil)))))
    (pss_cons (ps_set (i := 4) sc__law_cache.nd rfl (.inl rfl) (pe_lst pa_nil))
    (pss_cons (ps_for PassesOwn.never rfl (pi_range1 (by rfl) T.range (pa_cons (pv 2) pa_nil)) (pg_name (i := 5) sc__law_cache.nd rfl (.inr rfl))
      (pss_cons (ps_set (i := 7) sc__law_cache.nd rfl (.inl rfl) (pe_callTy call_tupleP (by rfl) T.tuple (by decide +kernel) (pa_cons
        (pe_lc (own := [("_law_line", 6)]) (g := gName 6) (tt := tYes) rfl sc__law_cache.nd (pi_range1 (by rfl) T.range (pa_cons (pv 1) pa_nil)) (blkOk_by (N := N__law_cache) (sc := defScope s__law_cache) (by decide +kernel)) (fun _ _ _ _ _ => pg_name (i := 6) sc__law_cache.nd rfl (Or.inl rfl)) (fun _ _ _ _ _ => pts_nil)
          (fun _ _ _ _ _ => pe_ifExp (pt_cmpR op_gt (pv 3) pe_int (nomark _)) (pe_cal ca hr (by decide) (by rfl) (pa_cons (pv 0) (pa_cons (pv 2) pa_nil))) (pv 5))) pa_nil)))
      (pss_cons (ps_set (i := 6) sc__law_cache.nd rfl (.inl rfl) (pe_ifExp (pt_cmpR op_lt (pv 3) pe_int (nomark _)) (pe_op op_mod (pv 5) (pv 1)) (pe_cal ca hr (by decide) (by rfl) (pa_cons (pv 0) (pa_cons (pv 1) pa_nil)))))
      (pss_cons (ps_set (i := 8) sc__law_cache.nd rfl (.inl rfl) (pe_ifExp (pt_cmpR op_lt (pv 3) pe_int (nomark _)) (pe_op op_mod (pe_op op_add (pv 5) pe_int) (pv 2)) (pe_cal ca hr (by decide) (by rfl) (pa_cons (pv 0) (pa_cons (pv 2) pa_nil)))))
      (pss_one (ps_expr (pe_bm PySem.F.plainAttrs_list PySem.F.slot_list_append PySem.F.type_list_append mt_append (pv 4) (pa_cons (pe_tupP (pa_cons (pv 7) (pa_cons (pv 6) (pa_cons (pv 8) pa_nil)))) pa_nil))))))))
    (pss_one (ps_ret (pe_callTy call_tupleP (by rfl) T.tuple (by decide +kernel) (pa_cons (pv 4) pa_nil)))))), ?_⟩
  refine d_seq (d_asg3W (evw_add1 (evw_any (n := 3) rfl (fun _ => evd_int) (by decide) (by decide))) (evw_add1 (evw_any (n := 4) rfl (fun _ => evd_int) (by decide) (by decide))) (evw_any (n := 4) rfl (fun _ => evd_int) (by decide) (by decide)) x fun L C kd H1 hL hC hkd b1 x1 => ?_)
  obtain ⟨l0, hl0, eL⟩ := hL
  obtain ⟨c0, hc0, eC⟩ := hC
  have hL1 : 1 ≤ L ∧ L ≤ 3 := by omega
  have hC1 : 1 ≤ C ∧ C ≤ 4 := by omega
  clear eL eC hl0 hc0
  refine d_seq (d_asgN (evn_lst evds_nil) fun l xs0 H2 nl e2 hl rl => ?_)
  cases rl
  have x2 := x1.up e2
  have lne := x1.ne nl
  refine d_seq (d_forR1 (n := (C : Int)) (evds_cons (evd_var rfl (.int _)) evds_nil) ⟨by omega, by omega⟩
    (fun i σ' H' => ∃ a5 a6 a7 a8 acc ks, σ' = [some (.ref d), some (.int (L : Nat)), some (.int (C : Nat)), some (.int (kd : Nat)), some (.ref l), a5, a6, a7, a8] ∧ But [l, d, p] H2 H' ∧ DealAt H' d p ∧ H' l = some (.lst acc) ∧ Rps H' acc (ks.map dCtl) ∧ ks.length = i ∧ ∀ y ∈ ks, y.hits.length = L ∧ (∀ h ∈ y.hits, h < C) ∧ y.line < L ∧ y.nxt < C)
    (fun H3 e3 => ⟨none, none, none, none, [], [], rfl, But.ex e3, x2.up e3, e3 _ _ hl, .nil, rfl, fun y hy => (List.not_mem_nil hy).elim⟩) (fun i σ' H3 hi ⟨a5, a6, a7, a8, acc, ks, es, b3, x3, hl3, ra, hks, hall⟩ => ?_) (fun σ' H3 ⟨a5, a6, a7, a8, acc, ks, es, b3, x3, hl3, ra, hks, hall⟩ => ?_))
  · subst es
    have hiC : i < C := by omega
    have bw : ∀ {Ha Hb : Hp}, But [d, p] Ha Hb → But [l, d, p] Ha Hb := fun b => b.mono fun a h => List.mem_cons_of_mem _ h
    have lno : l ∉ [d, p] := fun z => by
      rcases List.mem_cons.mp z with z | z
      · exact lne.1 z
      · exact lne.2 (List.mem_singleton.mp z)
    -- hits
    refine d_seq (d_asgTupW (R := (· < C)) (n := L) (evds_cons (evd_var rfl (.int _)) evds_nil) (by omega) x3 (fun _ => rfl) (fun j hj => evw_if (b := decide (0 < (kd : Int))) (fun H4 => evt_test (evd_gt (evd_var rfl (.int _)) evd_int)) (fun _ => evw_any (n := C) rfl (fun _ => evd_var rfl (.int _)) (by omega) (by omega)) (fun _ => evw_d (i := i) (fun _ => evd_var rfl (.int _)) hiC)) fun hs v7 H5 b4 x5 r7 hlen hlt => ?_)
    -- line
    refine d_seq (d_asgW (R := (· < L)) (evw_if (b := decide ((kd : Int) < 2)) (fun H6 => evt_test (evd_lt (evd_var rfl (.int _)) evd_int)) (fun _ => evw_d (i := i % L) (fun _ => evd_rI (i := (i : Int)) (j := (L : Int)) (evd_var rfl (.int _)) (evd_var rfl (.int _)) (by show (0 : Int) < L; omega) (by rw [← Int.natCast_emod])) (Nat.mod_lt _ (by omega))) (fun _ => evw_any (n := L) rfl (fun _ => evd_var rfl (.int _)) (by omega) (by omega))) x5 fun ln H6 hln b6 x6 => ?_)
    -- following
    refine d_seq (d_asgW (R := (· < C)) (evw_if (b := decide ((kd : Int) < 3)) (fun H7 => evt_test (evd_lt (evd_var rfl (.int _)) evd_int)) (fun _ => evw_d (i := (i + 1) % C) (fun _ => evd_rI (i := (i : Int) + 1) (j := (C : Int)) (evd_add (evd_var rfl (.int _)) evd_int) (evd_var rfl (.int _)) (by show (0 : Int) < C; omega) (by rw [Int.natCast_emod]; rfl)) (Nat.mod_lt _ (by omega))) (fun _ => evw_any (n := C) rfl (fun _ => evd_var rfl (.int _)) (by omega) (by omega))) x6 fun nx H7 hnx b7 x7 => ?_)
    have b57 := b6.trans b7
    have tk57 := b57.tk x5.noT
    have r7' : Rp H7 v7 (dNs hs) := Rp.tk tk57 _ (tupD_Ns _) r7
    have hl7 : H7 l = some (.lst acc) := b57.go lno (b4.go lno hl3)
    have ra7 : Rps H7 acc (ks.map dCtl) := Rps.tk tk57 _ (tupDs_map tupD_Ctl _) (Rps.tk (b4.tk x3.noT) _ (tupDs_map tupD_Ctl _) ra)
    refine d_app (l := l) hl7 (ev_slot rfl) (d := dCtl ⟨hs, ln, nx⟩) (evd_tup (evds_cons (evd_var rfl r7') (evds_cons (evd_var rfl (.int _)) (evds_cons (evd_var rfl (.int _)) evds_nil)))) (by
      rw [ra7.len, List.length_map]
      omega) fun v8 H8 e8 r8 => ?_
    have hl8 := e8 _ _ hl7
    have tk8 := Tk.upd (o := .lst (acc ++ [v8])) hl8
    refine ⟨_, _, _, _, acc ++ [v8], ks ++ [⟨hs, ln, nx⟩], rfl, (((b3.trans (bw b4)).trans (bw b57)).trans (But.ex e8)).trans (But.upd (List.mem_cons_self ..)), (x7.up e8).put lne.1 lne.2, upd_same, ?_, by rw [List.length_append, List.length_singleton, hks], fun y hy => ?_⟩
    · rw [List.map_append]
      exact Rps.append (Rps.tk tk8 _ (tupDs_map tupD_Ctl _) (ra7.up e8)) (.cons (Rp.tk tk8 _ (tupD_Ctl _) r8) .nil)
    · rcases List.mem_append.mp hy with h | h
      · exact hall y h
      · rw [List.mem_singleton.mp h]
        exact ⟨hlen, hlt, hln, hnx⟩
  · subst es
    have hCn : ((C : Int)).toNat = C := Int.toNat_natCast C
    rw [hCn] at hks
    have okk : Ok C L ks := by
      have hget : ∀ c, c < C → ctl ks c ∈ ks := fun c hc => by
        have hcl : c < ks.length := by omega
        unfold ctl
        rw [List.getD_eq_getElem?_getD, List.getElem?_eq_getElem hcl]
        exact List.getElem_mem hcl
      refine ⟨hks, hC1.1, hL1.1, fun c hc => (hall _ (hget c hc)).1, fun c j hc hj => ?_, fun c hc => (hall _ (hget c hc)).2.2.1, fun c hc => (hall _ (hget c hc)).2.2.2⟩
      have h1 := hall _ (hget c hc)
      have hjl : j < (ctl ks c).hits.length := by rw [h1.1]; exact hj
      unfold hit
      rw [List.getD_eq_getElem?_getD, List.getElem?_eq_getElem hjl]
      exact h1.2.1 _ (List.getElem_mem hjl)
    refine d_ret (d := dCache ks) (evd_tupL (evd_var rfl (.lst hl3 ra))) fun v H4 e4 rv => q v ks C L H4 okk hC1.2 hL1.2 rv (fun a o n ha => ?_) (x3.up e4)
    have h1 := e2 _ _ (b1 a o n ha)
    refine e4 _ _ (b3 a o (fun z => ?_) h1)
    rcases List.mem_cons.mp z with rfl | z
    · rw [b1 a o n ha] at nl
      cases nl
    · exact n z
end
end K48
/-! Data that outlive draws; _law_wrong_cache, _law_wrong_row. -/
namespace K48
open PySem L2 Evl K48M
def intD : PyData → Bool
  | .int _ => true
  | _ => false
def dealD : List PyData → Bool
  | [.list _, .int _] => true
  | _ => false
mutual
/-- no list within that a deal's two might be -/
def okD : PyData → Bool
  | .list ds => !(ds.all intD) && !(dealD ds) && okDs ds
  | .tuple ds => okDs ds
  | .none => true
  | .bool _ => true
  | .int _ => true
  | .str _ => true
  | .dict _ => true
def okDs : List PyData → Bool
  | [] => true
  | d :: ds => okD d && okDs ds
end
/-- the heap without the deal -/
def rs (d p : Addr) (H : Hp) : Hp := fun a => if a = d ∨ a = p then none else H a
theorem rs_ne {d p a : Addr} {H : Hp} (h1 : a ≠ d) (h2 : a ≠ p) : rs d p H a = H a := if_neg fun z => by
  rcases z with z | z
  · exact h1 z
  · exact h2 z
theorem rs_ex (d p : Addr) (H : Hp) : Ex (rs d p H) H := fun a o h => by
  unfold rs at h
  split at h
  · cases h
  · exact h
theorem rs_but {d p : Addr} {H H' : Hp} (b : But [d, p] H H') : Ex (rs d p H) H' := fun a o h => by
  unfold rs at h
  split at h
  · cases h
  · rename_i hn
    exact b a o (fun z => by
      rcases List.mem_cons.mp z with z | z
      · exact hn (.inl z)
      · exact hn (.inr (List.mem_singleton.mp z))) h
section
variable {H : Hp} {d p : Addr}
theorem ints_of {vs : List V} : ∀ {cs : List Int} {ds : List PyData}, Rps H (cs.map V.int) ds → ds.all intD = true
  | [], _, r => by
    cases r
    rfl
  | c :: cs, _, r => by
    cases r with
    | cons r1 r2 =>
      cases r1
      exact (ints_of (vs := vs) r2 : _)
mutual
theorem Rp.rs (x : DealAt H d p) : ∀ {v : V} (dat : PyData), okD dat = true → Rp H v dat → Rp (K48.rs d p H) v dat
  | _, .none, _, .non => .non
  | _, .bool _, _, .bl b => .bl b
  | _, .int _, _, .int i => .int i
  | _, .str _, _, .str s => .str s
  | _, .tuple ds, ok, .tup (a := a) h n r => by
    rw [okD] at ok
    have hn := x.noT
    have h1 : a ≠ d := fun z => hn d (List.mem_cons_self ..) _ _ (z ▸ h)
    have h2 : a ≠ p := fun z => hn p (List.mem_cons_of_mem _ (List.mem_cons_self ..)) _ _ (z ▸ h)
    exact .tup ((rs_ne h1 h2).trans h) n (Rps.rs x ds ok r)
  | _, .list ds, ok, .lst (a := a) (xs := xs) h r => by
    rw [okD, Bool.and_eq_true, Bool.and_eq_true, Bool.not_eq_true', Bool.not_eq_true'] at ok
    obtain ⟨⟨ok1, ok2⟩, ok3⟩ := ok
    obtain ⟨cs, b, hd, hp, hdp, _⟩ := x
    have h1 : a ≠ d := fun z => by
      rw [z, hd] at h
      have e : [V.ref p, V.int b] = xs := HO.lst.inj (Option.some.inj h)
      rw [← e] at r
      cases r with
      | cons r1 r => cases r with
      | cons r2 r =>
      cases r
      cases r2
      cases r1 with
      | lst hq _ => cases ok2
      | tup hq _ _ =>
        rw [hp] at hq
        cases hq
    have h2 : a ≠ p := fun z => by
      rw [z, hp] at h
      have e : cs.map V.int = xs := HO.lst.inj (Option.some.inj h)
      rw [← e] at r
      rw [ints_of (vs := []) r] at ok1
      cases ok1
    exact .lst ((rs_ne h1 h2).trans h) (Rps.rs ⟨cs, b, hd, hp, hdp, by assumption⟩ ds ok3 r)
theorem Rps.rs (x : DealAt H d p) : ∀ {vs : List V} (ds : List PyData), okDs ds = true → Rps H vs ds → Rps (K48.rs d p H) vs ds
  | _, [], _, .nil => .nil
  | _, dat :: ds, ok, .cons r1 r2 => by
    rw [okDs, Bool.and_eq_true] at ok
    exact .cons (Rp.rs x dat ok.1 r1) (Rps.rs x ds ok.2 r2)
end
/-- data outlive a draw -/
theorem Rp.deal {H' : Hp} {v : V} {dat : PyData} (r : Rp H v dat) (ok : okD dat = true) (x : DealAt H d p) (b : But [d, p] H H') : Rp H' v dat := (Rp.rs x dat ok r).up (rs_but b)
end
end K48
/-! _law_wrong_row. -/
namespace K48
open PySem L2 Evl K48M
section
variable {K : PySem.W.Frag} {σ : S} {H : Hp} {ta te : TE} {D : Ends} {ds : List PyData}
/-- _law_of(deal, a new list of data) -/
theorem of_call {i : Nat} {dl p : Addr} {Q : VK} (h0 : σ[i]? = some (some (.ref dl))) (hn : EvN te σ H ds) (x : DealAt H dl p) (h1 : 1 ≤ ds.length) (h2 : ds.length ≤ 1000) (hok : ∀ d ∈ ds, okD d = true) (k : ∀ d v H', d ∈ ds → Rp H' v d → But [dl, p] H H' → DealAt H' dl p → Q v H') : tCall spOf [] E0 (tCons (tVar i) (tCons te tNil)) σ H Q :=
  ⟨.ref dl, h0, hn H (Ex.refl _) _ fun s xs H2 ns e2 hs rs => ⟨dl, p, s, xs, rfl, hs, by rw [rs.len]; exact h1, by rw [rs.len]; exact h2, (x.ne ns).1, (x.ne ns).2, x.up e2, fun j v H' hj b x' => by
    obtain ⟨d, hd, rd⟩ := rs.getV hj
    have hm := List.mem_of_getElem? hd
    exact k d v H' hm (rd.deal (hok d hm) (x.up e2) b) ((But.ex e2).trans b) x'⟩⟩
end
/-- wrong rows, with the place where they are wrong -/
def WrongRow (y : PyData) (i : Int) : Prop := ∀ CI : Addr, Racs CI [y] (.inr (CI, "at", .int i))
def wrongRows : List (PyData × Int) := [(.none, -1), (.int 3, -1), (.str "01", -1), (.list [.int 0, .none], 1), (.tuple [.int (-1)], 0), (.list [.int 0, .int 0, .bool true], 2), (.list [.str "0"], 0)]
theorem wrong_row : ∀ z ∈ wrongRows, WrongRow z.1 z.2 ∧ okD z.1 = true := by
  intro z hz
  simp only [wrongRows, List.mem_cons, List.not_mem_nil, or_false] at hz
  rcases hz with rfl | rfl | rfl | rfl | rfl | rfl | rfl
  · exact ⟨fun CI => ⟨_, rfl, .inl ⟨rfl, rfl⟩⟩, rfl⟩
  · exact ⟨fun CI => ⟨_, rfl, .inl ⟨rfl, rfl⟩⟩, rfl⟩
  · exact ⟨fun CI => ⟨_, rfl, .inl ⟨rfl, rfl⟩⟩, rfl⟩
  · exact ⟨fun CI => ⟨_, rfl, .inr ⟨_, .inl rfl, rfl⟩⟩, rfl⟩
  · exact ⟨fun CI => ⟨_, rfl, .inr ⟨_, .inr rfl, rfl⟩⟩, rfl⟩
  · exact ⟨fun CI => ⟨_, rfl, .inr ⟨_, .inl rfl, rfl⟩⟩, rfl⟩
  · exact ⟨fun CI => ⟨_, rfl, .inr ⟨_, .inl rfl, rfl⟩⟩, rfl⟩
def dWrong (z : PyData × Int) : PyData := .tuple [z.1, .int z.2]
def spWrow : Sp := fun vs H Q _ => ∃ (d p : Addr), vs = [.ref d] ∧ DealAt H d p ∧ ∀ z v H', z ∈ wrongRows → Rp H' v (dWrong z) → But [d, p] H H' → DealAt H' d p → Q v H'
section
variable {P : Program} {w : World} {K : PySem.W.Frag} {mg : Str → Option Value} {base : Heap}
theorem ok_law_wrong_row {f : Addr} {fd : FuncData} (F : Fun K "_law_wrong_row" "_law_wrong_row" s__law_wrong_row f fd) (T : Mg mg) (co : Cal P w K mg base CX0 2 "_law_of" ["_law_deal", "_law_some"] spOf) : FnOk P w K mg base CX0 3 f fd ["_law_deal"] spWrow := by
  refine F.ok sc__law_wrong_row (fun vs H Q E h => ?_) (fun cdv A outer sh H vs Q E hr h => ?_)
  · obtain ⟨d, p, rfl, _⟩ := h
    rfl
  obtain ⟨d, p, rfl, x, q⟩ := h
  refine ⟨_, pss_one (ps_ret (pe_cal co hr (by decide) (by rfl) (pa_cons (pv 0) (pa_cons (pe_lst
    (pa_cons (pe_tupP (pa_cons pe_non (pa_cons (pe_un un_neg pe_int) pa_nil))) (pa_cons (pe_tupP (pa_cons pe_int (pa_cons (pe_un un_neg pe_int) pa_nil))) (pa_cons (pe_tupP (pa_cons pe_str (pa_cons (pe_un un_neg pe_int) pa_nil)))
    (pa_cons (pe_tupP (pa_cons (pe_lst (pa_cons pe_int (pa_cons pe_non pa_nil))) (pa_cons pe_int pa_nil))) (pa_cons (pe_tupP (pa_cons (pe_tupP (pa_cons (pe_un un_neg pe_int) pa_nil)) (pa_cons pe_int pa_nil)))
    (pa_cons (pe_tupP (pa_cons (pe_lst (pa_cons pe_int (pa_cons pe_int (pa_cons pe_bl pa_nil)))) (pa_cons pe_int pa_nil))) (pa_cons (pe_tupP (pa_cons (pe_lst (pa_cons pe_str pa_nil)) (pa_cons pe_int pa_nil))) pa_nil)))))))) pa_nil)))), ?_⟩
  refine of_call (ds := wrongRows.map dWrong) rfl (evn_lst (evds_cons (evd_tup (evds_cons evd_non (evds_cons (evd_neg evd_int) evds_nil))) (evds_cons (evd_tup (evds_cons evd_int (evds_cons (evd_neg evd_int) evds_nil))) (evds_cons (evd_tup (evds_cons evd_str (evds_cons (evd_neg evd_int) evds_nil)))
    (evds_cons (evd_tup (evds_cons (EvN.toD (evn_lst (evds_cons evd_int (evds_cons evd_non evds_nil)))) (evds_cons evd_int evds_nil))) (evds_cons (evd_tup (evds_cons (evd_tup (evds_cons (evd_neg evd_int) evds_nil)) (evds_cons evd_int evds_nil)))
    (evds_cons (evd_tup (evds_cons (EvN.toD (evn_lst (evds_cons evd_int (evds_cons evd_int (evds_cons evd_bl evds_nil))))) (evds_cons evd_int evds_nil))) (evds_cons (evd_tup (evds_cons (EvN.toD (evn_lst (evds_cons evd_str evds_nil))) (evds_cons evd_int evds_nil))) evds_nil)))))))) x (by decide) (by decide) (fun dat hd => ?_) fun dat v H' hd rv b x' => ?_
  · obtain ⟨z, hz, rfl⟩ := List.mem_map.mp hd
    have := (wrong_row z hz).2
    unfold dWrong
    rw [okD, okDs, okDs, okDs, this, okD]
    rfl
  · obtain ⟨z, hz, rfl⟩ := List.mem_map.mp hd
    exact q z v H' hz rv b x'
end
end K48
/-! Wrong caches: plain. -/
namespace K48
open PySem L2 Evl K48M
theorem ctlFit_ge {C C' L : Nat} {k : Cache} (o : Ok C L k) (hL : L ≤ 4) (hC : C ≤ C') {x : Ctl} (hx : x ∈ k) : ctlFit L C' (dCtl x) = true := by
  obtain ⟨c, hc⟩ := List.getElem?_of_mem hx
  have hcC : c < C := by
    rw [← o.len]
    exact (List.getElem?_eq_some_iff.mp hc).1
  have ex : ctl k c = x := by
    unfold ctl
    rw [List.getD_eq_getElem?_getD, hc]
    rfl
  have h1 := o.hlen c hcC
  have h2 := o.hlt c
  have h3 := o.lin c hcC
  have h4 := o.nx c hcC
  have h0 := o.l1
  rw [ex] at h1 h3 h4
  show ((decide (1 ≤ L) && decide (L ≤ 4)) && (decide (((x.hits.map dI).length : Int) = (L : Int)) && belowAll (C' : Int) (x.hits.map dI) && (isBelowD (L : Int) (dI x.line) && isBelowD (C' : Int) (dI x.nxt)))) = true
  rw [decide_eq_true h0, decide_eq_true hL, decide_eq_true (by rw [List.length_map, h1]), isBelow_nat h3, isBelow_nat (Nat.lt_of_lt_of_le h4 hC)]
  have : belowAll (C' : Int) (x.hits.map dI) = true := by
    unfold belowAll
    rw [List.all_eq_true]
    intro d hd
    obtain ⟨n, hn, rfl⟩ := List.mem_map.mp hd
    obtain ⟨j, hj⟩ := List.getElem?_of_mem hn
    refine isBelow_nat ?_
    have hjL : j < L := by
      rw [← h1]
      exact (List.getElem?_eq_some_iff.mp hj).1
    have := h2 j hcC hjL
    unfold hit at this
    rw [ex, List.getD_eq_getElem?_getD, hj] at this
    exact Nat.lt_of_lt_of_le this hC
  rw [this]
  rfl
/-- a right cache with a wrong control behind it -/
theorem cacheRes_ext {C L : Nat} {k : Cache} (CC : Addr) (o : Ok C L k) (hC : C ≤ 50) (hL : L ≤ 4) {y : PyData} (hy : ctlFit L (C + 1) y = false) : cacheRes CC (.tuple (k.map dCtl ++ [y])) = .inr (CC, "at", .int (C : Int)) := by
  have hl := o.len
  have h1 := o.c1
  cases k with
  | nil =>
    have hl : (0 : Nat) = C := hl
    omega
  | cons x k =>
    have e0 : linesOf (dCtl x) = L := by
      have h2 := o.hlen 0 h1
      have h2 : x.hits.length = L := h2
      show (x.hits.map dI).length = L
      rw [List.length_map, h2]
    show ((if (dCtl x :: (k.map dCtl ++ [y])).length ≤ 60 then ((match badAt (ctlFit (linesOf (dCtl x)) (dCtl x :: (k.map dCtl ++ [y])).length) (dCtl x :: (k.map dCtl ++ [y])) with
      | some i => .inr (CC, "at", dI i)
      | none => .inl (.tuple (dCtl x :: (k.map dCtl ++ [y]))) : Res)) else .inr (CC, "at", .int (-1)) : Res)) = _
    have e1 : (dCtl x :: (k.map dCtl ++ [y])).length = C + 1 := by
      rw [List.length_cons, List.length_append, List.length_map, List.length_singleton]
      have hl : k.length + 1 = C := hl
      omega
    rw [e1, if_pos (by omega), e0]
    have hk : k.length + 1 = C := hl
    have hsplit : dCtl x :: (k.map dCtl ++ [y]) = (x :: k).map dCtl ++ [y] := rfl
    have : badAt (ctlFit L (C + 1)) (dCtl x :: (k.map dCtl ++ [y])) = some C := by
      rw [hsplit]
      refine badAt_some (y := y) ?_ hy fun j z hj hz => ?_
      · rw [List.getElem?_append_right (by rw [List.length_map, List.length_cons]; omega), List.length_map, List.length_cons, hk, Nat.sub_self]
        rfl
      · rw [List.getElem?_append_left (by rw [List.length_map, List.length_cons]; omega)] at hz
        obtain ⟨c, hc, rfl⟩ := List.mem_map.mp (List.mem_of_getElem? hz)
        exact ctlFit_ge o hL (Nat.le_succ C) hc
    rw [this]
    rfl
/-- data of a wrong cache, with the place where it is wrong -/
structure WrongC (y : PyData) (i : Int) : Prop where
  small : smallC y
  res : ∀ CC : Addr, cacheRes CC y = .inr (CC, "at", .int i)
  ok : okD y = true
end K48
/-! _law_wrong_cache. -/
namespace K48
open PySem L2 Evl K48M
mutual
theorem okD_tup : ∀ d : PyData, tupD d = true → okD d = true
  | .none, _ => by rw [okD]
  | .bool _, _ => by rw [okD]
  | .int _, _ => by rw [okD]
  | .str _, _ => by rw [okD]
  | .dict _, _ => by rw [okD]
  | .list _, h => by rw [tupD] at h; cases h
  | .tuple ds, h => by
    rw [tupD] at h
    rw [okD]
    exact okDs_tup ds h
theorem okDs_tup : ∀ ds : List PyData, tupDs ds = true → okDs ds = true
  | [], _ => by rw [okDs]
  | d :: ds, h => by
    rw [tupDs, Bool.and_eq_true] at h
    rw [okDs, okD_tup d h.1, okDs_tup ds h.2]
    rfl
end
def rep0 (L : Nat) : PyData := dNs (List.replicate L 0)
def dGood (L : Nat) : PyData := .tuple [rep0 L, dI 0, dI 0]
def extC (k : Cache) (y : PyData) : PyData := .tuple (k.map dCtl ++ [y])
/-- no part of a control is too long -/
def smallY (y : PyData) : Prop := ∀ zs, y = .tuple zs → zs.length ≤ 1000000 ∧ ∀ hs r, zs = .tuple hs :: r → hs.length ≤ 1000000
theorem small_ext {C L : Nat} {k : Cache} (o : Ok C L k) (hL : L ≤ 4) {y : PyData} (h : smallY y) : smallC (extC k y) := fun z hz zs ez => by
  rcases List.mem_append.mp hz with q | q
  · exact smallC_ok o hL z q zs ez
  · exact h zs (by rw [← List.mem_singleton.mp q]; exact ez)
theorem smallY3 {a b c : PyData} {n : Nat} (h : ∀ hs, a = .tuple hs → hs.length ≤ 1000000) : smallY (.tuple [a, b, c]) := fun zs e => by
  cases e
  refine ⟨Nat.le_of_ble_eq_true rfl, fun hs r e => ?_⟩
  cases e
  exact h hs rfl
theorem len_rep {n m : Nat} (hs : List PyData) (h : dNs (List.replicate n m) = .tuple hs) : hs.length = n := by
  unfold dNs at h
  cases h
  rw [List.length_map, List.length_replicate]
theorem fit3 {L n : Nat} {a b c : PyData} (h : ctlOk1 (L : Int) (n : Int) a b c = false) : ctlFit L n (.tuple [a, b, c]) = false := by
  show ((decide (1 ≤ L) && decide (L ≤ 4)) && ctlOk1 (L : Int) (n : Int) a b c) = false
  rw [h, Bool.and_false]
theorem wrong_ext {C L : Nat} {k : Cache} (o : Ok C L k) (hC : C ≤ 4) (hL : L ≤ 3) {y : PyData} (hy : ctlFit L (C + 1) y = false) (hs : smallY y) (hk : okD y = true) : WrongC (extC k y) (C : Int) := by
  refine ⟨small_ext o (by omega) hs, fun CC => cacheRes_ext CC o (by omega) (by omega) hy, ?_⟩
  unfold extC
  rw [okD]
  have key : ∀ l : List Ctl, okDs (l.map dCtl ++ [y]) = true := by
    intro l
    induction l with
    | nil =>
      show okDs [y] = true
      rw [okDs, hk, okDs]
      rfl
    | cons x l ih =>
      rw [List.map_cons, List.cons_append, okDs, okD_tup _ (tupD_Ctl x), ih]
      rfl
  exact key k
def wrongCaches (k : Cache) (C L : Nat) : List (PyData × Int) :=
  [(.none, -1), (.tuple [], -1), (.list (k.map dCtl), -1), (.tuple [.none], 0), (.tuple [.tuple [], dI 0, dI 0], 0), (.tuple [.tuple [.tuple [], dI 0, dI 0]], 0)] ++
  [(extC k (.tuple [rep0 L, dI 0]), (C : Int)), (extC k (.tuple [rep0 (L + 1), dI 0, dI 0]), (C : Int)), (.tuple (List.replicate 61 (dGood L)), -1)] ++
  [(extC k (.tuple [rep0 L, dI L, dI 0]), (C : Int)), (extC k (.tuple [rep0 L, dI 0, dI (C + 1)]), (C : Int))] ++
  [(extC k (.tuple [.tuple (List.replicate L (.bool true)), dI 0, dI 0]), (C : Int)), (extC k (.tuple [dNs (List.replicate L (C + 1)), dI 0, dI 0]), (C : Int))] ++
  [(extC k (.list [rep0 L, dI 0, dI 0]), (C : Int)), (.tuple [.tuple [rep0 5, dI 0, dI 0]], 0)]
theorem below_not {n c : Nat} (h : ¬ n < c) : isBelowD (c : Int) (dI n) = false := by
  show (decide ((0 : Int) ≤ (n : Int)) && decide ((n : Int) < (c : Int))) = false
  rw [decide_eq_false (by omega : ¬ (n : Int) < (c : Int)), Bool.and_false]
theorem wrong_cache {C L : Nat} {k : Cache} (o : Ok C L k) (hC : C ≤ 4) (hL : L ≤ 3) : ∀ z ∈ wrongCaches k C L, WrongC z.1 z.2 := by
  have h0 := o.l1
  have small0 : ∀ {a : PyData}, (∀ zs, a ≠ .tuple zs) → smallC a := fun {a} h => by
    cases a with
    | tuple xs => exact absurd rfl (h xs)
    | _ => exact True.intro
  intro z hz
  simp only [wrongCaches, List.mem_append, List.mem_cons, List.not_mem_nil, or_false] at hz
  rcases hz with ((((rfl | rfl | rfl | rfl | rfl | rfl) | rfl | rfl | rfl) | rfl | rfl) | rfl | rfl) | rfl | rfl
  · exact ⟨True.intro, fun CC => rfl, rfl⟩
  · exact ⟨fun y hy => (List.not_mem_nil hy).elim, fun CC => rfl, rfl⟩
  · refine ⟨True.intro, fun CC => rfl, ?_⟩
    show okD (.list (k.map dCtl)) = true
    have hl := o.len
    have h1 := o.c1
    cases k with
    | nil =>
      have hl : (0 : Nat) = C := hl
      omega
    | cons x k =>
      rw [okD, okDs_tup _ (tupDs_map tupD_Ctl _)]
      rfl
  · refine ⟨fun y hy zs e => ?_, fun CC => rfl, rfl⟩
    rw [List.mem_singleton.mp hy] at e
    cases e
  · refine ⟨fun y hy zs e => ?_, fun CC => rfl, rfl⟩
    rcases List.mem_cons.mp hy with rfl | hy
    · cases e
      exact ⟨Nat.zero_le _, fun hs r e => by cases e⟩
    · rcases List.mem_cons.mp hy with rfl | hy
      · cases e
      · rw [List.mem_singleton.mp hy] at e
        cases e
  · refine ⟨fun y hy zs e => ?_, fun CC => rfl, rfl⟩
    rw [List.mem_singleton.mp hy] at e
    cases e
    exact ⟨Nat.le_of_ble_eq_true rfl, fun hs r e => by cases e; exact Nat.zero_le _⟩
  · refine wrong_ext o hC hL ?_ (fun zs e => ?_) (okD_tup _ ?_)
    · show ((decide (1 ≤ L) && decide (L ≤ 4)) && false) = false
      rw [Bool.and_false]
    · cases e
      refine ⟨Nat.le_of_ble_eq_true rfl, fun hs r e => ?_⟩
      unfold rep0 at e
      cases e
      rw [List.length_map, List.length_replicate]
      omega
    · rw [tupD, tupDs, tupDs, tupDs, rep0, tupD_Ns]
      rfl
  · refine wrong_ext o hC hL (fit3 ?_) (smallY3 (n := 0) fun hs e => by rw [len_rep hs e]; omega) (okD_tup _ ?_)
    · show (decide ((((List.replicate (L + 1) 0).map dI).length : Int) = (L : Int)) && _ && _) = false
      rw [List.length_map, List.length_replicate, decide_eq_false (by omega)]
      rfl
    · rw [tupD, tupDs, tupDs, tupDs, tupDs, rep0, tupD_Ns]
      rfl
  · refine ⟨fun y hy zs e => ?_, fun CC => rfl, okD_tup _ ?_⟩
    · rw [List.eq_of_mem_replicate hy] at e
      unfold dGood at e
      cases e
      refine ⟨Nat.le_of_ble_eq_true rfl, fun hs r e => ?_⟩
      unfold rep0 at e
      cases e
      rw [List.length_map, List.length_replicate]
      omega
    · show tupD (.tuple (List.replicate 61 (dGood L))) = true
      rw [tupD, tupDs_iff]
      intro d hd
      rw [List.eq_of_mem_replicate hd]
      unfold dGood
      rw [tupD, tupDs, tupDs, tupDs, tupDs, rep0, tupD_Ns]
      rfl
  · refine wrong_ext o hC hL (fit3 ?_) (smallY3 (n := 0) fun hs e => by rw [len_rep hs e]; omega) (okD_tup _ ?_)
    · show (_ && _ && (isBelowD (L : Int) (dI L) && _)) = false
      rw [below_not (Nat.lt_irrefl L), Bool.false_and, Bool.and_false]
    · rw [tupD, tupDs, tupDs, tupDs, tupDs, rep0, tupD_Ns]
      rfl
  · refine wrong_ext o hC hL (fit3 ?_) (smallY3 (n := 0) fun hs e => by rw [len_rep hs e]; omega) (okD_tup _ ?_)
    · show (_ && _ && (_ && isBelowD ((C + 1 : Nat) : Int) (dI (C + 1)))) = false
      rw [below_not (Nat.lt_irrefl _), Bool.and_false, Bool.and_false]
    · rw [tupD, tupDs, tupDs, tupDs, tupDs, rep0, tupD_Ns]
      rfl
  · refine wrong_ext o hC hL (fit3 ?_) (smallY3 (n := 0) fun hs e => by cases e; rw [List.length_replicate]; omega) (okD_tup _ ?_)
    · obtain ⟨l, rfl⟩ : ∃ l, L = l + 1 := ⟨L - 1, by omega⟩
      show (_ && belowAll _ (PyData.bool true :: List.replicate l (.bool true)) && _) = false
      have : belowAll ((C + 1 : Nat) : Int) (PyData.bool true :: List.replicate l (.bool true)) = false := rfl
      rw [this, Bool.and_false, Bool.false_and]
    · rw [tupD, tupDs, tupDs, tupDs, tupDs, tupD]
      have : tupDs (List.replicate L (.bool true)) = true := tupDs_iff.mpr fun d hd => by rw [List.eq_of_mem_replicate hd, tupD]
      rw [this]
      rfl
  · refine wrong_ext o hC hL (fit3 ?_) (smallY3 (n := 0) fun hs e => by rw [len_rep hs e]; omega) (okD_tup _ ?_)
    · obtain ⟨l, rfl⟩ : ∃ l, L = l + 1 := ⟨L - 1, by omega⟩
      show (_ && belowAll _ ((List.replicate (l + 1) (C + 1)).map dI) && _) = false
      have : belowAll ((C + 1 : Nat) : Int) ((List.replicate (l + 1) (C + 1)).map dI) = false := by
        unfold belowAll
        rw [List.replicate_succ, List.map_cons, List.all_cons, below_not (Nat.lt_irrefl _), Bool.false_and]
      rw [this, Bool.and_false, Bool.false_and]
    · rw [tupD, tupDs, tupDs, tupDs, tupDs, tupD_Ns]
      rfl
  · refine wrong_ext o hC hL ?_ (fun zs e => by cases e) ?_
    · show ((decide (1 ≤ L) && decide (L ≤ 4)) && false) = false
      rw [Bool.and_false]
    · rw [okD, okDs, okDs, okDs, okDs, show okD (rep0 L) = true from okD_tup _ (tupD_Ns _)]
      rfl
  · refine ⟨fun y hy zs e => ?_, fun CC => rfl, rfl⟩
    rw [List.mem_singleton.mp hy] at e
    cases e
    refine ⟨Nat.le_of_ble_eq_true rfl, fun hs r e => ?_⟩
    unfold rep0 at e
    cases e
    rw [List.length_map, List.length_replicate]
    omega
end K48
/-! _law_wrong_cache, walked. -/
namespace K48
open PySem L2 Evl K48M
section
variable {K : PySem.W.Frag} {σ : S} {H : Hp} {ta tb tm tn te : TE} {D : Ends} {ds : List PyData} {d e : PyData}
theorem d_parI {i j : Nat} {a b : Int} (h : EvD ta σ H (.int a)) (h2 : EvD tb σ H (.int b)) (k : ∀ H1, Ex H H1 → D.nx ((σ.set i (some (.int a))).set j (some (.int b))) H1) : tPar i j (tCons ta (tCons tb tNil)) D σ H :=
  h H (Ex.refl H) _ fun v H1 e1 r1 => h2 H1 e1 _ fun u H2 e2 r2 => ⟨v, u, rfl, by
    rw [r1.int_inv, r2.int_inv]
    exact k H2 (e1.trans e2)⟩
theorem evd_repN {m n : Nat} (ha : EvD tm σ H (dI m)) (hb : EvD tn σ H (.int (n : Int))) (h1 : 1 ≤ n) (h2 : n ≤ 1000) : EvD (tOp (rRepP K) (tTupP (tCons tm tNil)) tn) σ H (dNs (List.replicate n m)) := (evd_rep (evd_tup (evds_cons ha evds_nil)) hb (by simp) h1 h2 (Nat.le_of_ble_eq_true rfl)).is (by
  rw [flat_rep]
  unfold dNs
  rw [List.map_replicate])
theorem evd_repD {n : Nat} (ha : EvD tm σ H d) (hb : EvD tn σ H (.int (n : Int))) (h1 : 1 ≤ n) (h2 : n ≤ 1000) : EvD (tOp (rRepP K) (tTupP (tCons tm tNil)) tn) σ H (.tuple (List.replicate n d)) := (evd_rep (evd_tup (evds_cons ha evds_nil)) hb (by simp) h1 h2 (Nat.le_of_ble_eq_true rfl)).is (by rw [flat_rep])
/-- cache + (y,) -/
theorem evd_extC {k : Cache} (ha : EvD ta σ H (dCache k)) (hb : EvD tb σ H d) (hk : k.length ≤ 1000) : EvD (tOp (rCatP K) ta (tTupP (tCons tb tNil))) σ H (extC k d) := evd_catT ha (evd_tup (evds_cons hb evds_nil)) (by rw [List.length_map]; show _ + 1 ≤ _; omega)
end
theorem d_sq {tu tz : TS} {D : Ends} {r : VK} {b c : L2.St → Hp → Prop} {σ : S} {H : Hp} (h : tu { D with nx := tz D } σ H) : ({ nx := tSeq tu tz D, rt := r, bk := b, ct := c } : Ends).nx σ H := h
theorem d_nx {F : L2.St → Hp → Prop} {r : VK} {b c : L2.St → Hp → Prop} {σ : S} {H : Hp} (h : F σ H) : ({ nx := F, rt := r, bk := b, ct := c } : Ends).nx σ H := h
def spWcache : Sp := fun vs H Q _ => ∃ (d p : Addr) (v0 : V) (k : Cache) (C L : Nat), vs = [.ref d, v0] ∧ DealAt H d p ∧ Rp H v0 (dCache k) ∧ Ok C L k ∧ C ≤ 4 ∧ L ≤ 3 ∧ ∀ z v H', z ∈ wrongCaches k C L → Rp H' v (dWrong z) → But [d, p] H H' → DealAt H' d p → Q v H'
section
variable {P : Program} {w : World} {K : PySem.W.Frag} {mg : Str → Option Value} {base : Heap}
theorem ok_law_wrong_cache {f : Addr} {fd : FuncData} (F : Fun K "_law_wrong_cache" "_law_wrong_cache" s__law_wrong_cache f fd) (T : Mg mg) (co : Cal P w K mg base CX0 2 "_law_of" ["_law_deal", "_law_some"] spOf) : FnOk P w K mg base CX0 3 f fd ["_law_deal", "_law_cache_here"] spWcache := by
  refine F.ok sc__law_wrong_cache (fun vs H Q E h => ?_) (fun cdv A outer sh H vs Q E hr h => ?_)
  · obtain ⟨d, p, v0, k, C, L, rfl, _⟩ := h
    rfl
  obtain ⟨d, p, v0, k, C, L, rfl, x, r1, o, hC, hL, q⟩ := h
  refine ⟨_, pss_cons (ps_par (by rfl) sc__law_wrong_cache.nd (i := 2) (j := 3) rfl rfl (by decide) rfl rfl (pa_cons (pe_callB call_len_seq (by rfl) T.len (by decide +kernel) (pa_cons (pe_ix ix_tup (pe_ix ix_tup (pv 1) pe_int (fun _ _ => rfl)) pe_int (fun _ _ => rfl)) pa_nil)) (pa_cons (pe_callB call_len_seq (by rfl) T.len (by decide +kernel) (pa_cons (pv 1) pa_nil)) pa_nil)) (by rfl))
    (pss_cons (ps_set (i := 4) sc__law_wrong_cache.nd rfl (.inl rfl) (pe_tupP (pa_cons (pe_op op_repP (pe_tupP (pa_cons pe_int pa_nil)) (pv 2)) (pa_cons pe_int (pa_cons pe_int pa_nil)))))
    (pss_cons (ps_set (i := 5) sc__law_wrong_cache.nd rfl (.inl rfl) (pe_lst (pa_cons (pe_tupP (pa_cons pe_non (pa_cons (pe_un un_neg pe_int) pa_nil))) (pa_cons (pe_tupP (pa_cons (pe_tupP pa_nil) (pa_cons (pe_un un_neg pe_int) pa_nil))) (pa_cons (pe_tupP (pa_cons (pe_callTy call_list_of (by rfl) T.list (by decide +kernel) (pa_cons (pv 1) pa_nil)) (pa_cons (pe_un un_neg pe_int) pa_nil)))
        (pa_cons (pe_tupP (pa_cons (pe_tupP (pa_cons pe_non pa_nil)) (pa_cons pe_int pa_nil))) (pa_cons (pe_tupP (pa_cons (pe_tupP (pa_cons (pe_tupP pa_nil) (pa_cons pe_int (pa_cons pe_int pa_nil)))) (pa_cons pe_int pa_nil)))
        (pa_cons (pe_tupP (pa_cons (pe_tupP (pa_cons (pe_tupP (pa_cons (pe_tupP pa_nil) (pa_cons pe_int (pa_cons pe_int pa_nil)))) pa_nil)) (pa_cons pe_int pa_nil))) pa_nil))))))))
    (pss_cons (ps_set (i := 5) sc__law_wrong_cache.nd rfl (.inl rfl) (pe_op op_cat (pv 5) (pe_lst (pa_cons (pe_tupP (pa_cons (pe_op op_catP (pv 1) (pe_tupP (pa_cons (pe_slice sl_tupP (pv 4) po_none (po_some pe_int)) pa_nil))) (pa_cons (pv 3) pa_nil)))
        (pa_cons (pe_tupP (pa_cons (pe_op op_catP (pv 1) (pe_tupP (pa_cons (pe_tupP (pa_cons (pe_op op_repP (pe_tupP (pa_cons pe_int pa_nil)) (pe_op op_add (pv 2) pe_int)) (pa_cons pe_int (pa_cons pe_int pa_nil)))) pa_nil))) (pa_cons (pv 3) pa_nil)))
        (pa_cons (pe_tupP (pa_cons (pe_op op_repP (pe_tupP (pa_cons (pv 4) pa_nil)) pe_int) (pa_cons (pe_un un_neg pe_int) pa_nil))) pa_nil))))))
    (pss_cons (ps_set (i := 5) sc__law_wrong_cache.nd rfl (.inl rfl) (pe_op op_cat (pv 5) (pe_lst (pa_cons (pe_tupP (pa_cons (pe_op op_catP (pv 1) (pe_tupP (pa_cons (pe_tupP (pa_cons (pe_op op_repP (pe_tupP (pa_cons pe_int pa_nil)) (pv 2)) (pa_cons (pv 2) (pa_cons pe_int pa_nil)))) pa_nil))) (pa_cons (pv 3) pa_nil)))
        (pa_cons (pe_tupP (pa_cons (pe_op op_catP (pv 1) (pe_tupP (pa_cons (pe_tupP (pa_cons (pe_op op_repP (pe_tupP (pa_cons pe_int pa_nil)) (pv 2)) (pa_cons pe_int (pa_cons (pe_op op_add (pv 3) pe_int) pa_nil)))) pa_nil))) (pa_cons (pv 3) pa_nil))) pa_nil)))))
    (pss_cons (ps_set (i := 5) sc__law_wrong_cache.nd rfl (.inl rfl) (pe_op op_cat (pv 5) (pe_lst (pa_cons (pe_tupP (pa_cons (pe_op op_catP (pv 1) (pe_tupP (pa_cons (pe_tupP (pa_cons (pe_op op_repP (pe_tupP (pa_cons pe_bl pa_nil)) (pv 2)) (pa_cons pe_int (pa_cons pe_int pa_nil)))) pa_nil))) (pa_cons (pv 3) pa_nil)))
        (pa_cons (pe_tupP (pa_cons (pe_op op_catP (pv 1) (pe_tupP (pa_cons (pe_tupP (pa_cons (pe_op op_repP (pe_tupP (pa_cons (pe_op op_add (pv 3) pe_int) pa_nil)) (pv 2)) (pa_cons pe_int (pa_cons pe_int pa_nil)))) pa_nil))) (pa_cons (pv 3) pa_nil))) pa_nil)))))
    (pss_one (ps_ret (pe_cal co hr (by decide) (by rfl) (pa_cons (pv 0) (pa_cons (pe_op op_cat (pv 5) (pe_lst (pa_cons (pe_tupP (pa_cons (pe_op op_catP (pv 1) (pe_tupP (pa_cons (pe_callTy call_list_of (by rfl) T.list (by decide +kernel) (pa_cons (pv 4) pa_nil)) pa_nil))) (pa_cons (pv 3) pa_nil)))
        (pa_cons (pe_tupP (pa_cons (pe_tupP (pa_cons (pe_tupP (pa_cons (pe_op op_repP (pe_tupP (pa_cons pe_int pa_nil)) pe_int) (pa_cons pe_int (pa_cons pe_int pa_nil)))) pa_nil)) (pa_cons pe_int pa_nil))) pa_nil)))) pa_nil)))))))))), ?_⟩
  have hk : k.length ≤ 1000 := by
    rw [o.len]
    omega
  have h1 := o.l1
  have c1 := o.c1
  refine d_seq (d_parI (a := (L : Nat)) (b := (C : Nat)) ((evd_lenT (evd_ixT (evd_ixT (evd_var rfl r1) evd_int (atI_map (ctl_get o o.c1))) evd_int rfl)).is ?g1) ((evd_lenT (evd_var rfl r1)).is ?g2) fun H1 e1 => ?_)
  case g1 =>
    rw [List.length_map, o.hlen 0 o.c1]
  case g2 =>
    rw [List.length_map, o.len]
  have s1 := r1.up e1
  refine d_sq (d_asg (d := dGood L) (evd_tup (evds_cons (evd_repN evd_int (evd_var rfl (.int _)) h1 (by omega)) (evds_cons evd_int (evds_cons evd_int evds_nil)))) fun v4 H2 e2 r4 => ?_)
  have s2 := s1.up e2
  refine d_sq (d_asgN (ds := ([(.none, -1), (.tuple [], -1), (.list (k.map dCtl), -1), (.tuple [.none], 0), (.tuple [.tuple [], dI 0, dI 0], 0), (.tuple [.tuple [.tuple [], dI 0, dI 0]], 0)] : List (PyData × Int)).map dWrong)
    (evn_lst (evds_cons (evd_tup (evds_cons evd_non (evds_cons (evd_neg evd_int) evds_nil))) (evds_cons (evd_tup (evds_cons (evd_tup evds_nil) (evds_cons (evd_neg evd_int) evds_nil))) (evds_cons (evd_tup (evds_cons (EvN.toD (evn_lstT (evd_var rfl s2))) (evds_cons (evd_neg evd_int) evds_nil)))
      (evds_cons (evd_tup (evds_cons (evd_tup (evds_cons evd_non evds_nil)) (evds_cons evd_int evds_nil))) (evds_cons (evd_tup (evds_cons (evd_tup (evds_cons (evd_tup evds_nil) (evds_cons evd_int (evds_cons evd_int evds_nil)))) (evds_cons evd_int evds_nil)))
      (evds_cons (evd_tup (evds_cons (evd_tup (evds_cons (evd_tup (evds_cons (evd_tup evds_nil) (evds_cons evd_int (evds_cons evd_int evds_nil)))) evds_nil)) (evds_cons evd_int evds_nil))) evds_nil))))))) fun l1 xs1 H3 n1 e3 hl1 rl1 => ?_)
  have s3 := s2.up e3
  refine d_sq (d_asgN (evn_catL (es := ([(extC k (.tuple [rep0 L, dI 0]), (C : Int)), (extC k (.tuple [rep0 (L + 1), dI 0, dI 0]), (C : Int)), (.tuple (List.replicate 61 (dGood L)), -1)] : List (PyData × Int)).map dWrong) (evd_var rfl (.lst hl1 rl1))
    (EvN.toD (evn_lst (evds_cons (evd_tup (evds_cons (evd_extC (evd_var rfl s3) ((evd_slT (ds := [rep0 L, dI 0, dI 0]) (evd_var rfl (r4.up e3)) evdo_none (evdo_some (evd_int (i := ((2 : Nat) : Int))))).is (congrArg PyData.tuple (cut_to [rep0 L, dI 0, dI 0] (j := 2) (Nat.le_of_ble_eq_true rfl)))) hk) (evds_cons (evd_var rfl (.int _)) evds_nil)))
      (evds_cons (evd_tup (evds_cons (evd_extC (evd_var rfl s3) (evd_tup (evds_cons (evd_repN evd_int ((evd_add (evd_var rfl (.int _)) evd_int).is (congrArg PyData.int (Int.natCast_add L 1).symm)) (by omega) (by omega)) (evds_cons evd_int (evds_cons evd_int evds_nil)))) hk) (evds_cons (evd_var rfl (.int _)) evds_nil)))
      (evds_cons (evd_tup (evds_cons (evd_repD (n := 61) (evd_var rfl (r4.up e3)) evd_int (by decide) (by decide)) (evds_cons (evd_neg evd_int) evds_nil))) evds_nil)))))) fun l2 xs2 H4 n2 e4 hl2 rl2 => ?_)
  have s4 := s3.up e4
  refine d_sq (d_asgN (evn_catL (es := ([(extC k (.tuple [rep0 L, dI L, dI 0]), (C : Int)), (extC k (.tuple [rep0 L, dI 0, dI (C + 1)]), (C : Int))] : List (PyData × Int)).map dWrong) (evd_var rfl (.lst hl2 rl2))
    (EvN.toD (evn_lst (evds_cons (evd_tup (evds_cons (evd_extC (evd_var rfl s4) (evd_tup (evds_cons (evd_repN evd_int (evd_var rfl (.int _)) h1 (by omega)) (evds_cons (evd_var rfl (.int _)) (evds_cons evd_int evds_nil)))) hk) (evds_cons (evd_var rfl (.int _)) evds_nil)))
      (evds_cons (evd_tup (evds_cons (evd_extC (evd_var rfl s4) (evd_tup (evds_cons (evd_repN evd_int (evd_var rfl (.int _)) h1 (by omega)) (evds_cons evd_int (evds_cons ((evd_add (evd_var rfl (.int _)) evd_int).is (congrArg PyData.int (Int.natCast_add C 1).symm)) evds_nil)))) hk) (evds_cons (evd_var rfl (.int _)) evds_nil))) evds_nil))))) fun l3 xs3 H5 n3 e5 hl3 rl3 => ?_)
  have s5 := s4.up e5
  refine d_sq (d_asgN (evn_catL (es := ([(extC k (.tuple [.tuple (List.replicate L (.bool true)), dI 0, dI 0]), (C : Int)), (extC k (.tuple [dNs (List.replicate L (C + 1)), dI 0, dI 0]), (C : Int))] : List (PyData × Int)).map dWrong) (evd_var rfl (.lst hl3 rl3))
    (EvN.toD (evn_lst (evds_cons (evd_tup (evds_cons (evd_extC (evd_var rfl s5) (evd_tup (evds_cons (evd_repD evd_bl (evd_var rfl (.int _)) h1 (by omega)) (evds_cons evd_int (evds_cons evd_int evds_nil)))) hk) (evds_cons (evd_var rfl (.int _)) evds_nil)))
      (evds_cons (evd_tup (evds_cons (evd_extC (evd_var rfl s5) (evd_tup (evds_cons (evd_repN ((evd_add (evd_var rfl (.int _)) evd_int).is (congrArg PyData.int (Int.natCast_add C 1).symm)) (evd_var rfl (.int _)) h1 (by omega)) (evds_cons evd_int (evds_cons evd_int evds_nil)))) hk) (evds_cons (evd_var rfl (.int _)) evds_nil))) evds_nil))))) fun l4 xs4 H6 n4 e6 hl4 rl4 => ?_)
  have s6 := s5.up e6
  have e06 := e1.trans (e2.trans (e3.trans (e4.trans (e5.trans e6))))
  have g6 := (((r4.up e3).up e4).up e5).up e6
  refine d_nx (of_call (ds := (wrongCaches k C L).map dWrong) rfl (evn_catL (es := ([(extC k (.list [rep0 L, dI 0, dI 0]), (C : Int)), (.tuple [.tuple [rep0 5, dI 0, dI 0]], 0)] : List (PyData × Int)).map dWrong) (evd_var rfl (.lst hl4 rl4))
    (EvN.toD (evn_lst (evds_cons (evd_tup (evds_cons (evd_extC (evd_var rfl s6) (EvN.toD (evn_lstT (evd_var rfl g6))) hk) (evds_cons (evd_var rfl (.int _)) evds_nil)))
      (evds_cons (evd_tup (evds_cons (evd_tup (evds_cons (evd_tup (evds_cons (evd_repN (n := 5) evd_int evd_int (by decide) (by decide)) (evds_cons evd_int (evds_cons evd_int evds_nil)))) evds_nil)) (evds_cons evd_int evds_nil))) evds_nil))))) (x.up e06) (Nat.le_of_ble_eq_true rfl) (Nat.le_of_ble_eq_true rfl) (fun dat hd => ?_) fun dat v H' hd rv b x' => ?_)
  · obtain ⟨z, hz, rfl⟩ := List.mem_map.mp hd
    have := (wrong_cache o hC hL z hz).ok
    unfold dWrong
    rw [okD, okDs, okDs, okDs, this, okD]
    rfl
  · obtain ⟨z, hz, rfl⟩ := List.mem_map.mp hd
    exact q z v H' hz rv ((But.ex e06).trans b) x'
end
end K48
/-! try with several clauses, each with a name of its own. -/
namespace K48
open PySem PySem.Spec PyProof.Rows L2 Evl K48M
/-- what clauses with a name (in slot i) ask of what comes, clause by clause -/
def wAses (K : PySem.W.Frag) (i : Nat) (W0 : WX) (D : Ends) : List (Value × (Addr → Value → Option Addr → TS)) → WX
  | [] => W0
  | q :: l => wAs K q.1 i q.2 (wAses K i W0 D l) D
/-- clauses with the name n, as they stand, and their suites' readings -/
inductive Clauses (X : Cx) (n : Str) : List ExceptHandler → List (Value × (Addr → Value → Option Addr → TS)) → Prop
  | nil : Clauses X n [] []
  | cons {x : Str} {c : Value} {ts : Addr → Value → Option Addr → TS} {b : Stmt} {bs : List Stmt} {p1 p2 : Pos} {hs : List ExceptHandler} {l : List (Value × (Addr → Value → Option Addr → TS))} : Names X x c →
      (∀ (a : Addr) (o : Obj) (k : Value) (d : Option Addr) (pn : List (Addr × Obj)), Zc k d o → (∃ us, o.data = .fields us) → PSs (X.suite a ((a, o) :: pn)) (b :: bs) (ts a k d)) → Clauses X n hs l →
      Clauses X n (.ExceptHandler (some (.Name x p1)) (some n) (b :: bs) p2 :: hs) ((c, ts) :: l)
/-- an exception, caught: the state sI without it, the state s with it -/
structure Air (X : Cx) (B : Heap) (a : Addr) (k : Value) (d : Option Addr) (pins : List (Addr × Obj)) (σ : L2.St) (H : Hp) (sI s : Shared) : Prop where
  inv : Inv X pins σ H sI
  old : ∀ b o, sI.heap.get? b = some o → b ∉ frs X.stack → B.get? b = some o
  fly : HandSPX.FlyingZ B (X.env :: X.outer) a (Zc k d) s.heap
  up : sI.heap.UpToSlots s.heap
  none : H a = none
  os : s.os = sI.os
  bare : AllBare s.gens
section
variable {X : Cx} {B : Heap} {a : Addr} {k : Value} {d : Option Addr} {pins : List (Addr × Obj)} {σ : L2.St} {H : Hp} {sI s : Shared} {n : Str} {i : Nat} {W0 : WX} {D : Ends} {hds : List ExceptHandler} {l : List (Value × (Addr → Value → Option Addr → TS))}
theorem Air.now (y : Air X B a k d pins σ H sI s) : Inv X pins σ H s := Inv.landed y.inv y.old y.fly.1 y.up y.os y.bare
/-- it is none of the frames -/
theorem Air.out (y : Air X B a k d pins σ H sI s) (hf : X.env.frame = some X.env.locals) : a ≠ X.env.locals ∧ a ∉ X.fs := by
  obtain ⟨o, us, h1, _, h2⟩ := y.fly.there
  have key : a ∉ frs (X.env :: X.outer) := by
    intro z
    obtain ⟨_, o2, h3, h4⟩ := y.fly.2.2.1.mem z
    cases h1.symm.trans h3
    exact h4 _ h2
  constructor
  · intro z
    refine key (List.mem_filterMap.mpr ⟨X.env, List.mem_cons_self, ?_⟩)
    rw [z]
    exact hf
  · intro z
    obtain ⟨e, he, q⟩ := List.mem_filterMap.mp z
    exact key (List.mem_filterMap.mpr ⟨e, List.mem_cons_of_mem _ he, q⟩)
/-- in a suite, with what is pinned -/
theorem Air.in_ (y : Air X B a k d pins σ H sI s) (hf : X.env.frame = some X.env.locals) : ∃ (o : Obj), Zc k d o ∧ (∃ us, o.data = .fields us) ∧ Inv (X.suite a ((a, o) :: (X.pn ++ pins))) [] σ H s := by
  obtain ⟨o, us, h1, h2, h3⟩ := y.fly.there
  exact ⟨o, h2, ⟨us, h3⟩, y.now.suite h1 h3 y.none (y.out hf).1 (y.out hf).2⟩
/-- no clause is left: on it goes -/
theorem Air.on (y : Air X B a k d pins σ H sI s) (hs : X.stack = X.env :: X.outer) (hf : X.env.frame = some X.env.locals) (tk : Takes X W0) (w : W0 k d σ H) : wpAny (model X.prog X.w) X.A (handleBy (.ref a) X.env []) (SP X pins D) X.xe s := by
  refine wpAny_handleBy_nil ?_
  have f := y.fly
  obtain ⟨_, _, _, o, us, t, _, _, q1, _, q2, q3, _⟩ := id f
  unfold PySem.passOn
  refine wpAny_bind (wpAny_field q1 q2 q3 ?_)
  have hb : (Value.ref t == Value.none) = false := by simp
  rw [if_neg (by rw [hb]; exact Bool.false_ne_true)]
  have last : wpAny (model X.prog X.w) X.A (setFlight (.ref a) X.env.frame) (fun _ s1 => wpAny (model X.prog X.w) X.A (throw (.ref a) : Sem Flow) (SP X pins D) X.xe s1) X.xe s := by
    rw [hf]
    refine HandSPX.setFlight_upZ f fun h1 g1 u1 => wpAny_throw (tk (.ref a) _ ?_)
    refine ⟨a, B, sI, pins, σ, H, k, d, rfl, y.inv, y.old, y.up.trans u1, ?_, y.none, y.os, y.bare, w⟩
    rw [hs]
    exact Or.inr (Or.inr g1)
  first
    | exact wpAny_bind last
    | exact wpAny_bind (wpAny_pure (wpAny_bind last))
/-- a clause's test: whether the class is one of c's -/
theorem Air.test {x : Str} {c : Value} {b : Bool} {p1 : Pos} {R : Bool → Shared → Prop} {E1 : Value → Shared → Prop} (y : Air X B a k d pins σ H sI s) (hf : X.env.frame = some X.env.locals) (hc : Names X x c) (hb : PySem.W.exmOne X.K k c = some b) (h : R b s) :
    wpAny (model X.prog X.w) (X.A.mark (some (.ref a))) (eval (.Name x p1) X.env) (fun c s1 => wpAny (model X.prog X.w) (X.A.mark (some (.ref a))) (excMatches (.ref a) c) R E1 s1) E1 s := by
  obtain ⟨o, us, h1, h2, h3⟩ := y.fly.there
  have look : PySem.W.Looks (model X.prog X.w) s.heap (typeOf (.ref a)) k := fun _ _ _ _ g q => wpAny_typeOf_ref (g _ _ h1) (h2.1.symm ▸ q)
  have mt := PySem.W.exm_one (M := model X.prog X.w) y.now.kIn look hb
  have J := y.now.suite h1 h3 y.none (y.out hf).1 (y.out hf).2
  obtain ⟨g, nd, m⟩ := hc
  rcases m with m | ⟨m0, m1, m2⟩
  · exact ld_glob (X := X.suite a ((a, o) :: (X.pn ++ pins))) J g m (mt.here h) nd
  · exact ld_blt (X := X.suite a ((a, o) :: (X.pn ++ pins))) J g m0 m1 (mt.here h) m2 nd
theorem Air.clauses (hs : X.stack = X.env :: X.outer) (hf : X.env.frame = some X.env.locals) (nd : X.N.Nodup) (hi : X.N[i]? = some n) (hl : X.env.kindOf n = some .local) (tk : Takes X W0) (cl : Clauses X n hds l) (y : Air X B a k d pins σ H sI s) (w : wAses X.K i W0 D l k d σ H) :
    wpAny (model X.prog X.w) X.A (handleBy (.ref a) X.env hds) (SP X pins D) X.xe s := by
  induction cl with
  | nil => exact y.on hs hf tk w
  | @cons x c ts b bs p1 p2 hs' l' hc hsu _ ih =>
    obtain ⟨t, ht, yes, no⟩ := w
    refine wpAny_handleBy_cons (codeAny_handlers_test (y.test hf hc ht ?_)) (fun z => Value.noConfusion z)
    cases t with
    | false => exact ih (no rfl)
    | true =>
      refine codeAny_handlers_suite_as (HandSPX.lands_againZ y.fly fun h1 f1 u1 => ?_)
      have y1 : Air X B a k d pins σ H sI { s with heap := h1 } := ⟨y.inv, y.old, f1, y.up.trans u1, y.none, y.os, y.bare⟩
      obtain ⟨o, hz, hd, J⟩ := y1.in_ hf
      refine store_ok (X := X.suite a ((a, o) :: (X.pn ++ pins))) (v := .ref a) J nd hi (.inl hl) rfl (fun s2 J2 => ?_) (.inr hl)
      have back : ∀ {σ3 : L2.St} {H3 : Hp} {s3 : Shared} {Q3 : Shared → Prop}, Inv (X.suite a ((a, o) :: (X.pn ++ pins))) [] σ3 H3 s3 → (∀ s4, Inv X pins (σ3.set i .none) H3 s4 → Q3 s4) →
          wpAny (model X.prog X.w) X.A (do bindName X.env n .none; unbindBehindTheSuite X.env n p2) (fun _ s4 => Q3 s4) X.xe s3 := fun J3 q3 => gone_ok (J3.unsuite y.inv.ok) nd hi hl q3
      refine wpAny_mono ((hsu a o k d _ hz hd).run [] s2 _ H _ J2 (yes rfl a y.none)) (fun fl s3 g => ?_) fun _ _ z => z.elim
      cases fl with
      | ret u =>
        obtain ⟨v, σ3, H3, J3, rv, q3⟩ := g
        exact back J3 fun s4 J4 => ⟨v, σ3.set i .none, H3, J4, rv, q3⟩
      | next =>
        obtain ⟨σ3, H3, J3, q3⟩ := g
        exact back J3 fun s4 J4 => ⟨σ3.set i .none, H3, J4, q3⟩
      | brk =>
        obtain ⟨σ3, H3, J3, q3⟩ := g
        exact back J3 fun s4 J4 => ⟨σ3.set i .none, H3, J4, q3⟩
      | cont =>
        obtain ⟨σ3, H3, J3, q3⟩ := g
        exact back J3 fun s4 J4 => ⟨σ3.set i .none, H3, J4, q3⟩
end
section
variable {X : Cx} {body : List Stmt} {h0 : ExceptHandler} {hds : List ExceptHandler} {l : List (Value × (Addr → Value → Option Addr → TS))} {pos : Pos} {tb : WX → TS} {W0 : WX} {n : Str} {i : Nat}
/-- try: body / except A as n: .. / except B as n: .. -/
theorem ps_try_ases (hs : X.stack = X.env :: X.outer) (hf : X.env.frame = some X.env.locals) (nd : X.N.Nodup) (hi : X.N[i]? = some n) (hl : X.env.kindOf n = some .local) (tk : Takes X W0)
    (hb : ∀ (W : WX) (pn : List (Addr × Obj)) (xe : Value → Shared → Prop), Takes (X.tr pn xe) W → PSs (X.tr pn xe) body (tb W)) (cl : Clauses X n (h0 :: hds) l) :
    PS X (.Try body (h0 :: hds) [] [] pos) (fun D σ H => tb (wAses X.K i W0 D l) D σ H) := by
  constructor
  intro pins s σ H D I h
  have ok := I.ok
  refine wpAny_Try_except (wpAny_mono ((hb (wAses X.K i W0 D l) (X.pn ++ pins) _ fun u s' y => ?_).run [] s σ H D (I.toTry _) h) (fun fl s1 g => ?_) fun _ _ z => z)
  · obtain ⟨a, B, sI, pins', σ', H', k, d, rfl, J, old, up, sky, na, os, bare, w⟩ := y
    rw [show (X.tr (X.pn ++ pins) _).stack = X.env :: X.outer from hs] at sky
    refine Sky.land Zc.steady (ok.frames.trans (congrArg some hs)) hf sky fun h1 f1 u1 => ?_
    exact Air.clauses hs hf nd hi hl tk cl ⟨Inv.ofTry J ok, old, f1, up.trans u1, na, os, bare⟩ w
  · cases fl with
    | next =>
      obtain ⟨σ', H', J, q⟩ := g
      exact wpAny_execs_nil ⟨σ', H', Inv.ofTry J ok, q⟩
    | ret u =>
      obtain ⟨v, σ', H', J, r, q⟩ := g
      exact ⟨v, σ', H', Inv.ofTry J ok, r, q⟩
    | brk =>
      obtain ⟨σ', H', J, q⟩ := g
      exact ⟨σ', H', Inv.ofTry J ok, q⟩
    | cont =>
      obtain ⟨σ', H', J, q⟩ := g
      exact ⟨σ', H', Inv.ofTry J ok, q⟩
end
end K48
/-! _law_tried. -/
namespace K48
open PySem L2 Evl K48M
/-- which class is named by which word -/
inductive Tag (CC CI CZ : Addr) : Addr → Str → Str → Prop
  | c : Tag CC CI CZ CC "at" "cache"
  | i : Tag CC CI CZ CI "at" "index"
  | z : Tag CC CI CZ CZ "word" "size"
/-- the classes, and which clauses take them -/
structure Exm (K : PySem.W.Frag) (CC CI CZ : Addr) : Prop where
  cc : PySem.W.exmOne K (.ref CC) (.ref CC) = some true
  ic : PySem.W.exmOne K (.ref CI) (.ref CC) = some false
  ii : PySem.W.exmOne K (.ref CI) (.ref CI) = some true
  zc : PySem.W.exmOne K (.ref CZ) (.ref CC) = some false
  zi : PySem.W.exmOne K (.ref CZ) (.ref CI) = some false
  zz : PySem.W.exmOne K (.ref CZ) (.ref CZ) = some true
  fc : XfC K CC
  fi : XfC K CI
  fz : XfC K CZ
  nc : PySem.W.findIn K (.ref CC) "at" = some none
  ni : PySem.W.findIn K (.ref CI) "at" = some none
  nz : PySem.W.findIn K (.ref CZ) "word" = some none
/-- what raises C with the data dat in the field par -/
def Rz (C : Addr) (par : Str) (dat : PyData) (H : Hp) : XK := fun cls d H1 => cls = .ref C ∧ ∃ dx v, d = some dx ∧ H1 dx = some (.xd [(par, v)]) ∧ Rp H1 v dat ∧ Ex H H1
theorem Rz.rsd (C : Addr) (par : Str) (dat : PyData) (H : Hp) : Rsd (Rz C par dat H) C par dat H := fun dx v H1 e h r => ⟨rfl, dx, v, rfl, h, r, e⟩
/-- _law_tried of what raises -/
def TTr (CC CI CZ : Addr) : (XK → Hp → VK → Prop) → Hp → VK → Prop := fun tl H Q => ∃ (C : Addr) (par tag : Str) (dat : PyData), Tag CC CI CZ C par tag ∧ (∀ Q', tl (Rz C par dat H) H Q') ∧ ∀ u H1, Ex H H1 → Rp H1 u (.tuple [.str tag, dat]) → Q u H1
theorem evd_xf {σ : S} {H : Hp} {a C dx : Addr} {par : Str} {i : Nat} {v : V} {dat : PyData} (h0 : σ[i]? = some (some (.ref a))) (hd : H dx = some (.xd [(par, v)])) (r : Rp H v dat) : EvD (tXf a (.ref C) (some dx) C par (tVar i)) σ H dat := fun H1 x Q q =>
  ⟨.ref a, h0, rfl, rfl, dx, [(par, v)], v, rfl, x _ _ hd, List.lookup_cons_self, q v H1 (Ex.refl _) (r.up x)⟩
theorem Takes.len {X : Cx} {W : WX} (tk : Takes X W) : Takes X (fun c d σ H => σ.length = X.N.length → W c d σ H) := fun u s' ⟨a, B, sI, pins, σ, H, cls, d, e, I, nb, up, sky, na, os, ag, w⟩ => tk u s' ⟨a, B, sI, pins, σ, H, cls, d, e, I, nb, up, sky, na, os, ag, w I.len⟩
theorem set1 {σ : S} {v : V} (h : σ.length = 2) : (σ.set 1 (some v))[1]? = some (some v) := by
  rw [List.getElem?_set_self (by omega)]
theorem tried_gives {X : Cx} {CC CI CZ : Addr} {g : Addr} {cdg : Value} {q : Str} (T : Exs X.prog X.K X.mg CC CI CZ) (M : Exm X.K CC CI CZ) : LamX.GivesTo X N__law_tried "_law_tried" (defScope s__law_tried) g cdg (defBody s__law_tried) "_law_work" q (TTr CC CI CZ) := by
  intro f c' s H Q tl act hc h
  obtain ⟨C, par, tag, dat, ht, hq, hk⟩ := h
  refine ⟨_, pss_one (ps_try_ases (X := (cxOf C8.CX0 X.prog X.w X.K X.mg X.base N__law_tried "_law_tried" (defScope s__law_tried) g cdg X.A X.stack s H C8.E0).nox) (i := 1)
    (tb := fun W D σ H => ∃ Ech : XK, (∀ cls d σ' H', Ech cls d H' → σ'.length = 2 → W cls d σ' H') ∧ tRet (tTupP (tCons (tC (.str "told")) (tCons (fun σZ HZ Q => σZ[0]? = some (some (.ref f)) ∧ HZ c' = some (LamX.CodeO c' q) ∧ tl Ech HZ Q) tNil))) D σ H)
    rfl rfl sc__law_tried.nd rfl rfl LamX.takes0 (fun W pn xe tk => ⟨fun pins s' σ H' D I h' => ?_⟩)
    (.cons ⟨by rfl, by decide, .inl T.c.gC⟩ (fun a oe k d pn hz hf => pss_one (ps_ret (pe_tupP (pa_cons pe_str (pa_cons (pe_xf M.fc M.nc hz hf (pv 1)) pa_nil)))))
    (.cons ⟨by rfl, by decide, .inl T.i.gC⟩ (fun a oe k d pn hz hf => pss_one (ps_ret (pe_tupP (pa_cons pe_str (pa_cons (pe_xf M.fi M.ni hz hf (pv 1)) pa_nil)))))
    (.cons ⟨by rfl, by decide, .inl T.z.gC⟩ (fun a oe k d pn hz hf => pss_one (ps_ret (pe_tupP (pa_cons pe_str (pa_cons (pe_xf M.fz M.nz hz hf (pv 1)) pa_nil)))))
    .nil)))), ?_⟩
  · obtain ⟨Ech, hW, h2⟩ := h'
    exact (pss_one (ps_ret (pe_tupP (pa_cons pe_str (pa_cons (act _ pn xe Ech _ _ (Takes.len tk) hW) pa_nil))))).run pins s' σ H' D I h2
  refine ⟨Rz C par dat H, fun cls d σ' H' hz hl => ?_, ⟨rfl, hc, hq _⟩⟩
  obtain ⟨rfl, dx, v, rfl, hd, rv, ex⟩ := hz
  cases ht with
  | c =>
    refine ⟨true, M.cc, fun _ a na => ?_, fun h => Bool.noConfusion h⟩
    exact d_ret (evd_tup (evds_cons evd_str (evds_cons (evd_xf (set1 hl) hd rv) evds_nil))) fun u H1 e1 ru => hk u H1 (ex.trans e1) ru
  | i =>
    refine ⟨false, M.ic, fun h => Bool.noConfusion h, fun _ => ⟨true, M.ii, fun _ a na => ?_, fun h => Bool.noConfusion h⟩⟩
    exact d_ret (evd_tup (evds_cons evd_str (evds_cons (evd_xf (set1 hl) hd rv) evds_nil))) fun u H1 e1 ru => hk u H1 (ex.trans e1) ru
  | z =>
    refine ⟨false, M.zc, fun h => Bool.noConfusion h, fun _ => ⟨false, M.zi, fun h => Bool.noConfusion h, fun _ => ⟨true, M.zz, fun _ a na => ?_, fun h => Bool.noConfusion h⟩⟩⟩
    exact d_ret (evd_tup (evds_cons evd_str (evds_cons (evd_xf (set1 hl) hd rv) evds_nil))) fun u H1 e1 ru => hk u H1 (ex.trans e1) ru
end K48
/-! What law needs: plain facts, calls by keyword, the lambdas' turns. -/
namespace K48
open PySem L2 Evl K48M
/-! ### the law's own small cache -/
def k1 : Cache := [⟨[0], 0, 0⟩]
theorem line_k1 (c : Nat) : (ctl k1 c).line = 0 := by cases c <;> rfl
theorem ok_k1 : Ok 1 1 k1 := by
  refine ⟨rfl, Nat.le_refl 1, Nat.le_refl 1, fun c hc => ?_, fun c j hc hj => ?_, fun c _ => by rw [line_k1]; exact Nat.zero_lt_one, fun c hc => ?_⟩
  · obtain rfl : c = 0 := by omega
    rfl
  · obtain rfl : c = 0 := by omega
    obtain rfl : j = 0 := by omega
    exact Nat.zero_lt_one
  · obtain rfl : c = 0 := by omega
    exact Nat.zero_lt_one
theorem fs_k1 {c : Nat} {F : List Bool} (h : FS k1 1 c F) : F.length = 1 := by
  induction h with
  | zero => rfl
  | hit _ _ ih => exact ih
  | miss _ ih => rw [List.length_set]; exact ih
theorem st_k1 {s : Stay} (h : K48M.St k1 1 s) : s.2.1.length = 1 ∧ s.2.2.1 = 0 := by
  cases h with
  | @hit c F j h1 h2 =>
    have h3 := (List.getElem?_eq_some_iff.mp h2).1
    have h4 := fs_k1 h1
    have h5 : j = 0 := by omega
    exact ⟨h4, h5⟩
  | miss h1 => exact ⟨(List.length_set ..).trans (fs_k1 h1), line_k1 _⟩
theorem succ_k1 {s : Stay} {p : Nat × Stay} (h : s.2.1.length = 1 ∧ s.2.2.1 = 0) (hp : p ∈ succ k1 s) : False := by
  rcases succ_cases hp with ⟨j, h1, h2, _⟩ | ⟨h1, _⟩
  · have := (List.getElem?_eq_some_iff.mp h1).1
    omega
  · exact h1 ((line_k1 _).trans h.2.symm)
theorem rg_k1 {g : Nat} {s : Stay} (h : K48G.Rg (succ k1) (K48M.St k1 1) g s) : g = 0 ∧ K48M.St k1 1 s := by
  induction h with
  | zero h => exact ⟨rfl, h⟩
  | step _ h ih => exact (succ_k1 (st_k1 ih.2) h).elim
/-! ### rows, told and untold -/
section
variable {C L : Nat} {k : Cache}
theorem rows_none (o : Ok C L k) {t : Nat} {d : PyData} (hr : RowsR k L t d) (h : ∀ g s, K48G.Rg (succ k) (K48M.St k L) g s → g < t) : d = .none := by
  cases hr with
  | none _ => rfl
  | some hp hm hl =>
    obtain ⟨g, h1, s, h2⟩ := pr_rg o hp
    have := h g s h2
    omega
theorem rows_some {t : Nat} {d : PyData} (hr : RowsR k L t d) (h : ∃ s, K48G.Rg (succ k) (K48M.St k L) t s) : ∃ p : Pair, d = .tuple [dNs (p.1 ++ [p.2]), dNs (p.1 ++ [nd p.1])] ∧ Pr k L p ∧ mc p = t ∧ p.1.length ≤ 3800 := by
  cases hr with
  | none hn =>
    obtain ⟨s, hs⟩ := h
    exact (hn s hs).elim
  | some hp hm hl => exact ⟨_, rfl, hp, hm, hl⟩
theorem rc_ok (o : Ok C L k) {s : Stay} (h : K48G.Rc (succ k) (K48M.St k L) s) : SOk C L s := by
  induction h with
  | zero h => exact St.ok' o h
  | step _ h ih => exact SOk.next o ih _ h
theorem len_uStay_800 (hC : C ≤ 4) (hL : L ≤ 3) : (uStay C L).length ≤ 800 := by
  rw [len_uStay]
  have h1 : 2 ^ L ≤ 2 ^ 3 := Nat.pow_le_pow_right (by decide) hL
  have : C * (2 ^ L * (L * 2 ^ L)) ≤ 4 * (2 ^ 3 * (3 * 2 ^ 3)) := Nat.mul_le_mul hC (Nat.mul_le_mul h1 (Nat.mul_le_mul hL h1))
  omega
theorem told_800 (o : Ok C L k) (hC : C ≤ 4) (hL : L ≤ 3) {m : Nat} (h : K48G.Told (succ k) (K48M.St k L) (some m)) : m + 1 ≤ 800 :=
  Nat.le_trans (K48G.told_bound (succ k) succ_01 h fun s hs => mem_uStay (rc_ok o hs)) (len_uStay_800 hC hL)
/-- how many caps are told rows -/
def capsN : Option Nat → Nat
  | none => 6
  | some m => m + 1
theorem caps_rg {o : Option Nat} (h : K48G.Told (succ k) (K48M.St k L) o) {t : Nat} (ht : t < capsN o) : ∃ s, K48G.Rg (succ k) (K48M.St k L) t s := by
  cases o with
  | none => exact h.none_rg (succ k) succ_01 t
  | some m => exact h.some_rg (succ k) succ_01 (Nat.le_of_lt_succ ht)
end
/-! ### promises for every cache -/
theorem fnok_ex {P : Program} {w : World} {K : PySem.W.Frag} {mg : Str → Option Value} {base : Heap} {CX : CXT} {k : Nat} {f : Addr} {fd : FuncData} {ps : List Str} {α : Type} {sp : α → Sp} (F : ∀ i, FnOk P w K mg base CX k f fd ps (sp i)) : FnOk P w K mg base CX k f fd ps (fun vs H Q E => ∃ i, sp i vs H Q E) :=
  ⟨fun vs H Q E ⟨i, h⟩ => (F i).len vs H Q E h, fun A outer s H args us vs Q E hr he hb hv ⟨i, h⟩ => (F i).run A outer s H args us vs Q E hr he hb hv h⟩
def RkeepsA (ds : List PyData) (d : PyData) : Prop := ∃ CL : Nat × Nat, Rlk CL.1 CL.2 ds d
def RtoldA (ds : List PyData) (d : PyData) : Prop := ∃ CL : Nat × Nat, Rlt CL.1 CL.2 ds d
def RleastA (ds : List PyData) (Post : PyData → Prop) : Prop := ∃ CL : Nat × Nat, Rleast CL.1 CL.2 ds Post
def RcapsA (CC CZ : Addr) (ds : List PyData) (Post : Res → Prop) : Prop := ∃ CL : Nat × Nat, Rcaps CL.1 CL.2 CC CZ ds Post
theorem spD_ex {α : Type} {R : α → List PyData → PyData → Prop} : ∀ vs H Q E, spD (fun ds d => ∃ i, R i ds d) vs H Q E → ∃ i, spD (R i) vs H Q E := fun vs H Q E ⟨ds, d, r, ⟨i, h⟩, q⟩ => ⟨i, ds, d, r, h, q⟩
theorem spE_ex {α : Type} {R : α → List PyData → (PyData → Prop) → Prop} : ∀ vs H Q E, spE (fun ds d => ∃ i, R i ds d) vs H Q E → ∃ i, spE (R i) vs H Q E := fun vs H Q E ⟨ds, d, r, ⟨i, h⟩, q⟩ => ⟨i, ds, d, r, h, q⟩
theorem spXP_ex {α : Type} {R : α → List PyData → (Res → Prop) → Prop} : ∀ vs H Q E, spXP (fun ds d => ∃ i, R i ds d) vs H Q E → ∃ i, spXP (R i) vs H Q E := fun vs H Q E ⟨ds, d, r, ⟨i, h⟩, q⟩ => ⟨i, ds, d, r, h, q⟩
/-! ### calls by keyword alone, in the parameters' order -/
structure CalK (P : Program) (w : World) (K : PySem.W.Frag) (mg : Str → Option Value) (base : Heap) (k : Nat) (x : Str) (ps : List Str) (sp : Sp) : Prop where
  ex : ∃ f fd, FnOk P w K mg base (L2.CX P w) k f fd ps sp ∧ mg x = some (.ref f) ∧ PySem.W.keepIn K (.ref f) = true ∧ KBn K fd ps 0 ps (fun _ ws => ws) (fun _ zs => zs)
section
variable {X : Cx} {k j : Nat} {x : Str} {ps : List Str} {sp : Sp} {p pos : Pos} {kws : List Keyword} {tk : TA} {E : XK}
theorem pe_calK (c : CalK X.prog X.w X.K X.mg X.base k x ps sp) (hr : Room j X.A) (hkj : k ≤ j) (hg : Gl X x) (hx : Passes (L2.CX X.prog X.w) X E) (hkw : PK X kws tk) (hall : (backToKw pos (keywordEach kws X.env)).all (·.1.isSome) = true := by rfl)
    (hks : (backToKw pos (keywordEach kws X.env)).filterMap (·.1) = ps := by rfl) (hdb : (x == ("__debug__" : Str)) = false := by decide) (hpl : ((backTo pos (starEach [] X.env)).any (·.1) || (backToKw pos (keywordEach kws X.env)).any (·.1.isNone)) = false := by rfl) :
    PE X (.Call (.Name x p) [] kws pos) (tCallN 0 ps.length sp (fun _ zs => zs) E tNil tk) := by
  obtain ⟨f, fd, F, hm, hk, hb⟩ := c.ex
  constructor
  intro pins s σ H Q I h
  refine wpAny_Call_Name_kw (ld_glob I hg hm ?_ hdb)
  refine PySem.W.callWith_KW0 (h₀ := X.base) I.ok.mod.kin hk hall (thn (hkw.run pos pins s σ H _ I h) fun ws s2 y => ?_) hpl
  obtain ⟨zs, H2, I2, rz, l1, l2, q2⟩ := y
  rw [hks]
  exact ⟨I2.kIn, run_fnN (us := []) (vs := []) F (hr.mono hkj) hb hx I2 .nil rz rfl l2 q2⟩
end
section
variable {K : PySem.W.Frag} {σ : S} {H : Hp} {tA tk : TA} {ta tb te : TE} {ds : List PyData} {d e : PyData} {E : XK} {D : Ends} {n : Nat}
theorem evd_callN {R : List PyData → Res → Prop} (h : EvDs tk σ H ds) (hn : ds.length = n) (hR : R ds (.inl d)) : EvD (tCallN 0 n (spX R) (fun _ zs => zs) E tNil tk) σ H d := fun H1 a Q q => h H1 a _ fun vs H2 e2 r2 =>
  ⟨rfl, r2.len.trans hn, ds, .inl d, r2, hR, fun v H3 e3 r3 => q v H3 (e2.trans e3) r3⟩
theorem eve_callN {R : List PyData → (Res → Prop) → Prop} {Post : Res → Prop} (h : EvDs tk σ H ds) (hn : ds.length = n) (hR : R ds Post) (hx : ∀ q, ¬ Post (.inr q)) : EvE (tCallN 0 n (spXP R) (fun _ zs => zs) E tNil tk) σ H (fun d => Post (.inl d)) := fun H1 a Q q => h H1 a _ fun vs H2 e2 r2 =>
  ⟨rfl, r2.len.trans hn, ds, Post, r2, hR, fun v d H3 e3 r3 po => q v d H3 (e2.trans e3) r3 po, fun z hz => (hx z hz).elim⟩
theorem EvE.toD {R : PyData → Prop} (h : EvE te σ H R) (hR : ∀ d, R d → d = e) : EvD te σ H e := fun H1 a Q q => h H1 a Q fun v d H2 e2 r2 hd => q v H2 e2 (hR d hd ▸ r2)
/-! ### the calls of law -/
theorem d_draw {a : Addr} {ns : List Int} {i j : Nat} (h0 : σ[i]? = some (some (.ref a))) (hs : SqL K H a (ns.map V.int)) (hl : ns.length ≤ 63) (k : ∀ d p H1, H d = none → H p = none → Ex H H1 → DealAt H1 d p → D.nx (σ.set j (some (.ref d))) H1) :
    tAsg (tCall (spDraw K) [] E0 (tCons (tVar i) (tCons (tC (.int 48)) tNil))) (gName j) D σ H := ⟨.ref a, h0, a, ns, rfl, hs, hl, k⟩
theorem d_drawC {dl p : Addr} {i j : Nat} (h0 : σ[i]? = some (some (.ref dl))) (x : DealAt H dl p) (k : ∀ v k C L H1, Ok C L k → C ≤ 4 → L ≤ 3 → Rp H1 v (dCache k) → But [dl, p] H H1 → DealAt H1 dl p → D.nx (σ.set j (some v)) H1) :
    tAsg (tCall spCache [] E0 (tCons (tVar i) tNil)) (gName j) D σ H := ⟨.ref dl, h0, dl, p, rfl, x, k⟩
theorem d_drawW {dl p : Addr} {i j a b C L : Nat} {k : Cache} {v0 : V} (h0 : σ[i]? = some (some (.ref dl))) (h1 : σ[j]? = some (some v0)) (r0 : Rp H v0 (dCache k)) (o : Ok C L k) (hC : C ≤ 4) (hL : L ≤ 3) (x : DealAt H dl p)
    (k : ∀ (y : PyData) (z : Int) v H1, WrongC y z → Rp H1 v y → But [dl, p] H H1 → DealAt H1 dl p → D.nx ((σ.set a (some v)).set b (some (.int z))) H1) :
    tAsg (tCall spWcache [] E0 (tCons (tVar i) (tCons (tVar j) tNil))) (gTup K 2 (gCons (gName a) (gCons (gName b) gNil))) D σ H :=
  ⟨.ref dl, h0, v0, h1, dl, p, v0, _, C, L, rfl, x, r0, o, hC, hL, fun z v H1 hz rv b x1 => g_two rv fun v1 v2 q1 q2 => by
    rw [q2.int_inv]
    exact k z.1 z.2 v1 H1 (wrong_cache o hC hL z hz) q1 b x1⟩
theorem d_drawR {dl p : Addr} {i a b : Nat} (h0 : σ[i]? = some (some (.ref dl))) (x : DealAt H dl p)
    (k : ∀ (y : PyData) (z : Int) v H1, WrongRow y z → okD y = true → Rp H1 v y → But [dl, p] H H1 → DealAt H1 dl p → D.nx ((σ.set a (some v)).set b (some (.int z))) H1) :
    tAsg (tCall spWrow [] E0 (tCons (tVar i) tNil)) (gTup K 2 (gCons (gName a) (gCons (gName b) gNil))) D σ H :=
  ⟨.ref dl, h0, dl, p, rfl, x, fun z v H1 hz rv b x1 => g_two rv fun v1 v2 q1 q2 => by
    rw [q2.int_inv]
    exact k z.1 z.2 v1 H1 (wrong_row z hz).1 (wrong_row z hz).2 q1 b x1⟩
theorem d_drawO {dl p : Addr} {i j : Nat} (h0 : σ[i]? = some (some (.ref dl))) (hn : EvN te σ H ds) (x : DealAt H dl p) (h1 : 1 ≤ ds.length) (h2 : ds.length ≤ 1000) (hok : ∀ d ∈ ds, okD d = true) (k : ∀ d v H1, d ∈ ds → Rp H1 v d → But [dl, p] H H1 → DealAt H1 dl p → D.nx (σ.set j (some v)) H1) :
    tAsg (tCall spOf [] E0 (tCons (tVar i) (tCons te tNil))) (gName j) D σ H := of_call (Q := fun v H1 => gName j v σ H1 D.nx) h0 hn x h1 h2 hok k
/-- a comprehension of draws over as many turns as are drawn -/
theorem d_asgLcW {dl p : Addr} {i j : Nat} {vs : List Nat} {R0 R : Nat → Prop} {to : TE} (h : EvW dl p to σ R0) (h0 : ∀ m, R0 m → m ≤ 1000) (x : DealAt H dl p) (hw : ∀ x, wipe ((wipe σ vs).set j (some x)) vs = wipe σ vs) (hs : ∀ i : Nat, EvW dl p te ((wipe σ vs).set j (some (.int (i : Nat)))) R)
    (k : ∀ q (xs : List Nat) H1, H q = none → But [dl, p] H H1 → DealAt H1 dl p → H1 q = some (.lst (xs.map fun n : Nat => V.int n)) → R0 xs.length → D.nx (σ.set i (some (.ref q))) H1) : tAsg (tLc (iRng1 (tCons to tNil)) (gName j) tYes te vs) (gName i) D σ H :=
  h H x _ fun m H1 hm b1 x1 => lcW (tA := tCons (tC (.int (m : Nat))) tNil) (n := m) (Q := fun y H2 => gName i y σ H2 D.nx) (evds_cons evd_int evds_nil) (h0 m hm) x1 hw (fun i _ => hs i) fun q xs H2 hq b2 x2 h2 hl _ =>
    k q xs H2 (by
      cases e : H q with
      | none => rfl
      | some o =>
        have nq := x1.out hq
        have := b1.go nq e
        rw [hq] at this
        cases this) (b1.trans b2) x2 h2 (hl ▸ hm)
/-- _law_told(cache, cap, cap_rows(cache, cap)) -/
theorem evd_told {C L : Nat} {k : Cache} {t : Nat} {CC CZ : Addr} {E1 : XK} (o : Ok C L k) (hC : C ≤ 4) (hL : L ≤ 3) (ht : t ≤ 900) (hs : ∃ s, K48G.Rg (succ k) (K48M.St k L) t s) (h1 : EvD ta σ H (dCache k)) (h2 : EvD tb σ H (dI t)) :
    EvD (tCall (spD RtoldA) [] E (tCons ta (tCons tb (tCons (tCall (spXP (RcapsA CC CZ)) [] E1 (tCons ta (tCons tb tNil))) tNil)))) σ H (.bool true) := fun H1 a Q q => h1 H1 a _ fun v1 H2 e2 r1 => h2 H2 (a.trans e2) _ fun v2 H3 e3 r2 =>
  (eve_callX (R := RcapsA CC CZ) (E := E1) (dd := []) (dvs := []) (evds_cons h1 (evds_cons h2 evds_nil)) (fun _ => .nil) ⟨(C, L), _, _, rfl, .inr ⟨k, t, rfl, rfl, o, hC, hL, ht, rfl⟩⟩ (fun q ⟨d, h, _⟩ => by cases h)) H3 ((a.trans e2).trans e3) _ fun v3 d H4 e4 r3 hd => by
    obtain ⟨d', ed, hd⟩ := hd
    cases ed
    obtain ⟨p, rfl, hp, hm, hl⟩ := rows_some hd hs
    exact ⟨[dCache k, dI t, _], .bool true, .cons ((r1.up e3).up e4) (.cons (r2.up e4) (.cons r3 .nil)), ⟨(C, L), k, t, p, rfl, o, hL, hp, hm, hl, rfl⟩, fun v H5 e5 r5 => q v H5 ((e2.trans (e3.trans e4)).trans e5) r5⟩
end
/-! ### data outlive what is put in tables -/
mutual
theorem Rp.extN {H H1 : Hp} (e : LamX.ExtN H H1) : ∀ {v : V} (d : PyData), Rp H v d → Rp H1 v d
  | _, .none, .non => .non
  | _, .bool _, .bl b => .bl b
  | _, .int _, .int i => .int i
  | _, .str _, .str s => .str s
  | _, .tuple ds, .tup h n r => .tup (e _ _ h (fun ps z => by cases z)) n (Rps.extN e ds r)
  | _, .list ds, .lst h r => .lst (e _ _ h (fun ps z => by cases z)) (Rps.extN e ds r)
theorem Rps.extN {H H1 : Hp} (e : LamX.ExtN H H1) : ∀ {vs : List V} (ds : List PyData), Rps H vs ds → Rps H1 vs ds
  | _, [], .nil => .nil
  | _, d :: ds, .cons r1 r2 => .cons (Rp.extN e d r1) (Rps.extN e ds r2)
end
section
variable {K : PySem.W.Frag} {σ : S} {H : Hp} {tb : TE} {D : Ends} {e dat : PyData} {T : List (Addr × Str)} {CC CI CZ C : Addr} {par tag : Str} {t : XK → TE} {tu : TS}
theorem Tabs_up {H1 : Hp} (h : LamX.Tabs T H) (e : Ex H H1) : LamX.Tabs T H1 := h.ext e
/-- if _law_tried(lambda: ..) != e: return False -/
theorem d_tried (hT : LamX.Tabs T H) (ht : Tag CC CI CZ C par tag) (hr : ∀ H1, LamX.ExtN H H1 → ∀ Q', t (Rz C par dat H1) σ H1 Q') (hb : ∀ H1, LamX.ExtN H H1 → EvD tb σ H1 e) (he : PyData.eqv (.tuple [.str tag, dat]) e = true) (s1 : SeqAt.shaped (.tuple [.str tag, dat]) = true) (s2 : SeqAt.shaped e = true)
    (k : ∀ H1, LamX.ExtN H H1 → LamX.Tabs T H1 → D.nx σ H1) : tIfS (tTest (tOp (rNeD K) (LamX.tLam T (TTr CC CI CZ) t) tb)) tu tNext D σ H :=
  ⟨hT, fun H1 e1 T1 => ⟨C, par, tag, dat, ht, hr H1 e1, fun u H2 e2 ru => d_when (tu := tu) (t := tTest (tOp (rNeD K) (tC u) tb)) (b := false) (evt_test ((evd_neD (evd_c ru) ((hb H1 e1).mono e2) s1 s2).is (congrArg PyData.bool (by rw [he]; rfl)))) (fun h => by cases h) fun _ H3 e3 =>
    k H3 (e1.trans (.of (e2.trans e3))) ((T1.ext e2).ext e3)⟩⟩
/-- return _law_tried(lambda: ..) == e -/
theorem d_retTried (hT : LamX.Tabs T H) (ht : Tag CC CI CZ C par tag) (hr : ∀ H1, LamX.ExtN H H1 → ∀ Q', t (Rz C par dat H1) σ H1 Q') (hb : ∀ H1, LamX.ExtN H H1 → EvD tb σ H1 e) (he : PyData.eqv (.tuple [.str tag, dat]) e = true) (s1 : SeqAt.shaped (.tuple [.str tag, dat]) = true) (s2 : SeqAt.shaped e = true)
    (k : ∀ H1, D.rt (.bl true) H1) : tRet (tOp (rEqD K) (LamX.tLam T (TTr CC CI CZ) t) tb) D σ H :=
  ⟨hT, fun H1 e1 T1 => ⟨C, par, tag, dat, ht, hr H1 e1, fun u H2 e2 ru => (d_ret (te := tOp (rEqD K) (tC u) tb) (d := .bool true) ((evd_eqD (evd_c ru) ((hb H1 e1).mono e2) s1 s2).is (congrArg PyData.bool he)) fun v H3 e3 rv => by
    cases rv
    exact k H3 : tRet (tOp (rEqD K) (tC u) tb) D σ H2)⟩⟩
end
end K48
/-! law. -/
namespace K48
open PySem L2 Evl K48M
theorem rps_nat {H : Hp} (xs : List Nat) : Rps H (xs.map fun n : Nat => V.int n) (xs.map dI) := by
  have := Rps.of_ints (H := H) (xs.map fun n : Nat => (n : Int))
  rw [List.map_map, List.map_map] at this
  exact this
theorem shp_str {x : Str} (h : PyData.strOk x = true) : Shp 0 (.str x) := ⟨by rw [PyData.canLay0]; exact h, by rw [PyData.depth]; exact Nat.le_refl _⟩
theorem shp_si {x : Str} (i : Int) (h : PyData.strOk x = true) : Shp 1 (.tuple [.str x, .int i]) := shp_tup (forall_list ⟨shp_str h, shp_int i, trivial⟩)
theorem shp_ss {x y : Str} (h1 : PyData.strOk x = true) (h2 : PyData.strOk y = true) : Shp 1 (.tuple [.str x, .str y]) := shp_tup (forall_list ⟨shp_str h1, shp_str h2, trivial⟩)
theorem eqv_self {n : Nat} {d : PyData} (h : Shp n d) : PyData.eqv d d = true := PySem.SeqAt.eqv_refl d h.lay
theorem shp_ca (i : Int) : Shp 1 (.tuple [.str "cache", .int i]) := shp_si i (by decide +kernel)
theorem shp_in (i : Int) : Shp 1 (.tuple [.str "index", .int i]) := shp_si i (by decide +kernel)
theorem shp_sz : Shp 1 (.tuple [.str "size", .str "cap"]) := shp_ss (by decide +kernel) (by decide +kernel)
/-- how law's lambdas are called -/
def lq : Str := (("law" : Str) ++ (".<locals>." : Str)) ++ ("<lambda>" : Str)
def spLaw (K : PySem.W.Frag) (Pt : Addr) : Sp := fun vs H Q _ => ∃ (a : Addr) (ns : List Int), vs = [.ref a] ∧ SqL K H a (ns.map V.int) ∧ ns.length ≤ 63 ∧ H Pt = some (.tbl #[]) ∧ ∀ H', Q (.bl true) H'
/-- the defs that law calls -/
structure Cs (P : Program) (w : World) (K : PySem.W.Frag) (mg : Str → Option Value) (base : Heap) (CC CI CZ : Addr) : Prop where
  draw : Cal P w K mg base CX0 1 "_law_draw" ["_law_script", "_law_salt"] (spDraw K)
  any : Cal P w K mg base CX0 1 "_law_any" ["_law_deal", "_law_bound"] spAny
  of : Cal P w K mg base CX0 2 "_law_of" ["_law_deal", "_law_some"] spOf
  cache : Cal P w K mg base CX0 2 "_law_cache" ["_law_deal"] spCache
  wc : Cal P w K mg base CX0 3 "_law_wrong_cache" ["_law_deal", "_law_cache_here"] spWcache
  wr : Cal P w K mg base CX0 3 "_law_wrong_row" ["_law_deal"] spWrow
  ages : Cal P w K mg base CX0 1 "_law_ages" ["_law_row", "_law_cap"] (spD Rla)
  keeps : Cal P w K mg base CX0 2 "_law_keeps" ["_law_cache_here", "_law_cap", "_law_many"] (spD RkeepsA)
  told : Cal P w K mg base CX0 2 "_law_told" ["_law_cache_here", "_law_cap", "_law_told_here"] (spD RtoldA)
  least : Cal P w K mg base CX0 7 "least_cap" ["cache"] (spE RleastA)
  aa : CalX P w K mg base 4 "access_ages" ["row", "cap"] [] (spX (Rages CI CZ))
  aaK : CalK P w K mg base 4 "access_ages" ["row", "cap"] (spX (Rages CI CZ))
  cr : CalX P w K mg base 6 "cap_rows" ["cache", "cap"] [] (spXP (RcapsA CC CZ))
  crK : CalK P w K mg base 6 "cap_rows" ["cache", "cap"] (spXP (RcapsA CC CZ))
section
variable {P : Program} {w : World} {K : PySem.W.Frag} {mg : Str → Option Value} {base : Heap} {CC CI CZ : Addr}
theorem ok_law {f c Pt g : Addr} {oc kV doc pm ct : Value} {od an : Option Addr} {osl : Array (Option Value)} {fdT : FuncData} (lk : K.lookup f = some ⟨oc, od, .func (PySem.W.fnOf "law" "law" (defArgs s_law) (defBody s_law) (defScope s_law) .none kV doc pm an (.ref c) ct), osl⟩) (hcd : PySem.W.codeIn K (.ref c) "law" = true)
    (T : Mg mg) (S : Cs P w K mg base CC CI CZ) (X : Exs P K mg CC CI CZ) (M : Exm K CC CI CZ) (FT : Fun K "_law_tried" "_law_tried" s__law_tried g fdT) (hg : mg "_law_tried" = some (.ref g)) (TB : LamX.TabB base mg c Pt) :
    FnOk P w K mg base CX0 9 f (PySem.W.fnOf "law" "law" (defArgs s_law) (defBody s_law) (defScope s_law) .none kV doc pm an (.ref c) ct) ["_law_script"] (spLaw K Pt) := by
  have kT := FT.kp
  have bT := FT.binds (ps := ["_law_work"]) fun _ _ _ _ _ _ us hl => match us, hl with | [_], _ => rfl
  obtain ⟨ocT, odT, kVT, docT, pmT, anT, cdT, ctT, oslT, rfl, lkT, hcT⟩ := FT.ex
  refine fn_of lk hcd sc_law (fun vs H Q E h => ?_) fun A outer sh H vs Q E hr h => ?_
  · obtain ⟨a, ns, rfl, _⟩ := h
    rfl
  obtain ⟨a, ns, rfl, hs, hl, hP, q⟩ := h
  refine (fun y => ⟨y.choose, y.choose_spec.1.nox, y.choose_spec.2⟩ : (∃ t, PSs (cxOf CX0 P w K mg base N_law "law" (defScope s_law) f (.ref c) A outer sh H E).nox (defBody s_law) t ∧ t { nx := fun _ H' => Q .non H', rt := Q } (L2.start N_law [.ref a]) H) → _) ⟨_, (pss_cons (ps_set (i := 1) sc_law.nd rfl (.inr rfl) (pe_cal S.draw hr (by decide) (by rfl) (pa_cons (pv 0) (pa_cons pe_int pa_nil))))
    (pss_cons (ps_if (pw_or (pt_cmpR (op_neD (u64 hr)) (pe_calK S.aaK hr (by decide) (by rfl) passL (pk_cons (pe_lst (pa_cons pe_int (pa_cons pe_int (pa_cons pe_int (pa_cons pe_int pa_nil))))) (pk_cons pe_int pk_nil))) (pe_tupP (pa_cons pe_int (pa_cons pe_int (pa_cons pe_int (pa_cons pe_int pa_nil))))) (nomark _)) (pw_or1 (pt_cmpR op_notN (pe_calK S.crK hr (by decide) (by rfl) passL (pk_cons (pe_tupP (pa_cons (pe_tupP (pa_cons (pe_tupP (pa_cons pe_int pa_nil)) (pa_cons pe_int (pa_cons pe_int pa_nil)))) pa_nil)) (pk_cons pe_int pk_nil))) pe_non (nomark _)))).pt (pss_one (ps_ret pe_bl)) pss_nil)
    (pss_cons (ps_set (i := 7) sc_law.nd rfl (.inr rfl) (pe_cal S.cache hr (by decide) (by rfl) (pa_cons (pv 1) pa_nil)))
    (pss_cons (ps_set (i := 2) sc_law.nd rfl (.inl rfl) (pe_cal S.least hr (by decide) (by rfl) (pa_cons (pv 7) pa_nil)))
    (pss_cons (ps_set (i := 9) sc_law.nd rfl (.inr rfl) (pe_lc (own := [("_law_at", 3)]) (g := gName 3) (tt := tYes) rfl sc_law.nd (pi_range1 (by rfl) T.range (pa_cons (pe_cal S.any hr (by decide) (by rfl) (pa_cons (pv 1) (pa_cons pe_int pa_nil))) pa_nil)) (blkOk_by (N := N_law) (sc := defScope s_law) (by decide +kernel)) (fun _ _ _ _ _ => pg_name (i := 3) sc_law.nd rfl (Or.inl rfl)) (fun _ _ _ _ _ => pts_nil) (fun _ _ _ _ _ => (pe_cal S.any hr (by decide) (by rfl) (pa_cons (pv 1) (pa_cons pe_int pa_nil))))))
    (pss_cons (ps_set (i := 4) sc_law.nd rfl (.inl rfl) (pe_cal S.any hr (by decide) (by rfl) (pa_cons (pv 1) (pa_cons pe_int pa_nil))))
    (pss_cons (ps_if (pt_cmpR (op_neD (u64 hr)) (pe_calX S.aa hr (by decide) (by rfl) passL (pa_cons (pv 9) (pa_cons (pv 4) pa_nil))) (pe_cal S.ages hr (by decide) (by rfl) (pa_cons (pv 9) (pa_cons (pv 4) pa_nil))) (nomark _)) (pss_one (ps_ret pe_bl)) pss_nil)
    (pss_cons (ps_if (pw_and (pt_cmpR op_notN (pv 2) pe_non (nomark _)) (pw_and1 (pt_not (pt_val (pe_cal S.keeps hr (by decide) (by rfl) (pa_cons (pv 7) (pa_cons (pv 2) (pa_cons pe_int pa_nil)))))))).pt (pss_one (ps_ret pe_bl)) pss_nil)
    (pss_cons (ps_for PassesOwn.never rfl (pi_range1 (by rfl) T.range (pa_cons (pe_ifExp (pt_cmpR op_isN (pv 2) pe_non (nomark _)) pe_int (pv 2)) pa_nil)) (pg_name (i := 4) sc_law.nd rfl (.inl rfl)) (pss_one (ps_if (pt_not (pt_val (pe_cal S.told hr (by decide) (by rfl) (pa_cons (pv 7) (pa_cons (pv 4) (pa_cons (pe_calX S.cr hr (by decide) (by rfl) passL (pa_cons (pv 7) (pa_cons (pv 4) pa_nil))) pa_nil)))))) (pss_one (ps_ret pe_bl)) pss_nil)))
    (pss_cons (ps_if (pw_and (pt_cmpR op_notN (pv 2) pe_non (nomark _)) (pw_and1 (pw_or (pt_cmpR op_notN (pe_calX S.cr hr (by decide) (by rfl) passL (pa_cons (pv 7) (pa_cons (pv 2) pa_nil))) pe_non (nomark _)) (pw_or1 (pt_cmpR op_notN (pe_calX S.cr hr (by decide) (by rfl) passL (pa_cons (pv 7) (pa_cons (pe_op op_add (pv 2) pe_int) pa_nil))) pe_non (nomark _)))).pt)).pt (pss_one (ps_ret pe_bl)) pss_nil)
    (pss_cons (ps_asg (pe_cal S.wc hr (by decide) (by rfl) (pa_cons (pv 1) (pa_cons (pv 7) pa_nil))) (pg_tup rfl (pgs_cons (pg_name (i := 10) sc_law.nd rfl (.inr rfl)) (pgs_cons (pg_name (i := 3) sc_law.nd rfl (.inl rfl)) pgs_nil))))
    (pss_cons (ps_asg (pe_cal S.wr hr (by decide) (by rfl) (pa_cons (pv 1) pa_nil)) (pg_tup rfl (pgs_cons (pg_name (i := 6) sc_law.nd rfl (.inr rfl)) (pgs_cons (pg_name (i := 5) sc_law.nd rfl (.inl rfl)) pgs_nil))))
    (pss_cons (ps_set (i := 8) sc_law.nd rfl (.inr rfl) (pe_cal S.of hr (by decide) (by rfl) (pa_cons (pv 1) (pa_cons (pe_lst (pa_cons pe_non (pa_cons (pe_un un_neg pe_int) (pa_cons pe_bl (pa_cons pe_str pa_nil))))) pa_nil))))
    (pss_cons (ps_if (pt_cmpR (op_neD (u64 hr)) (LamX.pe_lamcall (T := [(Pt, lq)]) (TT := TTr CC CI CZ) (k := 6) (t := fun E => tCall (spXP (RcapsA CC CZ)) [] E (tCons (tVar 10) (tCons (tVar 8) tNil))) (by rfl) hg kT lkT hcT bT sc__law_tried rfl (.inl rfl) (tried_gives X M) TB rfl (List.mem_singleton.mpr rfl) (fun p hp _ => by rw [List.mem_singleton.mp hp]; rfl) hr (LamX.lamS_by (sc := defScope s_law) (by decide +kernel)) (by rfl) (fun _ _ _ _ _ => rfl) (fun A outer s H E f c' hr2 => pe_calX S.cr hr2 (by decide) (by rfl) (passes_call (takes_of rfl rfl rfl rfl) (fun _ _ _ _ h => h)) (pa_cons (pv 10) (pa_cons (pv 8) pa_nil)))) (pe_tupP (pa_cons pe_str (pa_cons (pv 3) pa_nil))) (nomark _)) (pss_one (ps_ret pe_bl)) pss_nil)
    (pss_cons (ps_if (pt_cmpR (op_neD (u64 hr)) (LamX.pe_lamcall (T := [(Pt, lq)]) (TT := TTr CC CI CZ) (k := 6) (t := fun E => tCall (spX (Rages CI CZ)) [] E (tCons (tVar 6) (tCons (tVar 8) tNil))) (by rfl) hg kT lkT hcT bT sc__law_tried rfl (.inl rfl) (tried_gives X M) TB rfl (List.mem_singleton.mpr rfl) (fun p hp _ => by rw [List.mem_singleton.mp hp]; rfl) hr (LamX.lamS_by (sc := defScope s_law) (by decide +kernel)) (by rfl) (fun _ _ _ _ _ => rfl) (fun A outer s H E f c' hr2 => pe_calX S.aa hr2 (by decide) (by rfl) (passes_call (takes_of rfl rfl rfl rfl) (fun _ _ _ _ h => h)) (pa_cons (pv 6) (pa_cons (pv 8) pa_nil)))) (pe_tupP (pa_cons pe_str (pa_cons (pv 5) pa_nil))) (nomark _)) (pss_one (ps_ret pe_bl)) pss_nil)
    (pss_cons (ps_if (pt_cmpR (op_neD (u64 hr)) (LamX.pe_lamcall (T := [(Pt, lq)]) (TT := TTr CC CI CZ) (k := 6) (t := fun E => tCall (spXP (RcapsA CC CZ)) [] E (tCons (tVar 7) (tCons (tVar 8) tNil))) (by rfl) hg kT lkT hcT bT sc__law_tried rfl (.inl rfl) (tried_gives X M) TB rfl (List.mem_singleton.mpr rfl) (fun p hp _ => by rw [List.mem_singleton.mp hp]; rfl) hr (LamX.lamS_by (sc := defScope s_law) (by decide +kernel)) (by rfl) (fun _ _ _ _ _ => rfl) (fun A outer s H E f c' hr2 => pe_calX S.cr hr2 (by decide) (by rfl) (passes_call (takes_of rfl rfl rfl rfl) (fun _ _ _ _ h => h)) (pa_cons (pv 7) (pa_cons (pv 8) pa_nil)))) (pe_tupP (pa_cons pe_str (pa_cons pe_str pa_nil))) (nomark _)) (pss_one (ps_ret pe_bl)) pss_nil)
    (pss_one (ps_ret (pe_cmpR (op_eqD (u64 hr)) (LamX.pe_lamcall (T := [(Pt, lq)]) (TT := TTr CC CI CZ) (k := 6) (t := fun E => tCall (spX (Rages CI CZ)) [] E (tCons (tVar 9) (tCons (tVar 8) tNil))) (by rfl) hg kT lkT hcT bT sc__law_tried rfl (.inl rfl) (tried_gives X M) TB rfl (List.mem_singleton.mpr rfl) (fun p hp _ => by rw [List.mem_singleton.mp hp]; rfl) hr (LamX.lamS_by (sc := defScope s_law) (by decide +kernel)) (by rfl) (fun _ _ _ _ _ => rfl) (fun A outer s H E f c' hr2 => pe_calX S.aa hr2 (by decide) (by rfl) (passes_call (takes_of rfl rfl rfl rfl) (fun _ _ _ _ h => h)) (pa_cons (pv 9) (pa_cons (pv 8) pa_nil)))) (pe_tupP (pa_cons pe_str (pa_cons pe_str pa_nil))) (nomark _)))))))))))))))))))), ?_⟩
  -- the deal
  refine d_seq (d_draw (K := K) rfl hs hl fun d p H1 nd np e1 x1 => ?_)
  have P1 : H1 Pt = some (.tbl #[]) := e1 _ _ hP
  have Pn : Pt ∉ [d, p] := fun z => by
    rcases List.mem_cons.mp z with z | z
    · rw [z, nd] at hP
      cases hP
    · rw [List.mem_singleton.mp z, np] at hP
      cases hP
  -- two calls by keyword
  refine d_sq (d_when (b := false) (et_is (et_or (evt_test ((evd_neD (d := dNs (ages 3 [4, 5, 5, 4])) (e := dNs [3, 3, 0, 1]) (evd_callN (ds := [.list ([4, 5, 5, 4].map dI), dI 3]) (evds_cons (EvN.toD (evn_lst (evds_cons evd_int (evds_cons evd_int (evds_cons evd_int (evds_cons evd_int evds_nil)))))) (evds_cons evd_int evds_nil)) rfl ⟨_, _, rfl, .ok (.inl rfl) (by decide)⟩) (evd_tup (evds_cons evd_int (evds_cons evd_int (evds_cons evd_int (evds_cons evd_int evds_nil))))) (shp_Ns _).shaped (shp_Ns _).shaped).is (e := .bool false) ?g1)) fun _ =>
      evt_test ((evd_notN (EvE.toD (e := .none) (eve_callN (Post := fun r => ∃ d, r = .inl d ∧ RowsR k1 1 1 d) (ds := [dCache k1, dI 1]) (evds_cons (evd_tup (evds_cons (evd_tup (evds_cons (evd_tup (evds_cons evd_int evds_nil)) (evds_cons evd_int (evds_cons evd_int evds_nil)))) evds_nil)) (evds_cons evd_int evds_nil)) rfl ⟨(1, 1), _, _, rfl, .inr ⟨k1, 1, rfl, rfl, ok_k1, by decide, by decide, by decide, rfl⟩⟩ (fun q ⟨d, h, _⟩ => by cases h)) fun d' ⟨d2, h2, h3⟩ => ?g2)).is (e := .bool false) rfl)) rfl) (fun h => by cases h) fun _ H2 e2 => ?_)
  case g1 =>
    rw [eqv_Ns, decide_eq_true (by decide +kernel)]
    rfl
  case g2 =>
    cases h2
    exact rows_none ok_k1 h3 fun g s hg => by rw [(rg_k1 hg).1]; exact Nat.zero_lt_one
  -- the cache, its least cap, a row, a cap
  refine d_sq (d_drawC rfl (x1.up e2) fun v7 k C L H3 o hC hL r7 b3 x3 => ?_)
  refine d_sq (d_asgE (eve_call (R := RleastA) (Post := fun d => ∃ o, d = dO (o.map (· + 1)) ∧ K48G.Told (succ k) (K48M.St k L) o) (evds_cons (evd_var rfl r7) evds_nil) ⟨(C, L), k, rfl, o, hC, hL, rfl⟩) fun v2 d2 H4 e4 r2 hd2 => ?_)
  obtain ⟨om, rfl, told⟩ := hd2
  refine d_sq (d_asgLcW (vs := [3]) (R0 := (· < 10)) (R := (· < 4)) (evw_any (n := 10) rfl (fun _ => evd_int) (by decide) (by decide)) (fun m h => Nat.le_trans (Nat.le_of_lt h) (by decide)) (x3.up e4) (fun _ => rfl) (fun i => evw_any (n := 4) rfl (fun _ => evd_int) (by decide) (by decide)) fun q9 xs H5 nq b5 x5 h5 hl5 => ?_)
  refine d_sq (d_asgW (R := (· < 5)) (evw_any (n := 5) rfl (fun _ => evd_int) (by decide) (by decide)) x5 fun cap H6 hcap b6 x6 => ?_)
  have hxs : xs.length ≤ 1000 := Nat.le_trans (Nat.le_of_lt hl5) (by decide)
  have q9n : q9 ∉ [d, p] := (x3.up e4).out nq
  have b46 := b5.trans b6
  have tk46 := b46.tk (x3.up e4).noT
  have r7a : Rp H6 v7 (dCache k) := Rp.tk tk46 _ (tupD_Cache k) (r7.up e4)
  have r2a : Rp H6 v2 (dO (om.map (· + 1))) := Rp.tk tk46 _ (tupD_O _) r2
  have h9a := b6.go q9n h5
  have r9a : Rp H6 (.ref q9) (.list (xs.map dI)) := .lst h9a (rps_nat xs)
  -- its ages
  refine d_sq (d_when (b := false) (evt_test ((evd_neD (d := dNs (ages cap xs)) (e := dNs (ages cap xs)) (evd_callX (dd := []) (evds_cons (evd_var rfl r9a) (evds_cons (evd_var rfl (.int _)) evds_nil)) (fun _ => .nil) ⟨_, _, rfl, .ok (.inl rfl) hxs⟩) (evd_call (evds_cons (evd_var rfl r9a) (evds_cons (evd_var rfl (.int _)) evds_nil)) (spD_d ⟨_, xs, cap, rfl, .inl rfl, Nat.le_trans hxs (by decide), rfl⟩)) (shp_Ns _).shaped (shp_Ns _).shaped).is (congrArg PyData.bool (by rw [eqv_Ns, decide_eq_true rfl]; rfl)))) (fun h => by cases h) fun _ H7 e7 => ?_)
  have r7b := r7a.up e7
  have r2b := r2a.up e7
  -- the least cap keeps
  refine d_sq (d_when (b := false) ?g3 (fun h => by cases h) fun _ H8 e8 => ?_)
  case g3 =>
    cases om with
    | none => exact et_is (et_and (b := false) (evt_test (evd_notN (evd_var rfl r2b))) fun h => by cases h) rfl
    | some m => exact et_is (et_and (evt_test (evd_notN (evd_var rfl r2b))) fun _ => et_not (evt_B (evd_call (evds_cons (evd_var rfl r7b) (evds_cons (d := dI (m + 1)) (evd_var rfl r2b) (evds_cons (d := dI 6) evd_int evds_nil))) (spD_d ⟨(C, L), k, m + 1, 6, rfl, o, hL, by decide, fun r r' e => keeps o told e, rfl⟩)))) rfl
  -- below it rows are told
  have hN : capsN om ≤ 800 := by
    cases om with
    | none => exact (by decide : 6 ≤ 800)
    | some m => exact told_800 o hC hL told
  have e68 := e7.trans e8
  refine d_sq (d_forR1 (n := (capsN om : Nat)) (evds_cons ?g4 evds_nil) ⟨by omega, by omega⟩ (fun i σ' H' => ∃ a4, σ' = [some (.ref a), some (.ref d), some v2, none, a4, none, none, some v7, none, some (.ref q9), none] ∧ Ex H8 H') (fun H9 e9 => ⟨_, rfl, e9⟩) (fun i σ' H9 hi ⟨a4, es, e9⟩ => ?_) (fun σ' H9 ⟨a4, es, e9⟩ => ?_))
  case g4 =>
    cases om with
    | none => exact evd_if (evt_test (evd_isN (evd_var rfl (r2b.up e8)))) (fun _ => evd_int) (fun h => by cases h)
    | some m => exact evd_if (evt_test (evd_isN (evd_var rfl (r2b.up e8)))) (fun h => by cases h) (fun _ => evd_var rfl (r2b.up e8))
  · subst es
    have hi' : i < capsN om := by omega
    exact d_when (b := false) (et_is (et_not (evt_B (evd_told o hC hL (by omega) (caps_rg told hi') (evd_var rfl ((r7b.up e8).up e9)) (evd_var rfl (.int _))))) rfl) (fun h => by cases h) fun _ H10 e10 => ⟨_, rfl, e9.trans e10⟩
  subst es
  have e69 := e68.trans e9
  have r7c := r7a.up e69
  have r2c := r2a.up e69
  -- from it on there are none
  refine d_sq (d_when (b := false) ?g5 (fun h => by cases h) fun _ H10 e10 => ?_)
  case g5 =>
    cases om with
    | none => exact et_is (et_and (b := false) (evt_test (evd_notN (evd_var rfl r2c))) fun h => by cases h) rfl
    | some m =>
      have hm := told_800 o hC hL told
      have none_at : ∀ {σ : L2.St} {te : TE} {t : Nat}, σ[7]? = some (some v7) → m < t → t ≤ 900 → EvD te σ H9 (dI t) → EvT (tTest (tOp rNotN0 (tCall (spXP (RcapsA CC CZ)) [] E0 (tCons (tVar 7) (tCons te tNil))) (tC .non))) σ H9 false := fun {σ te t} h0 h1 h2 h3 =>
        evt_test ((evd_notN (EvE.toD (e := .none) (eve_callX (R := RcapsA CC CZ) (Post := fun r => ∃ d, r = .inl d ∧ RowsR k L t d) (dd := []) (evds_cons (evd_var h0 r7c) (evds_cons h3 evds_nil)) (fun _ => .nil) ⟨(C, L), _, _, rfl, .inr ⟨k, t, rfl, rfl, o, hC, hL, h2, rfl⟩⟩ (fun q ⟨d, h, _⟩ => by cases h)) fun d' ⟨d2, h2', h3'⟩ => by
          cases h2'
          exact rows_none o h3' fun g s hg => Nat.lt_of_le_of_lt (told.some_le (succ k) hg) h1)).is rfl)
      exact et_is (et_and (evt_test (evd_notN (evd_var rfl r2c))) fun _ => et_or (none_at rfl (Nat.lt_succ_self m) (by omega) (evd_var rfl r2c)) fun _ => none_at (t := m + 2) rfl (by omega) (by omega) ((evd_add (i := ((m + 1 : Nat) : Int)) (evd_var rfl r2c) evd_int).is (congrArg PyData.int (Int.natCast_add (m + 1) 1).symm))) rfl
  have e610 := e69.trans e10
  have x10 := x6.up e610
  -- wrong things
  refine d_sq (d_drawW (a := 10) (b := 3) rfl rfl (r7a.up e610) o hC hL x10 fun y z v10 H11 W r10 b11 x11 => ?_)
  refine d_sq (d_drawR (a := 6) (b := 5) rfl x11 fun yr zr v6 H12 WR okr r6 b12 x12 => ?_)
  refine d_sq (d_drawO (ds := [.none, .int (-1), .bool true, .str "2"]) rfl (evn_lst (evds_cons evd_non (evds_cons (evd_neg evd_int) (evds_cons evd_bl (evds_cons evd_str evds_nil))))) x12 (by decide) (by decide) (by decide) fun dat v8 H13 hd8 r8 b13 x13 => ?_)
  have hmany : manyOk 0 dat = false := by
    simp only [List.mem_cons, List.not_mem_nil, or_false] at hd8
    rcases hd8 with rfl | rfl | rfl | rfl <;> rfl
  have r10c : Rp H13 v10 y := (r10.deal W.ok x11 b12).deal W.ok x12 b13
  have r6c : Rp H13 v6 yr := r6.deal okr x12 b13
  have b1013 := (b11.trans b12).trans b13
  have r7d : Rp H13 v7 (dCache k) := Rp.tk (b1013.tk x10.noT) _ (tupD_Cache k) (r7a.up e610)
  have h9d : H13 q9 = some (.lst (xs.map fun n : Nat => V.int n)) := b1013.go q9n (e610 _ _ h9a)
  have r9d : Rp H13 (.ref q9) (.list (xs.map dI)) := .lst h9d (rps_nat xs)
  have P13 : H13 Pt = some (.tbl #[]) := b1013.go Pn (e610 _ _ (b46.go Pn (e4 _ _ (b3.go Pn (e2 _ _ P1)))))
  have hT : LamX.Tabs [(Pt, lq)] H13 := fun pr hpr => by
    rw [List.mem_singleton.mp hpr]
    exact LamX.TabS.nil P13
  -- four turns
  refine d_sq (d_tried hT .c (fun H1 e1 Q' => ev_raiseXP (dd := []) (evds_cons (evd_var rfl (Rp.extN e1 _ r10c)) (evds_cons (evd_var rfl (Rp.extN e1 _ r8)) evds_nil)) (fun _ => .nil) ⟨(C, L), y, dat, rfl, .inl (.cache W.small (W.res CC))⟩ (fun r h => h) (Rz.rsd CC "at" (.int z) H1) Q') (fun H1 e1 => evd_tup (evds_cons evd_str (evds_cons (evd_var rfl (.int _)) evds_nil))) (eqv_self (shp_ca _)) (shp_ca _).shaped (shp_ca _).shaped fun H14 e14 T14 => ?_)
  refine d_sq (d_tried T14 .i (fun H1 e1 Q' => ev_raiseX (dd := []) (evds_cons (evd_var rfl (Rp.extN (e14.trans e1) _ r6c)) (evds_cons (evd_var rfl (Rp.extN (e14.trans e1) _ r8)) evds_nil)) (fun _ => .nil) ⟨yr, dat, rfl, .row (WR CI)⟩ (Rz.rsd CI "at" (.int zr) H1) Q') (fun H1 e1 => evd_tup (evds_cons evd_str (evds_cons (evd_var rfl (.int _)) evds_nil))) (eqv_self (shp_in _)) (shp_in _).shaped (shp_in _).shaped fun H15 e15 T15 => ?_)
  have e1315 := e14.trans e15
  refine d_sq (d_tried T15 .z (fun H1 e1 Q' => ev_raiseXP (dd := []) (evds_cons (evd_var rfl (Rp.extN (e1315.trans e1) _ r7d)) (evds_cons (evd_var rfl (Rp.extN (e1315.trans e1) _ r8)) evds_nil)) (fun _ => .nil) ⟨(C, L), _, dat, rfl, .inl (.cap o hC hL hmany)⟩ (fun r h => h) (Rz.rsd CZ "word" (.str "cap") H1) Q') (fun H1 e1 => evd_tup (evds_cons evd_str (evds_cons evd_str evds_nil))) (eqv_self shp_sz) shp_sz.shaped shp_sz.shaped fun H16 e16 T16 => ?_)
  have e1316 := e1315.trans e16
  exact d_nx (d_retTried T16 .z (fun H1 e1 Q' => ev_raiseX (dd := []) (evds_cons (evd_var rfl (Rp.extN (e1316.trans e1) _ r9d)) (evds_cons (evd_var rfl (Rp.extN (e1316.trans e1) _ r8)) evds_nil)) (fun _ => .nil) ⟨_, dat, rfl, .cap (.inl rfl) hmany⟩ (Rz.rsd CZ "word" (.str "cap") H1) Q') (fun H1 e1 => evd_tup (evds_cons evd_str (evds_cons evd_str evds_nil))) (eqv_self shp_sz) shp_sz.shaped shp_sz.shaped fun H17 => q H17)
end
end K48
/-! What the top leaves; all defs keep their promises. -/
namespace K48
open PySem PySem.Spec PyProof.Rows L2 Evl PySem.W K48M
/-- a def of the top, and its name -/
structure DefAt (K : Frag) (mg : Str → Option Value) (x : Str) (st : Stmt) : Prop where
  ex : ∃ f fd, L2.Fun K x x st f fd ∧ mg x = some (.ref f)
section
variable {P : Program} {w : World} {K : Frag} {mg : Str → Option Value} {base h : Heap} {x : Str} {st : Stmt} {ps : List Str} {k : Nat} {sp : Sp}
theorem def_at {f : Addr} {oc kV doc pm cdv ct : Value} {od an : Option Addr} {osl : Array (Option Value)} (X : K.In h) (G : h.Ns mainGlobals mg) (a : nsIn K mainGlobals x = some (some (.ref f)))
    (l : K.lookup f = some ⟨oc, od, .func (fnOf x x (defArgs st) (defBody st) (defScope st) .none kV doc pm an cdv ct), osl⟩) (c : codeIn K cdv x = true) (k : keepIn K (.ref f) = true) : DefAt K mg x st := ⟨_, _, fun_mk l c k, mg_of X G a⟩
/-- n values bind to n parameters -/
def Bd (x : Str) (st : Stmt) (ps : List Str) : Prop := ∀ (kV doc pm : Value) (an : Option Addr) (cdv ct : Value) (us : List Value), us.length = ps.length → bindArgs (fnOf x x (defArgs st) (defBody st) (defScope st) .none kV doc pm an cdv ct) ⟨us, []⟩ = pure (ps.zip us)
theorem DefAt.cal {CX : CXT} (D : DefAt K mg x st) (hb : Bd x st ps) (F : ∀ f fd, L2.Fun K x x st f fd → FnOk P w K mg base CX k f fd ps sp) : Cal P w K mg base CX k x ps sp := by
  obtain ⟨f, fd, F0, m⟩ := D.ex
  exact ⟨f, fd, F f fd F0, m, F0.kp, F0.binds hb⟩
theorem DefAt.calX (D : DefAt K mg x st) (hb : Bd x st ps) (F : ∀ f fd, L2.Fun K x x st f fd → FnOk P w K mg base (L2.CX P w) k f fd ps sp) : CalX P w K mg base k x ps [] sp := by
  obtain ⟨f, fd, F0, m⟩ := D.ex
  exact ⟨f, fd, [], F f fd F0, m, F0.kp, F0.binds hb, .nil⟩
theorem DefAt.calK {p1 p2 : Str} (D : DefAt K mg x st) (hb : ∀ (kV doc pm : Value) (an : Option Addr) (cdv ct : Value) (a b : Value), bindArgs (fnOf x x (defArgs st) (defBody st) (defScope st) .none kV doc pm an cdv ct) ⟨[], [(p1, a), (p2, b)]⟩ = pure [(p1, a), (p2, b)])
    (F : ∀ f fd, L2.Fun K x x st f fd → FnOk P w K mg base (L2.CX P w) k f fd [p1, p2] sp) : CalK P w K mg base k x [p1, p2] sp := by
  obtain ⟨f, fd, F0, m⟩ := D.ex
  refine ⟨f, fd, F f fd F0, m, F0.kp, ⟨fun s us ws _ l1 l2 => ?_, fun _ r => r⟩⟩
  obtain ⟨oc, od, kV, doc, pm, an, cdv, ct, osl, rfl, lk, hcd⟩ := F0.ex
  match us, ws, l1, l2 with
  | [], [a, b], _, _ => exact .of_eq (hb kV doc pm an cdv ct a b)
/-- need_many, with its default -/
structure NmAt (K : Frag) (mg : Str → Option Value) : Prop where
  ex : ∃ f fd, FunD K "need_many" "need_many" (defArgs s_need_many) (defBody s_need_many) (defScope s_need_many) [.int 0] [] f fd ∧ mg "need_many" = some (.ref f)
theorem nm_at {f Td : Addr} {oc kV doc pm cdv ct cD : Value} {od an dD : Option Addr} {osl sD : Array (Option Value)} {tk : Tok} {nD : Nat} (X : K.In h) (G : h.Ns mainGlobals mg) (a : nsIn K mainGlobals "need_many" = some (some (.ref f)))
    (l : K.lookup f = some ⟨oc, od, .func (fnOf "need_many" "need_many" (defArgs s_need_many) (defBody s_need_many) (defScope s_need_many) (.ref Td) kV doc pm an cdv ct), osl⟩) (c : codeIn K cdv "need_many" = true) (k : keepIn K (.ref f) = true)
    (lD : K.lookup Td = some ⟨cD, dD, .seq #[.int 0 tk] nD, sD⟩) : NmAt K mg :=
  ⟨f, _, ⟨⟨oc, od, .ref Td, kV, doc, pm, an, cdv, ct, osl, rfl, l, c, .inr ⟨List.cons_ne_nil _ _, Td, _, [.int 0 tk], nD, rfl, lD, rfl, .cons ⟨tk, rfl⟩ .nil⟩, .inl rfl⟩, k⟩, mg_of X G a⟩
theorem NmAt.calX (D : NmAt K mg) (F : ∀ f fd, FunD K "need_many" "need_many" (defArgs s_need_many) (defBody s_need_many) (defScope s_need_many) [.int 0] [] f fd → FnOk P w K mg base (L2.CX P w) k f fd ["value", "word", "least"] sp) : CalX P w K mg base k "need_many" ["value", "word", "least"] [.int 0] sp := by
  obtain ⟨f, fd, F0, m⟩ := D.ex
  obtain ⟨ds, hv, hb⟩ := F0.binds1 (ps := ["value", "word", "least"]) 2 0 (List.cons_ne_nil _ _) rfl fun T kV doc pm an cdv ct us its h1 h2 => match us, its, h1, h2 with
    | [_, _], [_], _, _ => ⟨_, rfl, rfl⟩
  exact ⟨f, fd, ds, F f fd F0, m, F0.kp, hb, hv⟩
/-- a class of the errors' module -/
theorem ext_at {x par : Str} {C fI PE cc cda N : Addr} {msg qual nm q file : Str} {scope : Scope} {params : Arguments} {p0 p1 p2 p3 p4 p5 p6 p7 p8 p9 : Pos} {j : Nat} {bs sub : List Value} {sn : List Str} {ab : Bool} {col : Option Bool} {dd an od cdd cld : Option Addr} {k0 k1 k2 k3 k5 : Option Value}
    {kV doc pm ct oc ccl cl : Value} {osl ccs csl : Array (Option Value)} {vs : Array Value} {tf : Tok} (X : K.In h) (G : h.Ns mainGlobals mg) (a : nsIn K mainGlobals x = some (some (.ref C)))
    (l : K.lookup C = some (excClassObj nm q C N bs (.ref PE :: exT) true sn sub ab col dd k0 k1 k2 k3 k5 "Exception.__new__"))
    (sa : findIn K (.ref C) "__setattr__" = some (some (.builtin "object.__setattr__"))) (np : findIn K (.ref C) par = some none) (i : findIn K (.ref C) "__init__" = some (some (.ref fI))) (ti : typeIn K (.ref fI) = some (.type "function"))
    (lf : K.lookup fI = some ⟨oc, od, .func (ksFn "__init__" qual params [.Expr (.Call (.Attribute (.Call (.Name "super" p0) [] [] p1) "__init__" p2) [.Constant (.str msg) j p3] [] p4) p5, .Assign [.Attribute (.Name "self" p6) par p7] (.Name par p8) p9] scope .none kV doc pm an (.ref cda) ct cc), osl⟩)
    (hc : codeIn K (.ref cda) qual = true) (lc : K.lookup cda = some ⟨ccl, cdd, .fields vs, ccs⟩) (v2 : vs[2]? = some (.str file tf)) (hf : ((P.main.file : Str) == file) = true) (lcc : K.lookup cc = some ⟨cl, cld, .cell (some (.ref C)), csl⟩)
    (al : alongIn K "__init__" (.ref PE :: exT) = some (some (.builtin "Exception.__init__"))) (cs : nsIn K cStatics "thirdparty.any" = some none) (ev : EvSuper msg p0 p1 p2 p3 p4 j)
    (n1 : scope.names.lookup ("super" : Str) = some .globalImplicit) (n2 : scope.names.lookup ("__class__" : Str) = some .free) (n3 : scope.names.lookup ("self" : Str) = some .local) (n4 : scope.names.lookup par = some .local) (n5 : scope.kind = .function)
    (n6 : ∀ y ∈ scope.names, y.2 ≠ .cell) (n7 : scope.isCoroutine = false) (n8 : scope.isGenerator = false) (hp : (params.posonlyargs ++ params.args).head?.map (·.arg) = some "self")
    (hb : ∀ (kV doc pm ct : Value) (an : Option Addr) (e : Addr) (u : Value), bindArgs (ksFn "__init__" qual params [.Expr (.Call (.Attribute (.Call (.Name "super" p0) [] [] p1) "__init__" p2) [.Constant (.str msg) j p3] [] p4) p5, .Assign [.Attribute (.Name "self" p6) par p7] (.Name par p8) p9] scope .none kV doc pm an (.ref cda) ct cc) ⟨[.ref e, u], []⟩ = pure [(("self" : Str), .ref e), (par, u)])
    (pp : par ≠ "self" ∧ (par == ("__debug__" : Str)) = false) (top : (P.main.scope.names.lookup ("super" : Str)).isSome = false) (su : nsIn K mainGlobals "super" = some none)
    (exC : subIn K (.ref C) (.type "BaseException") = some true) (exE : subIn K (.ref C) (.type "Exception") = some true) (exS : mroIn K C (.ref C) = some true) (tyC : typeIn K (.ref C) = some (.type "type")) (kC : keepIn K (.ref C) = true) : ExT P K mg x C par :=
  ⟨mg_of X G a, ⟨fI, PE, cc, cda, msg, qual, scope, params, p0, p1, p2, p3, p4, p5, p6, p7, p8, p9, j, nm, q, N, bs, sn, sub, ab, col, dd, k0, k1, k2, k3, k5, kV, doc, pm, ct, oc, an, od, osl, ccl, cl, cdd, cld, ccs, csl, vs, file, tf,
    ev, l, sa, np, i, ti, lf, hc, lc, v2, hf, lcc, al, cs, n1, n2, n3, n4, n5, n6, n7, n8, hp, hb⟩, pp, top, mg_none_of X G su, exC, exE, exS, tyC, kC⟩
end
theorem exm_at {K : Frag} {CC CI CZ : Addr} (c1 : exmOne K (.ref CC) (.ref CC) = some true) (c2 : exmOne K (.ref CI) (.ref CC) = some false) (c3 : exmOne K (.ref CI) (.ref CI) = some true) (c4 : exmOne K (.ref CZ) (.ref CC) = some false) (c5 : exmOne K (.ref CZ) (.ref CI) = some false) (c6 : exmOne K (.ref CZ) (.ref CZ) = some true)
    (c7 : xfB K CC = true) (c8 : xfB K CI = true) (c9 : xfB K CZ = true) (n1 : findIn K (.ref CC) "at" = some none) (n2 : findIn K (.ref CI) "at" = some none) (n3 : findIn K (.ref CZ) "word" = some none) : Exm K CC CI CZ := ⟨c1, c2, c3, c4, c5, c6, xfB_ok c7, xfB_ok c8, xfB_ok c9, n1, n2, n3⟩
/-- all that the top leaves -/
structure TopAt (P : Program) (K : Frag) (mg : Str → Option Value) (CC CI CZ : Addr) : Prop where
  d_is_integer : DefAt K mg "is_integer" s_is_integer
  d_is_number : DefAt K mg "is_number" s_is_number
  d_is_below : DefAt K mg "is_below" s_is_below
  d_is_sequence : DefAt K mg "is_sequence" s_is_sequence
  d_is_control : DefAt K mg "is_control" s_is_control
  d_need_cache : DefAt K mg "need_cache" s_need_cache
  d_need_accesses : DefAt K mg "need_accesses" s_need_accesses
  d_accessed : DefAt K mg "accessed" s_accessed
  d_filled_states : DefAt K mg "filled_states" s_filled_states
  d_stay_starts : DefAt K mg "stay_starts" s_stay_starts
  d_stay_steps : DefAt K mg "stay_steps" s_stay_steps
  d_all_stays : DefAt K mg "all_stays" s_all_stays
  d_most_met : DefAt K mg "most_met" s_most_met
  d_stay_most : DefAt K mg "stay_most" s_stay_most
  d_least_cap : DefAt K mg "least_cap" s_least_cap
  d_access_ages : DefAt K mg "access_ages" s_access_ages
  d_next_lines : DefAt K mg "next_lines" s_next_lines
  d_renamed_stay : DefAt K mg "renamed_stay" s_renamed_stay
  d_begin_walks : DefAt K mg "begin_walks" s_begin_walks
  d_met_names : DefAt K mg "met_names" s_met_names
  d_staying_key : DefAt K mg "staying_key" s_staying_key
  d_staying_row : DefAt K mg "staying_row" s_staying_row
  d_further_stays : DefAt K mg "further_stays" s_further_stays
  d_unlike_stays : DefAt K mg "unlike_stays" s_unlike_stays
  d_same_met : DefAt K mg "same_met" s_same_met
  d_cap_rows : DefAt K mg "cap_rows" s_cap_rows
  d__law_draw : DefAt K mg "_law_draw" s__law_draw
  d__law_any : DefAt K mg "_law_any" s__law_any
  d__law_of : DefAt K mg "_law_of" s__law_of
  d__law_cache : DefAt K mg "_law_cache" s__law_cache
  d__law_walk : DefAt K mg "_law_walk" s__law_walk
  d__law_tried : DefAt K mg "_law_tried" s__law_tried
  d__law_wrong_cache : DefAt K mg "_law_wrong_cache" s__law_wrong_cache
  d__law_wrong_row : DefAt K mg "_law_wrong_row" s__law_wrong_row
  d__law_ages : DefAt K mg "_law_ages" s__law_ages
  d__law_rows : DefAt K mg "_law_rows" s__law_rows
  d__law_keeps : DefAt K mg "_law_keeps" s__law_keeps
  d__law_told : DefAt K mg "_law_told" s__law_told
  nm : NmAt K mg
  ex : Exs P K mg CC CI CZ
  em : Exm K CC CI CZ
  b : Mg mg
  g : Gcs mg
section
variable {P : Program} {w : World} {K : Frag} {mg : Str → Option Value} {base : Heap} {CC CI CZ : Addr}
theorem cs_of (t : TopAt P K mg CC CI CZ) : Cs P w K mg base CC CI CZ := by
  have c_int : Cal P w K mg base CX0 1 "is_integer" ["value"] (spD RisInt) := t.d_is_integer.cal (fun _ _ _ _ _ _ us hl => match us, hl with | [_], _ => rfl) fun f fd F => ok_is_integer F t.b
  have c_num : Cal P w K mg base CX0 2 "is_number" ["value"] (spD RisNum) := t.d_is_number.cal (fun _ _ _ _ _ _ us hl => match us, hl with | [_], _ => rfl) fun f fd F => ok_is_number F c_int
  have c_bel : Cal P w K mg base CX0 3 "is_below" ["value", "many"] (spD RisBelow) := t.d_is_below.cal (fun _ _ _ _ _ _ us hl => match us, hl with | [_, _], _ => rfl) fun f fd F => ok_is_below F c_num
  have c_seq : Cal P w K mg base CX0 1 "is_sequence" ["value"] (spD RisSeq) := t.d_is_sequence.cal (fun _ _ _ _ _ _ us hl => match us, hl with | [_], _ => rfl) fun f fd F => ok_is_sequence F t.b
  have c_ctl : Cal P w K mg base CX0 4 "is_control" ["value", "lines", "controls"] (spD RisCtl) := t.d_is_control.cal (fun _ _ _ _ _ _ us hl => match us, hl with | [_, _, _], _ => rfl) fun f fd F => ok_is_control F t.b c_bel
  have c_ncache : CalX P w K mg base 5 "need_cache" ["value"] [] (spX (Rcache CC)) := t.d_need_cache.calX (fun _ _ _ _ _ _ us hl => match us, hl with | [_], _ => rfl) fun f fd F => ok_need_cache F t.b t.g t.ex c_ctl
  have c_nacc : CalX P w K mg base 3 "need_accesses" ["value"] [] (spX (Racs CI)) := t.d_need_accesses.calX (fun _ _ _ _ _ _ us hl => match us, hl with | [_], _ => rfl) fun f fd F => ok_need_accesses F t.b t.ex c_seq c_num
  have c_many : CalX P w K mg base 2 "need_many" ["value", "word", "least"] [.int 0] (spX (Rmany CZ)) := t.nm.calX fun f fd F => ok_need_many F t.ex c_int
  have c_acc : ∀ C L, Cal P w K mg base CX0 1 "accessed" ["cache", "control", "lines", "name"] (spD (Racc C L)) := fun C L => t.d_accessed.cal (fun _ _ _ _ _ _ us hl => match us, hl with | [_, _, _, _], _ => rfl) fun f fd F => ok_accessed F
  have c_fill : ∀ C L, Cal P w K mg base CX0 1 "filled_states" ["cache"] (spM (Rfill C L)) := fun C L => t.d_filled_states.cal (fun _ _ _ _ _ _ us hl => match us, hl with | [_], _ => rfl) fun f fd F => ok_filled_states F t.b
  have c_starts : ∀ C L, Cal P w K mg base CX0 2 "stay_starts" ["cache"] (spM (Rstarts C L)) := fun C L => t.d_stay_starts.cal (fun _ _ _ _ _ _ us hl => match us, hl with | [_], _ => rfl) fun f fd F => ok_stay_starts F t.b (c_fill C L)
  have c_steps : ∀ C L, Cal P w K mg base CX0 1 "stay_steps" ["cache", "stay"] (spN (Rsteps C L)) := fun C L => t.d_stay_steps.cal (fun _ _ _ _ _ _ us hl => match us, hl with | [_, _], _ => rfl) fun f fd F => ok_stay_steps F t.b
  have c_all : ∀ C L, Cal P w K mg base CX0 3 "all_stays" ["cache"] (spM (Rall C L)) := fun C L => t.d_all_stays.cal (fun _ _ _ _ _ _ us hl => match us, hl with | [_], _ => rfl) fun f fd F => ok_all_stays F t.b (c_starts C L) (c_steps C L)
  have c_most : ∀ C L, Cal P w K mg base CX0 4 "most_met" ["cache"] (spE (Rmost C L)) := fun C L => t.d_most_met.cal (fun _ _ _ _ _ _ us hl => match us, hl with | [_], _ => rfl) fun f fd F => ok_most_met F t.b (c_all C L) (c_starts C L) (c_steps C L)
  have c_smost : ∀ C L, Cal P w K mg base CX0 6 "stay_most" ["cache"] (spE (Rmost C L)) := fun C L => t.d_stay_most.cal (fun _ _ _ _ _ _ us hl => match us, hl with | [_], _ => rfl) fun f fd F => ok_stay_most F t.b (c_most C L) c_ncache
  have c_next : ∀ C L, Cal P w K mg base CX0 2 "next_lines" ["cache", "walk"] (spM (Rnext C L)) := fun C L => t.d_next_lines.cal (fun _ _ _ _ _ _ us hl => match us, hl with | [_, _], _ => rfl) fun f fd F => ok_next_lines F t.b (c_acc C L)
  have c_ren : Cal P w K mg base CX0 1 "renamed_stay" ["walk"] (spD Rren) := t.d_renamed_stay.cal (fun _ _ _ _ _ _ us hl => match us, hl with | [_], _ => rfl) fun f fd F => ok_renamed_stay F t.b
  have c_met : Cal P w K mg base CX0 1 "met_names" ["row", "name"] (spN Rmet) := t.d_met_names.cal (fun _ _ _ _ _ _ us hl => match us, hl with | [_, _], _ => rfl) fun f fd F => ok_met_names F t.b
  have c_key : ∀ C L, Cal P w K mg base CX0 2 "staying_key" ["walk", "name"] (spD (Rkey C L)) := fun C L => t.d_staying_key.cal (fun _ _ _ _ _ _ us hl => match us, hl with | [_, _], _ => rfl) fun f fd F => ok_staying_key F t.b c_met
  have c_beg : ∀ C L, Cal P w K mg base CX0 3 "begin_walks" ["cache"] (spM (Rbeg C L)) := fun C L => t.d_begin_walks.cal (fun _ _ _ _ _ _ us hl => match us, hl with | [_], _ => rfl) fun f fd F => ok_begin_walks F t.b (c_next C L) c_ren
  have c_unl : ∀ C L, Cal P w K mg base CX0 3 "unlike_stays" ["pairs"] (spN (Runl C L)) := fun C L => t.d_unlike_stays.cal (fun _ _ _ _ _ _ us hl => match us, hl with | [_], _ => rfl) fun f fd F => ok_unlike_stays F t.b (c_key C L)
  have c_fur : ∀ C L, Cal P w K mg base CX0 3 "further_stays" ["cache", "layer"] (spM (Rfur C L)) := fun C L => t.d_further_stays.cal (fun _ _ _ _ _ _ us hl => match us, hl with | [_, _], _ => rfl) fun f fd F => ok_further_stays F t.b (c_next C L)
  have c_same : ∀ C L, Cal P w K mg base CX0 4 "same_met" ["cache", "layer"] (spM (Rsame C L)) := fun C L => t.d_same_met.cal (fun _ _ _ _ _ _ us hl => match us, hl with | [_, _], _ => rfl) fun f fd F => ok_same_met F t.b (c_unl C L) (c_fur C L) (c_key C L) c_met
  have c_row : ∀ C L, Cal P w K mg base CX0 5 "staying_row" ["cache", "many"] (spE (Rrow C L)) := fun C L => t.d_staying_row.cal (fun _ _ _ _ _ _ us hl => match us, hl with | [_, _], _ => rfl) fun f fd F => ok_staying_row F t.b (c_beg C L) (c_next C L) (c_same C L) (c_unl C L) (c_fur C L) c_met
  have c_lw : ∀ C L, Cal P w K mg base CX0 1 "_law_walk" ["_law_cache_here", "_law_row"] (spD (Rlw C L)) := fun C L => t.d__law_walk.cal (fun _ _ _ _ _ _ us hl => match us, hl with | [_, _], _ => rfl) fun f fd F => ok_law_walk F t.b
  have c_la : Cal P w K mg base CX0 1 "_law_ages" ["_law_row", "_law_cap"] (spD Rla) := t.d__law_ages.cal (fun _ _ _ _ _ _ us hl => match us, hl with | [_, _], _ => rfl) fun f fd F => ok_law_ages F t.b
  have c_lr : Cal P w K mg base CX0 1 "_law_rows" ["_law_many"] (spM Rlr) := t.d__law_rows.cal (fun _ _ _ _ _ _ us hl => match us, hl with | [_], _ => rfl) fun f fd F => ok_law_rows F t.b
  have c_any : Cal P w K mg base CX0 1 "_law_any" ["_law_deal", "_law_bound"] (spAny) := t.d__law_any.cal (fun _ _ _ _ _ _ us hl => match us, hl with | [_, _], _ => rfl) fun f fd F => ok_law_any F t.b
  have c_of : Cal P w K mg base CX0 2 "_law_of" ["_law_deal", "_law_some"] (spOf) := t.d__law_of.cal (fun _ _ _ _ _ _ us hl => match us, hl with | [_, _], _ => rfl) fun f fd F => ok_law_of F t.b c_any
  exact ⟨t.d__law_draw.cal (fun _ _ _ _ _ _ us hl => match us, hl with | [_, _], _ => rfl) fun f fd F => ok_law_draw F t.b,
    c_any,
    c_of,
    t.d__law_cache.cal (fun _ _ _ _ _ _ us hl => match us, hl with | [_], _ => rfl) fun f fd F => ok_law_cache F t.b c_any,
    t.d__law_wrong_cache.cal (fun _ _ _ _ _ _ us hl => match us, hl with | [_, _], _ => rfl) fun f fd F => ok_law_wrong_cache F t.b c_of,
    t.d__law_wrong_row.cal (fun _ _ _ _ _ _ us hl => match us, hl with | [_], _ => rfl) fun f fd F => ok_law_wrong_row F t.b c_of,
    c_la,
    t.d__law_keeps.cal (fun _ _ _ _ _ _ us hl => match us, hl with | [_, _, _], _ => rfl) fun f fd F => (fnok_ex fun CL : Nat × Nat => ok_law_keeps F t.b c_lr (c_lw CL.1 CL.2) c_la).imp spD_ex,
    t.d__law_told.cal (fun _ _ _ _ _ _ us hl => match us, hl with | [_, _, _], _ => rfl) fun f fd F => (fnok_ex fun CL : Nat × Nat => ok_law_told F t.b (c_lw CL.1 CL.2) c_la).imp spD_ex,
    t.d_least_cap.cal (fun _ _ _ _ _ _ us hl => match us, hl with | [_], _ => rfl) fun f fd F => (fnok_ex fun CL : Nat × Nat => ok_least_cap F t.b (c_smost CL.1 CL.2)).imp spE_ex,
    t.d_access_ages.calX (fun _ _ _ _ _ _ us hl => match us, hl with | [_, _], _ => rfl) fun f fd F => ok_access_ages F t.b c_nacc c_many,
    t.d_access_ages.calK (fun _ _ _ _ _ _ _ _ => rfl) fun f fd F => ok_access_ages F t.b c_nacc c_many,
    t.d_cap_rows.calX (fun _ _ _ _ _ _ us hl => match us, hl with | [_, _], _ => rfl) fun f fd F => (fnok_ex fun CL : Nat × Nat => ok_cap_rows F t.b c_ncache c_many (c_row CL.1 CL.2)).imp spXP_ex,
    t.d_cap_rows.calK (fun _ _ _ _ _ _ _ _ => rfl) fun f fd F => (fnok_ex fun CL : Nat × Nat => ok_cap_rows F t.b c_ncache c_many (c_row CL.1 CL.2)).imp spXP_ex⟩
theorem law_at {l : OpenLaw} {fa f c Pt : Addr} {h : Heap} {oc kV doc pm ct : Value} {od an : Option Addr} {osl : Array (Option Value)} (KX : K.In h) (G : h.Ns mainGlobals mg) (hfa : mg "law" = some (.ref fa)) (t : TopAt l.prog K mg CC CI CZ)
    (a : nsIn K mainGlobals "law" = some (some (.ref f))) (lk : K.lookup f = some ⟨oc, od, .func (fnOf "law" "law" (defArgs s_law) (defBody s_law) (defScope s_law) .none kV doc pm an (.ref c) ct), osl⟩) (hcd : codeIn K (.ref c) "law" = true)
    (hT : h.get? Pt = some { cls := .none, data := .fields #[] }) (nt : K.lookup Pt = none) (ch : codeHdIn K c Pt = true) : LamX.LawAtS l w K CX0 9 63 "_law_script" mg fa h := by
  have e := hfa.symm.trans (mg_of KX G a)
  cases e
  obtain ⟨g, fdT, FT, hg⟩ := t.d__law_tried.ex
  refine ⟨_, [(c, Pt)], spLaw K Pt, fun p hp => ?_, fun p hp => ?_, fun p hp => ?_, fun s u => .of_eq rfl, fun H a ns hl _ hT hs => ⟨a, ns, rfl, hs, hl, hT (c, Pt) (List.mem_singleton.mpr rfl), fun _ => rfl⟩, fun base _ _ TB => ok_law lk hcd t.b (cs_of t) t.ex t.em FT hg (TB (c, Pt) (List.mem_singleton.mpr rfl))⟩
  · rw [List.mem_singleton.mp hp]
    exact hT
  · rw [List.mem_singleton.mp hp]
    exact nt
  · rw [List.mem_singleton.mp hp]
    exact codeHd_of_K KX ch
theorem mg_at {h : Heap} (X : K.In h) (G : h.Ns mainGlobals mg) (b0 : nsIn K mainGlobals "isinstance" = some none) (b1 : nsIn K mainGlobals "int" = some none) (b2 : nsIn K mainGlobals "bool" = some none) (b3 : nsIn K mainGlobals "list" = some none) (b4 : nsIn K mainGlobals "tuple" = some none) (b5 : nsIn K mainGlobals "len" = some none) (b6 : nsIn K mainGlobals "all" = some none) (b7 : nsIn K mainGlobals "enumerate" = some none) (b8 : nsIn K mainGlobals "sorted" = some none) (b9 : nsIn K mainGlobals "set" = some none) (b10 : nsIn K mainGlobals "range" = some none) (b11 : nsIn K mainGlobals "max" = some none) (b12 : nsIn K mainGlobals "min" = some none) (b13 : nsIn K mainGlobals "abs" = some none) (b14 : nsIn K mainGlobals "super" = some none) : Mg mg := ⟨mg_none_of X G b0, mg_none_of X G b1, mg_none_of X G b2, mg_none_of X G b3, mg_none_of X G b4, mg_none_of X G b5, mg_none_of X G b6, mg_none_of X G b7, mg_none_of X G b8, mg_none_of X G b9, mg_none_of X G b10, mg_none_of X G b11, mg_none_of X G b12, mg_none_of X G b13, mg_none_of X G b14⟩
theorem gc_at {h : Heap} {t1 t2 : Tok} (X : K.In h) (G : h.Ns mainGlobals mg) (a : nsIn K mainGlobals "MOST_LINES" = some (some (.int 4 t1))) (b : nsIn K mainGlobals "MOST_CONTROLS" = some (some (.int 60 t2))) : Gcs mg := ⟨⟨_, mg_of X G a, t1, rfl⟩, ⟨_, mg_of X G b, t2, rfl⟩⟩
end
end K48
open PySem PySem.W PyProof.Rows
set_option maxRecDepth 100000 in
set_option maxHeartbeats 0 in
theorem PySem.Challenge.cw_leastpromise_k48_whole_ages_that_a_cache_holds : PySem.Challenge.rw_leastpromise_k48_whole_ages_that_a_cache.Holds := by
  w_on; o_law; k_head; (case hw => w_witness2)
  k_fill
  refine LamX.walk_ofTs (l := PySem.Challenge.rw_leastpromise_k48_whole_ages_that_a_cache) (n := 63) (k := 9) (x := "_law_script") (CX := fun _ => L2.CX0) rfl (by decide) rfl ⟨rfl, by decide, by decide⟩ (fun w h Y => PySem.W.km_in_of Y) ?F (fun _ _ _ _ _ z => z)
  case F =>
    intro w mg fa h Y KX G hmg
    refine' K48.law_at KX G hmg ⟨?d0, ?d1, ?d2, ?d3, ?d4, ?d5, ?d6, ?d7, ?d8, ?d9, ?d10, ?d11, ?d12, ?d13, ?d14, ?d15, ?d16, ?d17, ?d18, ?d19, ?d20, ?d21, ?d22, ?d23, ?d24, ?d25, ?d26, ?d27, ?d28, ?d29, ?d30, ?d31, ?d32, ?d33, ?d34, ?d35, ?d36, ?d37, ?nm, ⟨?eC, ?eI, ?eZ⟩, ?em, ?bt, ?gc⟩ ?za ?zlk ?zhcd ?zhT ?znt ?zch
    (case d0 => refine' K48.def_at KX G ?a_1 ?l_1 ?c_1 ?k_1; (case a_1 => k_is); (case l_1 => k_is); (case c_1 => k_is); (case k_1 => k_is))
    (case d1 => refine' K48.def_at KX G ?a_2 ?l_2 ?c_2 ?k_2; (case a_2 => k_is); (case l_2 => k_is); (case c_2 => k_is); (case k_2 => k_is))
    (case d2 => refine' K48.def_at KX G ?a_3 ?l_3 ?c_3 ?k_3; (case a_3 => k_is); (case l_3 => k_is); (case c_3 => k_is); (case k_3 => k_is))
    (case d3 => refine' K48.def_at KX G ?a_4 ?l_4 ?c_4 ?k_4; (case a_4 => k_is); (case l_4 => k_is); (case c_4 => k_is); (case k_4 => k_is))
    (case d4 => refine' K48.def_at KX G ?a_5 ?l_5 ?c_5 ?k_5; (case a_5 => k_is); (case l_5 => k_is); (case c_5 => k_is); (case k_5 => k_is))
    (case d5 => refine' K48.def_at KX G ?a_6 ?l_6 ?c_6 ?k_6; (case a_6 => k_is); (case l_6 => k_is); (case c_6 => k_is); (case k_6 => k_is))
    (case d6 => refine' K48.def_at KX G ?a_7 ?l_7 ?c_7 ?k_7; (case a_7 => k_is); (case l_7 => k_is); (case c_7 => k_is); (case k_7 => k_is))
    (case d7 => refine' K48.def_at KX G ?a_8 ?l_8 ?c_8 ?k_8; (case a_8 => k_is); (case l_8 => k_is); (case c_8 => k_is); (case k_8 => k_is))
    (case d8 => refine' K48.def_at KX G ?a_9 ?l_9 ?c_9 ?k_9; (case a_9 => k_is); (case l_9 => k_is); (case c_9 => k_is); (case k_9 => k_is))
    (case d9 => refine' K48.def_at KX G ?a_10 ?l_10 ?c_10 ?k_10; (case a_10 => k_is); (case l_10 => k_is); (case c_10 => k_is); (case k_10 => k_is))
    (case d10 => refine' K48.def_at KX G ?a_11 ?l_11 ?c_11 ?k_11; (case a_11 => k_is); (case l_11 => k_is); (case c_11 => k_is); (case k_11 => k_is))
    (case d11 => refine' K48.def_at KX G ?a_12 ?l_12 ?c_12 ?k_12; (case a_12 => k_is); (case l_12 => k_is); (case c_12 => k_is); (case k_12 => k_is))
    (case d12 => refine' K48.def_at KX G ?a_13 ?l_13 ?c_13 ?k_13; (case a_13 => k_is); (case l_13 => k_is); (case c_13 => k_is); (case k_13 => k_is))
    (case d13 => refine' K48.def_at KX G ?a_14 ?l_14 ?c_14 ?k_14; (case a_14 => k_is); (case l_14 => k_is); (case c_14 => k_is); (case k_14 => k_is))
    (case d14 => refine' K48.def_at KX G ?a_15 ?l_15 ?c_15 ?k_15; (case a_15 => k_is); (case l_15 => k_is); (case c_15 => k_is); (case k_15 => k_is))
    (case d15 => refine' K48.def_at KX G ?a_16 ?l_16 ?c_16 ?k_16; (case a_16 => k_is); (case l_16 => k_is); (case c_16 => k_is); (case k_16 => k_is))
    (case d16 => refine' K48.def_at KX G ?a_17 ?l_17 ?c_17 ?k_17; (case a_17 => k_is); (case l_17 => k_is); (case c_17 => k_is); (case k_17 => k_is))
    (case d17 => refine' K48.def_at KX G ?a_18 ?l_18 ?c_18 ?k_18; (case a_18 => k_is); (case l_18 => k_is); (case c_18 => k_is); (case k_18 => k_is))
    (case d18 => refine' K48.def_at KX G ?a_19 ?l_19 ?c_19 ?k_19; (case a_19 => k_is); (case l_19 => k_is); (case c_19 => k_is); (case k_19 => k_is))
    (case d19 => refine' K48.def_at KX G ?a_20 ?l_20 ?c_20 ?k_20; (case a_20 => k_is); (case l_20 => k_is); (case c_20 => k_is); (case k_20 => k_is))
    (case d20 => refine' K48.def_at KX G ?a_21 ?l_21 ?c_21 ?k_21; (case a_21 => k_is); (case l_21 => k_is); (case c_21 => k_is); (case k_21 => k_is))
    (case d21 => refine' K48.def_at KX G ?a_22 ?l_22 ?c_22 ?k_22; (case a_22 => k_is); (case l_22 => k_is); (case c_22 => k_is); (case k_22 => k_is))
    (case d22 => refine' K48.def_at KX G ?a_23 ?l_23 ?c_23 ?k_23; (case a_23 => k_is); (case l_23 => k_is); (case c_23 => k_is); (case k_23 => k_is))
    (case d23 => refine' K48.def_at KX G ?a_24 ?l_24 ?c_24 ?k_24; (case a_24 => k_is); (case l_24 => k_is); (case c_24 => k_is); (case k_24 => k_is))
    (case d24 => refine' K48.def_at KX G ?a_25 ?l_25 ?c_25 ?k_25; (case a_25 => k_is); (case l_25 => k_is); (case c_25 => k_is); (case k_25 => k_is))
    (case d25 => refine' K48.def_at KX G ?a_26 ?l_26 ?c_26 ?k_26; (case a_26 => k_is); (case l_26 => k_is); (case c_26 => k_is); (case k_26 => k_is))
    (case d26 => refine' K48.def_at KX G ?a_27 ?l_27 ?c_27 ?k_27; (case a_27 => k_is); (case l_27 => k_is); (case c_27 => k_is); (case k_27 => k_is))
    (case d27 => refine' K48.def_at KX G ?a_28 ?l_28 ?c_28 ?k_28; (case a_28 => k_is); (case l_28 => k_is); (case c_28 => k_is); (case k_28 => k_is))
    (case d28 => refine' K48.def_at KX G ?a_29 ?l_29 ?c_29 ?k_29; (case a_29 => k_is); (case l_29 => k_is); (case c_29 => k_is); (case k_29 => k_is))
    (case d29 => refine' K48.def_at KX G ?a_30 ?l_30 ?c_30 ?k_30; (case a_30 => k_is); (case l_30 => k_is); (case c_30 => k_is); (case k_30 => k_is))
    (case d30 => refine' K48.def_at KX G ?a_31 ?l_31 ?c_31 ?k_31; (case a_31 => k_is); (case l_31 => k_is); (case c_31 => k_is); (case k_31 => k_is))
    (case d31 => refine' K48.def_at KX G ?a_32 ?l_32 ?c_32 ?k_32; (case a_32 => k_is); (case l_32 => k_is); (case c_32 => k_is); (case k_32 => k_is))
    (case d32 => refine' K48.def_at KX G ?a_33 ?l_33 ?c_33 ?k_33; (case a_33 => k_is); (case l_33 => k_is); (case c_33 => k_is); (case k_33 => k_is))
    (case d33 => refine' K48.def_at KX G ?a_34 ?l_34 ?c_34 ?k_34; (case a_34 => k_is); (case l_34 => k_is); (case c_34 => k_is); (case k_34 => k_is))
    (case d34 => refine' K48.def_at KX G ?a_35 ?l_35 ?c_35 ?k_35; (case a_35 => k_is); (case l_35 => k_is); (case c_35 => k_is); (case k_35 => k_is))
    (case d35 => refine' K48.def_at KX G ?a_36 ?l_36 ?c_36 ?k_36; (case a_36 => k_is); (case l_36 => k_is); (case c_36 => k_is); (case k_36 => k_is))
    (case d36 => refine' K48.def_at KX G ?a_37 ?l_37 ?c_37 ?k_37; (case a_37 => k_is); (case l_37 => k_is); (case c_37 => k_is); (case k_37 => k_is))
    (case d37 => refine' K48.def_at KX G ?a_38 ?l_38 ?c_38 ?k_38; (case a_38 => k_is); (case l_38 => k_is); (case c_38 => k_is); (case k_38 => k_is))
    (case nm => refine' K48.nm_at KX G ?a_39 ?l_39 ?c_39 ?k_39 ?lD_39; (case a_39 => k_is); (case l_39 => k_is); (case c_39 => k_is); (case k_39 => k_is); (case lD_39 => k_is))
    (case eC => refine' K48.ext_at KX G ?a_40 ?l_40 ?sa_40 ?np_40 ?i_40 ?ti_40 ?lf_40 ?hc_40 ?lc_40 ?v2_40 ?hf_40 ?lcc_40 ?al_40 ?cs_40 ?ev_40 ?n1_40 ?n2_40 ?n3_40 ?n4_40 ?n5_40 ?n6_40 ?n7_40 ?n8_40 ?hp_40 ?hb_40 ?pp_40 ?top_40 ?su_40 ?exC_40 ?exE_40 ?exS_40 ?tyC_40 ?kC_40; (case a_40 => k_is); (case l_40 => k_is); (case sa_40 => k_is); (case np_40 => k_is); (case i_40 => k_is); (case ti_40 => k_is); (case lf_40 => k_is); (case hc_40 => k_is); (case lc_40 => k_is); (case v2_40 => rfl); (case hf_40 => first | rfl | decide +kernel); (case lcc_40 => k_is); (case al_40 => first | kernel_rfl | rfl | decide +kernel); (case cs_40 => k_is); (case ev_40 => exact fun env => ⟨_, rfl⟩); (case n1_40 => rfl); (case n2_40 => rfl); (case n3_40 => rfl); (case n4_40 => rfl); (case n5_40 => rfl); (case n6_40 => decide +kernel); (case n7_40 => rfl); (case n8_40 => rfl); (case hp_40 => rfl); (case hb_40 => exact fun _ _ _ _ _ _ _ => rfl); (case pp_40 => exact ⟨by decide, by decide⟩); (case top_40 => first | rfl | decide +kernel); (case su_40 => k_is); (case exC_40 => k_is); (case exE_40 => k_is); (case exS_40 => k_is); (case tyC_40 => k_is); (case kC_40 => k_is))
    (case eI => refine' K48.ext_at KX G ?a_41 ?l_41 ?sa_41 ?np_41 ?i_41 ?ti_41 ?lf_41 ?hc_41 ?lc_41 ?v2_41 ?hf_41 ?lcc_41 ?al_41 ?cs_41 ?ev_41 ?n1_41 ?n2_41 ?n3_41 ?n4_41 ?n5_41 ?n6_41 ?n7_41 ?n8_41 ?hp_41 ?hb_41 ?pp_41 ?top_41 ?su_41 ?exC_41 ?exE_41 ?exS_41 ?tyC_41 ?kC_41; (case a_41 => k_is); (case l_41 => k_is); (case sa_41 => k_is); (case np_41 => k_is); (case i_41 => k_is); (case ti_41 => k_is); (case lf_41 => k_is); (case hc_41 => k_is); (case lc_41 => k_is); (case v2_41 => rfl); (case hf_41 => first | rfl | decide +kernel); (case lcc_41 => k_is); (case al_41 => first | kernel_rfl | rfl | decide +kernel); (case cs_41 => k_is); (case ev_41 => exact fun env => ⟨_, rfl⟩); (case n1_41 => rfl); (case n2_41 => rfl); (case n3_41 => rfl); (case n4_41 => rfl); (case n5_41 => rfl); (case n6_41 => decide +kernel); (case n7_41 => rfl); (case n8_41 => rfl); (case hp_41 => rfl); (case hb_41 => exact fun _ _ _ _ _ _ _ => rfl); (case pp_41 => exact ⟨by decide, by decide⟩); (case top_41 => first | rfl | decide +kernel); (case su_41 => k_is); (case exC_41 => k_is); (case exE_41 => k_is); (case exS_41 => k_is); (case tyC_41 => k_is); (case kC_41 => k_is))
    (case eZ => refine' K48.ext_at KX G ?a_42 ?l_42 ?sa_42 ?np_42 ?i_42 ?ti_42 ?lf_42 ?hc_42 ?lc_42 ?v2_42 ?hf_42 ?lcc_42 ?al_42 ?cs_42 ?ev_42 ?n1_42 ?n2_42 ?n3_42 ?n4_42 ?n5_42 ?n6_42 ?n7_42 ?n8_42 ?hp_42 ?hb_42 ?pp_42 ?top_42 ?su_42 ?exC_42 ?exE_42 ?exS_42 ?tyC_42 ?kC_42; (case a_42 => k_is); (case l_42 => k_is); (case sa_42 => k_is); (case np_42 => k_is); (case i_42 => k_is); (case ti_42 => k_is); (case lf_42 => k_is); (case hc_42 => k_is); (case lc_42 => k_is); (case v2_42 => rfl); (case hf_42 => first | rfl | decide +kernel); (case lcc_42 => k_is); (case al_42 => first | kernel_rfl | rfl | decide +kernel); (case cs_42 => k_is); (case ev_42 => exact fun env => ⟨_, rfl⟩); (case n1_42 => rfl); (case n2_42 => rfl); (case n3_42 => rfl); (case n4_42 => rfl); (case n5_42 => rfl); (case n6_42 => decide +kernel); (case n7_42 => rfl); (case n8_42 => rfl); (case hp_42 => rfl); (case hb_42 => exact fun _ _ _ _ _ _ _ => rfl); (case pp_42 => exact ⟨by decide, by decide⟩); (case top_42 => first | rfl | decide +kernel); (case su_42 => k_is); (case exC_42 => k_is); (case exE_42 => k_is); (case exS_42 => k_is); (case tyC_42 => k_is); (case kC_42 => k_is))
    (case em => refine' K48.exm_at ?c1_43 ?c2_43 ?c3_43 ?c4_43 ?c5_43 ?c6_43 ?c7_43 ?c8_43 ?c9_43 ?n1_43 ?n2_43 ?n3_43; (case c1_43 => first | kernel_rfl | rfl | decide +kernel); (case c2_43 => first | kernel_rfl | rfl | decide +kernel); (case c3_43 => first | kernel_rfl | rfl | decide +kernel); (case c4_43 => first | kernel_rfl | rfl | decide +kernel); (case c5_43 => first | kernel_rfl | rfl | decide +kernel); (case c6_43 => first | kernel_rfl | rfl | decide +kernel); (case c7_43 => first | kernel_rfl | rfl | decide +kernel); (case c8_43 => first | kernel_rfl | rfl | decide +kernel); (case c9_43 => first | kernel_rfl | rfl | decide +kernel); (case n1_43 => k_is); (case n2_43 => k_is); (case n3_43 => k_is))
    (case bt => refine' K48.mg_at KX G ?b0_44 ?b1_44 ?b2_44 ?b3_44 ?b4_44 ?b5_44 ?b6_44 ?b7_44 ?b8_44 ?b9_44 ?b10_44 ?b11_44 ?b12_44 ?b13_44 ?b14_44; (case b0_44 => k_is); (case b1_44 => k_is); (case b2_44 => k_is); (case b3_44 => k_is); (case b4_44 => k_is); (case b5_44 => k_is); (case b6_44 => k_is); (case b7_44 => k_is); (case b8_44 => k_is); (case b9_44 => k_is); (case b10_44 => k_is); (case b11_44 => k_is); (case b12_44 => k_is); (case b13_44 => k_is); (case b14_44 => k_is))
    (case gc => refine' K48.gc_at KX G ?a_45 ?b_45; (case a_45 => k_is); (case b_45 => k_is))
    (case za => k_is); (case zlk => k_is); (case zhcd => k_is)
    (case zhT => exact PySem.W.km_tabs_of Y _ (List.mem_singleton.mpr rfl))
    (case znt => first | rfl | k_is)
    (case zch => first | kernel_rfl | rfl | decide +kernel)

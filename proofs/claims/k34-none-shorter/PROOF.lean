import PyProof.Rows.All
import Wide.All
import OpenK.AllK
import Wide.FinOn
import KE.KStateDown
import Lean
import HandS.ForMost
import HandS.Exc
import HandS.ExcOwn
import HandS.TryOnly
import HandS.WordsExc
import HandS.Conv
import HandS.TupAny
import HandS.Star
import HandS.IsInst
import HandS.ExcIs
import HandS.TryMany
import HandS.SetFor
import HandS.Remove
import HandS.DictTup
import HandS.ListEq
import HandS.Wide
import HandS.Flow
import HandS.Small
import HandS.Defaults
import HandS.Head0
import HandS.Head1
import HandS.Head2
import HandS.HeadEnd
import HandS.HeadHook1
import HandS.HeadHook2
import KE.GoesMore
import KE.GoesEnum
import KE.KDictDisplayH
import HandS.Walk
import HandS.Codes
import PySem.Challenge.RW_redolots_k34_whole_none_shorter
set_option linter.all false
namespace Rd
/-! the plain mathematics of copy logs: images are lists of numbers below their length -/
def At (g : List Nat) (i : Nat) : Nat := g.getD i 0
theorem At_lt {g : List Nat} {i : Nat} (h : i < g.length) : At g i = g[i] := by
  unfold At; simp [List.getD, h]
theorem At_opt {g : List Nat} {i : Nat} (h : i < g.length) : g[i]? = some (At g i) := by
  rw [At_lt h]; exact List.getElem?_eq_getElem h
theorem At_set {g : List Nat} {t v : Nat} (h : t < g.length) (x : Nat) : At (g.set t v) x = if x = t then v else At g x := by
  unfold At
  by_cases e : x = t
  · subst e; simp [List.getD, h]
  · rw [if_neg e]; simp [List.getD, List.getElem?_set_ne (Ne.symm e)]
theorem At_set_same {g : List Nat} {t v : Nat} (h : t < g.length) : At (g.set t v) t = v := by rw [At_set h, if_pos rfl]
theorem At_set_ne {g : List Nat} {t v x : Nat} (h : t < g.length) (e : x ≠ t) : At (g.set t v) x = At g x := by rw [At_set h, if_neg e]
theorem At_mem {g : List Nat} {i : Nat} (h : i < g.length) : At g i ∈ g := by rw [At_lt h]; exact List.getElem_mem h
theorem mem_At {g : List Nat} {v : Nat} (h : v ∈ g) : ∃ i, i < g.length ∧ At g i = v := by
  obtain ⟨i, hi, e⟩ := List.getElem_of_mem h
  exact ⟨i, hi, by rw [At_lt hi]; exact e⟩
theorem At_range {n i : Nat} (h : i < n) : At (List.range n) i = i := by
  rw [At_lt (by simpa using h)]; simp
theorem eq_of_At {g h : List Nat} (e : g.length = h.length) (a : ∀ i, i < g.length → At g i = At h i) : g = h := by
  apply List.ext_getElem e
  intro i h1 h2
  have := a i h1
  rw [At_lt h1, At_lt h2] at this
  exact this
/-- every entry is a block number -/
def Valid (g : List Nat) : Prop := ∀ x ∈ g, x < g.length
theorem Valid.lt {g : List Nat} (v : Valid g) {i : Nat} (h : i < g.length) : At g i < g.length := v _ (At_mem h)
theorem Valid.set {g : List Nat} (v : Valid g) {t w : Nat} (hw : w < g.length) : Valid (g.set t w) := fun x hx => by
  rw [List.length_set]
  rcases List.mem_or_eq_of_mem_set hx with h | h
  · exact v x h
  · rw [h]; exact hw
theorem Valid.range (n : Nat) : Valid (List.range n) := fun x hx => by simpa using hx
def home (n : Nat) : List Nat := List.range n
def step (g : List Nat) (e : Nat × Nat) : List Nat := g.set e.1 (At g e.2)
def run (g : List Nat) (l : List (Nat × Nat)) : List Nat := l.foldl step g
theorem step_len {g e} : (step g e).length = g.length := by unfold step; simp
theorem run_len {l : List (Nat × Nat)} : ∀ {g}, (run g l).length = g.length := by
  induction l with
  | nil => intro g; rfl
  | cons e l ih => intro g; show (run (step g e) l).length = _; rw [ih, step_len]
theorem run_append (g l l') : run g (l ++ l') = run (run g l) l' := by unfold run; rw [List.foldl_append]
theorem run_one (g l e) : run g (l ++ [e]) = step (run g l) e := by rw [run_append]; rfl
def changedB (g : List Nat) (i : Nat) : Bool := decide (At g i ≠ i)
def changed (g : List Nat) : List Nat := (List.range g.length).filter (changedB g)
def missingB (g : List Nat) (k : Nat) : Bool := decide (k ∉ g)
def missing (g : List Nat) : List Nat := (List.range g.length).filter (missingB g)
def iter (g : List Nat) : Nat → Nat → Nat
  | 0, r => r
  | k + 1, r => At g (iter g k r)
theorem iter_add (g : List Nat) (a b r : Nat) : iter g (a + b) r = iter g a (iter g b r) := by
  induction a with
  | zero => simp [iter]
  | succ a ih =>
    have : a + 1 + b = (a + b) + 1 := by omega
    rw [this]; show At g (iter g (a + b) r) = At g (iter g a (iter g b r)); rw [ih]
/-- a closed ring: r its least block, m its length -/
structure IsRing (g : List Nat) (r m : Nat) : Prop where
  two : 2 ≤ m
  lt : r < g.length
  back : iter g m r = r
  one : ∀ i, i < m → g.count (iter g i r) = 1
  gt : ∀ i, 0 < i → i < m → r < iter g i r
theorem count_two {g : List Nat} {i j v : Nat} (hi : i < g.length) (hj : j < g.length) (h : i ≠ j) (ei : At g i = v) (ej : At g j = v) : 2 ≤ g.count v := by
  have h1 : g.count v = (g.set i (v + 1)).count v + 1 := by
    rw [List.count_set hi]
    have : (g[i] == v) = true := by rw [← At_lt hi, ei]; simp
    rw [if_pos this]
    have h2 : ((v + 1) == v) = false := by simp
    rw [h2]
    have h3 : 0 < g.count v := by
      rw [List.count_pos_iff]; rw [← ei]; exact At_mem hi
    simp; omega
  have h4 : 0 < (g.set i (v + 1)).count v := by
    rw [List.count_pos_iff]
    have e2 : At (g.set i (v + 1)) j = v := by rw [At_set_ne hi (Ne.symm h), ej]
    have e3 : At (g.set i (v + 1)) j ∈ g.set i (v + 1) := At_mem (by simpa using hj)
    rw [e2] at e3
    exact e3
  omega
theorem inj_of_one {g : List Nat} {i j : Nat} (hi : i < g.length) (hj : j < g.length) (e : At g i = At g j) (h : g.count (At g i) = 1) : i = j := by
  by_cases c : i = j
  · exact c
  · have := count_two hi hj c rfl e.symm
    omega
theorem other_of_two {g : List Nat} {j v : Nat} (h : 2 ≤ g.count v) : ∃ i, i < g.length ∧ i ≠ j ∧ At g i = v := by
  by_cases hj : j < g.length
  · have h1 := List.count_set (a := v + 1) (b := v) hj
    have h2 : ((v + 1) == v) = false := by simp
    rw [h2] at h1
    have h3 : 0 < (g.set j (v + 1)).count v := by
      rw [h1, if_neg (show ¬ (false = true) by decide)]
      split <;> omega
    obtain ⟨i, hi, e⟩ := mem_At (List.count_pos_iff.mp h3)
    rw [List.length_set] at hi
    rw [At_set hj] at e
    by_cases c : i = j
    · rw [if_pos c] at e; omega
    · rw [if_neg c] at e; exact ⟨i, hi, c, e⟩
  · obtain ⟨i, hi, e⟩ := mem_At (List.count_pos_iff.mp (show 0 < g.count v by omega))
    exact ⟨i, hi, by omega, e⟩
theorem Valid.iter {g : List Nat} (v : Valid g) {r : Nat} (h : r < g.length) : ∀ k, iter g k r < g.length
  | 0 => h
  | k + 1 => v.lt (Valid.iter v h k)
section
variable {g : List Nat} {r m r' m' : Nat}
theorem IsRing.uniq (a : IsRing g r m) (b : IsRing g r m') : m = m' := by
  have h1 := a.two
  have h2 := b.two
  rcases Nat.lt_trichotomy m m' with h | h | h
  · have := b.gt m (by omega) h
    rw [a.back] at this; omega
  · exact h
  · have := a.gt m' (by omega) h
    rw [b.back] at this; omega
/-- the blocks of a ring are different -/
theorem IsRing.inj (a : IsRing g r m) (v : Valid g) : ∀ i j, i < m → j < m → iter g i r = iter g j r → i = j := by
  have key : ∀ i j, i < j → j < m → iter g i r ≠ iter g j r := by
    intro i
    induction i with
    | zero =>
      intro j h1 h2 e
      have := a.gt j h1 h2
      rw [← e] at this
      exact absurd this (Nat.lt_irrefl _)
    | succ i ih =>
      intro j h1 h2 e
      obtain ⟨j', rfl⟩ : ∃ j', j = j' + 1 := ⟨j - 1, by omega⟩
      have h3 : i < j' := by omega
      refine ih j' h3 (by omega) ?_
      have e' : At g (iter g i r) = At g (iter g j' r) := e
      exact inj_of_one (v.iter a.lt i) (v.iter a.lt j') e' (a.one (i + 1) (by omega))
  intro i j hi hj e
  rcases Nat.lt_trichotomy i j with h | h | h
  · exact absurd e (key i j h hj)
  · exact h
  · exact absurd e.symm (key j i h hi)
theorem IsRing.ge (a : IsRing g r m) : ∀ k, r ≤ iter g k r := by
  intro k
  induction k using Nat.strongRecOn with
  | _ k ih =>
    by_cases h : k < m
    · by_cases h0 : k = 0
      · subst h0; exact Nat.le_refl _
      · exact Nat.le_of_lt (a.gt k (by omega) h)
    · have e : k = (k - m) + m := by omega
      have h2 := a.two
      rw [e, iter_add, a.back]
      exact ih (k - m) (by omega)
theorem IsRing.meet (a : IsRing g r m) (b : IsRing g r' m') {i j : Nat} (hi : i < m) (hj : j < m') (e : iter g i r = iter g j r') : r = r' := by
  have h1 : iter g ((m - i) + j) r' = r := by
    rw [iter_add, ← e, ← iter_add]
    have : m - i + i = m := by omega
    rw [this]; exact a.back
  have h2 : iter g ((m' - j) + i) r = r' := by
    rw [iter_add, e, ← iter_add]
    have : m' - j + j = m' := by omega
    rw [this]; exact b.back
  have h3 := b.ge ((m - i) + j)
  have h4 := a.ge ((m' - j) + i)
  omega
/-- the number behind a ring's block stands in the ring -/
theorem IsRing.oneS (a : IsRing g r m) {i : Nat} (hi : i < m) : g.count (iter g (i + 1) r) = 1 := by
  by_cases h : i + 1 < m
  · exact a.one _ h
  · have : i + 1 = m := by omega
    rw [this, a.back]
    have h2 := a.two
    exact a.one 0 (by omega)
theorem IsRing.chg (a : IsRing g r m) (v : Valid g) {i : Nat} (hi : i < m) : At g (iter g i r) ≠ iter g i r := by
  intro e
  have h2 := a.two
  by_cases h : i + 1 < m
  · have := a.inj v (i + 1) i h hi e
    omega
  · have h3 : i + 1 = m := by omega
    have e' : iter g (i + 1) r = iter g i r := e
    rw [h3, a.back] at e'
    have := a.gt i (by omega) hi
    omega
theorem nodup_map_range {f : Nat → Nat} {m : Nat} (h : ∀ i j, i < m → j < m → f i = f j → i = j) : ((List.range m).map f).Nodup := by
  rw [List.nodup_iff_pairwise_ne, List.pairwise_map]
  refine List.Pairwise.imp_of_mem ?_ (List.nodup_range (n := m))
  intro a b ha hb hab e
  exact hab (h a b (by simpa using ha) (by simpa using hb) e)
theorem IsRing.le (a : IsRing g r m) (v : Valid g) : m ≤ g.length := by
  have h1 := nodup_map_range (f := fun i => iter g i r) (m := m) (a.inj v)
  have h2 := List.Nodup.length_le_of_subset h1 (l₂ := List.range g.length) (fun x hx => by
    obtain ⟨i, _, rfl⟩ := List.mem_map.mp hx
    simpa using v.iter a.lt i)
  simpa using h2
end
def ringB (g : List Nat) (r m : Nat) : Bool :=
  decide (2 ≤ m) && decide (r < g.length) && decide (iter g m r = r) && (List.range m).all fun i => decide (g.count (iter g i r) = 1) && (decide (i = 0) || decide (r < iter g i r))
theorem ringB_iff {g : List Nat} {r m : Nat} : ringB g r m = true ↔ IsRing g r m := by
  unfold ringB
  simp only [Bool.and_eq_true, decide_eq_true_eq, List.all_eq_true, List.mem_range, Bool.or_eq_true]
  constructor
  · rintro ⟨⟨⟨h1, h2⟩, h3⟩, h4⟩
    exact ⟨h1, h2, h3, fun i hi => (h4 i hi).1, fun i h0 hi => by
      rcases (h4 i hi).2 with h | h
      · omega
      · exact h⟩
  · intro a
    refine ⟨⟨⟨a.two, a.lt⟩, a.back⟩, fun i hi => ⟨a.one i hi, ?_⟩⟩
    by_cases h : i = 0
    · exact .inl h
    · exact .inr (a.gt i (by omega) hi)
/-- the length of the closed ring whose least block is r -/
def ringLen (g : List Nat) (r : Nat) : Option Nat := (List.range (g.length + 1)).find? (ringB g r)
theorem ringLen_some {g : List Nat} {r m : Nat} (v : Valid g) : ringLen g r = some m ↔ IsRing g r m := by
  unfold ringLen
  constructor
  · intro h
    exact ringB_iff.mp (List.find?_some h)
  · intro a
    cases h : (List.range (g.length + 1)).find? (ringB g r) with
    | none =>
      have := List.find?_eq_none.mp h m (by simpa using Nat.lt_succ_of_le (a.le v))
      rw [ringB_iff] at this
      exact absurd a this
    | some k =>
      have := ringB_iff.mp (List.find?_some h)
      rw [this.uniq a]
theorem ringLen_none {g : List Nat} {r : Nat} (v : Valid g) : ringLen g r = none ↔ ∀ m, ¬ IsRing g r m := by
  constructor
  · intro h m a
    rw [(ringLen_some v).mpr a] at h
    cases h
  · intro h
    cases e : ringLen g r with
    | none => rfl
    | some m => exact absurd ((ringLen_some v).mp e) (h m)
def hasRing (g : List Nat) (r : Nat) : Bool := (ringLen g r).isSome
theorem hasRing_iff {g : List Nat} {r : Nat} (v : Valid g) : hasRing g r = true ↔ ∃ m, IsRing g r m := by
  unfold hasRing
  rw [Option.isSome_iff_exists]
  exact ⟨fun ⟨m, h⟩ => ⟨m, (ringLen_some v).mp h⟩, fun ⟨m, h⟩ => ⟨m, (ringLen_some v).mpr h⟩⟩
def rings (g : List Nat) : Nat := (List.range g.length).countP (hasRing g)
def fewest (g : List Nat) : Nat := (changed g).length + rings g
/-! ### no log is shorter -/
theorem countP_le1 {P Q : Nat → Bool} {a : Nat} : ∀ {l : List Nat}, l.Nodup → (∀ x ∈ l, Q x = true → P x = true ∨ x = a) → l.countP Q ≤ l.countP P + 1
  | [], _, _ => by simp
  | x :: l, hn, h => by
    rw [List.nodup_cons] at hn
    rw [List.countP_cons, List.countP_cons]
    by_cases hx : x = a
    · subst hx
      have h2 : l.countP Q ≤ l.countP P := List.countP_mono_left fun y hy hq => by
        rcases h y (List.mem_cons_of_mem _ hy) hq with z | z
        · exact z
        · subst z; exact absurd hy hn.1
      split <;> split <;> omega
    · have h2 := countP_le1 hn.2 fun y hy => h y (List.mem_cons_of_mem _ hy)
      have h3 : Q x = true → P x = true := fun hq => (h x List.mem_cons_self hq).resolve_right hx
      by_cases q : Q x = true
      · rw [if_pos q, if_pos (h3 q)]; omega
      · rw [if_neg q]; split <;> omega
section
variable {g : List Nat} {t s : Nat}
theorem two_behind (v : Valid g) (ht : t < g.length) (hs : s < g.length) (h : t ≠ s) : 2 ≤ (g.set t (At g s)).count (At g s) := by
  refine count_two (i := t) (j := s) (by simpa using ht) (by simpa using hs) h (At_set_same ht) ?_
  rw [At_set_ne ht (Ne.symm h)]
theorem ring_not_t (v : Valid g) (ht : t < g.length) (hs : s < g.length) (h : t ≠ s) {r m : Nat} (a : IsRing (g.set t (At g s)) r m) {i : Nat} (hi : i < m) : iter (g.set t (At g s)) i r ≠ t := by
  intro e
  have h1 := a.oneS hi
  have h2 : iter (g.set t (At g s)) (i + 1) r = At g s := by
    show At _ (iter _ i r) = _
    rw [e, At_set_same ht]
  rw [h2] at h1
  have := two_behind v ht hs h
  omega
theorem ring_keep (v : Valid g) (ht : t < g.length) (hs : s < g.length) (h : t ≠ s) {r m : Nat} (a : IsRing (g.set t (At g s)) r m) (no : ∀ i, i < m → iter (g.set t (At g s)) i r ≠ At g t) : IsRing g r m := by
  have nt := fun i hi => ring_not_t v ht hs h a (i := i) hi
  have it : ∀ i, i ≤ m → iter g i r = iter (g.set t (At g s)) i r := by
    intro i
    induction i with
    | zero => intro _; rfl
    | succ i ih =>
      intro hi
      show At g (iter g i r) = At _ (iter _ i r)
      rw [ih (by omega), At_set_ne ht (nt i (by omega))]
  refine ⟨a.two, by simpa using a.lt, (it m (Nat.le_refl _)).trans a.back, fun i hi => ?_, fun i h0 hi => by rw [it i (by omega)]; exact a.gt i h0 hi⟩
  rw [it i (by omega)]
  have c1 := a.one i hi
  have c2 := List.count_set (a := At g s) (b := iter (g.set t (At g s)) i r) ht
  have c3 : (g[t] == iter (g.set t (At g s)) i r) = false := by
    rw [← At_lt ht]; exact beq_eq_false_iff_ne.mpr (Ne.symm (no i hi))
  have c4 : (At g s == iter (g.set t (At g s)) i r) = false := by
    refine beq_eq_false_iff_ne.mpr fun e => ?_
    rw [← e] at c1
    have := two_behind v ht hs h
    omega
  rw [c3, c4] at c2
  rw [c2] at c1
  simpa using c1
theorem fewest_step (v : Valid g) (ht : t < g.length) (hs : s < g.length) (h : t ≠ s) : fewest (g.set t (At g s)) ≤ fewest g + 1 := by
  have v' : Valid (g.set t (At g s)) := v.set (v.lt hs)
  have hl : (g.set t (At g s)).length = g.length := by simp
  unfold fewest rings changed
  rw [hl, ← List.countP_eq_length_filter, ← List.countP_eq_length_filter]
  have ch : ∀ x, x ≠ t → changedB (g.set t (At g s)) x = changedB g x := fun x hx => by unfold changedB; rw [At_set_ne ht hx]
  by_cases hu : At g t = t
  · have h1 : (List.range g.length).countP (changedB (g.set t (At g s))) ≤ (List.range g.length).countP (changedB g) + 1 := countP_le1 (a := t) List.nodup_range fun x _ q => by
      by_cases hx : x = t
      · exact .inr hx
      · rw [ch x hx] at q; exact .inl q
    have h2 : (List.range g.length).countP (hasRing (g.set t (At g s))) ≤ (List.range g.length).countP (hasRing g) := List.countP_mono_left fun r _ q => by
      obtain ⟨m, a⟩ := (hasRing_iff v').mp q
      exact (hasRing_iff v).mpr ⟨m, ring_keep v ht hs h a fun i hi => by rw [hu]; exact ring_not_t v ht hs h a hi⟩
    omega
  · have h1 : (List.range g.length).countP (changedB (g.set t (At g s))) ≤ (List.range g.length).countP (changedB g) := List.countP_mono_left fun x _ q => by
      by_cases hx : x = t
      · subst hx; unfold changedB; exact decide_eq_true hu
      · rw [ch x hx] at q; exact q
    have h2 : (List.range g.length).countP (hasRing (g.set t (At g s))) ≤ (List.range g.length).countP (hasRing g) + 1 := by
      by_cases hr : ∃ r0 m0, IsRing (g.set t (At g s)) r0 m0 ∧ ∃ i, i < m0 ∧ iter (g.set t (At g s)) i r0 = At g t
      · obtain ⟨r0, m0, a0, i0, hi0, e0⟩ := hr
        refine countP_le1 (a := r0) List.nodup_range fun r _ q => ?_
        obtain ⟨m, a⟩ := (hasRing_iff v').mp q
        by_cases hm : ∃ i, i < m ∧ iter (g.set t (At g s)) i r = At g t
        · obtain ⟨i, hi, e⟩ := hm
          exact .inr (a.meet a0 hi hi0 (e.trans e0.symm))
        · exact .inl ((hasRing_iff v).mpr ⟨m, ring_keep v ht hs h a fun i hi e => hm ⟨i, hi, e⟩⟩)
      · refine Nat.le_succ_of_le (List.countP_mono_left fun r _ q => ?_)
        obtain ⟨m, a⟩ := (hasRing_iff v').mp q
        exact (hasRing_iff v).mpr ⟨m, ring_keep v ht hs h a fun i hi e => hr ⟨r, m, a, i, hi, e⟩⟩
    omega
end
/-- a pair of two different blocks -/
def Okp (n : Nat) (e : Nat × Nat) : Prop := e.1 < n ∧ e.2 < n ∧ e.1 ≠ e.2
theorem step_valid {g : List Nat} (v : Valid g) {e} (o : Okp g.length e) : Valid (step g e) := v.set (v.lt o.2.1)
theorem run_valid : ∀ {l : List (Nat × Nat)} {g : List Nat}, Valid g → (∀ e ∈ l, Okp g.length e) → Valid (run g l)
  | [], _, v, _ => v
  | e :: l, g, v, o => by
    show Valid (run (step g e) l)
    exact run_valid (step_valid v (o e List.mem_cons_self)) fun x hx => by rw [step_len]; exact o x (List.mem_cons_of_mem _ hx)
theorem fewest_run : ∀ {l : List (Nat × Nat)} {g : List Nat}, Valid g → (∀ e ∈ l, Okp g.length e) → fewest (run g l) ≤ fewest g + l.length
  | [], _, _, _ => Nat.le_refl _
  | e :: l, g, v, o => by
    show fewest (run (step g e) l) ≤ _
    have oe := o e List.mem_cons_self
    have h1 := fewest_run (l := l) (g := step g e) (step_valid v oe) fun x hx => by rw [step_len]; exact o x (List.mem_cons_of_mem _ hx)
    have h2 : fewest (step g e) ≤ fewest g + 1 := fewest_step v oe.1 oe.2.1 oe.2.2
    rw [List.length_cons]
    omega
theorem changed_home (n : Nat) : changed (home n) = [] := by
  unfold changed home
  rw [List.filter_eq_nil_iff]
  intro x hx
  have hx' : x < n := by simpa using hx
  unfold changedB
  rw [At_range hx']
  simp
theorem iter_home {n r : Nat} (h : r < n) : ∀ k, iter (home n) k r = r
  | 0 => rfl
  | k + 1 => by show At (home n) (iter (home n) k r) = r; rw [iter_home h k]; exact At_range h
theorem fewest_home (n : Nat) : fewest (home n) = 0 := by
  unfold fewest rings
  rw [changed_home, List.length_nil, Nat.zero_add, List.countP_eq_zero]
  intro r hr h
  obtain ⟨m, a⟩ := (hasRing_iff (Valid.range n)).mp h
  have h2 := a.two
  have h3 := a.gt 1 (by omega) (by omega)
  have h4 : r < n := by simpa [home] using a.lt
  have h5 : iter (List.range n) 1 r = r := iter_home h4 1
  rw [h5] at h3
  omega
/-- a log to g: none is shorter than fewest -/
theorem fewest_le {n : Nat} {l : List (Nat × Nat)} (o : ∀ e ∈ l, Okp n e) : fewest (run (home n) l) ≤ l.length := by
  have h := fewest_run (l := l) (Valid.range n) (fun e he => by simpa using o e he)
  have h0 := fewest_home n
  unfold home at h0
  rw [h0] at h
  simpa [home] using h
/-- what logs lead to -/
def Possible (g : List Nat) : Prop := changed g = [] ∨ missing g ≠ []
theorem missing_ne {g : List Nat} : missing g ≠ [] ↔ ∃ k, k < g.length ∧ k ∉ g := by
  unfold missing missingB
  constructor
  · intro h
    obtain ⟨k, hk⟩ := List.exists_mem_of_ne_nil _ h
    rw [List.mem_filter] at hk
    exact ⟨k, by simpa using hk.1, by simpa using hk.2⟩
  · rintro ⟨k, h1, h2⟩ e
    have : k ∈ (List.range g.length).filter fun k => decide (k ∉ g) := List.mem_filter.mpr ⟨by simpa using h1, by simpa using h2⟩
    rw [e] at this
    cases this
theorem changed_nil {g : List Nat} : changed g = [] ↔ g = home g.length := by
  constructor
  · intro h
    refine eq_of_At (by simp [home]) fun i hi => ?_
    have := List.filter_eq_nil_iff.mp h i (by simpa using hi)
    unfold changedB at this
    have h2 : At g i = i := by simpa using this
    rw [h2]; exact (At_range hi).symm
  · intro h
    rw [h]; exact changed_home _
theorem possible_step {g : List Nat} (p : Possible g) {e : Nat × Nat} (o : Okp g.length e) : Possible (step g e) := by
  right
  rw [missing_ne, step_len]
  rcases p with h | h
  · rw [changed_nil] at h
    refine ⟨e.1, o.1, fun hm => ?_⟩
    unfold step at hm
    obtain ⟨i, hi, ei⟩ := mem_At hm
    rw [List.length_set] at hi
    rw [At_set o.1] at ei
    by_cases c : i = e.1
    · rw [if_pos c, h] at ei
      rw [show At (home g.length) e.2 = e.2 from At_range o.2.1] at ei
      exact o.2.2 ei.symm
    · rw [if_neg c, h] at ei
      rw [show At (home g.length) i = i from At_range hi] at ei
      exact c ei
  · obtain ⟨k, hk, hn⟩ := missing_ne.mp h
    refine ⟨k, hk, fun hm => ?_⟩
    unfold step at hm
    rcases List.mem_or_eq_of_mem_set hm with z | z
    · exact hn z
    · exact hn (by rw [z]; exact At_mem o.2.1)
theorem possible_run : ∀ {l : List (Nat × Nat)} {g : List Nat}, Possible g → (∀ e ∈ l, Okp g.length e) → Possible (run g l)
  | [], _, p, _ => p
  | e :: l, g, p, o => by
    show Possible (run (step g e) l)
    exact possible_run (possible_step p (o e List.mem_cons_self)) fun x hx => by rw [step_len]; exact o x (List.mem_cons_of_mem _ hx)
theorem possible_home (n : Nat) : Possible (home n) := .inl (changed_home n)
end Rd
set_option linter.all false
namespace Rd
/-! ### least_log: the rings over the spare block, then the others -/
def ringL (g : List Nat) (r m : Nat) : List Nat := (List.range m).map fun i => iter g i r
def ringsOf (g : List Nat) : List (List Nat) := (List.range g.length).filterMap fun r => (ringLen g r).map (ringL g r)
def ringPairs (c : List Nat) (p : Nat) : List (Nat × Nat) :=
  (p, At c 0) :: ((List.range (c.length - 1)).map fun i => (At c i, At c (i + 1))) ++ [(At c (c.length - 1), p)]
/-- the blocks whose numbers are not yet the goal's -/
def wrong (g held : List Nat) : List Nat := (List.range g.length).filter fun b => decide (At held b ≠ At g b)
theorem mem_wrong {g held : List Nat} {b : Nat} : b ∈ wrong g held ↔ b < g.length ∧ At held b ≠ At g b := by
  unfold wrong
  rw [List.mem_filter, List.mem_range, decide_eq_true_eq]
theorem filter_erase {P Q : Nat → Bool} {b : Nat} : ∀ {l : List Nat}, l.Nodup → P b = true → Q b = false → (∀ x, x ≠ b → Q x = P x) → l.filter Q = (l.filter P).erase b
  | [], _, _, _, _ => rfl
  | x :: l, hn, hp, hq, h => by
    rw [List.nodup_cons] at hn
    by_cases hx : x = b
    · subst hx
      rw [List.filter_cons_of_neg (by rw [hq]; decide), List.filter_cons_of_pos hp, List.erase_cons_head]
      apply List.filter_congr
      intro y hy
      exact h y fun e => by subst e; exact hn.1 hy
    · have e := h x hx
      by_cases px : P x = true
      · rw [List.filter_cons_of_pos (by rw [e]; exact px), List.filter_cons_of_pos px, List.erase_cons_tail (by simpa using hx), filter_erase hn.2 hp hq h]
      · rw [List.filter_cons_of_neg (by rw [e]; exact px), List.filter_cons_of_neg px, filter_erase hn.2 hp hq h]
theorem wrong_set {g held : List Nat} {b : Nat} (hl : held.length = g.length) (hb : b < g.length) (h : At held b ≠ At g b) : wrong g (held.set b (At g b)) = (wrong g held).erase b := by
  unfold wrong
  refine filter_erase List.nodup_range (decide_eq_true h) ?_ fun x hx => ?_
  · rw [At_set_same (by omega)]; simp
  · rw [At_set_ne (by omega) hx]
theorem wrong_set_len {g held : List Nat} {b : Nat} (hl : held.length = g.length) (hb : b < g.length) (h : At held b ≠ At g b) : (wrong g (held.set b (At g b))).length + 1 = (wrong g held).length := by
  have hm : b ∈ wrong g held := mem_wrong.mpr ⟨hb, h⟩
  rw [wrong_set hl hb h, List.length_erase_of_mem hm]
  have := List.length_pos_of_mem hm
  omega
/-- a write that leaves a wrong block wrong -/
theorem wrong_set_same {g held : List Nat} {b v : Nat} (hl : held.length = g.length) (hb : b < g.length) (h : At held b ≠ At g b) (h' : v ≠ At g b) : wrong g (held.set b v) = wrong g held := by
  unfold wrong
  apply List.filter_congr
  intro x hx
  by_cases e : x = b
  · subst e; rw [At_set_same (by omega), decide_eq_true h, decide_eq_true h']
  · rw [At_set_ne (by omega) e]
theorem wrong_home {g : List Nat} : wrong g (home g.length) = changed g := by
  unfold wrong changed
  apply List.filter_congr
  intro x hx
  unfold changedB
  rw [show At (home g.length) x = x from At_range (by simpa using hx)]
  by_cases e : At g x = x
  · rw [e]
  · rw [decide_eq_true e, decide_eq_true (Ne.symm e)]
/-! ### stage 1: one ring -/
section
variable {g held : List Nat} {p r m : Nat}
/-- behind the spare's write and k of the copies along the ring -/
structure Along (g held : List Nat) (p r m k : Nat) (H : List Nat) : Prop where
  len : H.length = g.length
  sp : At H p = r
  done : ∀ i, i < k → At H (iter g i r) = iter g (i + 1) r
  rest : ∀ x, x ≠ p → (∀ i, i < k → x ≠ iter g i r) → At H x = At held x
  cnt : (wrong g H).length + k = (wrong g held).length
theorem not_iter (hp : p ∉ g) (v : Valid g) (a : IsRing g r m) {i : Nat} (hi : i < m) : iter g i r ≠ p := by
  intro e
  have := a.one i hi
  rw [e] at this
  exact hp (List.count_pos_iff.mp (by omega))
theorem along0 (v : Valid g) (hl : held.length = g.length) (hp : p ∉ g) (hpl : p < g.length) (a : IsRing g r m) (own : ∀ i, i < m → At held (iter g i r) = iter g i r) (hsp : At held p ≠ At g p) : Along g held p r m 0 (step held (p, r)) := by
  have h2 := a.two
  have e0 : At held r = r := own 0 (by omega)
  have hrp : r ≠ At g p := by
    intro e
    -- g[p] = r: but the ring's last block takes r too
    have h1 : At g (iter g (m - 1) r) = r := by
      have : iter g ((m - 1) + 1) r = r := by rw [show m - 1 + 1 = m by omega]; exact a.back
      exact this
    have h3 : iter g (m - 1) r ≠ p := not_iter hp v a (by omega)
    have h4 := count_two hpl (v.iter a.lt (m - 1)) (Ne.symm h3) e.symm h1
    have h5 := a.one 0 (by omega)
    have h6 : g.count r = 1 := h5
    omega
  have es : step held (p, r) = held.set p r := by unfold step; rw [e0]
  rw [es]
  refine ⟨by simpa using hl, At_set_same (by omega), fun i hi => by omega, fun x hx _ => At_set_ne (by omega) hx, ?_⟩
  rw [wrong_set_same hl hpl hsp hrp]
  omega
theorem along_step (v : Valid g) (hl : held.length = g.length) (hp : p ∉ g) (hpl : p < g.length) (a : IsRing g r m) (own : ∀ i, i < m → At held (iter g i r) = iter g i r) {k : Nat} {H : List Nat} (A : Along g held p r m k H) (hk : k + 1 < m) :
    Along g held p r m (k + 1) (step H (iter g k r, iter g (k + 1) r)) := by
  have hkl := v.iter a.lt k
  have e1 : At H (iter g (k + 1) r) = iter g (k + 1) r := by
    rw [A.rest _ (not_iter hp v a hk) fun i hi e => by have := a.inj v _ _ hk (by omega) e; omega]
    exact own _ hk
  have e2 : At H (iter g k r) = iter g k r := by
    rw [A.rest _ (not_iter hp v a (by omega)) fun i hi e => by have := a.inj v _ _ (by omega) (by omega) e; omega]
    exact own _ (by omega)
  have es : step H (iter g k r, iter g (k + 1) r) = H.set (iter g k r) (At g (iter g k r)) := by
    unfold step; rw [e1]; rfl
  have hw : At H (iter g k r) ≠ At g (iter g k r) := by rw [e2]; exact Ne.symm (a.chg v (by omega))
  have hkH : iter g k r < H.length := by rw [A.len]; exact hkl
  rw [es]
  refine ⟨by simpa using A.len, ?_, fun i hi => ?_, fun x hx hn => ?_, ?_⟩
  · rw [At_set_ne hkH (Ne.symm (not_iter hp v a (by omega)))]; exact A.sp
  · by_cases e : i = k
    · subst e; rw [At_set_same hkH]; rfl
    · rw [At_set_ne hkH fun z => e (a.inj v _ _ (by omega) (by omega) z)]
      exact A.done i (by omega)
  · rw [At_set_ne hkH (hn k (by omega))]
    exact A.rest x hx fun i hi => hn i (by omega)
  · have h1 := wrong_set_len A.len hkl hw
    have h2 := A.cnt
    omega
theorem along_end (v : Valid g) (hl : held.length = g.length) (hp : p ∉ g) (hpl : p < g.length) (a : IsRing g r m) (own : ∀ i, i < m → At held (iter g i r) = iter g i r) {H : List Nat} (A : Along g held p r m (m - 1) H) :
    Along g held p r m m (step H (iter g (m - 1) r, p)) := by
  have h2 := a.two
  have hkl := v.iter a.lt (m - 1)
  have eg : At g (iter g (m - 1) r) = r := by
    have : iter g ((m - 1) + 1) r = r := by rw [show m - 1 + 1 = m by omega]; exact a.back
    exact this
  have e2 : At H (iter g (m - 1) r) = iter g (m - 1) r := by
    rw [A.rest _ (not_iter hp v a (by omega)) fun i hi e => by have := a.inj v _ _ (by omega) (by omega) e; omega]
    exact own _ (by omega)
  have es : step H (iter g (m - 1) r, p) = H.set (iter g (m - 1) r) (At g (iter g (m - 1) r)) := by
    unfold step; rw [A.sp, eg]
  have hw : At H (iter g (m - 1) r) ≠ At g (iter g (m - 1) r) := by rw [e2]; exact Ne.symm (a.chg v (by omega))
  have hkH : iter g (m - 1) r < H.length := by rw [A.len]; exact hkl
  rw [es]
  refine ⟨by simpa using A.len, ?_, fun i hi => ?_, fun x hx hn => ?_, ?_⟩
  · rw [At_set_ne hkH (Ne.symm (not_iter hp v a (by omega)))]; exact A.sp
  · by_cases e : i = m - 1
    · subst e; rw [At_set_same hkH]; rfl
    · rw [At_set_ne hkH fun z => e (a.inj v _ _ (by omega) (by omega) z)]
      exact A.done i (by omega)
  · rw [At_set_ne hkH (hn (m - 1) (by omega))]
    exact A.rest x hx fun i hi => hn i (by omega)
  · have h1 := wrong_set_len A.len hkl hw
    have h3 := A.cnt
    omega
theorem ringL_len : (ringL g r m).length = m := by simp [ringL]
theorem ringL_at {i : Nat} (hi : i < m) : At (ringL g r m) i = iter g i r := by
  unfold ringL
  rw [At_lt (by simpa using hi)]
  simp
theorem ringPairs_eq (h2 : 2 ≤ m) : ringPairs (ringL g r m) p = (p, r) :: ((List.range (m - 1)).map fun i => (iter g i r, iter g (i + 1) r)) ++ [(iter g (m - 1) r, p)] := by
  unfold ringPairs
  rw [ringL_len, ringL_at (by omega), ringL_at (show m - 1 < m by omega)]
  have : (List.range (m - 1)).map (fun i => (At (ringL g r m) i, At (ringL g r m) (i + 1))) = (List.range (m - 1)).map fun i => (iter g i r, iter g (i + 1) r) := by
    apply List.map_congr_left
    intro i hi
    have : i < m - 1 := by simpa using hi
    rw [ringL_at (by omega), ringL_at (by omega)]
  rw [this]; rfl
theorem ringPairs_len (h2 : 2 ≤ m) : (ringPairs (ringL g r m) p).length = m + 1 := by
  rw [ringPairs_eq h2]; simp; omega
theorem ringPairs_ok (v : Valid g) (hp : p ∉ g) (hpl : p < g.length) (a : IsRing g r m) : ∀ e ∈ ringPairs (ringL g r m) p, Okp g.length e := by
  have h2 := a.two
  rw [ringPairs_eq h2]
  intro e he
  rw [List.cons_append, List.mem_cons, List.mem_append] at he
  rcases he with rfl | he | he
  · exact ⟨hpl, a.lt, Ne.symm (not_iter hp v a (i := 0) (by omega))⟩
  · obtain ⟨i, hi, rfl⟩ := List.mem_map.mp he
    have hi' : i < m - 1 := by simpa using hi
    exact ⟨v.iter a.lt i, v.iter a.lt (i + 1), fun e => by have := a.inj v _ _ (by omega) (by omega) e; omega⟩
  · have : e = (iter g (m - 1) r, p) := by simpa using he
    subst this
    exact ⟨v.iter a.lt _, hpl, not_iter hp v a (by omega)⟩
theorem along_all (v : Valid g) (hl : held.length = g.length) (hp : p ∉ g) (hpl : p < g.length) (a : IsRing g r m) (own : ∀ i, i < m → At held (iter g i r) = iter g i r) (hsp : At held p ≠ At g p) :
    Along g held p r m m (run held (ringPairs (ringL g r m) p)) := by
  have h2 := a.two
  rw [ringPairs_eq h2, run_one]
  have mid : ∀ k, k ≤ m - 1 → Along g held p r m k (run held ((p, r) :: (List.range k).map fun i => (iter g i r, iter g (i + 1) r))) := by
    intro k
    induction k with
    | zero => intro _; exact along0 v hl hp hpl a own hsp
    | succ k ih =>
      intro hk
      rw [List.range_succ, List.map_append, List.map_singleton, ← List.cons_append, run_one]
      exact along_step v hl hp hpl a own (ih (by omega)) (by omega)
  exact along_end v hl hp hpl a own (mid (m - 1) (Nat.le_refl _))
end
/-! ### stage 1: all rings -/
/-- the pairs of the rings with a least block below k -/
def pairsTo (g : List Nat) (p k : Nat) : List (Nat × Nat) := (((List.range k).filterMap fun r => (ringLen g r).map (ringL g r))).flatMap fun c => ringPairs c p
structure Stage1 (g : List Nat) (p k : Nat) (H : List Nat) (es : List (Nat × Nat)) : Prop where
  len : H.length = g.length
  run : run (home g.length) es = H
  ok : ∀ e ∈ es, Okp g.length e
  done : ∀ r m i, r < k → IsRing g r m → i < m → At H (iter g i r) = iter g (i + 1) r
  rest : ∀ x, x < g.length → x ≠ p → (∀ r m i, r < k → IsRing g r m → i < m → x ≠ iter g i r) → At H x = x
  sp : At H p = p ∨ ∃ r m, IsRing g r m ∧ At H p = r
  cnt : (wrong g H).length + es.length = (changed g).length + (List.range k).countP (hasRing g)
theorem spare_wrong {g : List Nat} {p : Nat} (v : Valid g) (hp : p ∉ g) (hpl : p < g.length) {H : List Nat} (h : At H p = p ∨ ∃ r m, IsRing g r m ∧ At H p = r) : At H p ≠ At g p := by
  rcases h with h | ⟨r, m, a, h⟩
  · rw [h]; intro e; exact hp (by rw [e]; exact At_mem hpl)
  · rw [h]
    intro e
    have h2 := a.two
    have h1 : At g (iter g (m - 1) r) = r := by
      have : iter g ((m - 1) + 1) r = r := by rw [show m - 1 + 1 = m by omega]; exact a.back
      exact this
    have h3 : iter g (m - 1) r ≠ p := not_iter hp v a (by omega)
    have h4 := count_two hpl (v.iter a.lt (m - 1)) (Ne.symm h3) e.symm h1
    have h5 : g.count r = 1 := a.one 0 (by omega)
    omega
theorem stage1 {g : List Nat} {p : Nat} (v : Valid g) (hp : p ∉ g) (hpl : p < g.length) : ∀ k, Stage1 g p k (run (home g.length) (pairsTo g p k)) (pairsTo g p k) := by
  intro k
  induction k with
  | zero =>
    refine ⟨by simp [run_len, home], rfl, (fun e he => nomatch he), (fun r m i h => absurd h (Nat.not_lt_zero _)), fun x hx _ _ => At_range hx, .inl (At_range hpl), ?_⟩
    show (wrong g (home g.length)).length + 0 = _
    rw [wrong_home]; rfl
  | succ k S =>
    have hs : pairsTo g p (k + 1) = pairsTo g p k ++ (match ringLen g k with | some m => ringPairs (ringL g k m) p | none => []) := by
      unfold pairsTo
      rw [List.range_succ, List.filterMap_append, List.flatMap_append]
      congr 1
      cases h : ringLen g k with
      | none => simp [h]
      | some m => simp [h]
    cases h : ringLen g k with
    | none =>
      have no := (ringLen_none v).mp h
      rw [h] at hs
      rw [hs, List.append_nil]
      refine ⟨S.len, S.run, S.ok, fun r m i hr a hi => ?_, fun x hx hxp hn => ?_, S.sp, ?_⟩
      · by_cases e : r = k
        · subst e; exact absurd a (no m)
        · exact S.done r m i (by omega) a hi
      · exact S.rest x hx hxp fun r m i hr => hn r m i (by omega)
      · rw [List.range_succ, List.countP_append]
        have : hasRing g k = false := by unfold hasRing; rw [h]; rfl
        simp [this, S.cnt]
    | some m =>
      have a := (ringLen_some v).mp h
      rw [h] at hs
      have hs' : pairsTo g p (k + 1) = pairsTo g p k ++ ringPairs (ringL g k m) p := hs
      have own : ∀ i, i < m → At (run (home g.length) (pairsTo g p k)) (iter g i k) = iter g i k := fun i hi =>
        S.rest _ (v.iter a.lt i) (not_iter hp v a hi) fun r m' j hr a' hj e => by have := a.meet a' hi hj e; omega
      have A := along_all v S.len hp hpl a own (spare_wrong v hp hpl S.sp)
      rw [hs', run_append]
      refine ⟨A.len, by rw [run_append], fun e he => ?_, fun r m' i hr a' hi => ?_, fun x hx hxp hn => ?_, .inr ⟨k, m, a, A.sp⟩, ?_⟩
      · rcases List.mem_append.mp he with z | z
        · exact S.ok e z
        · exact ringPairs_ok v hp hpl a e z
      · by_cases e : r = k
        · subst e
          have := a'.uniq a
          subst this
          exact A.done i hi
        · rw [A.rest _ (not_iter hp v a' hi) fun j hj z => e (a'.meet a hi hj z)]
          exact S.done r m' i (by omega) a' hi
      · rw [A.rest x hxp fun i hi => hn k m i (by omega) a hi]
        exact S.rest x hx hxp fun r m' i hr => hn r m' i (by omega)
      · rw [List.range_succ, List.countP_append, List.length_append, ringPairs_len a.two]
        have : hasRing g k = true := by unfold hasRing; rw [h]; rfl
        have c1 := A.cnt
        have c2 := S.cnt
        simp [this]
        omega
/-! ### stage 2 -/
structure Stage2 (g : List Nat) (p : Nat) (H : List Nat) (es : List (Nat × Nat)) : Prop where
  len : H.length = g.length
  run : run (home g.length) es = H
  ok : ∀ e ∈ es, Okp g.length e
  cnt : (wrong g H).length + es.length = fewest g
  own : ∀ x ∈ wrong g H, x ≠ p → At H x = x
  need : ∀ x ∈ wrong g H, At g x ∈ H
  noring : ∀ x ∈ wrong g H, ∀ r m i, IsRing g r m → i < m → x ≠ iter g i r
  sp : p ∈ wrong g H → ∀ x ∈ wrong g H, At g x ≠ At H p
theorem stage2_start {g : List Nat} {p : Nat} (v : Valid g) (hp : p ∉ g) (hpl : p < g.length) {H : List Nat} {es : List (Nat × Nat)} (S : Stage1 g p g.length H es) : Stage2 g p H es := by
  have nr : ∀ x ∈ wrong g H, ∀ r m i, IsRing g r m → i < m → x ≠ iter g i r := fun x hx r m i a hi e => by
    have := (mem_wrong.mp hx).2
    rw [e, S.done r m i a.lt a hi] at this
    exact this rfl
  have lt : ∀ x ∈ wrong g H, x < g.length := fun x hx => (mem_wrong.mp hx).1
  refine ⟨S.len, S.run, S.ok, ?_, fun x hx hxp => S.rest x (lt x hx) hxp fun r m i _ => nr x hx r m i, fun x hx => ?_, nr, fun _ x hx e => ?_⟩
  · unfold fewest rings
    exact S.cnt
  · have hgx := v.lt (lt x hx)
    by_cases hr : ∃ r m i, IsRing g r m ∧ i < m ∧ At g x = iter g i r
    · obtain ⟨r, m, i, a, hi, e⟩ := hr
      have c := a.one i hi
      -- the block ahead of it in the ring would be x
      have h2 := a.two
      have : ∃ j, j < m ∧ At g (iter g j r) = iter g i r := by
        by_cases h0 : i = 0
        · subst h0
          refine ⟨m - 1, by omega, ?_⟩
          show iter g ((m - 1) + 1) r = _
          rw [show m - 1 + 1 = m by omega, a.back]; rfl
        · obtain ⟨i', rfl⟩ : ∃ i', i = i' + 1 := ⟨i - 1, by omega⟩
          exact ⟨i', by omega, rfl⟩
      obtain ⟨j, hj, ej⟩ := this
      have hne : iter g j r ≠ x := fun z => nr x hx r m j a hj z.symm
      have := count_two (v.iter a.lt j) (lt x hx) hne ej e
      omega
    · have hne : At g x ≠ p := fun z => hp (by rw [← z]; exact At_mem (lt x hx))
      have e := S.rest (At g x) hgx hne fun r m i _ a hi z => hr ⟨r, m, i, a, hi, z⟩
      have h3 : At H (At g x) ∈ H := At_mem (by rw [S.len]; exact hgx)
      rw [e] at h3
      exact h3
  · rcases S.sp with h | ⟨r, m, a, h⟩
    · rw [h] at e
      exact hp (by rw [← e]; exact At_mem (lt x hx))
    · rw [h] at e
      have h2 := a.two
      have h1 : At g (iter g (m - 1) r) = r := by
        have : iter g ((m - 1) + 1) r = r := by rw [show m - 1 + 1 = m by omega]; exact a.back
        exact this
      have hne : iter g (m - 1) r ≠ x := fun z => nr x hx r m (m - 1) a (by omega) z.symm
      have := count_two (v.iter a.lt (m - 1)) (lt x hx) hne h1 e
      have h5 : g.count r = 1 := a.one 0 (by omega)
      omega
/-- may be written now -/
def freeB (g held W : List Nat) (b : Nat) : Bool := decide (b ∉ W.map (At g)) || decide (1 < held.count b)
def free (g held W : List Nat) : List Nat := W.filter (freeB g held W)
theorem wrong_nodup {g H : List Nat} : (wrong g H).Nodup := List.Nodup.sublist List.filter_sublist List.nodup_range
theorem inj_of_cover {f : Nat → Nat} {W : List Nat} (hn : W.Nodup) (h : ∀ b ∈ W, b ∈ W.map f) : (W.map f).Nodup := by
  -- W ⊆ W.map f with the same length: the images are different
  refine Classical.byContradiction fun hc => ?_
  rw [List.nodup_iff_count] at hc
  have ⟨a, ha⟩ : ∃ a, ¬ (W.map f).count a ≤ 1 := Classical.not_forall.mp hc
  have hm : a ∈ W.map f := List.count_pos_iff.mp (by omega)
  have h2 : W ⊆ (W.map f).erase a := fun b hb => by
    by_cases e : b = a
    · subst e
      apply List.count_pos_iff.mp
      rw [List.count_erase_self]
      omega
    · exact (List.mem_erase_of_ne e).mpr (h b hb)
  have h3 := List.Nodup.length_le_of_subset hn h2
  rw [List.length_erase_of_mem hm, List.length_map] at h3
  have := List.length_pos_of_mem hm
  rw [List.length_map] at this
  omega
theorem map_inj_of_nodup {f : Nat → Nat} : ∀ {W : List Nat}, (W.map f).Nodup → ∀ x ∈ W, ∀ y ∈ W, f x = f y → x = y
  | [], _, x, hx, _, _, _ => by cases hx
  | a :: W, hn, x, hx, y, hy, e => by
    rw [List.map_cons, List.nodup_cons] at hn
    rcases List.mem_cons.mp hx with hx1 | hx1
    · rcases List.mem_cons.mp hy with hy1 | hy1
      · rw [hx1, hy1]
      · refine absurd ?_ hn.1
        rw [← hx1, e]
        exact List.mem_map_of_mem hy1
    · rcases List.mem_cons.mp hy with hy1 | hy1
      · refine absurd ?_ hn.1
        rw [← hy1, ← e]
        exact List.mem_map_of_mem hx1
      · exact map_inj_of_nodup hn.2 x hx1 y hy1 e
/-- some waiting block may always be written -/
theorem free_ne {g : List Nat} {p : Nat} (v : Valid g) (hp : p ∉ g) {H : List Nat} {es : List (Nat × Nat)} (S : Stage2 g p H es) (hW : wrong g H ≠ []) : free g H (wrong g H) ≠ [] := by
  intro hf
  have lt : ∀ x ∈ wrong g H, x < g.length := fun x hx => (mem_wrong.mp hx).1
  have no : ∀ b ∈ wrong g H, b ∈ (wrong g H).map (At g) ∧ H.count b ≤ 1 := fun b hb => by
    have := List.filter_eq_nil_iff.mp hf b hb
    unfold freeB at this
    rw [Bool.or_eq_true, decide_eq_true_eq, decide_eq_true_eq] at this
    exact ⟨Classical.byContradiction fun c => this (.inl c), by omega⟩
  have np : p ∉ wrong g H := fun z => by
    obtain ⟨x, hx, e⟩ := List.mem_map.mp (no p z).1
    exact hp (by rw [← e]; exact At_mem (lt x hx))
  have nd := inj_of_cover wrong_nodup fun b hb => (no b hb).1
  have back : ∀ x ∈ wrong g H, At g x ∈ wrong g H := by
    -- W ⊆ g[W], as many: g[W] ⊆ W
    intro x hx
    refine Classical.byContradiction fun c => ?_
    have h2 : wrong g H ⊆ ((wrong g H).map (At g)).erase (At g x) := fun b hb =>
      (List.mem_erase_of_ne (fun (e : b = At g x) => c (by rw [← e]; exact hb))).mpr (no b hb).1
    have h3 := List.Nodup.length_le_of_subset wrong_nodup h2
    have hm : At g x ∈ (wrong g H).map (At g) := List.mem_map_of_mem hx
    rw [List.length_erase_of_mem hm, List.length_map] at h3
    have := List.length_pos_of_mem hx
    omega
  have one : ∀ x ∈ wrong g H, g.count x = 1 := fun x hx => by
    obtain ⟨w, hw, e⟩ := List.mem_map.mp (no x hx).1
    have h1 : 0 < g.count x := List.count_pos_iff.mpr (by rw [← e]; exact At_mem (lt w hw))
    by_cases h2 : g.count x = 1
    · exact h2
    · obtain ⟨y, hy, hyw, ey⟩ := other_of_two (j := w) (show 2 ≤ g.count x by omega)
      have hyn : y ∉ wrong g H := fun z => hyw (map_inj_of_nodup nd y z w hw (ey.trans e.symm))
      have hHy : At H y = x := by
        rw [← ey]
        exact Classical.byContradiction fun c => hyn (mem_wrong.mpr ⟨hy, c⟩)
      have hHx : At H x = x := S.own x hx fun z => np (z ▸ hx)
      have hxy : x ≠ y := fun z => hyn (z ▸ hx)
      have := count_two (by rw [S.len]; exact lt x hx) (by rw [S.len]; exact hy) hxy hHx hHy
      have := (no x hx).2
      omega
  -- the least waiting block's way round is a closed ring
  obtain ⟨r, hr, hmin⟩ : ∃ r ∈ wrong g H, ∀ x ∈ wrong g H, r ≤ x := by
    cases hw : wrong g H with
    | nil => exact absurd hw hW
    | cons r l =>
      refine ⟨r, List.mem_cons_self, fun x hx => ?_⟩
      have hp' : (wrong g H).Pairwise (· < ·) := List.Pairwise.sublist List.filter_sublist List.pairwise_lt_range
      rw [hw, List.pairwise_cons] at hp'
      rcases List.mem_cons.mp hx with rfl | hx
      · exact Nat.le_refl _
      · exact Nat.le_of_lt (hp'.1 x hx)
  have inW : ∀ k, iter g k r ∈ wrong g H := by
    intro k
    induction k with
    | zero => exact hr
    | succ k ih => exact back _ ih
  have inj1 : ∀ x ∈ wrong g H, ∀ y ∈ wrong g H, At g x = At g y → x = y := map_inj_of_nodup nd
  -- some number of steps leads back
  have ⟨i, j, hij, e⟩ : ∃ i j, i < j ∧ iter g i r = iter g j r := by
    refine Classical.byContradiction fun c => ?_
    have h1 : ((List.range ((wrong g H).length + 1)).map fun k => iter g k r).Nodup := nodup_map_range fun i j _ _ e => by
      rcases Nat.lt_trichotomy i j with h | h | h
      · exact absurd ⟨i, j, h, e⟩ c
      · exact h
      · exact absurd ⟨j, i, h, e.symm⟩ c
    have h2 := List.Nodup.length_le_of_subset h1 (l₂ := wrong g H) fun x hx => by
      obtain ⟨k, _, rfl⟩ := List.mem_map.mp hx
      exact inW k
    simp at h2
    omega
  have back0 : ∃ k, 0 < k ∧ iter g k r = r := by
    have : ∀ i j, i < j → iter g i r = iter g j r → ∃ k, 0 < k ∧ iter g k r = r := by
      intro i
      induction i with
      | zero => intro j h e; exact ⟨j, h, e.symm⟩
      | succ i ih =>
        intro j h e
        obtain ⟨j', rfl⟩ : ∃ j', j = j' + 1 := ⟨j - 1, by omega⟩
        exact ih j' (by omega) (inj1 _ (inW i) _ (inW j') e)
    exact this i j hij e
  -- the least such number
  obtain ⟨m, hm0, hmb, hml⟩ : ∃ m, 0 < m ∧ iter g m r = r ∧ ∀ k, 0 < k → k < m → iter g k r ≠ r := by
    obtain ⟨k, h0, hk⟩ := back0
    have : ∀ k, 0 < k → iter g k r = r → ∃ m, 0 < m ∧ iter g m r = r ∧ ∀ j, 0 < j → j < m → iter g j r ≠ r := by
      intro k
      induction k using Nat.strongRecOn with
      | _ k ih =>
        intro h0 hk
        by_cases c : ∃ j, 0 < j ∧ j < k ∧ iter g j r = r
        · obtain ⟨j, hj0, hjk, ej⟩ := c
          exact ih j hjk hj0 ej
        · exact ⟨k, h0, hk, fun j hj0 hjk ej => c ⟨j, hj0, hjk, ej⟩⟩
    exact this k h0 hk
  have ring : IsRing g r m := by
    refine ⟨?_, lt r hr, hmb, fun i _ => one _ (inW i), fun i h0 hi => ?_⟩
    · refine Classical.byContradiction fun c => ?_
      have : m = 1 := by omega
      subst this
      have h1 : At g r = r := hmb
      have h2 := (mem_wrong.mp hr).2
      rw [S.own r hr fun z => np (z ▸ hr), h1] at h2
      exact h2 rfl
    · exact Nat.lt_of_le_of_ne (hmin _ (inW i)) (Ne.symm (hml i h0 hi))
  exact S.noring r hr r m 0 ring (by omega) rfl
/-- a waiting block is written -/
theorem stage2_step {g : List Nat} {p : Nat} (v : Valid g) {H : List Nat} {es : List (Nat × Nat)} (S : Stage2 g p H es) {b j : Nat} (hb : b ∈ free g H (wrong g H)) (hj : j < g.length) (ej : At H j = At g b) :
    Stage2 g p (H.set b (At g b)) (es ++ [(b, j)]) ∧ wrong g (H.set b (At g b)) = (wrong g H).erase b := by
  have hf := (List.mem_filter.mp hb).2
  have hbW := (List.mem_filter.mp hb).1
  obtain ⟨hbl, hbw⟩ := mem_wrong.mp hbW
  have hbH : b < H.length := by rw [S.len]; exact hbl
  have ew := wrong_set S.len hbl hbw
  have sub : ∀ x, x ∈ wrong g (H.set b (At g b)) → x ∈ wrong g H ∧ x ≠ b := fun x hx => by
    rw [ew] at hx
    have h1 := List.mem_of_mem_erase hx
    refine ⟨h1, fun e => ?_⟩
    subst e
    exact (List.Nodup.not_mem_erase wrong_nodup) hx
  have lt : ∀ x ∈ wrong g H, x < g.length := fun x hx => (mem_wrong.mp hx).1
  refine ⟨⟨by simpa using S.len, ?_, fun e he => ?_, ?_, fun x hx hxp => ?_, fun x hx => ?_, fun x hx => S.noring x (sub x hx).1, fun hpW x hx => ?_⟩, ew⟩
  · rw [run_one, S.run]
    unfold step
    rw [ej]
  · rcases List.mem_append.mp he with z | z
    · exact S.ok e z
    · have : e = (b, j) := by simpa using z
      subst this
      exact ⟨hbl, hj, fun z => hbw ((congrArg (At H) z).trans ej)⟩
  · have h1 := wrong_set_len S.len hbl hbw
    have h2 := S.cnt
    rw [List.length_append, List.length_singleton]
    omega
  · rw [At_set_ne hbH (sub x hx).2]
    exact S.own x (sub x hx).1 hxp
  · obtain ⟨hxW, hxb⟩ := sub x hx
    obtain ⟨i, hi, ei⟩ := mem_At (S.need x hxW)
    have fin : ∀ i', i' < H.length → i' ≠ b → At H i' = At g x → At g x ∈ H.set b (At g b) := fun i' h1 h2 h3 => by
      have h4 : At (H.set b (At g b)) i' ∈ H.set b (At g b) := At_mem (by simpa using h1)
      rw [At_set_ne hbH h2, h3] at h4
      exact h4
    by_cases e : i = b
    · subst e
      by_cases hip : i = p
      · subst hip
        exact absurd ei.symm (S.sp hbW x hxW)
      · have h1 := S.own i hbW hip
        rw [h1] at ei
        have h2 : i ∈ (wrong g H).map (At g) := by rw [ei]; exact List.mem_map_of_mem hxW
        unfold freeB at hf
        rw [Bool.or_eq_true, decide_eq_true_eq, decide_eq_true_eq] at hf
        rcases hf with h3 | h3
        · exact absurd h2 h3
        · obtain ⟨i', h4, h5, h6⟩ := other_of_two (j := i) (show 2 ≤ H.count i by omega)
          exact fin i' h4 h5 (h6.trans ei)
    · exact fin i hi e ei
  · obtain ⟨hpW', hpb⟩ := sub p hpW
    obtain ⟨hxW, hxb⟩ := sub x hx
    rw [At_set_ne hbH hpb]
    exact S.sp hpW' x hxW
theorem stage2_end {g : List Nat} {p : Nat} {H : List Nat} {es : List (Nat × Nat)} (S : Stage2 g p H es) (h : wrong g H = []) : H = g ∧ es.length = fewest g := by
  have c := S.cnt
  rw [h, List.length_nil, Nat.zero_add] at c
  refine ⟨eq_of_At S.len fun i hi => ?_, c⟩
  rw [S.len] at hi
  exact Classical.byContradiction fun z => by
    have := mem_wrong.mpr ⟨hi, z⟩
    rw [h] at this
    cases this
/-- where nothing is changed no block is on a ring -/
theorem rings_home {g : List Nat} (v : Valid g) (h : changed g = []) : ringsOf g = [] := by
  unfold ringsOf
  rw [List.filterMap_eq_nil_iff]
  intro r hr
  have : ringLen g r = none := by
    rw [ringLen_none v]
    intro m a
    have h2 := a.two
    have h1 := a.chg v (i := 0) (by omega)
    have : r ∈ changed g := List.mem_filter.mpr ⟨hr, decide_eq_true h1⟩
    rw [h] at this
    cases this
  rw [this]; rfl
end Rd
set_option linter.all false
namespace Rd
/-! ### a shortest log is there -/
theorem log_from {g : List Nat} {p : Nat} (v : Valid g) (hp : p ∉ g) : ∀ (k : Nat) {H : List Nat} {es : List (Nat × Nat)}, (wrong g H).length = k → Stage2 g p H es → ∃ es', (∀ e ∈ es', Okp g.length e) ∧ run (home g.length) es' = g ∧ es'.length = fewest g
  | 0, H, es, hk, S => by
    obtain ⟨h1, h2⟩ := stage2_end S (List.eq_nil_of_length_eq_zero hk)
    exact ⟨es, S.ok, by rw [S.run, h1], h2⟩
  | k + 1, H, es, hk, S => by
    have hne : wrong g H ≠ [] := fun z => by rw [z] at hk; cases hk
    obtain ⟨b, hb⟩ := List.exists_mem_of_ne_nil _ (free_ne v hp S hne)
    have hbW := (List.mem_filter.mp hb).1
    obtain ⟨j, hj, ej⟩ := mem_At (S.need b hbW)
    rw [S.len] at hj
    obtain ⟨S', e⟩ := stage2_step v S hb hj ej
    refine log_from v hp k ?_ S'
    rw [e, List.length_erase_of_mem hbW, hk]; rfl
theorem exists_log {g : List Nat} (v : Valid g) (p : Possible g) : ∃ es, (∀ e ∈ es, Okp g.length e) ∧ run (home g.length) es = g ∧ es.length = fewest g := by
  by_cases h : changed g = []
  · refine ⟨[], (fun _ z => nomatch z), (changed_nil.mp h).symm, ?_⟩
    have := fewest_home g.length
    rw [← changed_nil.mp h] at this
    rw [this]; rfl
  · obtain ⟨q, hq, hn⟩ := missing_ne.mp (p.resolve_left h)
    exact log_from v hn _ rfl (stage2_start v hn hq (stage1 v hn hq g.length))
theorem fewest_bound {g : List Nat} : fewest g ≤ 2 * g.length := by
  unfold fewest rings changed
  have h1 : ((List.range g.length).filter (changedB g)).length ≤ (List.range g.length).length := List.length_filter_le _ _
  have h2 : (List.range g.length).countP (hasRing g) ≤ (List.range g.length).length := List.countP_le_length
  rw [List.length_range] at h1 h2
  omega
/-! ### the breadth-first search, as the law does it -/
abbrev Far := List (List Nat × Nat)
abbrev BS := Far × List (List Nat)
def bAdd (d : Nat) (st : BS) (x : List Nat) : BS := if x ∈ st.1.map (·.1) then st else (st.1 ++ [(x, d)], st.2 ++ [x])
def bSrc (d : Nat) (img : List Nat) (t : Nat) (k : Nat) (st : BS) : BS := (List.range k).foldl (fun st s => bAdd d st (img.set t (At img s))) st
def bTgt (n d : Nat) (img : List Nat) (k : Nat) (st : BS) : BS := (List.range k).foldl (fun st t => bSrc d img t n st) st
def bLev (n d : Nat) (lev : List (List Nat)) (st : BS) : BS := lev.foldl (fun st img => bTgt n d img n st) st
def cands (n : Nat) (img : List Nat) : List (List Nat) := (List.range n).flatMap fun t => (List.range n).map fun s => img.set t (At img s)
theorem bLev_eq (n d : Nat) (lev : List (List Nat)) (st : BS) : bLev n d lev st = (lev.flatMap (cands n)).foldl (bAdd d) st := by
  unfold bLev bTgt bSrc cands
  rw [List.foldl_flatMap]
  congr 1
  funext st img
  rw [List.foldl_flatMap]
  congr 1
  funext st t
  rw [List.foldl_map]
theorem adds (d : Nat) : ∀ (xs : List (List Nat)) (st : BS), ∃ new : List (List Nat), xs.foldl (bAdd d) st = (st.1 ++ new.map (fun x => (x, d)), st.2 ++ new) ∧ new.Nodup ∧ ∀ x, x ∈ new ↔ x ∈ xs ∧ x ∉ st.1.map (·.1)
  | [], st => ⟨[], by simp, List.nodup_nil, fun x => by simp⟩
  | y :: xs, st => by
    rw [List.foldl_cons]
    by_cases h : y ∈ st.1.map (·.1)
    · have e : bAdd d st y = st := if_pos h
      rw [e]
      obtain ⟨new, h1, h2, h3⟩ := adds d xs st
      refine ⟨new, h1, h2, fun x => ?_⟩
      rw [h3, List.mem_cons]
      constructor
      · exact fun ⟨a, b⟩ => ⟨.inr a, b⟩
      · rintro ⟨a | a, b⟩
        · subst a; exact absurd h b
        · exact ⟨a, b⟩
    · have e : bAdd d st y = (st.1 ++ [(y, d)], st.2 ++ [y]) := if_neg h
      rw [e]
      obtain ⟨new, h1, h2, h3⟩ := adds d xs (st.1 ++ [(y, d)], st.2 ++ [y])
      have hk : ∀ x, x ∈ (st.1 ++ [(y, d)]).map (·.1) ↔ x ∈ st.1.map (·.1) ∨ x = y := fun x => by
        rw [List.map_append, List.mem_append]; simp
      refine ⟨y :: new, ?_, ?_, fun x => ?_⟩
      · rw [h1]; simp
      · rw [List.nodup_cons]
        exact ⟨fun z => ((h3 y).mp z).2 ((hk y).mpr (.inr rfl)), h2⟩
      · rw [List.mem_cons, List.mem_cons, h3]
        show x = y ∨ (x ∈ xs ∧ ¬ x ∈ (st.1 ++ [(y, d)]).map (·.1)) ↔ _
        rw [hk]
        constructor
        · rintro (a | ⟨a, b⟩)
          · subst a; exact ⟨.inl rfl, h⟩
          · exact ⟨.inr a, fun z => b (.inl z)⟩
        · rintro ⟨a | a, b⟩
          · exact .inl a
          · by_cases c : x = y
            · exact .inl c
            · exact .inr ⟨a, fun z => z.elim b c⟩
/-- an image of n blocks that logs lead to -/
def Img (n : Nat) (g : List Nat) : Prop := g.length = n ∧ Valid g ∧ Possible g
structure Level (n d : Nat) (far : Far) (lev : List (List Nat)) : Prop where
  keys : ∀ g k, (g, k) ∈ far → Img n g ∧ fewest g = k ∧ k ≤ d
  all : ∀ g, Img n g → fewest g ≤ d → (g, fewest g) ∈ far
  nodup : (far.map (·.1)).Nodup
  lev : ∀ g, g ∈ lev ↔ Img n g ∧ fewest g = d
theorem Img.step {n : Nat} {g : List Nat} (a : Img n g) {e : Nat × Nat} (o : Okp n e) : Img n (Rd.step g e) := by
  obtain ⟨h1, h2, h3⟩ := a
  subst h1
  exact ⟨step_len, step_valid h2 o, possible_step h3 o⟩
/-- ahead of an image that is not home there is one that is one copy nearer -/
theorem before {n : Nat} {g : List Nat} (a : Img n g) {d : Nat} (h : fewest g = d + 1) : ∃ i e, Img n i ∧ Okp n e ∧ fewest i = d ∧ g = Rd.step i e := by
  obtain ⟨h1, h2, h3⟩ := a
  subst h1
  obtain ⟨es, o, hr, hl⟩ := exists_log h2 h3
  rw [h] at hl
  have hne : es ≠ [] := fun z => by rw [z] at hl; cases hl
  have es_ : es = es.dropLast ++ [es.getLast hne] := (List.dropLast_concat_getLast hne).symm
  have o1 : ∀ e ∈ es.dropLast, Okp g.length e := fun e he => o e ((List.dropLast_sublist es).mem he)
  have o2 : Okp g.length (es.getLast hne) := o _ (List.getLast_mem hne)
  have hl1 : es.dropLast.length = d := by rw [List.length_dropLast, hl]; rfl
  have hh : (home g.length).length = g.length := by simp [home]
  have v1 : Valid (run (home g.length) es.dropLast) := run_valid (Valid.range _) (fun e he => by rw [hh]; exact o1 e he)
  have hg : g = Rd.step (run (home g.length) es.dropLast) (es.getLast hne) := by
    rw [← run_one, ← es_, hr]
  refine ⟨run (home g.length) es.dropLast, es.getLast hne, ⟨by rw [run_len, hh], v1, possible_run (possible_home _) fun e he => by rw [hh]; exact o1 e he⟩, o2, ?_, hg⟩
  have u1 := fewest_le (n := g.length) o1
  rw [hl1] at u1
  have hle : (run (home g.length) es.dropLast).length = g.length := by rw [run_len, hh]
  have u2 : fewest (Rd.step (run (home g.length) es.dropLast) (es.getLast hne)) ≤ fewest (run (home g.length) es.dropLast) + 1 :=
    fewest_step v1 (by rw [hle]; exact o2.1) (by rw [hle]; exact o2.2.1) o2.2.2
  rw [← hg, h] at u2
  omega
theorem level0 (n : Nat) : Level n 0 [(home n, 0)] [home n] := by
  have hi : Img n (home n) := ⟨by simp [home], Valid.range n, possible_home n⟩
  have uniq : ∀ g, Img n g → fewest g = 0 → g = home n := fun g a e => by
    have : changed g = [] := by
      unfold fewest at e
      exact List.eq_nil_of_length_eq_zero (by omega)
    rw [changed_nil, a.1] at this
    exact this
  refine ⟨fun g k h => ?_, fun g a e => ?_, by simp, fun g => ?_⟩
  · have : (g, k) = (home n, 0) := by simpa using h
    cases this
    exact ⟨hi, fewest_home n, Nat.le_refl _⟩
  · have e0 : fewest g = 0 := by omega
    rw [e0, uniq g a e0]; simp
  · rw [List.mem_singleton]
    constructor
    · rintro rfl; exact ⟨hi, fewest_home n⟩
    · exact fun ⟨a, e⟩ => uniq g a e
theorem level_step {n d : Nat} {far : Far} {lev : List (List Nat)} (L : Level n d far lev) : Level n (d + 1) (bLev n (d + 1) lev (far, [])).1 (bLev n (d + 1) lev (far, [])).2 := by
  rw [bLev_eq]
  obtain ⟨new, h1, h2, h3⟩ := adds (d + 1) (lev.flatMap (cands n)) (far, [])
  rw [h1]
  have keyOf : ∀ g, g ∈ far.map (·.1) ↔ Img n g ∧ fewest g ≤ d := fun g => by
    rw [List.mem_map]
    constructor
    · rintro ⟨⟨g', k⟩, hm, rfl⟩
      obtain ⟨a, b, c⟩ := L.keys _ _ hm
      exact ⟨a, by show fewest g' ≤ d; omega⟩
    · rintro ⟨a, b⟩
      exact ⟨(g, fewest g), L.all g a b, rfl⟩
  have newIs : ∀ g, g ∈ new ↔ Img n g ∧ fewest g = d + 1 := fun g => by
    rw [h3]
    show g ∈ lev.flatMap (cands n) ∧ ¬ g ∈ far.map (·.1) ↔ _
    rw [keyOf]
    constructor
    · rintro ⟨hc, hn⟩
      obtain ⟨img, hi, hc⟩ := List.mem_flatMap.mp hc
      obtain ⟨ai, ei⟩ := (L.lev img).mp hi
      obtain ⟨t, ht, hc⟩ := List.mem_flatMap.mp hc
      obtain ⟨s, hs, rfl⟩ := List.mem_map.mp hc
      have ht' : t < n := by simpa using ht
      have hs' : s < n := by simpa using hs
      by_cases c : t = s
      · subst c
        have e : img.set t (At img t) = img := by
          refine eq_of_At (by simp) fun i hi => ?_
          have hti : t < img.length := by rw [ai.1]; exact ht'
          by_cases ci : i = t
          · subst ci; rw [At_set_same hti]
          · rw [At_set_ne hti ci]
        rw [e] at hn
        exact absurd ⟨ai, by omega⟩ hn
      · have o : Okp n (t, s) := ⟨ht', hs', c⟩
        have a := ai.step o
        have hle : fewest (img.set t (At img s)) ≤ fewest img + 1 := fewest_step ai.2.1 (by rw [ai.1]; exact ht') (by rw [ai.1]; exact hs') c
        refine ⟨a, ?_⟩
        have : ¬ fewest (img.set t (At img s)) ≤ d := fun z => hn ⟨a, z⟩
        omega
    · rintro ⟨a, e⟩
      refine ⟨?_, fun z => by omega⟩
      obtain ⟨i, ⟨t, s⟩, ai, o, ei, eg⟩ := before a e
      refine List.mem_flatMap.mpr ⟨i, (L.lev i).mpr ⟨ai, ei⟩, List.mem_flatMap.mpr ⟨t, by simpa using o.1, List.mem_map.mpr ⟨s, by simpa using o.2.1, eg.symm⟩⟩⟩
  refine ⟨fun g k hm => ?_, fun g a e => ?_, ?_, fun g => ?_⟩
  · rcases List.mem_append.mp hm with z | z
    · obtain ⟨a, b, c⟩ := L.keys g k z
      exact ⟨a, b, by omega⟩
    · obtain ⟨x, hx, e⟩ := List.mem_map.mp z
      cases e
      obtain ⟨a, b⟩ := (newIs _).mp hx
      exact ⟨a, b, Nat.le_refl _⟩
  · by_cases c : fewest g ≤ d
    · exact List.mem_append_left _ (L.all g a c)
    · have c' : fewest g = d + 1 := by omega
      refine List.mem_append_right _ (List.mem_map.mpr ⟨g, (newIs g).mpr ⟨a, c'⟩, by rw [c']⟩)
  · rw [List.map_append, List.map_map]
    have : List.map ((fun x : List Nat × Nat => x.1) ∘ fun x => (x, d + 1)) new = new := by
      rw [show ((fun x : List Nat × Nat => x.1) ∘ fun x => (x, d + 1)) = id from rfl, List.map_id]
    rw [this, List.nodup_append]
    refine ⟨L.nodup, h2, fun a ha b hb e => ?_⟩
    subst e
    have z1 := (keyOf a).mp ha
    have z2 := (newIs a).mp hb
    omega
  · show g ∈ [] ++ new ↔ _
    rw [List.nil_append]
    exact newIs g
def lookF : Far → List Nat → Option Nat
  | [], _ => none
  | e :: r, x => if e.1 = x then some e.2 else lookF r x
theorem lookF_mem : ∀ {far : Far} {x : List Nat} {k : Nat}, lookF far x = some k → (x, k) ∈ far
  | [], _, _, h => by cases h
  | e :: r, x, k, h => by
    unfold lookF at h
    by_cases c : e.1 = x
    · rw [if_pos c] at h
      cases h; subst c
      exact List.mem_cons_self
    · rw [if_neg c] at h
      exact List.mem_cons_of_mem _ (lookF_mem h)
theorem lookF_none : ∀ {far : Far} {x : List Nat}, lookF far x = none → ∀ k, (x, k) ∉ far
  | [], _, _, _, h => by cases h
  | e :: r, x, h, k, hm => by
    unfold lookF at h
    by_cases c : e.1 = x
    · rw [if_pos c] at h; cases h
    · rw [if_neg c] at h
      rcases List.mem_cons.mp hm with z | z
      · subst z; exact c rfl
      · exact lookF_none h k z
/-- the search has found all images, each with its number -/
def Found (n : Nat) (far : Far) : Prop := ∀ g, g.length = n → Valid g → (∀ k, lookF far g = some k → Possible g ∧ fewest g = k) ∧ (lookF far g = none → ¬ Possible g)
theorem found_of {n : Nat} {far : Far} (h1 : ∀ g k, (g, k) ∈ far → Img n g ∧ fewest g = k) (h2 : ∀ g, Img n g → (g, fewest g) ∈ far) : Found n far := fun g hl v =>
  ⟨fun k e => by
    obtain ⟨a, b⟩ := h1 g k (lookF_mem e)
    exact ⟨a.2.2, b⟩, fun e p => lookF_none e _ (h2 g ⟨hl, v, p⟩)⟩
/-- where a level is empty nothing lies beyond -/
theorem level_top {n d : Nat} {far : Far} (L : Level n d far []) : ∀ g, Img n g → fewest g ≤ d := by
  have : ∀ k g, Img n g → fewest g = d + k → False := by
    intro k
    induction k with
    | zero => intro g a e; have := (L.lev g).mpr ⟨a, e⟩; cases this
    | succ k ih =>
      intro g a e
      obtain ⟨i, _, ai, _, ei, _⟩ := before a (d := d + k) e
      exact ih i ai ei
  intro g a
  exact Classical.byContradiction fun c => this (fewest g - d) g a (by omega)
theorem level_end {n d : Nat} {far : Far} (L : Level n d far []) : Found n far :=
  found_of (fun g k h => ⟨(L.keys g k h).1, (L.keys g k h).2.1⟩) fun g a => L.all g a (level_top L g a)
theorem level_far {n d : Nat} {far : Far} {lev : List (List Nat)} (L : Level n d far lev) (hd : 2 * n ≤ d) : Found n far :=
  found_of (fun g k h => ⟨(L.keys g k h).1, (L.keys g k h).2.1⟩) fun g a => L.all g a (by have := fewest_bound (g := g); rw [a.1] at this; omega)
/-- how many images there are at most -/
def allG (n : Nat) : Nat → List (List Nat)
  | 0 => [[]]
  | k + 1 => (List.range n).flatMap fun a => (allG n k).map (a :: ·)
theorem mem_allG {n : Nat} : ∀ {k : Nat} {g : List Nat}, g.length = k → (∀ x ∈ g, x < n) → g ∈ allG n k
  | 0, g, h, _ => by rw [List.eq_nil_of_length_eq_zero h]; simp [allG]
  | k + 1, a :: g, h, v => by
    refine List.mem_flatMap.mpr ⟨a, by simpa using v a List.mem_cons_self, List.mem_map.mpr ⟨g, mem_allG (by simpa using h) fun x hx => v x (List.mem_cons_of_mem _ hx), rfl⟩⟩
theorem keys_few {n : Nat} {far : Far} (hn : n ≤ 4) (h : ∀ e ∈ far, e.1.length = n ∧ Valid e.1) (nd : (far.map (·.1)).Nodup) : far.length ≤ 256 := by
  have h1 := List.Nodup.length_le_of_subset nd (l₂ := allG n n) fun x hx => by
    obtain ⟨e, he, rfl⟩ := List.mem_map.mp hx
    obtain ⟨a, b⟩ := h e he
    exact mem_allG a fun y hy => by have := b y hy; rw [a] at this; exact this
  have h2 : (allG n n).length ≤ 256 := by
    rcases (show n = 0 ∨ n = 1 ∨ n = 2 ∨ n = 3 ∨ n = 4 by omega) with rfl | rfl | rfl | rfl | rfl <;> decide +kernel
  rw [List.length_map] at h1
  omega
end Rd
set_option linter.all false
namespace Rd
/-! ### the way round from a block, as _ring_from goes it -/
structure Way (g : List Nat) (r k : Nat) : Prop where
  pos : 1 ≤ k
  lt : r < g.length
  gt : ∀ i, 0 < i → i < k → r < iter g i r
  one : ∀ i, 0 < i → i < k → g.count (iter g i r) = 1
theorem way1 {g : List Nat} {r : Nat} (h : r < g.length) : Way g r 1 := ⟨Nat.le_refl _, h, fun i _ _ => by omega, fun i _ _ => by omega⟩
theorem Way.more {g : List Nat} {r k : Nat} (a : Way g r k) (h1 : r < iter g k r) (h2 : g.count (iter g k r) = 1) : Way g r (k + 1) :=
  ⟨by have := a.pos; omega, a.lt, fun i h0 hi => by
    by_cases e : i = k
    · subst e; exact h1
    · exact a.gt i h0 (by omega), fun i h0 hi => by
    by_cases e : i = k
    · subst e; exact h2
    · exact a.one i h0 (by omega)⟩
theorem Way.inj {g : List Nat} {r k : Nat} (a : Way g r k) (v : Valid g) : ∀ i j, i < k → j < k → iter g i r = iter g j r → i = j := by
  have key : ∀ i j, i < j → j < k → iter g i r ≠ iter g j r := by
    intro i
    induction i with
    | zero =>
      intro j h1 h2 e
      have := a.gt j h1 h2
      rw [← e] at this
      exact absurd this (Nat.lt_irrefl _)
    | succ i ih =>
      intro j h1 h2 e
      obtain ⟨j', rfl⟩ : ∃ j', j = j' + 1 := ⟨j - 1, by omega⟩
      have h3 : i < j' := by omega
      refine ih j' h3 (by omega) ?_
      have e' : At g (iter g i r) = At g (iter g j' r) := e
      exact inj_of_one (v.iter a.lt i) (v.iter a.lt j') e' (a.one (i + 1) (by omega) (by omega))
  intro i j hi hj e
  rcases Nat.lt_trichotomy i j with h | h | h
  · exact absurd e (key i j h hj)
  · exact h
  · exact absurd e.symm (key j i h hi)
theorem Way.le {g : List Nat} {r k : Nat} (a : Way g r k) (v : Valid g) : k ≤ g.length := by
  have h1 := nodup_map_range (f := fun i => iter g i r) (m := k) (a.inj v)
  have h2 := List.Nodup.length_le_of_subset h1 (l₂ := List.range g.length) (fun x hx => by
    obtain ⟨i, _, rfl⟩ := List.mem_map.mp hx
    simpa using v.iter a.lt i)
  simpa using h2
/-- where the way ends, the ring is known -/
theorem Way.ring {g : List Nat} {r k : Nat} (a : Way g r k) (v : Valid g) (h1 : iter g k r = r) (h2 : 1 < k) (h3 : g.count r = 1) : ringLen g r = some k := by
  refine (ringLen_some v).mpr ⟨h2, a.lt, h1, fun i hi => ?_, a.gt⟩
  by_cases e : i = 0
  · subst e; exact h3
  · exact a.one i (by omega) hi
theorem Way.noring {g : List Nat} {r k : Nat} (a : Way g r k) (v : Valid g) (stop : ¬ (r < iter g k r ∧ g.count (iter g k r) = 1)) (h : ¬ (iter g k r = r ∧ 1 < k ∧ g.count r = 1)) : ringLen g r = none := by
  rw [ringLen_none v]
  intro m b
  have hp := a.pos
  have h2 := b.two
  rcases Nat.lt_trichotomy m k with c | c | c
  · have := a.gt m (by omega) c
    rw [b.back] at this
    exact Nat.lt_irrefl _ this
  · subst c
    exact h ⟨b.back, by omega, b.one 0 (by omega)⟩
  · exact stop ⟨b.gt k (by omega) c, b.one k c⟩
theorem ringL_succ (g : List Nat) (r k : Nat) : ringL g r (k + 1) = ringL g r k ++ [iter g k r] := by
  unfold ringL
  rw [List.range_succ, List.map_append, List.map_singleton]
end Rd
set_option linter.all false
namespace Rd
/-! ### least_log's while, as plain facts -/
structure LL (g H : List Nat) (es : List (Nat × Nat)) : Prop where
  ok : ∀ e ∈ es, Okp g.length e
  run : run (home g.length) es = H
  len : H.length = g.length
  cnt : (wrong g H).length + es.length = fewest g
  st : wrong g H ≠ [] → ∃ p, p ∉ g ∧ Stage2 g p H es
theorem spare_ok {g : List Nat} (h : missing g ≠ []) : At (missing g) 0 ∉ g ∧ At (missing g) 0 < g.length := by
  have h0 : 0 < (missing g).length := List.length_pos_iff.mpr h
  have hm : At (missing g) 0 ∈ missing g := At_mem h0
  unfold missing at hm
  rw [List.mem_filter] at hm
  refine ⟨?_, ?_⟩
  · have := hm.2
    unfold missingB at this
    exact of_decide_eq_true this
  · exact List.mem_range.mp hm.1
theorem changed_of_ring {g : List Nat} (v : Valid g) {c : List Nat} (h : c ∈ ringsOf g) : changed g ≠ [] := fun z => by
  rw [rings_home v z] at h
  cases h
theorem missing_of_ring {g : List Nat} (v : Valid g) (po : Possible g) {c : List Nat} (h : c ∈ ringsOf g) : missing g ≠ [] := po.resolve_left (changed_of_ring v h)
theorem ring_len {g : List Nat} (v : Valid g) {c : List Nat} (h : c ∈ ringsOf g) : 2 ≤ c.length ∧ c.length ≤ g.length := by
  unfold ringsOf at h
  obtain ⟨r, _, e⟩ := List.mem_filterMap.mp h
  obtain ⟨m, hm, rfl⟩ := Option.map_eq_some_iff.mp e
  have a := (ringLen_some v).mp hm
  rw [ringL_len]
  exact ⟨a.two, a.le v⟩
theorem ll_start {g : List Nat} (v : Valid g) (po : Possible g) : LL g (run (home g.length) (pairsTo g (At (missing g) 0) g.length)) (pairsTo g (At (missing g) 0) g.length) := by
  by_cases hm : missing g = []
  · have hc : changed g = [] := po.resolve_right fun z => z hm
    have e0 : pairsTo g (At (missing g) 0) g.length = [] := by
      have : ringsOf g = [] := rings_home v hc
      unfold ringsOf at this
      unfold pairsTo
      rw [this]; rfl
    rw [e0]
    have e1 : wrong g (Rd.run (home g.length) []) = [] := by
      show wrong g (home g.length) = []
      rw [wrong_home, hc]
    refine ⟨fun _ z => (nomatch z), rfl, by simp [run_len, home], ?_, fun z => absurd e1 z⟩
    have h0 := fewest_home g.length
    rw [← changed_nil.mp hc] at h0
    rw [e1, h0]; rfl
  · obtain ⟨hn, hl⟩ := spare_ok hm
    have S := stage2_start v hn hl (stage1 v hn hl g.length)
    exact ⟨S.ok, S.run, S.len, S.cnt, fun _ => ⟨_, hn, S⟩⟩
theorem LL.free {g H : List Nat} {es : List (Nat × Nat)} (a : LL g H es) (v : Valid g) (h : wrong g H ≠ []) : 0 < (free g H (wrong g H)).length := by
  obtain ⟨p, hp, S⟩ := a.st h
  exact List.length_pos_iff.mpr (free_ne v hp S h)
/-- the number that a waiting block takes stands somewhere first -/
theorem first_of {g : List Nat} {k : Nat} (h : k ∈ g) : ∃ j, j < g.length ∧ At g j = k ∧ ∀ m, m < j → At g m ≠ k := by
  obtain ⟨i, hi, e⟩ := mem_At h
  have : ∀ i, i < g.length → At g i = k → ∃ j, j < g.length ∧ At g j = k ∧ ∀ m, m < j → At g m ≠ k := by
    intro i
    induction i using Nat.strongRecOn with
    | _ i ih =>
      intro hi e
      by_cases c : ∃ m, m < i ∧ At g m = k
      · obtain ⟨m, hm, em⟩ := c
        exact ih m hm (by omega) em
      · exact ⟨i, hi, e, fun m hm em => c ⟨m, hm, em⟩⟩
  exact this i hi e
theorem LL.source {g H : List Nat} {es : List (Nat × Nat)} (a : LL g H es) {b : Nat} (hb : b ∈ wrong g H) : ∃ j, j < H.length ∧ At H j = At g b ∧ ∀ m, m < j → At H m ≠ At g b := by
  obtain ⟨p, hp, S⟩ := a.st fun z => by rw [z] at hb; cases hb
  exact first_of (S.need b hb)
theorem LL.step {g H : List Nat} {es : List (Nat × Nat)} (a : LL g H es) (v : Valid g) {b j : Nat} (hb : b ∈ Rd.free g H (wrong g H)) (hj : j < H.length) (ej : At H j = At g b) :
    LL g (H.set b (At g b)) (es ++ [(b, j)]) ∧ wrong g (H.set b (At g b)) = (wrong g H).erase b ∧ b ∈ wrong g H ∧ b < g.length := by
  have hbW := (List.mem_filter.mp hb).1
  obtain ⟨p, hp, S⟩ := a.st fun z => by rw [z] at hbW; cases hbW
  obtain ⟨S', e⟩ := stage2_step v S hb (by rw [← a.len]; exact hj) ej
  exact ⟨⟨S'.ok, S'.run, S'.len, S'.cnt, fun _ => ⟨p, hp, S'⟩⟩, e, hbW, (mem_wrong.mp hbW).1⟩
theorem LL.fin {g H : List Nat} {es : List (Nat × Nat)} (a : LL g H es) (h : wrong g H = []) : H = g ∧ es.length = fewest g := by
  have c := a.cnt
  rw [h, List.length_nil, Nat.zero_add] at c
  refine ⟨eq_of_At a.len fun i hi => ?_, c⟩
  rw [a.len] at hi
  exact Classical.byContradiction fun z => by
    have := mem_wrong.mpr ⟨hi, z⟩
    rw [h] at this
    cases this
/-- the pairs of the first i rings -/
def rpsTo (g : List Nat) (p i : Nat) : List (Nat × Nat) := ((ringsOf g).take i).flatMap fun c => ringPairs c p
theorem rpsTo_all {g : List Nat} {p : Nat} : rpsTo g p (ringsOf g).length = pairsTo g p g.length := by
  unfold rpsTo pairsTo ringsOf
  rw [List.take_length]
theorem rpsTo_succ {g : List Nat} {p i : Nat} {c : List Nat} (h : (ringsOf g)[i]? = some c) : rpsTo g p (i + 1) = rpsTo g p i ++ ringPairs c p := by
  unfold rpsTo
  rw [List.take_add_one, h, List.flatMap_append]
  simp
theorem ringPairs_len' {c : List Nat} {p : Nat} (h : 2 ≤ c.length) : (ringPairs c p).length = c.length + 1 := by
  unfold ringPairs
  simp; omega
theorem rpsTo_len {g : List Nat} (v : Valid g) {p : Nat} : ∀ i, (rpsTo g p i).length ≤ i * (g.length + 1)
  | 0 => by simp [rpsTo]
  | i + 1 => by
    have ih := rpsTo_len v (p := p) i
    cases h : (ringsOf g)[i]? with
    | none =>
      have e : rpsTo g p (i + 1) = rpsTo g p i := by
        unfold rpsTo
        rw [List.take_add_one, h]; simp
      rw [e, Nat.succ_mul]
      omega
    | some c =>
      obtain ⟨h1, h2⟩ := ring_len v (List.mem_of_getElem? h)
      rw [rpsTo_succ h, List.length_append, ringPairs_len' h1, Nat.succ_mul]
      omega
end Rd
set_option Elab.async false
set_option linter.all false
set_option maxRecDepth 100000
set_option maxHeartbeats 4000000
/-! the defs by their places in the top; N: the slots -/
namespace Rd
open PySem PySem.Spec PyProof.Rows L2
def topS (i : Nat) : Stmt := PySem.Challenge.pw_redolots_k34_whole_none_shorter.main.body.getD i (.Pass ⟨0, 0, 0, 0⟩)
abbrev sHome : Stmt := topS 8
abbrev NHome : List Str := ["blocks"]
abbrev PHome : List Str := ["blocks"]
theorem scHome : FnScope NHome PHome (defScope sHome) := ⟨rfl, rfl, rfl, by decide +kernel, rfl, by decide +kernel, by decide +kernel⟩
abbrev sIsIndex : Stmt := topS 10
abbrev NIsIndex : List Str := ["number", "blocks"]
abbrev PIsIndex : List Str := ["number", "blocks"]
theorem scIsIndex : FnScope NIsIndex PIsIndex (defScope sIsIndex) := ⟨rfl, rfl, rfl, by decide +kernel, rfl, by decide +kernel, by decide +kernel⟩
abbrev sCopies : Stmt := topS 12
abbrev NCopies : List Str := ["entries", "target", "source"]
abbrev PCopies : List Str := ["entries"]
theorem scCopies : FnScope NCopies PCopies (defScope sCopies) := ⟨rfl, rfl, rfl, by decide +kernel, rfl, by decide +kernel, by decide +kernel⟩
abbrev sOrig : Stmt := topS 13
abbrev NOrig : List Str := ["log", "blocks", "held", "rows", "target", "source"]
abbrev POrig : List Str := ["log", "blocks"]
theorem scOrig : FnScope NOrig POrig (defScope sOrig) := ⟨rfl, rfl, rfl, by decide +kernel, rfl, by decide +kernel, by decide +kernel⟩
abbrev sCheckG : Stmt := topS 15
abbrev NCheckG : List Str := ["goal", "at", "number"]
abbrev PCheckG : List Str := ["goal"]
theorem scCheckG : FnScope NCheckG PCheckG (defScope sCheckG) := ⟨rfl, rfl, rfl, by decide +kernel, rfl, by decide +kernel, by decide +kernel⟩
abbrev sChanged : Stmt := topS 16
abbrev NChanged : List Str := ["goal", "block", "number"]
abbrev PChanged : List Str := ["goal"]
theorem scChanged : FnScope NChanged PChanged (defScope sChanged) := ⟨rfl, rfl, rfl, by decide +kernel, rfl, by decide +kernel, by decide +kernel⟩
abbrev sMissing : Stmt := topS 18
abbrev NMissing : List Str := ["goal", "number"]
abbrev PMissing : List Str := ["goal"]
theorem scMissing : FnScope NMissing PMissing (defScope sMissing) := ⟨rfl, rfl, rfl, by decide +kernel, rfl, by decide +kernel, by decide +kernel⟩
abbrev sCheckP : Stmt := topS 19
abbrev NCheckP : List Str := ["goal"]
abbrev PCheckP : List Str := ["goal"]
theorem scCheckP : FnScope NCheckP PCheckP (defScope sCheckP) := ⟨rfl, rfl, rfl, by decide +kernel, rfl, by decide +kernel, by decide +kernel⟩
abbrev sRingFrom : Stmt := topS 20
abbrev NRingFrom : List Str := ["goal", "start", "ring", "block"]
abbrev PRingFrom : List Str := ["goal", "start"]
theorem scRingFrom : FnScope NRingFrom PRingFrom (defScope sRingFrom) := ⟨rfl, rfl, rfl, by decide +kernel, rfl, by decide +kernel, by decide +kernel⟩
abbrev sClosed : Stmt := topS 21
abbrev NClosed : List Str := ["goal", "found", "start", "ring"]
abbrev PClosed : List Str := ["goal"]
theorem scClosed : FnScope NClosed PClosed (defScope sClosed) := ⟨rfl, rfl, rfl, by decide +kernel, rfl, by decide +kernel, by decide +kernel⟩
abbrev sFewest : Stmt := topS 22
abbrev NFewest : List Str := ["goal"]
abbrev PFewest : List Str := ["goal"]
theorem scFewest : FnScope NFewest PFewest (defScope sFewest) := ⟨rfl, rfl, rfl, by decide +kernel, rfl, by decide +kernel, by decide +kernel⟩
abbrev sRingPairs : Stmt := topS 23
abbrev NRingPairs : List Str := ["ring", "spare", "found", "at"]
abbrev PRingPairs : List Str := ["ring", "spare"]
theorem scRingPairs : FnScope NRingPairs PRingPairs (defScope sRingPairs) := ⟨rfl, rfl, rfl, by decide +kernel, rfl, by decide +kernel, by decide +kernel⟩
abbrev sFree : Stmt := topS 24
abbrev NFree : List Str := ["goal", "held", "waiting", "taken", "block"]
abbrev PFree : List Str := ["goal", "held", "waiting"]
theorem scFree : FnScope NFree PFree (defScope sFree) := ⟨rfl, rfl, rfl, by decide +kernel, rfl, by decide +kernel, by decide +kernel⟩
abbrev sLeast : Stmt := topS 25
abbrev NLeast : List Str := ["goal", "missing", "entries", "ring", "held", "block", "waiting"]
abbrev PLeast : List Str := ["goal"]
theorem scLeast : FnScope NLeast PLeast (defScope sLeast) := ⟨rfl, rfl, rfl, by decide +kernel, rfl, by decide +kernel, by decide +kernel⟩
abbrev sBag : Stmt := topS 27
abbrev NBag : List Str := ["_law_script", "_law_cell", "_law_cells", "_law_seed"]
abbrev PBag : List Str := ["_law_script"]
theorem scBag : FnScope NBag PBag (defScope sBag) := ⟨rfl, rfl, rfl, by decide +kernel, rfl, by decide +kernel, by decide +kernel⟩
abbrev sTake : Stmt := topS 28
abbrev NTake : List Str := ["_law_bag_here", "_law_many", "_law_cell", "_law_digit", "_law_once", "_law_twice"]
abbrev PTake : List Str := ["_law_bag_here", "_law_many"]
theorem scTake : FnScope NTake PTake (defScope sTake) := ⟨rfl, rfl, rfl, by decide +kernel, rfl, by decide +kernel, by decide +kernel⟩
abbrev sIsNum : Stmt := topS 29
abbrev NIsNum : List Str := ["_law_told"]
abbrev PIsNum : List Str := ["_law_told"]
theorem scIsNum : FnScope NIsNum PIsNum (defScope sIsNum) := ⟨rfl, rfl, rfl, by decide +kernel, rfl, by decide +kernel, by decide +kernel⟩
abbrev sRead : Stmt := topS 30
abbrev NRead : List Str := ["_law_log", "_law_blocks", "_law_rows", "_law_line"]
abbrev PRead : List Str := ["_law_log", "_law_blocks"]
theorem scRead : FnScope NRead PRead (defScope sRead) := ⟨rfl, rfl, rfl, by decide +kernel, rfl, by decide +kernel, by decide +kernel⟩
abbrev sLeads : Stmt := topS 31
abbrev NLeads : List Str := ["_law_rows", "_law_goal", "_law_held", "_law_row", "_law_block"]
abbrev PLeads : List Str := ["_law_rows", "_law_goal"]
theorem scLeads : FnScope NLeads PLeads (defScope sLeads) := ⟨rfl, rfl, rfl, by decide +kernel, rfl, by decide +kernel, by decide +kernel⟩
abbrev sDist : Stmt := topS 32
abbrev NDist : List Str := ["_law_blocks", "_law_begin", "_law_far", "_law_level", "_law_depth", "_law_beyond", "_law_image", "_law_target", "_law_source", "_law_reached", "_law_block"]
abbrev PDist : List Str := ["_law_blocks"]
theorem scDist : FnScope NDist PDist (defScope sDist) := ⟨rfl, rfl, rfl, by decide +kernel, rfl, by decide +kernel, by decide +kernel⟩
abbrev sCall : Stmt := topS 33
abbrev NCall : List Str := ["_law_door", "_law_goal"]
abbrev PCall : List Str := ["_law_door", "_law_goal"]
theorem scCall : FnScope NCall PCall (defScope sCall) := ⟨rfl, rfl, rfl, by decide +kernel, rfl, by decide +kernel, by decide +kernel⟩
abbrev sRefused : Stmt := topS 34
abbrev NRefused : List Str := ["_law_door", "_law_goal", "raised"]
abbrev PRefused : List Str := ["_law_door", "_law_goal"]
theorem scRefused : FnScope NRefused PRefused (defScope sRefused) := ⟨rfl, rfl, rfl, by decide +kernel, rfl, by decide +kernel, by decide +kernel⟩
abbrev sGoalR : Stmt := topS 35
abbrev NGoalR : List Str := ["_law_goal", "_law_far", "_law_told", "_law_rows"]
abbrev PGoalR : List Str := ["_law_goal", "_law_far"]
theorem scGoalR : FnScope NGoalR PGoalR (defScope sGoalR) := ⟨rfl, rfl, rfl, by decide +kernel, rfl, by decide +kernel, by decide +kernel⟩
abbrev sSmallR : Stmt := topS 36
abbrev NSmallR : List Str := ["_law_bag_here", "_law_blocks", "_law_far", "_law_turn", "_law_goal", "_law_block"]
abbrev PSmallR : List Str := ["_law_bag_here", "_law_blocks"]
theorem scSmallR : FnScope NSmallR PSmallR (defScope sSmallR) := ⟨rfl, rfl, rfl, by decide +kernel, rfl, by decide +kernel, by decide +kernel⟩
abbrev sDrawn : Stmt := topS 37
abbrev NDrawn : List Str := ["_law_bag_here", "_law_blocks", "_law_many", "_law_tight", "_law_fresh", "_law_rows", "_law_turn", "_law_target", "_law_source", "_law_block"]
abbrev PDrawn : List Str := ["_law_bag_here"]
theorem scDrawn : FnScope NDrawn PDrawn (defScope sDrawn) := ⟨rfl, rfl, rfl, by decide +kernel, rfl, by decide +kernel, by decide +kernel⟩
abbrev sPrefR : Stmt := topS 38
abbrev NPrefR : List Str := ["_law_blocks", "_law_rows", "_law_held", "_law_place", "_law_told", "_law_shortest", "_law_block"]
abbrev PPrefR : List Str := ["_law_blocks", "_law_rows"]
theorem scPrefR : FnScope NPrefR PPrefR (defScope sPrefR) := ⟨rfl, rfl, rfl, by decide +kernel, rfl, by decide +kernel, by decide +kernel⟩
abbrev sLaw : Stmt := topS 39
abbrev NLaw : List Str := ["_law_script", "_law_bag_here", "_law_small", "_law_drawn"]
abbrev PLaw : List Str := ["_law_script"]
theorem scLaw : FnScope NLaw PLaw (defScope sLaw) := ⟨rfl, rfl, rfl, by decide +kernel, rfl, by decide +kernel, by decide +kernel⟩
end Rd
set_option Elab.async false
set_option linter.all false
set_option maxRecDepth 100000
set_option maxHeartbeats 4000000
/-! rules that the layer lacks: enumerate(tuple), tuple.count, an own exception without arguments, {tuple: v}, except .. as n beside other clauses -/
namespace PySem
open Sem (wp)
/-- the bare enumerate over whatever begins as the object o -/
theorem Rd_meets_enum {v : Value} {o : Obj} {G : Heap → Prop} (B : Begins v o G) :
    Meets (Builtin.«enumerate.__new__» ⟨[.type "enumerate", v], []⟩) (fun _ R s => G s.heap ∧
      R (.ok (.ret (.ref (s.heap.push o).objs.size))) { s with heap := (s.heap.push o).push { cls := .type "enumerate", data := .fields #[.none, .bool false, .ref s.heap.objs.size, rawInt 0, .none, .none] } }) :=
  .of_wp fun prog w A R s h => by
    obtain ⟨mem, gn, dr, tk, os⟩ := s
    obtain ⟨g0, fin⟩ := h
    have sub := sub_enumerate
    have it0 : ∀ {A1 : Around} {E1 : Value → Shared → Prop} {Q1 : Value → Shared → Prop}, Q1 (.ref mem.objs.size) ⟨mem.push o, gn, dr, tk, os⟩ → wpAny (model prog w) A1 (pyIter v) Q1 E1 ⟨mem, gn, dr, tk, os⟩ :=
      fun z => B.iter prog w _ _ ⟨mem, gn, dr, tk, os⟩ _ g0 z
    wp_walk using it0
    refine wpAny_stack_any fun st => wpAny_pure ?_
    split
    · rename_i k _ _ _ _ _
      cases (k == Value.type "enumerate") <;> (wp_walk using it0; exact ⟨_, rfl, fin⟩)
    · wp_walk using it0
      exact ⟨_, rfl, fin⟩
theorem Rd_call_enum {prog : Program} {w : World} {A : Around} {E : Value → Shared → Prop} {s : Shared} {v : Value} {o : Obj} {G : Heap → Prop} {Q : Value → Shared → Prop} (B : Begins v o G) (g0 : G s.heap)
    (fin : ∀ h', IsEnum h' (s.heap.objs.size + 1) s.heap.objs.size 0 .none → h'.get? s.heap.objs.size = some o → (∀ b u, s.heap.get? b = some u → h'.get? b = some u) → Q (.ref (s.heap.objs.size + 1)) { s with heap := h' })
    (tc : checkTypeCall "enumerate" ⟨[v], []⟩ = pure ()) (nc : checkBuiltinCall "enumerate.__new__" ⟨[.type "enumerate", v], []⟩ = pure ()) (ao : ∀ obj : Value, argsOk "object.__init__" ⟨[obj, v], []⟩) :
    wpAny (model prog w) A (call (.type "enumerate") [v]) Q E s := by
  have two : (s.heap.push o).objs.size = s.heap.objs.size + 1 := Heap.size_push ..
  have new := Heap.get?_push_size (s.heap.push o) (o := { cls := .type "enumerate", data := .fields #[.none, .bool false, .ref s.heap.objs.size, rawInt 0, .none, .none] }) rfl
  rw [two] at new
  refine callType_new F.called_enumerate (by decide) tc nc ao F.entry_enumerate_new (Rd_meets_enum B) ⟨g0, ?_⟩
  show _ ∧ _
  rw [two]
  exact ⟨⟨_, new, rfl⟩, fin _ new (Heap.get?_push_of_some _ (Heap.get?_push_size _ B.free)) fun b u z => Heap.get?_push_of_some _ (Heap.get?_push_of_some _ z)⟩
end PySem
namespace L2
open PySem PySem.Spec PyProof.Rows
theorem Same.sqt {K : PySem.W.Frag} {H H' : Hp} {a : Addr} {xs : List V} (e : Same H H') (h : SqT K H a xs) : SqT K H' a xs := by
  rcases h with (h | ⟨o, h⟩) | h
  · exact .inl (.inl (e _ _ h))
  · exact .inl (.inr ⟨o, e _ _ h⟩)
  · exact .inr h
/-! ### enumerate(tuple) -/
def Itet (K : PySem.W.Frag) (a : Addr) : It where
  go := fun i H => ∃ (xs : List V) (x : V), SqT K H a xs ∧ xs[i]? = some x
  yld := fun i H v H' => ∃ T x, v = .ref T ∧ H T = none ∧ H' = upd H T (.tup [.int (i : Nat), x]) ∧ ∀ xs, SqT K H a xs → xs[i]? = some x
  stop := fun i H => ∃ xs : List V, SqT K H a xs ∧ xs.length = i
structure EnT (a e it : Addr) (i : Nat) (h : Heap) : Prop where
  en : ∃ old, IsEnum h e it ((i : Nat) : Int) old
  tu : h.IsTupleIter it a i
  ne1 : e ≠ it
  ne2 : a ≠ it
  ne3 : e ≠ a
theorem turn_enumT {P : Program} {w : World} {K : PySem.W.Frag} {elts : List Expr} {kk : Nat} {tpos : Pos} (a e it : Addr) : Turn P w K (.Tuple elts kk tpos) (Itet K a) [e, it] e (EnT a e it) where
  mem := List.mem_cons_self
  obj := fun i h st b hb => by
    obtain ⟨⟨old, en⟩, ⟨o, ho, hc, hd⟩, _⟩ := st
    rcases List.mem_cons.mp hb with rfl | hb
    · exact ⟨_, en, fun v q => nomatch q⟩
    · cases List.mem_singleton.mp hb
      exact ⟨o, ho, fun v q => by rw [hd] at q; cases q⟩
  keep := fun i h h' st k => by
    obtain ⟨⟨old, en⟩, tu, n1, n2, n3⟩ := st
    exact ⟨⟨old, k e (by simp) _ en⟩, tu.at fun o q => k it (by simp) o q, n1, n2, n3⟩
  item := by
    intro X hP hw hK hc i pins s σ H E I hf st hg
    subst hP hw hK
    obtain ⟨⟨old, en⟩, tu, n1, n2, n3⟩ := st
    obtain ⟨xs, x, hq, hx⟩ := hg
    obtain ⟨its, rv, tp, _⟩ := I.tuple hq
    obtain ⟨u, hu, ru⟩ := rv.get hx
    have cold : X.A.in1.handled = none := I.ok.hd hc
    have le : e < s.heap.objs.size := Heap.lt_size en
    have li : it < s.heap.objs.size := let ⟨_, z, _⟩ := tu; Heap.lt_size z
    have il : i < its.toArray.size := by
      have := (List.getElem?_eq_some_iff.mp hu).1
      simpa using this
    refine wpAny_pyNext_enum_itemD (Draws.tuple cold it a n2 its.toArray) en ⟨tu, tp⟩ il n1 (by simp [n1, n3]) fun y h1 tk hy out st1 hT sz kp => ?_
    obtain rfl : y = u := by
      have hy' : its.toArray[i]? = some y := hy
      rw [List.getElem?_toArray, hu] at hy'
      exact (Option.some.inj hy').symm
    refine ⟨_, rfl, wpAny_letOwnedTupleGo_enum (s := { s with heap := h1, toks := tk + 1 }) out fun h2 en2 sb => ?_⟩
    have T2 : h2.get? s.heap.objs.size = some { cls := .type "tuple", data := .seq #[.int i tk, y] } := (sb.2 _ (Nat.ne_of_gt le)).trans hT
    have fresh : ObjOk X.prog X.w (upd H s.heap.objs.size (.tup [.int (i : Nat), x])) h2 s.heap.objs.size (.tup [.int (i : Nat), x]) :=
      ⟨by show 2 ≤ sizeLine; decide, [.int i tk, y], .cons ⟨_, rfl⟩ (.cons ru .nil), ⟨_, T2, rfl, _, rfl⟩⟩
    have J : Inv X pins σ (upd H s.heap.objs.size (.tup [.int (i : Nat), x])) { s with heap := h2, toks := tk + 1 } :=
      I.turnedNew (ch := [e, it]) (fun b ob hb q => (sb.2 b fun z => hb (by simp [z])).trans (kp b ob (fun z => hb (by simp [z])) (fun z => hb (by simp [z])) q)) hf (Nat.le_refl _) fresh
    refine ⟨.ref s.heap.objs.size, _, J, rfl, ⟨_, x, rfl, I.hok.fresh (Nat.le_refl _), rfl, fun ys hy => by rw [I.tuple_inj hy hq]; exact hx⟩, ⟨⟨y, ?_⟩, st1.1.at fun o q => (sb.2 it (Ne.symm n1)).trans q, n1, n2, n3⟩, fun b hb => ?_⟩
    · rw [show ((i + 1 : Nat) : Int) = (i : Int) + 1 by omega]
      exact en2
    · have lb : b < s.heap.objs.size := by
        rcases List.mem_cons.mp hb with rfl | hb
        · exact le
        · cases List.mem_singleton.mp hb
          exact li
      rw [upd_ne (Nat.ne_of_lt lb)]
      exact (hf b hb).1
  done := by
    intro X hP hw hK hc i pins s σ H E I hf st hg
    subst hP hw hK
    obtain ⟨⟨old, en⟩, tu, n1, n2, n3⟩ := st
    obtain ⟨xs, hq, hx⟩ := hg
    obtain ⟨its, rv, tp, _⟩ := I.tuple hq
    obtain ⟨f0, f1, f2, f3, f4, f5⟩ := hf it (by simp)
    have cold : X.A.in1.handled = none := I.ok.hd hc
    have ei : its.toArray.size = i := by
      have := rv.length
      rw [List.size_toArray]
      omega
    subst ei
    exact wpAny_pyNext_enum_endD (Draws.tuple cold it a n2 its.toArray) en ⟨tu, tp⟩ fun h' eb => ⟨rfl, I.turned (t' := s.toks) (fun b o hb q => eb b o hb q) f0 f1 f3 f4 f5⟩
  self := fun A i s Q E st h => by
    obtain ⟨_, en⟩ := st.en
    exact wpAny_pyIter_enum en h
def iEnumT (K : PySem.W.Frag) (ta : TA) : TI := fun σ H R => ta σ H fun vs H1 => ∃ a xs, vs = [.ref a] ∧ SqT K H1 a xs ∧ R (Itet K a) H1
theorem pi_enumT {X : Cx} {e : Expr} {ta : TA} {p pos tpos : Pos} {elts : List Expr} {kk : Nat} (hg : Gl X "enumerate") (hm : X.mg "enumerate" = none) (ha : PA X [e] ta) (hs : starEach [e] X.env = [(false, eval e X.env)] := by rfl) :
    PI X (.Tuple elts kk tpos) (.Call (.Name "enumerate" p) [e] [] pos) (iEnumT X.K ta) := by
  refine ⟨fun pins s σ H R I h => ?_⟩
  refine Call_ (ld_blt I hg hm boot_enumerate (PyProof.Rows.callWith_type1 (thn (ha.run pos pins s σ H _ I h) fun us s1 ⟨vs, H1, I1, r1, a, xs, ev, hq, q⟩ => ?_) hs rfl))
  subst ev
  obtain rfl := Vals.ref1 r1
  obtain ⟨its, rv, tp, _⟩ := I1.tuple hq
  have la : a < s1.heap.objs.size := tp.lt
  refine Rd_call_enum (begins_tuple a its.toArray) tp (fun h' en hi kp => wpAny_pyIter_enum en ?_) (F.typeCall_enumerate_1 _) (F.newCall_enumerate_1 _) fun obj => F.args_object_init_2 obj _
  have J : Inv X pins σ H1 { s1 with heap := h' } := I1.kept (t' := s1.toks) kp
  refine ⟨s1.heap.objs.size + 1, [s1.heap.objs.size + 1, s1.heap.objs.size], _, _, H1, rfl, J, turn_enumT a (s1.heap.objs.size + 1) s1.heap.objs.size, ⟨⟨.none, en⟩, ⟨_, hi, rfl, rfl⟩, Nat.succ_ne_self _, Nat.ne_of_lt la, Nat.ne_of_gt (Nat.lt_succ_of_lt la)⟩, fun b hb => ?_, q⟩
  have lb : s1.heap.objs.size ≤ b := by
    rcases List.mem_cons.mp hb with rfl | hb
    · omega
    · cases List.mem_singleton.mp hb
      exact Nat.le_refl _
  exact I1.fpOk lb (I1.hok.fresh lb)
theorem walk_enumT {K : PySem.W.Frag} {a : Addr} {xs : List V} : Walk (Itet K a) xs.length (fun H => SqT K H a xs) (YPair (fun i => some (.int (i : Nat))) (fun i => xs[i]?)) := by
  refine ⟨fun i _ hi q => ⟨xs, xs[i], q, by simp [hi]⟩, fun _ q => ⟨xs, q, rfl⟩, fun i H v H' _ q y => ?_⟩
  obtain ⟨T, x, h1, h2, h3, h4⟩ := y
  exact ⟨T, _, x, h1, h2, h3, rfl, h4 xs q⟩
/-! ### t.count(k) -/
def rCntT (K : PySem.W.Frag) : V → List V → Hp → VK → Prop := fun x xs H Q => ∃ (p : Addr) (ns : List Int) (k : Int), x = .ref p ∧ xs = [.int k] ∧ SqT K H p (ns.map V.int) ∧ Q (.int (ns.count k : Nat)) H
theorem mt_tcount {X : Cx} : MtR X "tuple.count" (rCntT X.K) := by
  intro pins s σ H x xs v us Q I rx rxs h
  obtain ⟨p, ns, k, rfl, rfl, hs, q⟩ := h
  cases rx
  obtain ⟨u, rfl, t, rfl⟩ := rxs.one
  obtain ⟨its, rv, ⟨⟨cls, dd, data, sl⟩, ho, hc, n, hd⟩, _⟩ := I.tuple hs
  have hc' : cls = .type "tuple" := hc
  have hd' : data = .seq its.toArray n := hd
  subst hc' hd'
  have hi := ints_of_vals rv
  have same := eqk_count (k := k) hi
  refine call_meets PySem.F.slot_tuple_count ⟨_, ho, rfl⟩ PySem.F.entry_tuple_count (PySem.F.args_tuple_count_2 _ _) (SeqAt.tuple_countAt p its.toArray n dd sl (.int k t) (eqk k)) ⟨ho, fun y hy => (eqk_gives hi y (by simpa using hy)).at _ _, ?_⟩
  refine ⟨.int (ns.count k : Nat), H, I.tok _, ⟨s.toks, ?_⟩, q⟩
  rw [← same]
/-! ### X(), X an own exception class without own __init__ -/
theorem pmk_own0 {X : Cx} {C : Addr} {bmB : List Value} {B newId initId : String} {x : Str} {p pos : Pos} (F : ExcBaseFacts B newId initId bmB) (q : PySem.W.excIn X.K C bmB newId = true) (gC : X.mg x = some (.ref C)) (kC : PySem.W.keepIn X.K (.ref C) = true)
    (r : Raises X (.ref C)) (hg : Gl X x) (hdb : (x == ("__debug__" : Str)) = false := by decide) : PMk X (.Call (.Name x p) [] [] pos) (fun _ H Q => Q (.ref C) none H) := by
  intro pins s σ H Q I h
  refine wpAny_Call_Name_kw (ld_glob I hg gC ?_ hdb)
  refine PySem.W.callWith_K0 I.kIn kC ?_
  obtain ⟨bm, N, nm, qn, bs, hdct, sn, sub, ab, col, dd, k0, k1, k2, k3, k5, mN, hC, hN, hni, T⟩ := exc_obj I.kIn q
  exact wpAny_call_exc_subT F T hC hN hni (fun h' e hm => mk_of I hm r h (I.hok.gone hm.new)) (Nat.zero_le _)
/-! ### {k: v}, k a tuple of ints and texts -/
def tDisp1 (tk tv : TE) : TE := fun σ H Q => ∀ p, H p = none → tk σ (upd H p (.dT [])) fun x H1 => tv σ H1 fun y H2 => H2 p = some (.dT []) ∧ ∃ (b : Addr) (ks : List Key), x = .ref b ∧ H2 b = some (.tup (ks.map kV)) ∧ Q (.ref p) (upd H2 p (.dT [(ks, y)]))
theorem pe_disp1 {X : Cx} {k v : Expr} {tk tv : TE} {pos : Pos} (hu : X.A.units + 1 < cLine) (hk : PE X k tk) (hv : PE X v tv) : PE X (.Dict [some k] [v] pos) (tDisp1 tk tv) := by
  refine ⟨fun pins s σ H Q I q => ?_⟩
  have bare := I.hok.fresh (Nat.le_refl s.heap.objs.size)
  have I1 := I.laid (a := s.heap.objs.size) (o := .dT []) (h' := s.heap.push { cls := .type "dict", data := .dict #[] }) (t' := s.toks) (fun _ _ z => Heap.get?_push_of_some _ z) (Nat.le_refl _) (dt_empty s.heap I.big)
  have shape : (evalEachOpt [some k] X.env).zip ((evalEach [v] X.env).map fun w => do let x ← w; standAt pos; pure x) = (pairTrees [some k] [v] X.env pos).map fun p => (some p.1, p.2) := zip_pairTrees _ _ _ _ rfl rfl
  have one : (pairTrees [some k] [v] X.env pos).length = 1 := pairTrees_length _ _ _ _ rfl rfl
  rw [arm_eval_Dict, shape, dictDisplay_pairs _ (fun z => by rw [z] at one; cases one) (by omega)]
  have roomy : (tupleKind (mixKind X.prog X.w)).room X.A := (show X.A.units < cLine by omega)
  refine wpAny_bind (wpAny_standAt (wpAny_bind (wpAny_subDictH (knd := tupleKind (mixKind X.prog X.w)) (Q := fun d s' => wpAny (model X.prog X.w) X.A (pure (Value.ref d)) (EP X pins σ Q) X.xe s') roomy (by omega) ?_)))
  refine pairTrees_cons_walk (thn (hk.run pins _ σ _ _ I1 (q _ bare)) fun u s1 ⟨x, H1, J1, rx, q1⟩ => thn (hv.run pins s1 σ H1 _ J1 q1) fun r s2 ⟨y, H2, J2, ry, e, b, ks, ex, eb, q2⟩ => pairTrees_nil_walk ?_)
  subst ex
  obtain rfl : u = Value.ref b := rx
  obtain ⟨_, hsys, xs, kt, dd⟩ := dt_of J2.hok e
  cases kt
  refine ⟨[(ks, b, r)], ⟨rfl, rfl, key_of J2.hok eb, trivial⟩, dd, fun h' tk dd' sb => wpAny_pure ⟨.ref s.heap.objs.size, _, ?_, rfl, q2⟩⟩
  obtain ⟨o, es, ep, ho, h2, h3, h4, _, h5⟩ := dd'
  have apart : b ≠ s.heap.objs.size := ne_of eb e fun z => nomatch z
  refine d_write J2 (by rw [e]; exact True.intro) sb ⟨o, ho⟩ ⟨(by show 1 ≤ sizeLine; decide), hsys, [(ks, b, r)], .cons ⟨rfl, (upd_ne apart).trans eb, ry⟩ .nil, o, es, ep, ho, h2, h3, h4, h5⟩
/-! ### try: .. except X as n: suite, other clauses behind it; the first clause takes all that the body lets out -/
def wTake (K : PySem.W.Frag) (c : Value) (i : Nat) (ts : Addr → Value → Option Addr → TS) (D : Ends) : WX := fun cls d σ H =>
  PySem.W.exmOne K cls c = some true ∧ ∀ a, H a = none → ts a cls d ⟨fun σ' H' => D.nx (σ'.set i none) H', D.rt, fun σ' H' => D.bk (σ'.set i none) H', fun σ' H' => D.ct (σ'.set i none) H'⟩ (σ.set i (some (.ref a))) H
theorem ps_try_take {X : Cx} {x n : Str} {c : Value} {i : Nat} {body suite : List Stmt} {first : Stmt} {more : List ExceptHandler} {np pos hpos : Pos} {tb : WX → TS} {ts : Addr → Value → Option Addr → TS}
    (stk : X.stack = X.env :: X.outer) (fr : X.env.frame = some X.env.locals) (nd : X.N.Nodup) (at_ : X.N[i]? = some n) (loc : X.env.kindOf n = some .local) (nm : Names X x c)
    (hb : ∀ (W : WX) (pn : List (Addr × Obj)) (xe : Value → Shared → Prop), Takes (X.tr pn xe) W → PassesOwn (model X.prog X.w) X.A X.env xe → PSs (X.tr pn xe) body (tb W))
    (hsu : ∀ (a : Addr) (oe : Obj) (cls : Value) (d : Option Addr) (pn : List (Addr × Obj)), Zc cls d oe → (∃ vs, oe.data = .fields vs) → PSs (X.suite a ((a, oe) :: pn)) (first :: suite) (ts a cls d)) :
    PS X (.Try body (.ExceptHandler (some (.Name x np)) (some n) (first :: suite) hpos :: more) [] [] pos) (fun D σ H => tb (wTake X.K c i ts D) D σ H) := by
  refine ⟨fun pins s σ H D I h => ?_⟩
  have all := I.ok
  have chain : X.A.frames = some (X.env :: X.outer) := by rw [all.frames, stk]
  refine wpAny_Try_except ?_
  refine wpAny_mono ((hb (wTake X.K c i ts D) (X.pn ++ pins) _ (fun u s' out => ?_) PassesOwn.looking).run [] s σ H D (I.toTry _) h) (fun f s1 z => ?_) (fun _ _ z => z)
  · obtain ⟨a, B, sI, pins', σ', H', cls, d, rfl, J0, nb, up, sky, na, os, ag, hit, suiteH⟩ := out
    have J : Inv X pins σ' H' sI := J0.ofTry all
    show wpAny (model X.prog X.w) X.A (noteFrame (.ref a) X.env) _ _ _
    refine Sky.land Zc.steady chain fr (by rw [← stk]; exact sky) fun h3 fl3 up3 => ?_
    have J3 : Inv X pins σ' H' { s' with heap := h3 } := J.landed nb fl3.1 (up.trans up3) os ag
    obtain ⟨oe3, vs3, he3, hz3, hd3⟩ := fl3.there
    have out_ : a ∉ frs (X.env :: X.outer) := fun hm => by
      obtain ⟨_, o', e', nf⟩ := fl3.2.2.1.mem hm
      rw [he3] at e'
      cases e'
      exact nf _ hd3
    have nL : a ≠ X.env.locals := fun z => out_ (List.mem_filterMap.mpr ⟨X.env, List.mem_cons_self, fr.trans (congrArg some z.symm)⟩)
    have nF : a ∉ X.fs := fun hm => by
      obtain ⟨e, he, q⟩ := List.mem_filterMap.mp hm
      exact out_ (List.mem_filterMap.mpr ⟨e, List.mem_cons_of_mem _ he, q⟩)
    have S3 := J3.suite he3 hd3 na nL nF
    refine wpAny_handleBy_cons (codeAny_handlers_test ?_) (fun z => nomatch z)
    have see : PySem.W.Looks (model X.prog X.w) h3 (typeOf (.ref a)) cls := fun A Q E s k q => wpAny_typeOf_ref (k _ _ he3) (hz3.1.symm ▸ q)
    have LM := PySem.W.exm_one (M := model X.prog X.w) J3.kIn see hit
    have name : ∀ {Q : Value → Shared → Prop} {E : Value → Shared → Prop}, Q c { s' with heap := h3 } → wpAny (model X.prog X.w) (X.A.mark (some (.ref a))) (eval (.Name x np) X.env) Q E { s' with heap := h3 } := fun {Q E} q => by
      obtain ⟨g, db, m | ⟨m, bv, un⟩⟩ := nm
      · exact ld_glob (X := X.suite a ((a, oe3) :: (X.pn ++ pins))) S3 g m q db
      · exact ld_blt (X := X.suite a ((a, oe3) :: (X.pn ++ pins))) S3 g m bv q un db
    refine name (LM.here (codeAny_handlers_suite_as (HandSPX.lands_againZ fl3 fun h4 fl4 up4 => ?_)))
    have J4 : Inv X pins σ' H' { s' with heap := h4 } := J.landed nb fl4.1 ((up.trans up3).trans up4) os ag
    obtain ⟨oe4, vs4, he4, hz4, hd4⟩ := fl4.there
    refine store_ok (X := X.suite a ((a, oe4) :: (X.pn ++ pins))) (v := .ref a) (J4.suite he4 hd4 na nL nF) nd at_ (Or.inl loc) rfl (fun s5 S5 => ?_) (.inr loc)
    refine wpAny_mono ((hsu a oe4 cls d (X.pn ++ pins) hz4 ⟨_, hd4⟩).run [] s5 _ H' _ S5 (suiteH a na)) (fun f s6 z => ?_) (fun _ _ z => False.elim z)
    cases f with
    | next =>
      obtain ⟨σ6, H6, S6, q6⟩ := z
      exact gone_ok (S6.unsuite all) nd at_ loc fun s7 J7 => ⟨_, _, J7, q6⟩
    | brk =>
      obtain ⟨σ6, H6, S6, q6⟩ := z
      exact gone_ok (S6.unsuite all) nd at_ loc fun s7 J7 => ⟨_, _, J7, q6⟩
    | cont =>
      obtain ⟨σ6, H6, S6, q6⟩ := z
      exact gone_ok (S6.unsuite all) nd at_ loc fun s7 J7 => ⟨_, _, J7, q6⟩
    | ret u =>
      obtain ⟨v6, σ6, H6, S6, r6, q6⟩ := z
      exact gone_ok (S6.unsuite all) nd at_ loc fun s7 J7 => ⟨_, _, _, J7, r6, q6⟩
  · cases f with
    | next =>
      obtain ⟨σ', H', J', q⟩ := z
      exact wpAny_execs_nil ⟨σ', H', J'.ofTry all, q⟩
    | brk =>
      obtain ⟨σ', H', J', q⟩ := z
      exact ⟨σ', H', J'.ofTry all, q⟩
    | cont =>
      obtain ⟨σ', H', J', q⟩ := z
      exact ⟨σ', H', J'.ofTry all, q⟩
    | ret u =>
      obtain ⟨v, σ', H', J', r, q⟩ := z
      exact ⟨v, σ', H', J'.ofTry all, r, q⟩
end L2
set_option Elab.async false
set_option linter.all false
set_option maxRecDepth 100000
set_option maxHeartbeats 4000000
/-! tuples without a dict of their own: made by tuple(list), their methods, keys of dicts -/
namespace L2
open PySem PySem.Spec PyProof.Rows
/-- at p stands a tuple of xs that has no dict of its own -/
def Fz (H : Hp) (p : Addr) (xs : List V) : Prop := ∃ o : Obj, H p = some (.frz o (.tup xs)) ∧ o.dict = none
theorem Fz.sqt {K : PySem.W.Frag} {H : Hp} {p : Addr} {xs : List V} (h : Fz H p xs) : SqT K H p xs := let ⟨o, e, _⟩ := h; .inl (.inr ⟨o, e⟩)
theorem Fz.same {H H' : Hp} {p : Addr} {xs : List V} (s : Same H H') (h : Fz H p xs) : Fz H' p xs := let ⟨o, e, d⟩ := h; ⟨o, s _ _ e, d⟩
theorem Fz.ne {H : Hp} {p q : Addr} {xs : List V} (h : Fz H p xs) (n : H q = none) : p ≠ q := let ⟨_, e, _⟩ := h; ne_of_none e n
section
variable {X : Cx}
/-- tuple(list), with its object -/
theorem call_tupF : CallR X (.type "tuple") (fun xs H Q => ∃ p ys, xs = [.ref p] ∧ SqL X.K H p ys ∧ ∀ (l : Addr) (o : Obj), H l = none → o.dict = none → Q (.ref l) (upd H l (.frz o (.tup ys)))) := by
  intro pins s σ H xs us Q I r h
  obtain ⟨p, ys, rfl, hs, q⟩ := h
  obtain rfl := Vals.ref1 r
  obtain ⟨its, rv, pl, hz⟩ := I.list hs
  refine call_tuple_list pl.isList (fun h' hk => ?_) (by rw [List.size_toArray, ← rv.length]; exact hz)
  have J := I.kept (t' := s.toks) hk
  have new : ObjOk X.prog X.w (upd H h'.objs.size (.frz { cls := .type "tuple", data := .seq its.toArray } (.tup ys))) (h'.push { cls := .type "tuple", data := .seq its.toArray }) h'.objs.size (.frz { cls := .type "tuple", data := .seq its.toArray } (.tup ys)) :=
    ⟨Heap.get?_push_size _ rfl, hz, its, rv, IsTup.new _ _⟩
  exact ⟨.ref h'.objs.size, _, J.laid (t' := s.toks) (fun b o e => Heap.get?_push_of_some _ e) (Nat.le_refl _) new, rfl, q _ _ (J.hok.fresh (Nat.le_refl _)) rfl⟩
theorem Inv.fz {pins : List (Addr × Obj)} {σ : St} {H : Hp} {s : Shared} {p : Addr} {xs : List V} (I : Inv X pins σ H s) (h : Fz H p xs) : ∃ ob, s.heap.get? p = some ob ∧ ob.dict = none := by
  obtain ⟨o, e, d⟩ := h
  exact ⟨o, (I.hok p _ e).1, d⟩
variable {o e i : Expr} {es : List Expr} {to td ty : TE} {t : TA} {name : Str} {apos cpos pos : Pos} {id : String} {r : V → List V → Hp → VK → Prop}
/-- t.m(e, ..) of such a tuple -/
def tBMF (r : V → List V → Hp → VK → Prop) (to : TE) (t : TA) : TE := fun σ H Q => to σ H fun x H1 => (∃ p xs, x = .ref p ∧ Fz H1 p xs) ∧ t σ H1 fun vs H2 => r x vs H2 Q
theorem pe_bmF (pa : PlainAttrs "tuple") (slot : Slot "tuple" name id) (hty : typeOf (.builtin id) = pure (.type "method_descriptor")) (hm : MtR X id r) (ho : PE X o to) (ha : PA X (e :: es) t)
    (base : attributeBase o name X.env (eval o X.env) = eval o X.env := by rfl)
    (few : ((backTo cpos (starEach (e :: es) X.env)).all (fun x => !x.1) && (backToKw cpos (keywordEach [] X.env)).all (fun x => x.1.isSome) && decide ((e :: es).length + ([] : List Keyword).length + (if ([] : List Keyword).isEmpty then 0 else 1) < 30)) = true := by rfl)
    (line : (apos.endLine == cpos.line) = true := by rfl) (star : starEach (e :: es) X.env = (false, eval e X.env) :: starEach es X.env := by rfl) (plain : (backTo cpos (starEach es X.env)).any (·.1) = false := by rfl) :
    PE X (.Call (.Attribute o name apos) (e :: es) [] cpos) (tBMF r to t) := by
  refine ⟨fun pins s σ H Q I h => ?_⟩
  refine wpAny_Call_method_late base few line rfl (thn (ho.run pins s σ H _ I h) fun v s1 ⟨x, H1, I1, r1, ⟨p, xs, ex, fz⟩, q1⟩ => ?_)
  subst ex
  obtain rfl : v = Value.ref p := r1
  obtain ⟨its, rv, tp, _⟩ := I1.tuple fz.sqt
  have isT : s1.TypeIs (.ref p) "tuple" := let ⟨ob, h1, h2, _⟩ := tp; ⟨ob, h1, h2⟩
  refine ⟨"tuple", id, pa, slot, hty, isT, fun a ea => ?_, ?_⟩
  · cases ea
    exact I1.fz fz
  · have args := ha.run cpos pins s1 σ H1 _ I1 q1
    rw [star] at args ⊢
    refine Calls.callWith_builtin (show (false || (backTo cpos (starEach es X.env)).any (·.1)) = false from by rw [plain]; rfl) (Calls.evalArgs_plain (thn args fun us s2 ⟨vs, H2, I2, r2, q2⟩ => ?_))
    exact hm pins s2 σ H2 (.ref p) vs (.ref p) us Q I2 rfl r2 q2
/-- such a tuple is a key -/
theorem key_fz {P : Program} {w : World} {H : Hp} {h : Heap} {a : Addr} {ks : List Key} (ok : HOk P w H h) (e : Fz H a (ks.map kV)) : (tupleKind (mixKind P w)).is h ks a := by
  obtain ⟨o, e, _⟩ := e
  obtain ⟨_, _, its, r, o', h1, h2, n, h3⟩ := ok a _ e
  exact ⟨o', its.toArray, n, h1, h2, h3, by simpa using items_are r⟩
def tDGetF (td ty : TE) : TE := fun σ H Q => td σ H fun x H1 => ty σ H1 fun y H2 => ∃ a b kvs k v, x = .ref a ∧ y = .ref b ∧ H2 a = some (.dT kvs) ∧ Fz H2 b (k.map kV) ∧ valV kvs k = some v ∧ Q v H2
theorem pe_dgetF (hu : X.A.units + 1 < cLine) (ho : PE X o td) (hi : PE X i ty) (hs : NoSl i) : PE X (.Subscript o i pos) (tDGetF td ty) := by
  refine ⟨fun pins s σ H Q I h => ?_⟩
  refine subD_of PySem.F.slot_dict_getitem.lookup hs (thn (ho.run pins s σ H _ I h) fun u s1 ⟨x, H1, I1, rx, q1⟩ => thn (hi.run pins s1 σ H1 _ I1 q1) fun iv s2 ⟨y, H2, I2, ry, a, b, kvs, k, v, ex, ey, hd, fz, hv, q⟩ => ?_)
  subst ex ey
  obtain rfl : u = Value.ref a := rx
  obtain rfl : iv = Value.ref b := ry
  obtain ⟨z, sys, xs, rel, dd⟩ := dt_of I2.hok hd
  obtain ⟨w', hw, rw'⟩ := RelO.some_of (v := v) (o := (atKey xs k).map (·.2)) (by rw [← hv]; exact rel.val k)
  obtain ⟨p, hp, hp2⟩ := Option.map_eq_some_iff.mp hw
  refine ⟨dd.typeIs, wpAny_getItem_heap (tupleKind_room_in1 hu) (key_fz I2.hok fz) dd hp ?_⟩
  rw [hp2]
  exact ⟨v, H2, I2.tok _, rw', q⟩
def tDNotInF (ty td : TE) : TE := fun σ H Q => ty σ H fun y H1 => td σ H1 fun x H2 => ∃ a b kvs k, x = .ref a ∧ y = .ref b ∧ H2 a = some (.dT kvs) ∧ Fz H2 b (k.map kV) ∧ Q (.bl (!(valV kvs k).isSome)) H2
theorem pc_dnotinF (hu : X.A.units + 1 < cLine) (hi : PE X i ty) (ho : PE X o td) : PC X .NotIn i o (tDNotInF ty td) := by
  refine ⟨fun pins s σ H Q I h => ?_⟩
  refine thn (hi.run pins s σ H _ I h) fun iv s1 ⟨y, H1, I1, ry, q1⟩ => thn (ho.run pins s1 σ H1 _ I1 q1) fun u s2 ⟨x, H2, I2, rx, a, b, kvs, k, ex, ey, hd, fz, q⟩ => ?_
  subst ex ey
  obtain rfl : u = Value.ref a := rx
  obtain rfl : iv = Value.ref b := ry
  obtain ⟨z, sys, xs, rel, dd⟩ := dt_of I2.hok hd
  refine wpAny_notIn_heap (tupleKind_room_in1 hu) (key_fz I2.hok fz) sys dd ?_
  have same := (rel.val k).isSome_eq
  rw [Option.isSome_map] at same
  rw [← same]
  exact ⟨.bl (!(valV kvs k).isSome), H2, I2.tok _, rfl, q⟩
end
end L2
set_option Elab.async false
set_option linter.all false
set_option maxRecDepth 100000
set_option maxHeartbeats 0
/-! the head: the top's run, what it leaves -/
namespace Rd
open PySem PySem.Spec PyProof.Rows L2
abbrev FnP (K : PySem.W.Frag) (x : Str) (st : Stmt) (f : Addr) (fd : FuncData) : Prop := FunD K x x (defArgs st) (defBody st) (defScope st) [] [] f fd
def dHome : He.DefD := ⟨("home", none), "home", "home", defArgs sHome, defBody sHome, defScope sHome, [], []⟩
def dIsIndex : He.DefD := ⟨("is_index", none), "is_index", "is_index", defArgs sIsIndex, defBody sIsIndex, defScope sIsIndex, [], []⟩
def dCopies : He.DefD := ⟨("copies", none), "copies", "copies", defArgs sCopies, defBody sCopies, defScope sCopies, [], []⟩
def dOrig : He.DefD := ⟨("origin_rows", none), "origin_rows", "origin_rows", defArgs sOrig, defBody sOrig, defScope sOrig, [], []⟩
def dCheckG : He.DefD := ⟨("check_goal", none), "check_goal", "check_goal", defArgs sCheckG, defBody sCheckG, defScope sCheckG, [], []⟩
def dChanged : He.DefD := ⟨("changed_blocks", none), "changed_blocks", "changed_blocks", defArgs sChanged, defBody sChanged, defScope sChanged, [], []⟩
def dMissing : He.DefD := ⟨("_missing", none), "_missing", "_missing", defArgs sMissing, defBody sMissing, defScope sMissing, [], []⟩
def dCheckP : He.DefD := ⟨("check_possible", none), "check_possible", "check_possible", defArgs sCheckP, defBody sCheckP, defScope sCheckP, [], []⟩
def dRingFrom : He.DefD := ⟨("_ring_from", none), "_ring_from", "_ring_from", defArgs sRingFrom, defBody sRingFrom, defScope sRingFrom, [], []⟩
def dClosed : He.DefD := ⟨("closed_rings", none), "closed_rings", "closed_rings", defArgs sClosed, defBody sClosed, defScope sClosed, [], []⟩
def dFewest : He.DefD := ⟨("fewest_copies", none), "fewest_copies", "fewest_copies", defArgs sFewest, defBody sFewest, defScope sFewest, [], []⟩
def dRingPairs : He.DefD := ⟨("_ring_pairs", none), "_ring_pairs", "_ring_pairs", defArgs sRingPairs, defBody sRingPairs, defScope sRingPairs, [], []⟩
def dFree : He.DefD := ⟨("_free_blocks", none), "_free_blocks", "_free_blocks", defArgs sFree, defBody sFree, defScope sFree, [], []⟩
def dLeast : He.DefD := ⟨("least_log", none), "least_log", "least_log", defArgs sLeast, defBody sLeast, defScope sLeast, [], []⟩
def dBag : He.DefD := ⟨("_law_bag", none), "_law_bag", "_law_bag", defArgs sBag, defBody sBag, defScope sBag, [], []⟩
def dTake : He.DefD := ⟨("_law_take", none), "_law_take", "_law_take", defArgs sTake, defBody sTake, defScope sTake, [], []⟩
def dIsNum : He.DefD := ⟨("_law_is_number", none), "_law_is_number", "_law_is_number", defArgs sIsNum, defBody sIsNum, defScope sIsNum, [], []⟩
def dRead : He.DefD := ⟨("_law_read", none), "_law_read", "_law_read", defArgs sRead, defBody sRead, defScope sRead, [], []⟩
def dLeads : He.DefD := ⟨("_law_leads", none), "_law_leads", "_law_leads", defArgs sLeads, defBody sLeads, defScope sLeads, [], []⟩
def dDist : He.DefD := ⟨("_law_distances", none), "_law_distances", "_law_distances", defArgs sDist, defBody sDist, defScope sDist, [], []⟩
def dCall : He.DefD := ⟨("_law_call", none), "_law_call", "_law_call", defArgs sCall, defBody sCall, defScope sCall, [], []⟩
def dRefused : He.DefD := ⟨("_law_refused", none), "_law_refused", "_law_refused", defArgs sRefused, defBody sRefused, defScope sRefused, [], []⟩
def dGoalR : He.DefD := ⟨("_law_goal_right", none), "_law_goal_right", "_law_goal_right", defArgs sGoalR, defBody sGoalR, defScope sGoalR, [], []⟩
def dSmallR : He.DefD := ⟨("_law_small_right", none), "_law_small_right", "_law_small_right", defArgs sSmallR, defBody sSmallR, defScope sSmallR, [], []⟩
def dDrawn : He.DefD := ⟨("_law_drawn_log", none), "_law_drawn_log", "_law_drawn_log", defArgs sDrawn, defBody sDrawn, defScope sDrawn, [], []⟩
def dPrefR : He.DefD := ⟨("_law_prefixes_right", none), "_law_prefixes_right", "_law_prefixes_right", defArgs sPrefR, defBody sPrefR, defScope sPrefR, [], []⟩
def dLaw : He.DefD := ⟨("law", none), "law", "law", defArgs sLaw, defBody sLaw, defScope sLaw, [], []⟩
def fn : List He.DefD := [dHome, dIsIndex, dCopies, dOrig, dCheckG, dChanged, dMissing, dCheckP, dRingFrom, dClosed, dFewest, dRingPairs, dFree, dLeast, dBag, dTake, dIsNum, dRead, dLeads, dDist, dCall, dRefused, dGoalR, dSmallR, dDrawn, dPrefR, dLaw]
def fa : List He.Fa := [.glo "home", .glo "is_index", .glo "copies", .glo "origin_rows", .glo "check_goal", .glo "changed_blocks", .glo "_missing", .glo "check_possible", .glo "_ring_from", .glo "closed_rings", .glo "fewest_copies", .glo "_ring_pairs", .glo "_free_blocks", .glo "least_log", .glo "_law_bag", .glo "_law_take", .glo "_law_is_number", .glo "_law_read", .glo "_law_leads", .glo "_law_distances", .glo "_law_call", .glo "_law_refused", .glo "_law_goal_right", .glo "_law_small_right", .glo "_law_drawn_log", .glo "_law_prefixes_right", .glo "law", .free "isinstance", .free "int", .free "len", .free "range", .free "tuple", .free "list", .free "enumerate", .free "str", .free "bool", .free "ValueError", .int "MOST_BLOCKS" 12, .glo "RedoError", .glo "NoLog", .glo "InvalidGoal", .glo "TooMany", .glo "NoSafeLog", .exc "NoLog", .exm "NoLog" "NoLog" true]
/-- what isinstance of a NoLog leans on -/
def exB (K : PySem.W.Frag) : Bool :=
  let D := He.ga K "NoLog"
  He.eqO (PySem.W.findIn K (.ref D) "__getattribute__") (some (some (.builtin "BaseException.__getattribute__"))) && (He.eqO (PySem.W.findIn K (.ref D) "__getattr__") (some none) && (
  PySem.W.hasDictIn K D && (He.eqO (PySem.W.findIn K (.ref D) "__class__") (some (some (.builtin "object.__class__"))) && (
  He.eqO (PySem.W.specialIn K (.builtin "object.__class__") "__get__") (some (some (.builtin "getset_descriptor.__get__"))) && (
  decide (PySem.W.takesIn K (.builtin "object.__class__") = some true) && (decide (PySem.W.mroIn K D (.type "object") = some true) && (
  decide (PySem.W.kitOne K (.ref D) (.ref (He.ga K "InvalidGoal")) = some false) && (decide (PySem.W.kitOne K (.ref D) (.ref (He.ga K "NoSafeLog")) = some false) && (
  decide (PySem.W.kitOne K (.ref D) (.ref (He.ga K "TooMany")) = some false) && (decide (PySem.W.kitOne K (.ref D) (.ref (He.ga K "RedoError")) = some true) && (
  decide (PySem.W.kitOne K (.ref D) (.type "ValueError") = some true))))))))))))
abbrev AlR : Type := He.AlD × Bool
def obsR (g : Addr → Option Obj) : AlR := (He.obsD fa fn (He.frG g (He.asD g 5)), exB (He.frG g (He.asD g 5)))
structure SaysR (K : PySem.W.Frag) : Prop where
  d : He.SaysD fa fn K
  ex : exB K = true
def hkR : PySem.W.Hook where
  α := AlR
  obs := fun s => obsR s.heap.get?
  val := fun _ => (He.valD fn, true)
  says := fun _ h => ∃ K : PySem.W.Frag, K.In h ∧ SaysR K
  of := fun _ _ e => ⟨_, He.frG_in, ⟨congrArg (fun z : AlR => z.1) e, congrArg (fun z : AlR => z.2) e⟩⟩
  keeps := fun _ _ _ ⟨K, hK, c⟩ k => ⟨K, PySem.W.Frag.In.keeps hK k, c⟩
abbrev R : PySem.W.OpenRow := PySem.W.OpenLaw.row PySem.Challenge.rw_redolots_k34_whole_none_shorter
def ob (s : PySem.W.SharedT) : AlR := obsR (HandSHeadRun.getT s)
theorem ob_eq (s : PySem.W.SharedT) : ob s = hkR.obs s.abs := by
  show obsR (HandSHeadRun.getT s) = obsR s.abs.heap.get?
  rw [show HandSHeadRun.getT s = s.abs.heap.get? from funext (HandSHeadRun.getT_eq s)]
abbrev qv : Program := PySem.W.view R.prog [39]
def looseNames : List Str := ["home", "is_index", "copies", "origin_rows", "check_goal", "changed_blocks", "_missing", "check_possible", "_ring_from", "closed_rings", "fewest_copies", "_ring_pairs", "_free_blocks", "least_log", "_law_bag", "_law_take", "_law_is_number", "_law_read", "_law_leads", "_law_distances", "_law_call", "_law_refused", "_law_goal_right", "_law_small_right", "_law_drawn_log", "_law_prefixes_right", "RedoError", "NoLog", "InvalidGoal", "TooMany", "NoSafeLog", "MOST_BLOCKS"]
theorem runR (w : World) : HandSHeadRun.RunEq R qv hkR ob 4000 looseNames w := by
  intro os
  kernel_rfl
end Rd
set_option Elab.async false
set_option linter.all false
set_option maxRecDepth 100000
set_option maxHeartbeats 4000000
/-! letters, what stands in the heap, how a def is called -/
namespace Rd
open PySem PySem.Spec PyProof.Rows L2
/-! ### lists of numbers as values -/
def zs (g : List Nat) : List Int := g.map fun k : Nat => ((k : Nat) : Int)
def iv (g : List Nat) : List V := (zs g).map V.int
theorem zs_len {g : List Nat} : (zs g).length = g.length := by simp [zs]
theorem iv_len {g : List Nat} : (iv g).length = g.length := by simp [iv, zs]
theorem iv_at {g : List Nat} {i : Nat} (h : i < g.length) : (iv g)[i]? = some (.int (At g i)) := by
  unfold iv zs
  rw [List.getElem?_map, List.getElem?_map, At_opt h]
  rfl
theorem iv_is {g : List Nat} {i : Nat} {x : V} (h : (iv g)[i]? = some x) : i < g.length ∧ x = .int (At g i) := by
  have hi : i < g.length := by
    have := (List.getElem?_eq_some_iff.mp h).1
    rw [iv_len] at this
    exact this
  rw [iv_at hi] at h
  exact ⟨hi, (Option.some.inj h).symm⟩
theorem iv_append {g h : List Nat} : iv (g ++ h) = iv g ++ iv h := by simp [iv, zs]
theorem iv_one {k : Nat} : iv [k] = [.int k] := rfl
theorem iv_nil : iv [] = [] := rfl
theorem iv_set {g : List Nat} {i k : Nat} : iv (g.set i k) = (iv g).set i (.int k) := by simp [iv, zs, List.map_set]
theorem zs_count {g : List Nat} {k : Nat} : (zs g).count (k : Int) = g.count k := by
  unfold zs
  induction g with
  | nil => rfl
  | cons a g ih =>
    rw [List.map_cons, List.count_cons, List.count_cons, ih]
    have : ((a : Int) == (k : Int)) = (a == k) := by
      rw [Bool.eq_iff_iff]; simp; omega
    rw [this]
theorem zs_mem {g : List Nat} {k : Nat} : (k : Int) ∈ zs g ↔ k ∈ g := by
  unfold zs
  rw [List.mem_map]
  constructor
  · rintro ⟨a, ha, e⟩
    have : a = k := by omega
    rw [← this]; exact ha
  · exact fun h => ⟨k, h, rfl⟩
theorem int_eq {a b : Nat} : decide (V.int (a : Int) = V.int (b : Int)) = decide (a = b) := by
  by_cases h : a = b
  · rw [h]; simp
  · rw [decide_eq_false h]
    exact decide_eq_false fun e => h (by have := V.int.inj e; omega)
theorem rgV_home {n : Nat} : rgV 0 (n : Int) = iv (home n) := by
  unfold rgV iv zs home
  rw [List.map_map]
  have : ((n : Int) - 0).toNat = n := by omega
  rw [this]
  apply List.map_congr_left
  intro i _
  show V.int (0 + (i : Int)) = V.int (i : Int)
  rw [Int.zero_add]
theorem small {n : Nat} (h : n ≤ 1000) : n ≤ sizeLine := Nat.le_of_lt (small1000 h)
theorem iv_flat {g : List Nat} : (iv g).all flatV = true := by
  rw [List.all_eq_true]
  intro x hx
  obtain ⟨z, _, rfl⟩ := List.mem_map.mp hx
  rfl
theorem inV_iv {k : Nat} {g : List Nat} : inV (.int (k : Int)) (iv g) = decide (k ∈ g) := by
  unfold inV iv zs
  rw [List.any_map, List.any_map]
  by_cases h : k ∈ g
  · rw [decide_eq_true h, List.any_eq_true]
    exact ⟨k, h, by show ((k : Int) == (k : Int)) = true; simp⟩
  · rw [decide_eq_false h, List.any_eq_false]
    intro a ha e
    have e' : ((a : Int) == (k : Int)) = true := e
    have : a = k := by have := beq_iff_eq.mp e'; omega
    exact h (this ▸ ha)
/-! ### heaps -/
theorem same_new {H : Hp} {p : Addr} {o : HO} (h : H p = none) : Same H (upd H p o) := fun b x e => (upd_ne (ne_of_none e h)).trans e
/-- all but what stands at b -/
def But (b : Addr) (H H' : Hp) : Prop := ∀ a o, a ≠ b → H a = some o → H' a = some o
theorem Same.but {H H' : Hp} (e : Same H H') {b : Addr} : But b H H' := fun a o _ h => e a o h
theorem But.refl {b : Addr} {H : Hp} : But b H H := fun _ _ _ h => h
theorem But.trans {b : Addr} {H H1 H2 : Hp} (x : But b H H1) (y : But b H1 H2) : But b H H2 := fun a o n h => y a o n (x a o n h)
/-- behind a write at an address that was new ahead of it -/
theorem But.same {b : Addr} {H0 H H' : Hp} (x : But b H H') (s : Same H0 H) (n : H0 b = none) : Same H0 H' := fun a o h => x a o (ne_of_none h n) (s a o h)
theorem but_upd {b : Addr} {H : Hp} {o : HO} : But b H (upd H b o) := fun a x n h => (upd_ne n).trans h
/-- the pairs es stand at bs -/
abbrev PairsAt (H : Hp) : List Addr → List (Nat × Nat) → Prop := Paired fun b e => H b = some (.tup [.int (e.1 : Int), .int (e.2 : Int)])
/-- the copy lines es stand at qs -/
abbrev LinesAt (H : Hp) : List Addr → List (Nat × Nat) → Prop := Paired fun b e => H b = some (.tup [.str "copy", .int (e.1 : Int), .int (e.2 : Int), .str ""])
/-- tuples of numbers -/
abbrev TupsAt (H : Hp) : List Addr → List (List Nat) → Prop := Paired fun b c => H b = some (.tup (iv c))
theorem paired_same {α : Type} {f : α → HO} {H H' : Hp} {bs : List Addr} {es : List α} (s : ∀ b o, b ∈ bs → H b = some o → H' b = some o) (p : Paired (fun b e => H b = some (f e)) bs es) : Paired (fun b e => H' b = some (f e)) bs es := by
  induction p with
  | nil => exact .nil
  | cons r t ih => exact .cons (s _ _ List.mem_cons_self r) (ih fun b o hb h => s b o (List.mem_cons_of_mem _ hb) h)
theorem PairsAt.same {H H' : Hp} {bs : List Addr} {es : List (Nat × Nat)} (s : Same H H') (p : PairsAt H bs es) : PairsAt H' bs es := paired_same (fun b o _ h => s b o h) p
theorem LinesAt.same {H H' : Hp} {bs : List Addr} {es : List (Nat × Nat)} (s : Same H H') (p : LinesAt H bs es) : LinesAt H' bs es := paired_same (fun b o _ h => s b o h) p
theorem TupsAt.same {H H' : Hp} {bs : List Addr} {es : List (List Nat)} (s : Same H H') (p : TupsAt H bs es) : TupsAt H' bs es := paired_same (f := fun c => HO.tup (iv c)) (fun b o _ h => s b o h) p
theorem paired_mem {α β : Type} {R : α → β → Prop} {l : List α} {m : List β} (p : Paired R l m) : ∀ x ∈ l, ∃ y, R x y := by
  induction p with
  | nil => intro x hx; cases hx
  | cons r t ih =>
    intro x hx
    rcases List.mem_cons.mp hx with rfl | hx
    · exact ⟨_, r⟩
    · exact ih x hx
/-- a list is none of what stands there as tuples -/
theorem paired_but {α : Type} {f : α → HO} {l : Addr} {H H' : Hp} {bs : List Addr} {es : List α} (n : ∀ e, H l ≠ some (f e)) (s : But l H H') (p : Paired (fun b e => H b = some (f e)) bs es) : Paired (fun b e => H' b = some (f e)) bs es :=
  paired_same (fun b o hb h => s b o (fun z => by
    obtain ⟨e, he⟩ := paired_mem p b hb
    exact n e (by rw [← z]; exact he)) h) p
theorem paired_get {α β : Type} {R : α → β → Prop} {l : List α} {m : List β} (p : Paired R l m) : ∀ {i : Nat} {x : α}, l[i]? = some x → ∃ y, m[i]? = some y ∧ R x y := by
  induction p with
  | nil => intro i x h; simp at h
  | cons r t ih =>
    intro i x h
    cases i with
    | zero =>
      have e := Option.some.inj h
      subst e
      exact ⟨_, rfl, r⟩
    | succ i => exact ih (i := i) (by simpa using h)
theorem paired_snoc {α β : Type} {R : α → β → Prop} {l : List α} {m : List β} (p : Paired R l m) {x : α} {y : β} (r : R x y) : Paired R (l ++ [x]) (m ++ [y]) := by
  induction p with
  | nil => exact .cons r .nil
  | cons r' t ih => exact .cons r' ih
theorem paired_append {α β : Type} {R : α → β → Prop} {l l' : List α} {m m' : List β} (p : Paired R l m) (q : Paired R l' m') : Paired R (l ++ l') (m ++ m') := by
  induction p with
  | nil => exact q
  | cons r' t ih => exact .cons r' ih
theorem take_snoc {α : Type} {l : List α} {i : Nat} {x : α} (h : l[i]? = some x) : l.take (i + 1) = l.take i ++ [x] := by
  rw [List.take_add_one, h]; rfl
theorem ref_at {bs : List Addr} {i : Nat} {x : V} (h : (bs.map V.ref)[i]? = some x) : ∃ b, bs[i]? = some b ∧ x = .ref b := by
  rw [List.getElem?_map] at h
  cases e : bs[i]? with
  | none => rw [e] at h; cases h
  | some b => rw [e] at h; exact ⟨b, rfl, (Option.some.inj h).symm⟩
theorem walk_range0 {n : Nat} : Walk (Itr 0 n) n (fun _ => True) (YFn fun i => .int (i : Nat)) :=
  (walk_range (lo := 0) (n := n)).mono (fun _ h => h) fun i H x H' _ _ y => ⟨y.1, y.2.trans (congrArg V.int (Int.zero_add _))⟩
/-! ### the built-in names -/
structure Bl (mg : Str → Option Value) : Prop where
  isi : mg "isinstance" = none
  int : mg "int" = none
  len : mg "len" = none
  range : mg "range" = none
  tuple : mg "tuple" = none
  list : mg "list" = none
  enm : mg "enumerate" = none
  str : mg "str" = none
  bool : mg "bool" = none
  most : ∃ t, mg "MOST_BLOCKS" = some (.int 12 t)
/-! ### defs -/
/-- the def x of the top -/
def Df (K : PySem.W.Frag) (mg : Str → Option Value) (x : Str) (st : Stmt) : Prop := ∃ f fd, FnP K x st f fd ∧ mg x = some (.ref f)
/-- the def x keeps the promise sp -/
def Has (P : Program) (w : World) (K : PySem.W.Frag) (mg : Str → Option Value) (base : Heap) (CX : CXT) (k : Nat) (x : Str) (ps : List Str) (sp : Sp) : Prop :=
  ∃ f fd, mg x = some (.ref f) ∧ FnOk P w K mg base CX k f fd ps sp ∧ PySem.W.keepIn K (.ref f) = true ∧ Binds K fd ps []
section
variable {P : Program} {w : World} {K : PySem.W.Frag} {mg : Str → Option Value} {base : Heap}
theorem has_of {CX : CXT} {x : Str} {st : Stmt} {N ps : List Str} {k : Nat} {sp : Sp} (d : Df K mg x st) (S : FnScope N ps (defScope st)) (len : ∀ vs H Q E, sp vs H Q E → vs.length = ps.length)
    (bn : ∀ (kV doc pm : Value) (an : Option Addr) (cdv ct : Value) (us : List Value), us.length = ps.length → bindArgs (PySem.W.fnOf x x (defArgs st) (defBody st) (defScope st) .none kV doc pm an cdv ct) ⟨us, []⟩ = pure (ps.zip us))
    (hbody : ∀ (f : Addr) (cdv : Value) (A : Around) (outer : List Env) (s : Shared) (H : Hp) (vs : List V) (Q : VK) (E : XK), Room k (A.deeper (envOfC x (defScope st) s.heap.objs.size f cdv)) → sp vs H Q E →
      ∃ t, PSs (cxOf CX P w K mg base N x (defScope st) f cdv A outer s H E) (defBody st) t ∧ t { nx := fun _ H' => Q .non H', rt := Q } (start N vs) H) : Has P w K mg base CX (k + 1) x ps sp := by
  obtain ⟨f, fd, F, g⟩ := d
  exact ⟨f, fd, g, FunD.ok F S len (hbody f), F.kp, FunD.bindsN F bn⟩
/-- .. one that raises nothing -/
theorem has_of0 {x : Str} {st : Stmt} {N ps : List Str} {k : Nat} {sp : Sp} (d : Df K mg x st) (S : FnScope N ps (defScope st)) (len : ∀ vs H Q E, sp vs H Q E → vs.length = ps.length)
    (bn : ∀ (kV doc pm : Value) (an : Option Addr) (cdv ct : Value) (us : List Value), us.length = ps.length → bindArgs (PySem.W.fnOf x x (defArgs st) (defBody st) (defScope st) .none kV doc pm an cdv ct) ⟨us, []⟩ = pure (ps.zip us))
    (hbody : ∀ (f : Addr) (cdv : Value) (A : Around) (outer : List Env) (s : Shared) (H : Hp) (vs : List V) (Q : VK) (E : XK), Room k (A.deeper (envOfC x (defScope st) s.heap.objs.size f cdv)) → sp vs H Q E →
      ∃ t, PSs (cxOf CX0 P w K mg base N x (defScope st) f cdv A outer s H E).nox (defBody st) t ∧ t { nx := fun _ H' => Q .non H', rt := Q } (start N vs) H) : Has P w K mg base CX0 (k + 1) x ps sp :=
  has_of d S len bn fun f cdv A outer s H vs Q E hr h => by
    obtain ⟨t, h1, h2⟩ := hbody f cdv A outer s H vs Q E hr h
    exact ⟨t, PSs.nox h1, h2⟩
theorem Has.mono {CX : CXT} {j k : Nat} {x : Str} {ps : List Str} {sp : Sp} (h : Has P w K mg base CX j x ps sp) (hk : j ≤ k) : Has P w K mg base CX k x ps sp := by
  obtain ⟨f, fd, g, F, kp, b⟩ := h
  exact ⟨f, fd, g, F.mono hk, kp, b⟩
end
/-! ### the promises: goals -/
def GoalOk (g : List Nat) : Prop := Valid g ∧ 1 ≤ g.length ∧ g.length ≤ 12
def spHome : Sp := fun vs H Q _ => ∃ n : Nat, vs = [.int n] ∧ n ≤ 12 ∧ ∀ p, H p = none → Q (.ref p) (upd H p (.tup (iv (home n))))
def spIsIndex : Sp := fun vs H Q _ => ∃ a b : Nat, vs = [.int a, .int b] ∧ a < b ∧ Q (.bl true) H
def spCheckG : Sp := fun vs H Q _ => ∃ p g, vs = [.ref p] ∧ Fz H p (iv g) ∧ GoalOk g ∧ ∀ H', Same H H' → Q .non H'
def spChanged : Sp := fun vs H Q _ => ∃ p g, vs = [.ref p] ∧ Fz H p (iv g) ∧ GoalOk g ∧ ∀ H' r, Same H H' → H r = none → H' r = some (.lst (iv (changed g))) → Q (.ref r) H'
def spMissing : Sp := fun vs H Q _ => ∃ p g, vs = [.ref p] ∧ Fz H p (iv g) ∧ GoalOk g ∧ ∀ H' r, Same H H' → H r = none → H' r = some (.lst (iv (missing g))) → Q (.ref r) H'
def spCheckP (C : Addr) : Sp := fun vs H Q E => ∃ p g, vs = [.ref p] ∧ Fz H p (iv g) ∧ GoalOk g ∧ (Possible g → ∀ H', Same H H' → Q .non H') ∧ (¬ Possible g → ∀ H', Same H H' → E (.ref C) none H')
def spRingFrom : Sp := fun vs H Q _ => ∃ p g r, vs = [.ref p, .int (r : Nat)] ∧ Fz H p (iv g) ∧ GoalOk g ∧ r < g.length ∧
  (∀ m, ringLen g r = some m → ∀ H' t, Same H H' → H t = none → H' t = some (.tup (iv (ringL g r m))) → Q (.ref t) H') ∧ (ringLen g r = none → ∀ H', Same H H' → Q .non H')
def spClosed : Sp := fun vs H Q _ => ∃ p g, vs = [.ref p] ∧ Fz H p (iv g) ∧ GoalOk g ∧ ∀ H' l ts, Same H H' → H l = none → H' l = some (.lst (ts.map V.ref)) → TupsAt H' ts (ringsOf g) → Q (.ref l) H'
def spFewest (C : Addr) : Sp := fun vs H Q E => ∃ p g, vs = [.ref p] ∧ Fz H p (iv g) ∧ GoalOk g ∧ (Possible g → ∀ H', Same H H' → Q (.int (fewest g : Nat)) H') ∧ (¬ Possible g → ∀ H', Same H H' → E (.ref C) none H')
def spRingPairs : Sp := fun vs H Q _ => ∃ t c p, vs = [.ref t, .int (p : Nat)] ∧ H t = some (.tup (iv c)) ∧ 2 ≤ c.length ∧ c.length ≤ 12 ∧ ∀ H' l bs, Same H H' → H l = none → H' l = some (.lst (bs.map V.ref)) → PairsAt H' bs (ringPairs c p) → Q (.ref l) H'
def spFree : Sp := fun vs H Q _ => ∃ p g h held l W, vs = [.ref p, .ref h, .ref l] ∧ Fz H p (iv g) ∧ H h = some (.lst (iv held)) ∧ H l = some (.lst (iv W)) ∧ (∀ x ∈ W, x < g.length) ∧ W.length ≤ 12 ∧ ∀ H' r, Same H H' → H r = none → H' r = some (.lst (iv (free g held W))) → Q (.ref r) H'
def spOrig : Sp := fun vs H Q _ => ∃ l bs es n, vs = [.ref l, .int (n : Nat)] ∧ H l = some (.lst (bs.map V.ref)) ∧ PairsAt H bs es ∧ (∀ e ∈ es, Okp n e) ∧ n ≤ 12 ∧ es.length ≤ 900 ∧
  ∀ H' r rs t, Same H H' → H r = none → H' r = some (.lst (rs ++ [.ref t])) → H' t = some (.tup (iv (run (home n) es))) → Q (.ref r) H'
def spLeast (C : Addr) : Sp := fun vs H Q E => ∃ p g, vs = [.ref p] ∧ Fz H p (iv g) ∧ GoalOk g ∧
  (Possible g → ∀ H' l qs es, Same H H' → H' l = some (.lst (qs.map V.ref)) → LinesAt H' qs es → (∀ e ∈ es, Okp g.length e) → run (home g.length) es = g → es.length = fewest g → Q (.ref l) H') ∧ (¬ Possible g → ∀ H', Same H H' → E (.ref C) none H')
end Rd
set_option Elab.async false
set_option linter.all false
set_option maxRecDepth 100000
set_option maxHeartbeats 4000000
namespace Rd
open PySem PySem.Spec PyProof.Rows L2
theorem ite_t {c : Bool} {A B : Prop} (h : c = true) (x : A) : if c = true then A else B := by rw [if_pos h]; exact x
theorem ite_f {c : Bool} {A B : Prop} (h : c = false) (x : B) : if c = true then A else B := by rw [h, if_neg Bool.false_ne_true]; exact x
section
variable {P : Program} {w : World} {K : PySem.W.Frag} {mg : Str → Option Value} {base : Heap}
theorem has_home (d : Df K mg "home" sHome) (B : Bl mg) : Has P w K mg base CX0 1 "home" PHome spHome := by
  refine has_of0 d scHome (fun vs H Q E h => ?_) (fun _ _ _ _ _ _ us hl => match us, hl with | [_], _ => rfl) (fun f cdv A outer s H vs Q E hr h => ?_)
  · obtain ⟨n, rfl, _⟩ := h
    rfl
  · obtain ⟨n, rfl, hn, k⟩ := h
    refine ⟨_, pss_one (ps_ret (pe_tupRg rfl rfl B.tuple (prg_1 rfl B.range (pv 0)))), ?_⟩
    refine ⟨_, rfl, n, rfl, RgOk.of_le (by omega) (by omega) (by omega) (by omega), fun q hq => ?_⟩
    rw [rgV_home]
    exact k q hq
theorem has_isIndex (d : Df K mg "is_index" sIsIndex) (B : Bl mg) : Has P w K mg base CX0 1 "is_index" PIsIndex spIsIndex := by
  refine has_of0 d scIsIndex (fun vs H Q E h => ?_) (fun _ _ _ _ _ _ us hl => match us, hl with | [_, _], _ => rfl) (fun f cdv A outer s H vs Q E hr h => ?_)
  · obtain ⟨a, b, rfl, _⟩ := h
    rfl
  · obtain ⟨a, b, rfl, hab, k⟩ := h
    refine ⟨_, pss_one (ps_ret (pe_and (pe_callB call_isi (by rfl) B.isi (by decide +kernel) (pa_cons (pv 0) (pa_cons (pe_bltn (v := .ty "int") (by rfl) B.int (by decide +kernel) rfl) pa_nil)))
      (pe_one (pe_chain op_le op_lt pe_int (pv 0) (pv 1))))), ?_⟩
    refine ⟨.int a, rfl, .int a, .ty "int", .type "int", .type "int", true, rfl, .ty _, .base (.int _), kit_ty (by decide +kernel), true, rfl, iteT ?_⟩
    refine ⟨.int a, rfl, 0, a, rfl, rfl, _, rfl, ite_t (decide_eq_true (by omega)) ⟨.int b, rfl, a, b, rfl, rfl, ?_⟩⟩
    show Q (.bl (decide ((a : Int) < b))) H
    rw [decide_eq_true (by omega : (a : Int) < b)]
    exact k
/-- the numbers of a list that a test keeps, one by one -/
theorem filter_snoc {p : Nat → Bool} {l : List Nat} {i x : Nat} (h : l[i]? = some x) : (l.take (i + 1)).filter p = (l.take i).filter p ++ (if p x = true then [x] else []) := by
  rw [take_snoc h, List.filter_append]
  congr 1
  by_cases c : p x = true
  · rw [if_pos c, List.filter_cons_of_pos c]; rfl
  · rw [if_neg c, List.filter_cons_of_neg c]; rfl
theorem range_at {n i : Nat} (h : i < n) : (List.range n)[i]? = some i := by rw [List.getElem?_eq_getElem (by simpa using h)]; simp
theorem range_take {n i : Nat} (h : i < n) : (List.range n).take i = List.range i := by rw [List.take_range]; congr 1; omega
theorem has_changed (d : Df K mg "changed_blocks" sChanged) (B : Bl mg) : Has P w K mg base CX0 1 "changed_blocks" PChanged spChanged := by
  refine has_of0 d scChanged (fun vs H Q E h => ?_) (fun _ _ _ _ _ _ us hl => match us, hl with | [_], _ => rfl) (fun f cdv A outer s H vs Q E hr h => ?_)
  · obtain ⟨p, g, rfl, _⟩ := h
    rfl
  · obtain ⟨p, g, rfl, hp, ok, k⟩ := h
    refine ⟨_, pss_one (ps_ret (pe_lc (own := [("block", 1), ("number", 2)]) (g := gTup K 2 (gCons (gName 1) (gCons (gName 2) gNil))) rfl scChanged.nd (pi_enumT rfl B.enm (pa_cons (pv 0) pa_nil)) (blkOk_by (N := NChanged) (sc := defScope sChanged) (by decide +kernel))
      (fun _ _ _ _ _ => pg_tup rfl (pgs_cons (pg_name (i := 1) scChanged.nd rfl (.inl rfl)) (pgs_cons (pg_name (i := 2) scChanged.nd rfl (.inl rfl)) pgs_nil)))
      (fun _ _ _ _ _ => pts_one (pt_cmpR op_ne (pv 2) (pv 1) (nomark _))) (fun _ _ _ _ _ => pv 1))), ?_⟩
    refine ⟨.ref p, rfl, p, iv g, rfl, hp.sqt, fun D hD => lc_it (walk_enumT (xs := iv g)) (fun i H' => Same H H' ∧ H' D = some (.lst (iv ((List.range i).filter (changedB g))))) ⟨same_new hD, upd_same⟩ (fun i H' _ ⟨s, _⟩ => (hp.same s).sqt) ?_ ?_⟩
    · rintro i x H1 H2 hi ⟨s, eD⟩ ⟨T, a, b, rfl, hT, rfl, ea, eb⟩
      obtain ⟨hi', rfl⟩ := iv_is eb
      cases ea
      have nDT : D ≠ T := ne_of_none eD hT
      refine ⟨T, _, rfl, .of upd_same, rfl, _, _, rfl, _, _, rfl, rfl, rfl, ?_⟩
      refine ⟨_, rfl, _, rfl, rfl, _, rfl, ?_⟩
      have e0 : (List.range (i + 1)).filter (changedB g) = (List.range i).filter (changedB g) ++ (if changedB g i = true then [i] else []) := by
        have := filter_snoc (p := changedB g) (range_at hi')
        rw [range_take hi'] at this
        rw [← this, List.take_range]
        congr 2
        omega
      have s2 : Same H (upd H1 T (.tup [.int (i : Nat), .int (At g i)])) := s.trans (same_new hT)
      have eD2 : (upd H1 T (.tup [.int (i : Nat), .int (At g i)])) D = some (.lst (iv ((List.range i).filter (changedB g)))) := (upd_ne nDT).trans eD
      rw [int_eq]
      refine ite2 (fun c => ?_) (fun c => ?_)
      · have c' : changedB g i = true := by unfold changedB; simpa using c
        rw [if_pos c'] at e0
        refine ⟨_, rfl, _, eD2, ?_, ?_, ?_⟩
        · rw [iv_len]
          exact small1000 (Nat.le_trans (List.length_filter_le _ _) (by rw [List.length_range]; have := ok.2.2; omega))
        · exact But.same but_upd s2 hD
        · rw [upd_same, e0, iv_append]; rfl
      · have c' : ¬ changedB g i = true := by unfold changedB; simpa using c
        rw [if_neg c', List.append_nil] at e0
        exact ⟨s2, by rw [e0]; exact eD2⟩
    · rintro H1 ⟨s, eD⟩
      rw [iv_len] at eD
      exact k H1 D s hD eD
end
end Rd
set_option Elab.async false
set_option linter.all false
set_option maxRecDepth 100000
set_option maxHeartbeats 4000000
namespace Rd
open PySem PySem.Spec PyProof.Rows L2
section
variable {P : Program} {w : World} {K : PySem.W.Frag} {mg : Str → Option Value} {base : Heap}
theorem range_filter_snoc {p : Nat → Bool} {i : Nat} : (List.range (i + 1)).filter p = (List.range i).filter p ++ (if p i = true then [i] else []) := by
  rw [List.range_succ, List.filter_append]
  congr 1
  by_cases c : p i = true
  · rw [if_pos c, List.filter_cons_of_pos c]; rfl
  · rw [if_neg c, List.filter_cons_of_neg c]; rfl
theorem filter_range_small {p : Nat → Bool} {i : Nat} (h : i ≤ 12) : (iv ((List.range i).filter p)).length < sizeLine := by
  rw [iv_len]
  exact small1000 (Nat.le_trans (List.length_filter_le _ _) (by rw [List.length_range]; omega))
theorem has_missing (d : Df K mg "_missing" sMissing) (B : Bl mg) : Has P w K mg base CX0 1 "_missing" PMissing spMissing := by
  refine has_of0 d scMissing (fun vs H Q E h => ?_) (fun _ _ _ _ _ _ us hl => match us, hl with | [_], _ => rfl) (fun f cdv A outer s H vs Q E hr h => ?_)
  · obtain ⟨p, g, rfl, _⟩ := h
    rfl
  · obtain ⟨p, g, rfl, hp, ok, k⟩ := h
    refine ⟨_, pss_one (ps_ret (pe_lc (own := [("number", 1)]) (g := gName 1) (tt := tTest (tOp (rIn K true) (tVar 1) (tVar 0))) rfl scMissing.nd (pi_range1 (by rfl) B.range (pa_cons (pe_callB call_len_seq (by rfl) B.len PySem.boot_len (pa_cons (pv 0) pa_nil)) pa_nil))
      (blkOk_by (N := NMissing) (sc := defScope sMissing) (by decide +kernel)) (fun _ _ _ _ _ => pg_name (i := 1) scMissing.nd rfl (.inl rfl)) (fun _ _ _ _ _ => pts_one (pt_cmpR op_notIn_seq (pv 1) (pv 0) (by rfl))) (fun _ _ _ _ _ => pv 1))), ?_⟩
    have hlen := ok.2.2
    refine ⟨.ref p, rfl, p, iv g, rfl, .inr (hp.sqt), (iv g).length, rfl, by rw [iv_len]; omega, by rw [iv_len]; omega, fun D hD => ?_⟩
    have en : ((iv g).length : Int).toNat = g.length := by rw [iv_len]; omega
    rw [en]
    refine lc_it (walk_range0 (n := g.length)) (fun i H' => Same H H' ∧ H' D = some (.lst (iv ((List.range i).filter (missingB g))))) ⟨same_new hD, upd_same⟩ (fun _ _ _ _ => trivial) ?_ ?_
    · rintro i x H1 H2 hi ⟨s, eD⟩ ⟨rfl, rfl⟩
      refine ⟨rfl, _, rfl, .ref p, rfl, p, iv g, rfl, .inr ((hp.same s).sqt), rfl, iv_flat, _, rfl, ?_⟩
      have e0 := range_filter_snoc (p := missingB g) (i := i)
      show if (!inV (.int (i : Int)) (iv g)) = true then _ else _
      rw [inV_iv]
      refine ite2 (fun c => ?_) (fun c => ?_)
      · have c' : missingB g i = true := by unfold missingB; simpa using c
        rw [if_pos c'] at e0
        refine ⟨_, rfl, _, eD, filter_range_small (by omega), But.same but_upd s hD, ?_⟩
        rw [upd_same, e0, iv_append]; rfl
      · have c' : ¬ missingB g i = true := by unfold missingB; simpa using c
        rw [if_neg c', List.append_nil] at e0
        exact ⟨s, by rw [e0]; exact eD⟩
    · rintro H1 ⟨s, eD⟩
      exact k H1 D s hD eD
theorem has_checkG (d : Df K mg "check_goal" sCheckG) (B : Bl mg) (hI : Has P w K mg base CX0 1 "is_index" PIsIndex spIsIndex) : Has P w K mg base CX0 2 "check_goal" PCheckG spCheckG := by
  obtain ⟨fI, fdI, gI, GI, kI, bI⟩ := hI
  obtain ⟨tm, gm⟩ := B.most
  refine has_of0 d scCheckG (fun vs H Q E h => ?_) (fun _ _ _ _ _ _ us hl => match us, hl with | [_], _ => rfl) (fun f cdv A outer s H vs Q E hr h => ?_)
  · obtain ⟨p, g, rfl, _⟩ := h
    rfl
  · obtain ⟨p, g, rfl, hp, ok, k⟩ := h
    refine ⟨_, pss_cons (ps_if (PW.pt (pw_or (pt_not (pt_val (pe_callB call_isi (by rfl) B.isi (by decide +kernel) (pa_cons (pv 0) (pa_cons (pe_bltn (v := .ty "tuple") (by rfl) B.tuple (by decide +kernel) rfl) pa_nil)))))
        (pw_or1 (pt_not (pt_chain op_le op_le pe_int (pe_callB call_len_seq (by rfl) B.len PySem.boot_len (pa_cons (pv 0) pa_nil)) (pe_glob (v := .int 12) (by rfl) gm ⟨_, rfl⟩)))))) (pss_one ps_never) pss_nil)
      (pss_one (ps_for PassesOwn.never rfl (pi_enumT (by rfl) B.enm (pa_cons (pv 0) pa_nil)) (pg_tup rfl (pgs_cons (pg_name (i := 1) scCheckG.nd rfl (.inl rfl)) (pgs_cons (pg_name (i := 2) scCheckG.nd rfl (.inl rfl)) pgs_nil)))
        (pss_one (ps_if (pt_not (pt_val (pe_call GI hr rfl gI kI bI .nil pass0 (pa_cons (pv 2) (pa_cons (pe_callB call_len_seq (by rfl) B.len PySem.boot_len (pa_cons (pv 0) pa_nil)) pa_nil))))) (pss_one ps_never) pss_nil)))), ?_⟩
    obtain ⟨va, l1, l2⟩ := ok
    refine ⟨.ref p, rfl, .ref p, .ty "tuple", .type "tuple", .type "tuple", true, rfl, .ty _, .fTuple hp.choose_spec.1, kit_ty (by decide +kernel), true, rfl, ite_f rfl ?_⟩
    refine ⟨.ref p, rfl, p, iv g, rfl, .inr (hp.sqt), 1, (iv g).length, rfl, rfl, _, rfl, ite_t (decide_eq_true (by rw [iv_len]; omega)) ⟨(iv g).length, 12, rfl, rfl, _, rfl, ?_⟩⟩
    refine ite_f (by rw [iv_len, decide_eq_true (by omega : ((g.length : Nat) : Int) ≤ 12)]; rfl) ?_
    refine ⟨.ref p, rfl, p, iv g, rfl, hp.sqt, for_it (walk_enumT (xs := iv g)) (fun i σ H' => (∃ a b, σ = [some (.ref p), a, b]) ∧ Same H H') ⟨⟨_, _, rfl⟩, Same.refl H⟩ (fun i σ H' _ ⟨_, s⟩ => (hp.same s).sqt) ?_ ?_⟩
    · rintro i x σ H1 H2 hi ⟨⟨a, b, rfl⟩, s⟩ ⟨T, u, v, rfl, hT, rfl, eu, ev⟩
      obtain ⟨hi', rfl⟩ := iv_is ev
      cases eu
      have s2 : Same H (upd H1 T (.tup [.int (i : Nat), .int (At g i)])) := s.trans (same_new hT)
      refine ⟨T, _, rfl, .of upd_same, rfl, _, _, rfl, _, _, rfl, rfl, ?_⟩
      refine ⟨_, rfl, .ref p, rfl, p, iv g, rfl, .inr ((hp.same s2).sqt), At g i, g.length, ?_, va.lt hi', ?_⟩
      · rw [iv_len]; rfl
      · exact ⟨true, rfl, ite_f rfl ⟨⟨_, _, rfl⟩, s2⟩⟩
    · rintro σ H1 ⟨_, s⟩
      exact k H1 s
end
end Rd
set_option Elab.async false
set_option linter.all false
set_option maxRecDepth 100000
set_option maxHeartbeats 4000000
namespace Rd
open PySem PySem.Spec PyProof.Rows L2
/-- what the top has written of NoLog -/
structure Nl (K : PySem.W.Frag) (mg : Str → Option Value) (C : Addr) : Prop where
  g : mg "NoLog" = some (.ref C)
  x : PySem.W.excIn K C [.type "ValueError", .type "Exception", .type "BaseException", .type "object"] "ValueError.__new__" = true
  k : PySem.W.keepIn K (.ref C) = true
  b : PySem.W.subIn K (.ref C) (.type "BaseException") = some true
  t : PySem.W.typeIn K (.ref C) = some (.type "type")
section
variable {P : Program} {w : World} {K : PySem.W.Frag} {mg : Str → Option Value} {base : Heap} {C : Addr}
theorem iv_empty {g : List Nat} : (iv g).isEmpty = g.isEmpty := by cases g <;> rfl
theorem has_checkP (d : Df K mg "check_possible" sCheckP) (B : Bl mg) (N : Nl K mg C) (hG : Has P w K mg base CX0 2 "check_goal" PCheckG spCheckG) (hC : Has P w K mg base CX0 1 "changed_blocks" PChanged spChanged)
    (hM : Has P w K mg base CX0 1 "_missing" PMissing spMissing) : Has P w K mg base (L2.CX P w) 3 "check_possible" PCheckP (spCheckP C) := by
  obtain ⟨fG, fdG, gG, GG, kG, bG⟩ := hG
  obtain ⟨fC, fdC, gC, GC, kC, bC⟩ := hC
  obtain ⟨fM, fdM, gM, GM, kM, bM⟩ := hM
  refine has_of d scCheckP (fun vs H Q E h => ?_) (fun _ _ _ _ _ _ us hl => match us, hl with | [_], _ => rfl) (fun f cdv A outer s H vs Q E hr h => ?_)
  · obtain ⟨p, g, rfl, _⟩ := h
    rfl
  · obtain ⟨p, g, rfl, hp, ok, k1, k2⟩ := h
    refine ⟨_, pss_cons (ps_expr (pe_call GG hr rfl gG kG bG .nil pass0 (pa_cons (pv 0) pa_nil)))
      (pss_one (ps_if (PW.pt (pw_and (pt_truth (pe_call GC (hr.mono (by decide)) rfl gC kC bC .nil pass0 (pa_cons (pv 0) pa_nil)) (fun _ => rfl)) (pw_and1 (pt_not (pt_truth (pe_call GM (hr.mono (by decide)) rfl gM kM bM .nil pass0 (pa_cons (pv 0) pa_nil)) (fun _ => rfl))))))
        (pss_one (ps_raise rfl (takes_of rfl rfl rfl rfl) (pmk_own0 PySem.F.excBase_ValueError N.x N.g N.k (raises_own N.b N.t) rfl))) pss_nil)), ?_⟩
    refine ⟨_, rfl, p, g, rfl, hp, ok, fun H1 s1 => ?_⟩
    refine ⟨_, rfl, p, g, rfl, hp.same s1, ok, fun H2 r s2 nr er => ⟨_, .inl ⟨_, .of er, rfl⟩, ?_⟩⟩
    rw [iv_empty]
    have s12 := s1.trans s2
    by_cases c : changed g = []
    · rw [c]
      exact ite_f rfl (ite_f rfl (k1 (.inl c) H2 s12))
    · have c' : (!(changed g).isEmpty) = true := by cases h : changed g with
        | nil => exact absurd h c
        | cons a l => rfl
      refine ite_t c' ⟨_, rfl, p, g, rfl, hp.same s12, ok, fun H3 r3 s3 nr3 er3 => ⟨_, .inl ⟨_, .of er3, rfl⟩, ?_⟩⟩
      rw [iv_empty]
      have s123 := s12.trans s3
      by_cases m : missing g = []
      · rw [m]
        exact ite_t rfl (k2 (fun z => z.elim c fun q => q m) H3 s123)
      · refine ite_f (by cases h : missing g with
          | nil => exact absurd h m
          | cons a l => rfl) (k1 (.inr m) H3 s123)
theorem has_ringFrom (d : Df K mg "_ring_from" sRingFrom) (B : Bl mg) : Has P w K mg base CX0 1 "_ring_from" PRingFrom spRingFrom := by
  refine has_of0 d scRingFrom (fun vs H Q E h => ?_) (fun _ _ _ _ _ _ us hl => match us, hl with | [_, _], _ => rfl) (fun f cdv A outer s H vs Q E hr h => ?_)
  · obtain ⟨p, g, r, rfl, _⟩ := h
    rfl
  · obtain ⟨p, g, r, rfl, hp, ok, hlt, k1, k2⟩ := h
    refine ⟨_, pss_cons (ps_set (i := 2) scRingFrom.nd rfl (.inl rfl) (pe_lst (pa_cons (pv 1) pa_nil)))
      (pss_cons (ps_set (i := 3) scRingFrom.nd rfl (.inl rfl) (pe_ix ix_tup (pv 0) (pv 1) (fun _ _ => rfl)))
      (pss_cons (ps_while PassesOwn.never (PW.pt (pw_and (pt_cmpR op_gt (pv 3) (pv 1) (nomark _)) (pw_and1 (pt_cmpR op_eq (pe_bmF PySem.F.plainAttrs_tuple PySem.F.slot_tuple_count PySem.F.type_tuple_count mt_tcount (pv 0) (pa_cons (pv 3) pa_nil)) pe_int (nomark _)))))
        (pss_cons (ps_expr (pe_bm PySem.F.plainAttrs_list PySem.F.slot_list_append PySem.F.type_list_append mt_append (pv 2) (pa_cons (pv 3) pa_nil)))
        (pss_one (ps_set (i := 3) scRingFrom.nd rfl (.inl rfl) (pe_ix ix_tup (pv 0) (pv 3) (fun _ _ => rfl))))))
      (pss_cons (ps_if (PW.pt (pw_and (pt_cmpR op_eq (pv 3) (pv 1) (nomark _)) (pw_and (pt_cmpR op_gt (pe_callB call_len_seq (by rfl) B.len PySem.boot_len (pa_cons (pv 2) pa_nil)) pe_int (nomark _))
          (pw_and1 (pt_cmpR op_eq (pe_bmF PySem.F.plainAttrs_tuple PySem.F.slot_tuple_count PySem.F.type_tuple_count mt_tcount (pv 0) (pa_cons (pv 1) pa_nil)) pe_int (nomark _))))))
        (pss_one (ps_ret (pe_callTy call_tuple_of (by rfl) B.tuple (by decide +kernel) (pa_cons (pv 2) pa_nil)))) pss_nil)
      (pss_one (ps_ret pe_non))))), ?_⟩
    obtain ⟨va, l1, l2⟩ := ok
    refine ⟨_, rfl, small (by show 1 ≤ 1000; decide), fun D hD => ?_⟩
    have npD : p ≠ D := hp.ne hD
    have s0 : Same H (upd H D (.lst [.int (r : Nat)])) := same_new hD
    refine ⟨_, rfl, _, rfl, p, iv g, r, .int (At g r), rfl, rfl, (hp.same s0).sqt, atI_nat (iv_at hlt), ?_⟩
    -- the way: k blocks in the ring, the next one at hand
    refine ⟨fun m σ H' => ∃ k, m = g.length + 1 - k ∧ σ = [some (.ref p), some (.int (r : Nat)), some (.ref D), some (.int (iter g k r : Nat))] ∧ Same H H' ∧ H' D = some (.lst (iv (ringL g r k))) ∧ Way g r k,
      ⟨_, 1, rfl, rfl, s0, by rw [upd_same]; rfl, way1 hlt⟩, ?_⟩
    rintro m σ H1 ⟨k, rfl, rfl, s1, eD, W⟩
    have hle := W.le va
    have hil : iter g k r < g.length := va.iter hlt k
    refine ⟨_, rfl, _, rfl, (iter g k r : Nat), (r : Nat), rfl, rfl, _, rfl, ?_⟩
    -- what stands behind the loop
    have after : (ringLen g r = if iter g k r = r ∧ 1 < k ∧ g.count r = 1 then some k else none) → tSeq (tIfS (tAnd (tTest (tOp rEq (tVar 3) (tVar 1))) (tAnd (tTest (tOp (rI0 fun i j => .bl (decide (j < i))) (tCB (fun xs H Q => ∃ p ys, xs = [.ref p] ∧ (SqL K H p ys ∨ SqT K H p ys) ∧ Q (.int ys.length) H) (tCons (tVar 2) tNil)) (tC (.int 1))))
        (tTest (tOp rEq (tBMF (rCntT K) (tVar 0) (tCons (tVar 1) tNil)) (tC (.int 1)))))) (tRet (tCB (fun xs H Q => ∃ p ys, xs = [.ref p] ∧ ((SqL K H p ys ∧ ∀ l, H l = none → Q (.ref l) (upd H l (.tup ys))) ∨ (SqT K H p ys ∧ Q (.ref p) H))) (tCons (tVar 2) tNil))) tNext) (tRet (tC .non))
        { nx := fun _ H' => Q .non H', rt := Q } [some (.ref p), some (.int (r : Nat)), some (.ref D), some (.int (iter g k r : Nat))] H1 := fun er => by
      refine ⟨_, rfl, _, rfl, rfl, _, rfl, ?_⟩
      rw [int_eq]
      by_cases c1 : iter g k r = r
      · refine ite_t (decide_eq_true c1) ⟨_, rfl, D, iv (ringL g r k), rfl, .inl (.of eD), (k : Nat), 1, ?_, rfl, _, rfl, ?_⟩
        · rw [iv_len, ringL_len]
        · by_cases c2 : 1 < k
          · refine ite_t (decide_eq_true (by omega)) ⟨_, rfl, ⟨p, _, rfl, hp.same s1⟩, _, rfl, p, zs g, (r : Nat), rfl, rfl, (hp.same s1).sqt, rfl, _, rfl, ?_⟩
            rw [zs_count]
            by_cases c3 : g.count r = 1
            · refine ite_t (by rw [c3]; rfl) ⟨_, rfl, D, iv (ringL g r k), rfl, .inl ⟨.of eD, fun l hl => ?_⟩⟩
              rw [if_pos ⟨c1, c2, c3⟩] at er
              exact k1 k er _ l (s1.trans (same_new hl)) (s1.free hl) upd_same
            · refine ite_f (decide_eq_false fun z => c3 (by have := V.int.inj z; omega)) ?_
              rw [if_neg fun z => c3 z.2.2] at er
              exact k2 er H1 s1
          · refine ite_f (decide_eq_false (by omega)) ?_
            rw [if_neg fun z => c2 z.2.1] at er
            exact ite_f rfl (k2 er H1 s1)
      · refine ite_f (decide_eq_false c1) ?_
        rw [if_neg fun z => c1 z.1] at er
        exact ite_f rfl (k2 er H1 s1)
    have stop : ¬ (r < iter g k r ∧ g.count (iter g k r) = 1) → ringLen g r = if iter g k r = r ∧ 1 < k ∧ g.count r = 1 then some k else none := fun z => by
      by_cases c : iter g k r = r ∧ 1 < k ∧ g.count r = 1
      · rw [if_pos c]; exact W.ring va c.1 c.2.1 c.2.2
      · rw [if_neg c]; exact W.noring va z c
    by_cases c1 : r < iter g k r
    · refine ite_t (decide_eq_true (by omega)) ⟨_, rfl, ⟨p, _, rfl, hp.same s1⟩, _, rfl, p, zs g, (iter g k r : Nat), rfl, rfl, (hp.same s1).sqt, rfl, _, rfl, ?_⟩
      rw [zs_count]
      by_cases c2 : g.count (iter g k r) = 1
      · refine ite_t (by rw [c2]; rfl) ?_
        have W2 := W.more c1 c2
        have hle2 := W2.le va
        refine ⟨fun σ H' => σ = [some (.ref p), some (.int (r : Nat)), some (.ref D), some (.int (iter g (k + 1) r : Nat))] ∧ Same H H' ∧ H' D = some (.lst (iv (ringL g r (k + 1)))), fun σ' H' ⟨e1, e2, e3⟩ => ⟨g.length + 1 - (k + 1), by omega, k + 1, rfl, e1, e2, e3, W2⟩, ?_⟩
        refine ⟨_, rfl, .inl ⟨rfl, _, .of eD⟩, _, rfl, D, _, _, rfl, rfl, eD, ?_, ?_⟩
        · rw [iv_len, ringL_len]
          exact small1000 (by omega)
        · have s2 : Same H (upd H1 D (.lst (iv (ringL g r k) ++ [.int (iter g k r : Nat)]))) := But.same but_upd s1 hD
          refine ⟨_, rfl, _, rfl, p, iv g, (iter g k r : Nat), .int (At g (iter g k r)), rfl, rfl, (hp.same s2).sqt, atI_nat (iv_at hil), rfl, s2, ?_⟩
          rw [upd_same, ringL_succ, iv_append]; rfl
      · exact ite_f (decide_eq_false fun z => c2 (by have := V.int.inj z; omega)) (after (stop fun z => c2 z.2))
    · exact ite_f (decide_eq_false (by omega)) (ite_f rfl (after (stop fun z => c1 z.1)))
end
end Rd
set_option Elab.async false
set_option linter.all false
set_option maxRecDepth 100000
set_option maxHeartbeats 4000000
namespace Rd
open PySem PySem.Spec PyProof.Rows L2
def ringsTo (g : List Nat) (k : Nat) : List (List Nat) := (List.range k).filterMap fun r => (ringLen g r).map (ringL g r)
theorem ringsTo_none {g : List Nat} {k : Nat} (h : ringLen g k = none) : ringsTo g (k + 1) = ringsTo g k := by
  unfold ringsTo
  rw [List.range_succ, List.filterMap_append]
  simp [h]
theorem ringsTo_some {g : List Nat} {k m : Nat} (h : ringLen g k = some m) : ringsTo g (k + 1) = ringsTo g k ++ [ringL g k m] := by
  unfold ringsTo
  rw [List.range_succ, List.filterMap_append]
  simp [h]
theorem ringsTo_len {g : List Nat} : ∀ k, (ringsTo g k).length ≤ k
  | 0 => Nat.le_refl _
  | k + 1 => by
    have ih := ringsTo_len (g := g) k
    cases h : ringLen g k with
    | none => rw [ringsTo_none h]; omega
    | some m => rw [ringsTo_some h, List.length_append, List.length_singleton]; omega
theorem ringsOf_len {g : List Nat} (v : Valid g) : (ringsOf g).length = rings g := by
  have key : ∀ k, (ringsTo g k).length = (List.range k).countP (hasRing g) := by
    intro k
    induction k with
    | zero => rfl
    | succ k ih =>
      rw [List.range_succ, List.countP_append, ← ih]
      cases h : ringLen g k with
      | none =>
        have : hasRing g k = false := by unfold hasRing; rw [h]; rfl
        rw [ringsTo_none h]; simp [this]
      | some m =>
        have : hasRing g k = true := by unfold hasRing; rw [h]; rfl
        rw [ringsTo_some h]; simp [this]
  exact key g.length
section
variable {P : Program} {w : World} {K : PySem.W.Frag} {mg : Str → Option Value} {base : Heap} {C : Addr}
theorem len_refs {ts : List Addr} : (ts.map V.ref).length = ts.length := List.length_map _
theorem paired_len {α β : Type} {R : α → β → Prop} {l : List α} {m : List β} (p : Paired R l m) : l.length = m.length := by
  induction p with
  | nil => rfl
  | cons _ _ ih => rw [List.length_cons, List.length_cons, ih]
theorem has_closed (d : Df K mg "closed_rings" sClosed) (B : Bl mg) (hG : Has P w K mg base CX0 2 "check_goal" PCheckG spCheckG) (hR : Has P w K mg base CX0 1 "_ring_from" PRingFrom spRingFrom) :
    Has P w K mg base CX0 3 "closed_rings" PClosed spClosed := by
  obtain ⟨fG, fdG, gG, GG, kG, bG⟩ := hG
  obtain ⟨fR, fdR, gR, GR, kR, bR⟩ := hR
  refine has_of0 d scClosed (fun vs H Q E h => ?_) (fun _ _ _ _ _ _ us hl => match us, hl with | [_], _ => rfl) (fun f cdv A outer s H vs Q E hr h => ?_)
  · obtain ⟨p, g, rfl, _⟩ := h
    rfl
  · obtain ⟨p, g, rfl, hp, ok, k⟩ := h
    refine ⟨_, pss_cons (ps_expr (pe_call GG hr rfl gG kG bG .nil pass0 (pa_cons (pv 0) pa_nil)))
      (pss_cons (ps_set (i := 1) scClosed.nd rfl (.inl rfl) (pe_lst pa_nil))
      (pss_cons (ps_for PassesOwn.never rfl (pi_range1 (by rfl) B.range (pa_cons (pe_callB call_len_seq (by rfl) B.len PySem.boot_len (pa_cons (pv 0) pa_nil)) pa_nil)) (pg_name (i := 2) scClosed.nd rfl (.inl rfl))
        (pss_cons (ps_set (i := 3) scClosed.nd rfl (.inl rfl) (pe_call GR (hr.mono (by decide)) rfl gR kR bR .nil pass0 (pa_cons (pv 0) (pa_cons (pv 2) pa_nil))))
        (pss_one (ps_if (pt_cmp (pc_notN (pv 3))) (pss_one (ps_expr (pe_bm PySem.F.plainAttrs_list PySem.F.slot_list_append PySem.F.type_list_append mt_append (pv 1) (pa_cons (pv 3) pa_nil)))) pss_nil))))
      (pss_one (ps_ret (pv 1))))), ?_⟩
    obtain ⟨va, l1, l2⟩ := id ok
    refine ⟨_, rfl, p, g, rfl, hp, ok, fun H1 s1 => ?_⟩
    refine ⟨small (by show 0 ≤ 1000; decide), fun D hD => ?_⟩
    have nD : H D = none := s1.free hD
    have s2 : Same H (upd H1 D (.lst [])) := s1.trans (same_new hD)
    refine ⟨_, rfl, p, iv g, rfl, .inr (hp.same s2).sqt, (iv g).length, rfl, by rw [iv_len]; omega, by rw [iv_len]; omega, ?_⟩
    rw [show ((iv g).length : Int).toNat = g.length by rw [iv_len]; omega]
    refine for_it (walk_range0 (n := g.length)) (fun i σ H' => (∃ a b, σ = [some (.ref p), some (.ref D), a, b]) ∧ Same H H' ∧ ∃ ts, H' D = some (.lst (ts.map V.ref)) ∧ TupsAt H' ts (ringsTo g i)) ⟨⟨_, _, rfl⟩, s2, [], upd_same, .nil⟩ (fun _ _ _ _ _ => trivial) ?_ ?_
    · rintro i x σ H2 H3 hi ⟨⟨a, b, rfl⟩, s3, ts, eD, tt⟩ ⟨rfl, rfl⟩
      have hts : ts.length ≤ 12 := by rw [paired_len tt]; exact Nat.le_trans (ringsTo_len i) (by omega)
      refine ⟨_, rfl, _, rfl, p, g, i, rfl, hp.same s3, ok, hi, fun m er H4 t s4 nt et => ?_, fun er H4 s4 => ?_⟩
      · have eD4 := s4 _ _ eD
        have ntD : t ≠ D := ne_of et eD4 fun z => nomatch z
        refine ⟨_, rfl, _, rfl, ?_⟩
        refine ite_t rfl ⟨_, rfl, .inl ⟨rfl, _, .of eD4⟩, _, rfl, D, _, _, rfl, rfl, eD4, ?_, ?_⟩
        · rw [len_refs]; exact small1000 (by omega)
        · refine ⟨⟨_, _, rfl⟩, But.same but_upd (s3.trans s4) nD, ts ++ [t], by rw [upd_same]; simp, ?_⟩
          rw [ringsTo_some er]
          refine paired_append (paired_but (f := fun c => HO.tup (iv c)) (fun e z => by rw [eD4] at z; cases z) but_upd (tt.same s4)) (.cons ?_ .nil)
          rw [upd_ne ntD]; exact et
      · refine ⟨_, rfl, _, rfl, ?_⟩
        refine ite_f rfl ⟨⟨_, _, rfl⟩, s3.trans s4, ts, s4 _ _ eD, ?_⟩
        rw [ringsTo_none er]
        exact tt.same s4
    · rintro σ H2 ⟨⟨a, b, rfl⟩, s3, ts, eD, tt⟩
      exact ⟨_, rfl, k H2 D ts s3 nD eD tt⟩
theorem has_fewest (d : Df K mg "fewest_copies" sFewest) (B : Bl mg) (hP : Has P w K mg base (L2.CX P w) 3 "check_possible" PCheckP (spCheckP C)) (hC : Has P w K mg base CX0 1 "changed_blocks" PChanged spChanged) (hR : Has P w K mg base CX0 3 "closed_rings" PClosed spClosed) :
    Has P w K mg base (L2.CX P w) 4 "fewest_copies" PFewest (spFewest C) := by
  obtain ⟨fP, fdP, gP, GP, kP, bP⟩ := hP
  obtain ⟨fC, fdC, gC, GC, kC, bC⟩ := hC
  obtain ⟨fR, fdR, gR, GR, kR, bR⟩ := hR
  refine has_of d scFewest (fun vs H Q E h => ?_) (fun _ _ _ _ _ _ us hl => match us, hl with | [_], _ => rfl) (fun f cdv A outer s H vs Q E hr h => ?_)
  · obtain ⟨p, g, rfl, _⟩ := h
    rfl
  · obtain ⟨p, g, rfl, hp, ok, k1, k2⟩ := h
    refine ⟨_, pss_cons (ps_expr (pe_call GP hr rfl gP kP bP .nil (passes_call (takes_of rfl rfl rfl rfl) (fun _ _ _ _ h => h)) (pa_cons (pv 0) pa_nil)))
      (PSs.nox (pss_one (ps_ret (pe_op op_add (pe_callB call_len_seq (by rfl) B.len PySem.boot_len (pa_cons (pe_call GC (hr.mono (by decide)) rfl gC kC bC .nil pass0 (pa_cons (pv 0) pa_nil)) pa_nil))
        (pe_callB call_len_seq (by rfl) B.len PySem.boot_len (pa_cons (pe_call GR hr rfl gR kR bR .nil pass0 (pa_cons (pv 0) pa_nil)) pa_nil)))))), ?_⟩
    refine ⟨_, rfl, p, g, rfl, hp, ok, fun po H1 s1 => ?_, k2⟩
    refine ⟨_, rfl, p, g, rfl, hp.same s1, ok, fun H2 r s2 nr er => ⟨r, _, rfl, .inl (.of er), ?_⟩⟩
    have s12 := s1.trans s2
    refine ⟨_, rfl, p, g, rfl, hp.same s12, ok, fun H3 l ts s3 nl el tt => ⟨l, _, rfl, .inl (.of el), (iv (changed g)).length, (ts.map V.ref).length, rfl, rfl, ?_⟩⟩
    have e : (((iv (changed g)).length : Int) + ((ts.map V.ref).length : Int)) = ((fewest g : Nat) : Int) := by
      rw [iv_len, len_refs, paired_len tt, ringsOf_len ok.1]
      unfold fewest
      omega
    show Q (.int (((iv (changed g)).length : Int) + ((ts.map V.ref).length : Int))) H3
    rw [e]
    exact k1 po H3 (s12.trans s3)
end
end Rd
set_option Elab.async false
set_option linter.all false
set_option maxRecDepth 100000
set_option maxHeartbeats 4000000
namespace Rd
open PySem PySem.Spec PyProof.Rows L2
theorem iv_last {c : List Nat} (h : 1 ≤ c.length) : atI (iv c) (-1) = some (.int (At c (c.length - 1) : Nat)) := by
  have hne : c ≠ [] := fun z => by rw [z] at h; cases h
  have e : iv c = iv c.dropLast ++ [.int (At c (c.length - 1) : Nat)] := by
    rw [← iv_one, ← iv_append]
    congr 1
    rw [At_lt (by omega)]
    rw [← List.getLast_eq_getElem hne, List.dropLast_concat_getLast]
  rw [e]
  exact atI_last _ _
/-- the pairs of a ring, the first i copies along it -/
def rpTo (c : List Nat) (p i : Nat) : List (Nat × Nat) := (p, At c 0) :: (List.range i).map fun j => (At c j, At c (j + 1))
theorem rpTo_succ {c : List Nat} {p i : Nat} : rpTo c p (i + 1) = rpTo c p i ++ [(At c i, At c (i + 1))] := by
  unfold rpTo
  rw [List.range_succ, List.map_append]; rfl
theorem rpTo_len {c : List Nat} {p i : Nat} : (rpTo c p i).length = i + 1 := by simp [rpTo]
section
variable {P : Program} {w : World} {K : PySem.W.Frag} {mg : Str → Option Value} {base : Heap} {C : Addr}
theorem has_ringPairs (d : Df K mg "_ring_pairs" sRingPairs) (B : Bl mg) : Has P w K mg base CX0 1 "_ring_pairs" PRingPairs spRingPairs := by
  refine has_of0 d scRingPairs (fun vs H Q E h => ?_) (fun _ _ _ _ _ _ us hl => match us, hl with | [_, _], _ => rfl) (fun f cdv A outer s H vs Q E hr h => ?_)
  · obtain ⟨t, c, p, rfl, _⟩ := h
    rfl
  · obtain ⟨t, c, p, rfl, ht, l1, l2, k⟩ := h
    refine ⟨_, pss_cons (ps_set (i := 2) scRingPairs.nd rfl (.inl rfl) (pe_lst (pa_cons (pe_tup (pa_cons (pv 1) (pa_cons (pe_ix ix_tup (pv 0) pe_int (fun _ _ => rfl)) pa_nil))) pa_nil)))
      (pss_cons (ps_for PassesOwn.never rfl (pi_range2 (by rfl) B.range (pa_cons pe_int (pa_cons (pe_callB call_len_seq (by rfl) B.len PySem.boot_len (pa_cons (pv 0) pa_nil)) pa_nil))) (pg_name (i := 3) scRingPairs.nd rfl (.inl rfl))
        (pss_one (ps_expr (pe_bm PySem.F.plainAttrs_list PySem.F.slot_list_append PySem.F.type_list_append mt_append (pv 2) (pa_cons (pe_tup (pa_cons (pe_ix ix_tup (pv 0) (pe_op op_sub (pv 3) pe_int) (fun _ _ => rfl)) (pa_cons (pe_ix ix_tup (pv 0) (pv 3) (fun _ _ => rfl)) pa_nil))) pa_nil)))))
      (pss_cons (ps_expr (pe_bm PySem.F.plainAttrs_list PySem.F.slot_list_append PySem.F.type_list_append mt_append (pv 2) (pa_cons (pe_tup (pa_cons (pe_ix ix_tup (pv 0) (pe_un un_neg pe_int) (fun _ _ => rfl)) (pa_cons (pv 1) pa_nil))) pa_nil)))
      (pss_one (ps_ret (pv 2))))), ?_⟩
    refine ⟨_, rfl, _, rfl, t, iv c, 0, .int (At c 0), rfl, rfl, .of ht, atI_nat (j := 0) (iv_at (by omega)), (by show 2 ≤ sizeLine; decide), fun u hu => ⟨(by show 1 ≤ sizeLine; decide), fun D hD => ?_⟩⟩
    have s0 : Same H (upd (upd H u (.tup [.int (p : Nat), .int (At c 0)])) D (.lst [.ref u])) := (same_new hu).trans (same_new hD)
    have nuD : u ≠ D := ne_of_none upd_same hD
    have nD : H D = none := (same_new hu).free hD
    refine ⟨_, rfl, t, iv c, rfl, .inr (.of (s0 _ _ ht)), 1, (iv c).length, rfl, ⟨by omega, by omega, by rw [iv_len]; omega, by rw [iv_len]; omega⟩, ?_⟩
    rw [show ((iv c).length - (1 : Int)).toNat = c.length - 1 by rw [iv_len]; omega]
    refine for_it (walk_range (lo := 1) (n := c.length - 1)) (fun i σ H' => (∃ a, σ = [some (.ref t), some (.int (p : Nat)), some (.ref D), a]) ∧ Same H H' ∧ ∃ bs, H' D = some (.lst (bs.map V.ref)) ∧ PairsAt H' bs (rpTo c p i)) ⟨⟨_, rfl⟩, s0, [u], upd_same, .cons ((upd_ne nuD).trans upd_same) .nil⟩ (fun _ _ _ _ _ => trivial) ?_ ?_
    · rintro i x σ H1 H2 hi ⟨⟨a, rfl⟩, s1, bs, eD, pp⟩ ⟨rfl, rfl⟩
      have hbs : bs.length ≤ 13 := by rw [paired_len pp, rpTo_len]; omega
      refine ⟨_, rfl, .inl ⟨rfl, _, .of eD⟩, _, rfl, _, rfl, 1 + (i : Int), 1, rfl, rfl, t, iv c, 1 + (i : Int) - 1, .int (At c i), rfl, rfl, .of (s1 _ _ ht), at_of (j := i) (by omega) (iv_at (by omega)), ?_⟩
      refine ⟨_, rfl, _, rfl, t, iv c, 1 + (i : Int), .int (At c (i + 1)), rfl, rfl, .of (s1 _ _ ht), at_of (j := i + 1) (by omega) (iv_at (by omega)), (by show 2 ≤ sizeLine; decide), fun v hv => ?_⟩
      have nvD : D ≠ v := ne_of_none eD hv
      have eD2 : (upd H2 v (.tup [.int (At c i : Nat), .int (At c (i + 1) : Nat)])) D = some (.lst (bs.map V.ref)) := (upd_ne nvD).trans eD
      refine ⟨D, _, _, rfl, rfl, eD2, (by rw [len_refs]; exact small1000 (by omega)), ⟨_, rfl⟩, But.same but_upd (s1.trans (same_new hv)) nD, bs ++ [v], by rw [upd_same]; simp, ?_⟩
      rw [rpTo_succ]
      refine paired_append (paired_but (f := fun e : Nat × Nat => HO.tup [.int (e.1 : Int), .int (e.2 : Int)]) (fun e z => by rw [eD2] at z; cases z) but_upd (pp.same (same_new hv))) (.cons ?_ .nil)
      rw [upd_ne nvD.symm]; exact upd_same
    · rintro σ H1 ⟨⟨a, rfl⟩, s1, bs, eD, pp⟩
      have hbs : bs.length ≤ 13 := by rw [paired_len pp, rpTo_len]; omega
      refine ⟨_, rfl, .inl ⟨rfl, _, .of eD⟩, _, rfl, _, rfl, t, iv c, -1, .int (At c (c.length - 1)), rfl, rfl, .of (s1 _ _ ht), iv_last (by omega), _, rfl, (by show 2 ≤ sizeLine; decide), fun v hv => ?_⟩
      have nvD : D ≠ v := ne_of_none eD hv
      have eD2 : (upd H1 v (.tup [.int (At c (c.length - 1) : Nat), .int (p : Nat)])) D = some (.lst (bs.map V.ref)) := (upd_ne nvD).trans eD
      refine ⟨D, _, _, rfl, rfl, eD2, (by rw [len_refs]; exact small1000 (by omega)), _, rfl, ?_⟩
      refine k _ D (bs ++ [v]) (But.same but_upd (s1.trans (same_new hv)) nD) nD (by rw [upd_same]; simp) ?_
      have er : ringPairs c p = rpTo c p (c.length - 1) ++ [(At c (c.length - 1), p)] := rfl
      rw [er]
      refine paired_append (paired_but (f := fun e : Nat × Nat => HO.tup [.int (e.1 : Int), .int (e.2 : Int)]) (fun e z => by rw [eD2] at z; cases z) but_upd (pp.same (same_new hv))) (.cons ?_ .nil)
      rw [upd_ne nvD.symm]; exact upd_same
end
end Rd
set_option Elab.async false
set_option linter.all false
set_option maxRecDepth 100000
set_option maxHeartbeats 4000000
namespace Rd
open PySem PySem.Spec PyProof.Rows L2
abbrev rGtI : R2 := rI0 fun i j => .bl (decide (j < i))
theorem iv_map_at {W : List Nat} {i : Nat} {x : V} (h : (iv W)[i]? = some x) : ∃ b, W[i]? = some b ∧ x = .int (b : Nat) := by
  obtain ⟨hi, e⟩ := iv_is h
  exact ⟨At W i, At_opt hi, e⟩
section
variable {P : Program} {w : World} {K : PySem.W.Frag} {mg : Str → Option Value} {base : Heap} {C : Addr}
theorem has_free (d : Df K mg "_free_blocks" sFree) (B : Bl mg) : Has P w K mg base CX0 1 "_free_blocks" PFree spFree := by
  refine has_of0 d scFree (fun vs H Q E h => ?_) (fun _ _ _ _ _ _ us hl => match us, hl with | [_, _, _], _ => rfl) (fun f cdv A outer s H vs Q E hr h => ?_)
  · obtain ⟨p, g, h', held, l, W, rfl, _⟩ := h
    rfl
  · obtain ⟨p, g, h', held, l, W, rfl, hp, hh, hl, hW, lW, k⟩ := h
    refine ⟨_, pss_cons (ps_set (i := 3) scFree.nd rfl (Or.inr rfl) (pe_lc (own := [("block", 4)]) (g := gName 4) (tt := tYes) (te := tOp (rIxT K) (tVar 0) (tVar 4)) rfl scFree.nd (pi_list (pv 2)) (blkOk_by (N := NFree) (sc := defScope sFree) (by decide +kernel))
        (fun _ _ _ _ _ => pg_name (i := 4) scFree.nd rfl (.inl rfl)) (fun _ _ _ _ _ => pts_nil) (fun _ _ _ _ _ => pe_ix ix_tup (pv 0) (pv 4) (fun _ _ => rfl))))
      (pss_one (ps_ret (pe_lc (own := [("block", 4)]) (g := gName 4) (tt := tOr (tTest (tOp (rIn K true) (tVar 4) (tVar 3))) (tTest (tOp rGtI (tBM K "list" (rCntI K) (tVar 1) (tCons (tVar 4) tNil)) (tC (.int 1))))) rfl scFree.nd (pi_list (pv 2)) (blkOk_by (N := NFree) (sc := defScope sFree) (by decide +kernel))
        (fun _ _ _ _ _ => pg_name (i := 4) scFree.nd rfl (.inl rfl))
        (fun _ _ _ _ _ => pts_one (PW.pt (pw_or (pt_cmpR op_notIn_seq (pv 4) (pv 3) (by rfl)) (pw_or1 (pt_cmpR op_gt (pe_bm PySem.F.plainAttrs_list PySem.F.slot_list_count PySem.F.type_list_count mt_lcount (pv 1) (pa_cons (pv 4) pa_nil)) pe_int (nomark _))))))
        (fun _ _ _ _ _ => pv 4)))), ?_⟩
    -- taken = [goal[block] for block in waiting]
    refine ⟨_, rfl, l, rfl, ⟨_, .of hl⟩, fun T hT => lc_it (walk_list (xs := iv W)) (fun i H' => Same H H' ∧ H' T = some (.lst (iv ((W.take i).map (At g))))) ⟨same_new hT, upd_same⟩ (fun i H' _ ⟨s, _⟩ => .of (s _ _ hl)) ?_ ?_⟩
    · rintro i x H1 H2 hi ⟨s, eT⟩ ⟨rfl, ex⟩
      obtain ⟨b, eb, rfl⟩ := iv_map_at ex
      have hb : b < g.length := hW b (List.mem_of_getElem? eb)
      refine ⟨rfl, _, rfl, _, rfl, p, iv g, (b : Nat), .int (At g b), rfl, rfl, (hp.same s).sqt, atI_nat (iv_at hb), ?_⟩
      refine ⟨_, eT, ?_, But.same but_upd s hT, ?_⟩
      · rw [iv_len, List.length_map]
        exact small1000 (Nat.le_trans (List.length_take_le _ _) (by rw [iv_len] at hi; omega))
      · rw [upd_same, take_snoc eb, List.map_append, iv_append]; rfl
    · rintro H1 ⟨s1, eT⟩
      rw [iv_len, List.take_length] at eT
      refine ⟨_, rfl, l, rfl, ⟨_, .of (s1 _ _ hl)⟩, fun D hD => lc_it (walk_list (xs := iv W)) (fun i H' => Same H1 H' ∧ H' D = some (.lst (iv ((W.take i).filter (freeB g held W))))) ⟨same_new hD, upd_same⟩ (fun i H' _ ⟨s, _⟩ => .of (s _ _ (s1 _ _ hl))) ?_ ?_⟩
      · rintro i x H2 H3 hi ⟨s, eD⟩ ⟨rfl, ex⟩
        obtain ⟨b, eb, rfl⟩ := iv_map_at ex
        have e0 := filter_snoc (p := freeB g held W) eb
        have lD : (iv ((W.take i).filter (freeB g held W))).length < sizeLine := by
          rw [iv_len]
          exact small1000 (Nat.le_trans (List.length_filter_le _ _) (Nat.le_trans (List.length_take_le _ _) (by rw [iv_len] at hi; omega)))
        have yes : freeB g held W b = true → (∃ acc, H3 D = some (.lst acc) ∧ acc.length < sizeLine ∧ Same H1 (upd H3 D (.lst (acc ++ [.int (b : Nat)]))) ∧ upd H3 D (.lst (acc ++ [.int (b : Nat)])) D = some (.lst (iv ((W.take (i + 1)).filter (freeB g held W))))) := fun c => by
          rw [if_pos c] at e0
          exact ⟨_, eD, lD, But.same but_upd s hD, by rw [upd_same, e0, iv_append]; rfl⟩
        have no : ¬ freeB g held W b = true → Same H1 H3 ∧ H3 D = some (.lst (iv ((W.take (i + 1)).filter (freeB g held W)))) := fun c => by
          rw [if_neg c, List.append_nil] at e0
          exact ⟨s, by rw [e0]; exact eD⟩
        refine ⟨rfl, _, rfl, _, rfl, T, iv (W.map (At g)), rfl, .inl (.of (s _ _ eT)), rfl, iv_flat, _, rfl, ?_⟩
        have z1 : inV (.int (b : Nat)) (iv (W.map (At g))) = decide (b ∈ W.map (At g)) := inV_iv
        show if (!inV (.int (b : Nat)) (iv (W.map (At g)))) = true then _ else _
        rw [z1]
        by_cases c1 : b ∈ W.map (At g)
        · refine ite_f (by rw [decide_eq_true c1]; rfl) ⟨_, rfl, .inl ⟨rfl, _, .of ((s1.trans s) _ _ hh)⟩, _, rfl, h', zs held, (b : Nat), rfl, rfl, .of ((s1.trans s) _ _ hh), _, 1, rfl, rfl, _, rfl, ?_⟩
          rw [zs_count]
          by_cases c2 : 1 < held.count b
          · refine ite_t (decide_eq_true (by omega)) ⟨_, rfl, yes ?_⟩
            unfold freeB
            rw [decide_eq_true c2, Bool.or_true]
          · refine ite_f (decide_eq_false (by omega)) (no ?_)
            unfold freeB
            rw [decide_eq_false c2, decide_eq_false (fun z => z c1)]
            decide
        · refine ite_t (by rw [decide_eq_false c1]; rfl) (ite_t rfl ⟨_, rfl, yes ?_⟩)
          unfold freeB
          rw [decide_eq_true c1, Bool.true_or]
      · rintro H2 ⟨s, eD⟩
        rw [iv_len, List.take_length] at eD
        exact k H2 D (s1.trans s) (s1.free hD) eD
end
end Rd
set_option Elab.async false
set_option linter.all false
set_option maxRecDepth 100000
set_option maxHeartbeats 4000000
namespace Rd
open PySem PySem.Spec PyProof.Rows L2
theorem run_take {g : List Nat} {es : List (Nat × Nat)} {i : Nat} {e : Nat × Nat} (h : es[i]? = some e) : run g (es.take (i + 1)) = step (run g (es.take i)) e := by
  rw [take_snoc h, run_one]
theorem ixN_nat {n i : Nat} (h : i < n) : ixN n (i : Int) = some i := by
  unfold ixN
  rw [if_pos (by omega), if_pos (by omega), Int.toNat_natCast]
/-- a def with a star parameter -/
def HasR (P : Program) (w : World) (K : PySem.W.Frag) (mg : Str → Option Value) (base : Heap) (k : Nat) (x : Str) (sp : Sp) : Prop :=
  ∃ f, mg x = some (.ref f) ∧ FnR P w K mg base CX0 k f sp ∧ PySem.W.keepIn K (.ref f) = true
def spCopies : Sp := fun vs H Q _ => ∃ bs es, vs = bs.map V.ref ∧ PairsAt H bs es ∧ es.length ≤ 900 ∧ ∀ H' l qs, Same H H' → H l = none → H' l = some (.lst (qs.map V.ref)) → LinesAt H' qs es → Q (.ref l) H'
section
variable {P : Program} {w : World} {K : PySem.W.Frag} {mg : Str → Option Value} {base : Heap} {C : Addr}
theorem copies_body {f : Addr} {cdv : Value} {A : Around} {outer : List Env} {s : Shared} {H : Hp} {Q : VK} {E : XK} {p : Addr} {bs : List Addr} {es : List (Nat × Nat)} (hp : H p = some (.tup (bs.map V.ref))) (pp : PairsAt H bs es) (le : es.length ≤ 900)
    (k : ∀ H' l qs, Same H H' → H l = none → H' l = some (.lst (qs.map V.ref)) → LinesAt H' qs es → Q (.ref l) H') :
    ∃ t, PSs (cxOf CX0 P w K mg base NCopies "copies" (defScope sCopies) f cdv A outer s H E) (defBody sCopies) t ∧ t { nx := fun _ H' => Q .non H', rt := Q } (start NCopies [.ref p]) H := by
  refine ⟨_, PSs.nox (pss_one (ps_ret (pe_lc (own := [("target", 1), ("source", 2)]) (g := gTup K 2 (gCons (gName 1) (gCons (gName 2) gNil))) (tt := tYes) rfl scCopies.nd (pi_tup (pv 0)) (blkOk_by (N := NCopies) (sc := defScope sCopies) (by decide +kernel))
      (fun _ _ _ _ _ => pg_tup rfl (pgs_cons (pg_name (i := 1) scCopies.nd rfl (.inl rfl)) (pgs_cons (pg_name (i := 2) scCopies.nd rfl (.inl rfl)) pgs_nil)))
      (fun _ _ _ _ _ => pts_nil) (fun _ _ _ _ _ => pe_tup (pa_cons pe_str (pa_cons (pv 1) (pa_cons (pv 2) (pa_cons pe_str pa_nil)))))))), ?_⟩
  refine ⟨_, rfl, p, rfl, ⟨_, .of hp⟩, fun D hD => lc_it (walk_tup (xs := bs.map V.ref)) (fun i H' => Same H H' ∧ ∃ qs, H' D = some (.lst (qs.map V.ref)) ∧ LinesAt H' qs (es.take i)) ⟨same_new hD, [], upd_same, .nil⟩ (fun i H' _ ⟨s, _⟩ => .of (s _ _ hp)) ?_ ?_⟩
  · rintro i x H1 H2 hi ⟨s1, qs, eD, ll⟩ ⟨rfl, ex⟩
    obtain ⟨b, eb, rfl⟩ := ref_at ex
    obtain ⟨e, ee, hb⟩ := paired_get pp eb
    have hq : qs.length ≤ 900 := by rw [paired_len ll]; exact Nat.le_trans (List.length_take_le' _ _) le
    refine ⟨b, _, rfl, .of (s1 _ _ hb), rfl, _, _, rfl, _, _, rfl, rfl, rfl, ?_⟩
    refine ⟨_, rfl, _, rfl, (by show 4 ≤ sizeLine; decide), fun q hq' => ?_⟩
    have nqD : D ≠ q := ne_of_none eD hq'
    refine ⟨_, (upd_ne nqD).trans eD, by rw [len_refs]; exact small1000 (by omega), But.same but_upd (s1.trans (same_new hq')) hD, qs ++ [q], by rw [upd_same]; simp, ?_⟩
    rw [take_snoc ee]
    refine paired_append (paired_but (f := fun e : Nat × Nat => HO.tup [.str "copy", .int (e.1 : Int), .int (e.2 : Int), .str ""]) (fun e z => by rw [upd_ne nqD, eD] at z; cases z) but_upd (ll.same (same_new hq'))) (.cons ?_ .nil)
    rw [upd_ne nqD.symm]; exact upd_same
  · rintro H1 ⟨s1, qs, eD, ll⟩
    rw [len_refs, paired_len pp, List.take_length] at ll
    exact k H1 D qs s1 hD eD ll
theorem has_copies (d : Df K mg "copies" sCopies) : HasR P w K mg base 1 "copies" spCopies := by
  obtain ⟨f, fd, F, g⟩ := d
  obtain ⟨oc, od, dV, kV, doc, pm, an, cdv, ct, osl, rfl, lk, hcd, hD, hK⟩ := F.ex
  have e0 : dV = .none := by
    rcases hD with ⟨_, e⟩ | ⟨e, _⟩
    · exact e
    · exact absurd rfl e
  subst e0
  have S : FnScope NCopies (([] : List Str) ++ [("entries" : Str)]) (defScope sCopies) := scCopies
  have base0 := StX.fn_star (P := P) (w := w) (mg := mg) (base := base) (k := 0) (ps := []) (pv := "entries") (sp := fun vs H Q _ => ∃ p bs es, vs = [.ref p] ∧ H p = some (.tup (bs.map V.ref)) ∧ PairsAt H bs es ∧ es.length ≤ 900 ∧ ∀ H' l qs, Same H H' → H l = none → H' l = some (.lst (qs.map V.ref)) → LinesAt H' qs es → Q (.ref l) H')
    lk hcd S StX.cxUp_none (fun us rest hl => ?_) (fun A outer s H vs Q E hr h => ?_)
  · refine ⟨f, g, fun A outer s H us vs Q E hr e0 r hsp => base0 A outer s H us vs Q E hr e0 r ?_, F.kp⟩
    obtain ⟨bs, es, rfl, pp, le, k⟩ := hsp
    refine ⟨[], bs.map V.ref, rfl, rfl, ?_, fun p hp => ⟨p, bs, es, rfl, upd_same, pp.same (same_new hp), le, fun H' l qs s nl el ll => k H' l qs ((same_new hp).trans s) ((same_new hp).free nl) el ll⟩⟩
    rw [len_refs, paired_len pp]
    exact small (by omega)
  · cases us with
    | nil => cases rest <;> rfl
    | cons a l => cases hl
  · obtain ⟨p, bs, es, rfl, hp, pp, le, k⟩ := h
    exact copies_body hp pp le k
theorem has_orig (d : Df K mg "origin_rows" sOrig) (B : Bl mg) (hH : Has P w K mg base CX0 1 "home" PHome spHome) : Has P w K mg base CX0 2 "origin_rows" POrig spOrig := by
  obtain ⟨fH, fdH, gH, GH, kH, bH⟩ := hH
  refine has_of0 d scOrig (fun vs H Q E h => ?_) (fun _ _ _ _ _ _ us hl => match us, hl with | [_, _], _ => rfl) (fun f cdv A outer s H vs Q E hr h => ?_)
  · obtain ⟨l, bs, es, n, rfl, _⟩ := h
    rfl
  · obtain ⟨l, bs, es, n, rfl, hl, pp, oke, hn, le, k⟩ := h
    refine ⟨_, pss_cons (ps_set (i := 2) scOrig.nd rfl (.inl rfl) (pe_callTy call_list_of (by rfl) B.list (by decide +kernel) (pa_cons (pe_call GH hr rfl gH kH bH .nil pass0 (pa_cons (pv 1) pa_nil)) pa_nil)))
      (pss_cons (ps_set (i := 3) scOrig.nd rfl (.inl rfl) (pe_lst (pa_cons (pe_callTy call_tuple_of (by rfl) B.tuple (by decide +kernel) (pa_cons (pv 2) pa_nil)) pa_nil)))
      (pss_cons (ps_for PassesOwn.never rfl (pi_list (pv 0)) (pg_tup rfl (pgs_cons (pg_name (i := 4) scOrig.nd rfl (.inl rfl)) (pgs_cons (pg_name (i := 5) scOrig.nd rfl (.inl rfl)) pgs_nil)))
        (pss_cons (ps_asg (pe_ix ix_list (pv 2) (pv 5) (fun _ _ => rfl)) (pg_sub (pv 2) (pv 4) set_list))
        (pss_one (ps_expr (pe_bm PySem.F.plainAttrs_list PySem.F.slot_list_append PySem.F.type_list_append mt_append (pv 3) (pa_cons (pe_callTy call_tuple_of (by rfl) B.tuple (by decide +kernel) (pa_cons (pv 2) pa_nil)) pa_nil))))))
      (pss_one (ps_ret (pv 3))))), ?_⟩
    refine ⟨_, rfl, n, rfl, hn, fun h0 nh0 => ?_⟩
    refine ⟨h0, _, rfl, .inr (.of upd_same), fun Dh nDh => ?_⟩
    have s1 : Same H (upd (upd H h0 (.tup (iv (home n)))) Dh (.lst (iv (home n)))) := (same_new nh0).trans (same_new nDh)
    refine ⟨_, rfl, Dh, _, rfl, .inl ⟨.of upd_same, fun t0 nt0 => ⟨(by show 1 ≤ sizeLine; decide), fun Dr nDr => ?_⟩⟩⟩
    have s2 := s1.trans ((same_new nt0 (o := .tup (iv (home n)))).trans (same_new nDr (o := .lst [.ref t0])))
    have nH : H Dh = none := (same_new nh0).free nDh
    have nR : H Dr = none := s1.free ((same_new nt0).free nDr)
    have hDt : Dh ≠ t0 := ne_of_none upd_same nt0
    have htr : t0 ≠ Dr := ne_of_none upd_same nDr
    have hDr : Dh ≠ Dr := ne_of_none ((upd_ne hDt).trans upd_same) nDr
    refine ⟨_, rfl, l, rfl, ⟨_, .of (s2 _ _ hl)⟩, for_it (walk_list (xs := bs.map V.ref)) (fun i σ H' => (∃ a b, σ = [some (.ref l), some (.int (n : Nat)), some (.ref Dh), some (.ref Dr), a, b]) ∧ Same H H' ∧ H' Dh = some (.lst (iv (run (home n) (es.take i)))) ∧
      ∃ rs t, H' Dr = some (.lst (rs ++ [.ref t])) ∧ H' t = some (.tup (iv (run (home n) (es.take i)))) ∧ rs.length ≤ i) ⟨⟨_, _, rfl⟩, s2, ?_, [], t0, upd_same, ?_, Nat.le_refl _⟩ (fun i σ H' _ ⟨_, s, _⟩ => .of (s _ _ hl)) ?_ ?_⟩
    · rw [upd_ne hDr, upd_ne hDt, upd_same]; rfl
    · rw [upd_ne htr, upd_same]; rfl
    · rintro i x σ H1 H2 hi ⟨⟨a, b, rfl⟩, s3, eh, rs, t, er, et, lr⟩ ⟨rfl, ex⟩
      obtain ⟨q, eq_, rfl⟩ := ref_at ex
      obtain ⟨e, ee, hq⟩ := paired_get pp eq_
      have oe := oke e (List.mem_of_getElem? ee)
      have hlen : (run (home n) (es.take i)).length = n := by rw [run_len]; simp [home]
      have hi9 : i < 900 := by
        have := (List.getElem?_eq_some_iff.mp ee).1
        omega
      refine ⟨q, _, rfl, .of (s3 _ _ hq), rfl, _, _, rfl, _, _, rfl, rfl, ?_⟩
      refine ⟨_, rfl, _, rfl, Dh, _, (e.2 : Nat), .int (At (run (home n) (es.take i)) e.2), rfl, rfl, .of eh, atI_nat (iv_at (by rw [hlen]; exact oe.2.1)), ?_⟩
      refine ⟨_, rfl, _, rfl, Dh, _, (e.1 : Nat), e.1, rfl, rfl, eh, ixN_nat (by rw [iv_len, hlen]; exact oe.1), ?_⟩
      have est : (iv (run (home n) (es.take i))).set e.1 (.int (At (run (home n) (es.take i)) e.2)) = iv (run (home n) (es.take (i + 1))) := by
        rw [run_take ee, ← iv_set]; rfl
      rw [est]
      have nhr : Dh ≠ Dr := ne_of eh er (fun z => by
        have z1 := HO.lst.inj z
        have z2 : (iv (run (home n) (es.take i)))[rs.length]? = some (.ref t) := by rw [z1]; simp
        have := (iv_is z2).2
        cases this)
      refine ⟨_, rfl, .inl ⟨rfl, _, .of ((upd_ne nhr.symm).trans er)⟩, _, rfl, Dh, _, rfl, .inl ⟨.of upd_same, fun u nu => ?_⟩⟩
      have nhu : Dh ≠ u := ne_of_none upd_same nu
      have nru : Dr ≠ u := ne_of_none ((upd_ne nhr.symm).trans er) nu
      refine ⟨Dr, _, _, rfl, rfl, (upd_ne nru).trans ((upd_ne nhr.symm).trans er), ?_, ⟨_, _, rfl⟩, ?_, ?_, rs ++ [.ref t], u, by rw [upd_same], ?_, ?_⟩
      · rw [List.length_append, List.length_singleton]
        exact small1000 (by omega)
      · refine But.same (But.trans (Same.but (same_new nu)) but_upd) (But.same but_upd s3 nH) nR
      · rw [upd_ne nhr, upd_ne nhu, upd_same]
      · rw [upd_ne nru.symm, upd_same]
      · rw [List.length_append, List.length_singleton]; omega
    · rintro σ H1 ⟨⟨a, b, rfl⟩, s3, eh, rs, t, er, et, lr⟩
      rw [len_refs, paired_len pp, List.take_length] at et
      exact ⟨_, rfl, k H1 Dr rs t s3 nR er et⟩
end
end Rd
set_option Elab.async false
set_option linter.all false
set_option maxRecDepth 100000
set_option maxHeartbeats 4000000
namespace Rd
open PySem PySem.Spec PyProof.Rows L2
theorem ringsTo_all {g : List Nat} : ringsTo g g.length = ringsOf g := rfl
theorem zs_erase {W : List Nat} {b : Nat} : (zs W).erase (b : Int) = zs (W.erase b) := by
  unfold zs
  induction W with
  | nil => rfl
  | cons a W ih =>
    rw [List.map_cons]
    by_cases h : a = b
    · rw [h, List.erase_cons_head, List.erase_cons_head]
    · have h1 : ((a : Int) == (b : Int)) = false := beq_eq_false_iff_ne.mpr (by omega)
      have h2 : (a == b) = false := beq_eq_false_iff_ne.mpr h
      rw [List.erase_cons, h1, List.erase_cons, h2]
      show (a : Int) :: List.erase _ _ = List.map _ (a :: W.erase b)
      rw [ih]; rfl
theorem filter_wrong {g held : List Nat} {i : Nat} : (List.range (i + 1)).filter (fun b => decide (At held b ≠ At g b)) = (List.range i).filter (fun b => decide (At held b ≠ At g b)) ++ (if At held i ≠ At g i then [i] else []) := by
  rw [range_filter_snoc]
  congr 1
  by_cases c : At held i ≠ At g i
  · rw [if_pos c, if_pos (decide_eq_true c)]
  · rw [if_neg c, if_neg (fun z => c (of_decide_eq_true z))]
theorem pairs_upd {H : Hp} {l : Addr} {xs : List V} {o : HO} {bs : List Addr} {es : List (Nat × Nat)} (e : H l = some (.lst xs)) (p : PairsAt H bs es) : PairsAt (upd H l o) bs es :=
  paired_but (f := fun e : Nat × Nat => HO.tup [.int (e.1 : Int), .int (e.2 : Int)]) (fun e' z => by rw [e] at z; cases z) but_upd p
section
variable {P : Program} {w : World} {K : PySem.W.Frag} {mg : Str → Option Value} {base : Heap} {C : Addr}
theorem has_least (d : Df K mg "least_log" sLeast) (B : Bl mg) (hP : Has P w K mg base (L2.CX P w) 3 "check_possible" PCheckP (spCheckP C)) (hM : Has P w K mg base CX0 1 "_missing" PMissing spMissing) (hR : Has P w K mg base CX0 3 "closed_rings" PClosed spClosed)
    (hRP : Has P w K mg base CX0 1 "_ring_pairs" PRingPairs spRingPairs) (hO : Has P w K mg base CX0 2 "origin_rows" POrig spOrig) (hF : Has P w K mg base CX0 1 "_free_blocks" PFree spFree) (hCp : HasR P w K mg base 1 "copies" spCopies) :
    Has P w K mg base (L2.CX P w) 4 "least_log" PLeast (spLeast C) := by
  obtain ⟨fP, fdP, gP, GP, kP, bP⟩ := hP
  obtain ⟨fM, fdM, gM, GM, kM, bM⟩ := hM
  obtain ⟨fR, fdR, gR, GR, kR, bR⟩ := hR
  obtain ⟨fRP, fdRP, gRP, GRP, kRP, bRP⟩ := hRP
  obtain ⟨fO, fdO, gO, GO, kO, bO⟩ := hO
  obtain ⟨fF, fdF, gF, GF, kF, bF⟩ := hF
  obtain ⟨fCp, gCp, GCp, kCp⟩ := hCp
  refine has_of d scLeast (fun vs H Q E h => ?_) (fun _ _ _ _ _ _ us hl => match us, hl with | [_], _ => rfl) (fun f cdv A outer s H vs Q E hr h => ?_)
  · obtain ⟨p, g, rfl, _⟩ := h
    rfl
  · obtain ⟨p, g, rfl, hp, ok, k1, k2⟩ := h
    obtain ⟨va, l1, l2⟩ := id ok
    refine ⟨_, pss_cons (ps_expr (pe_call GP hr rfl gP kP bP .nil (passes_call (takes_of rfl rfl rfl rfl) (fun _ _ _ _ h => h)) (pa_cons (pv 0) pa_nil))) (PSs.nox
      (pss_cons (ps_set (i := 1) scLeast.nd rfl (.inl rfl) (pe_call GM (hr.mono (by decide)) rfl gM kM bM .nil pass0 (pa_cons (pv 0) pa_nil)))
      (pss_cons (ps_set (i := 2) scLeast.nd rfl (.inl rfl) (pe_lst pa_nil))
      (pss_cons (ps_for PassesOwn.never rfl (pi_list (pe_call GR hr rfl gR kR bR .nil pass0 (pa_cons (pv 0) pa_nil))) (pg_name (i := 3) scLeast.nd rfl (.inl rfl))
        (pss_one (ps_expr (pe_bm PySem.F.plainAttrs_list PySem.F.slot_list_extend PySem.F.type_list_extend mt_extend (pv 2) (pa_cons (pe_call GRP (hr.mono (by decide)) rfl gRP kRP bRP .nil pass0 (pa_cons (pv 3) (pa_cons (pe_ix ix_list (pv 1) pe_int (fun _ _ => rfl)) pa_nil))) pa_nil)))))
      (pss_cons (ps_set (i := 4) scLeast.nd rfl (.inr rfl) (pe_callTy call_list_of (by rfl) B.list (by decide +kernel) (pa_cons (pe_ix ix_list (pe_call GO (hr.mono (by decide)) rfl gO kO bO .nil pass0 (pa_cons (pv 2) (pa_cons (pe_callB call_len_seq (by rfl) B.len PySem.boot_len (pa_cons (pv 0) pa_nil)) pa_nil))) (pe_un un_neg pe_int) (fun _ _ => rfl)) pa_nil)))
      (pss_cons (ps_setLc (i := 6) (own := [("block", 5)]) (g := gName 5) (tt := tTest (tOp rNe (tOp (rIxL K) (tVar 4) (tVar 5)) (tOp (rIxT K) (tVar 0) (tVar 5)))) (by rfl) scLeast.nd rfl rfl (sw_true rfl rfl rfl (by decide +kernel))
          (pi_range1 (by rfl) B.range (pa_cons (pe_callB call_len_seq (by rfl) B.len PySem.boot_len (pa_cons (pv 0) pa_nil)) pa_nil)) (blkOk_by (N := NLeast) (sc := defScope sLeast) (by decide +kernel))
          (fun _ _ _ _ _ => pg_name (i := 5) scLeast.nd rfl (.inl rfl)) (fun _ _ _ _ _ => pts_one (pt_cmpR op_ne (pe_ix ix_list (pv 4) (pv 5) (fun _ _ => rfl)) (pe_ix ix_tup (pv 0) (pv 5) (fun _ _ => rfl)) (nomark _))) (fun _ _ _ _ _ => pv 5))
      (pss_cons (ps_while PassesOwn.never (pt_truth (pv 6) (fun _ => rfl))
        (pss_cons (ps_set (i := 5) scLeast.nd rfl (.inl rfl) (pe_ix ix_list (pe_call GF (hr.mono (by decide)) rfl gF kF bF .nil pass0 (pa_cons (pv 0) (pa_cons (pv 4) (pa_cons (pv 6) pa_nil)))) pe_int (fun _ _ => rfl)))
        (pss_cons (ps_expr (pe_bm PySem.F.plainAttrs_list PySem.F.slot_list_append PySem.F.type_list_append mt_append (pv 2) (pa_cons (pe_tup (pa_cons (pv 5) (pa_cons
            (pe_bm PySem.F.plainAttrs_list PySem.F.slot_list_index PySem.F.type_list_index mt_index (pv 4) (pa_cons (pe_ix ix_tup (pv 0) (pv 5) (fun _ _ => rfl)) pa_nil)) pa_nil))) pa_nil)))
        (pss_cons (ps_asg (pe_ix ix_tup (pv 0) (pv 5) (fun _ _ => rfl)) (pg_sub (pv 4) (pv 5) set_list))
        (pss_one (ps_expr (pe_bm PySem.F.plainAttrs_list PySem.F.slot_list_remove PySem.F.type_list_remove mt_remove (pv 6) (pa_cons (pv 5) pa_nil))))))))
      (pss_one (ps_ret (StX.pe_callS1 GCp (hr.mono (by decide)) kCp (by rfl) gCp pass0 (pv 2))))))))))), ?_⟩
    refine ⟨_, rfl, p, g, rfl, hp, ok, fun po H1 s1 => ?_, k2⟩
    -- missing = _missing(goal); entries = []
    refine ⟨_, rfl, p, g, rfl, hp.same s1, ok, fun H2 Dm s2 nm em => ?_⟩
    refine ⟨small (by show 0 ≤ 1000; decide), fun De nDe => ?_⟩
    have s12 := s1.trans s2
    have nE : H De = none := s12.free nDe
    have s3 : Same H (upd H2 De (.lst [])) := s12.trans (same_new nDe)
    have nme : Dm ≠ De := ne_of_none em nDe
    have hsp : ∀ c ∈ ringsOf g, missing g ≠ [] := fun c hc => missing_of_ring va po hc
    refine ⟨_, rfl, p, g, rfl, hp.same s3, ok, fun H4 Lr ts s4 nLr eLr tts => ⟨Lr, rfl, ⟨_, .of eLr⟩, ?_⟩⟩
    have eDe4 : H4 De = some (.lst []) := s4 _ _ upd_same
    have em4 : H4 Dm = some (.lst (iv (missing g))) := s4 _ _ ((upd_ne nme).trans em)
    have nle : Lr ≠ De := fun z => by rw [z, upd_same] at nLr; cases nLr
    have s04 : Same H H4 := s3.trans s4
    have lts := paired_len tts
    refine for_it (walk_list (xs := ts.map V.ref)) (fun i σ H' => (∃ a b c d, σ = [some (.ref p), some (.ref Dm), some (.ref De), a, b, c, d]) ∧ But De H4 H' ∧ ∃ bs, H' De = some (.lst (bs.map V.ref)) ∧ PairsAt H' bs (rpsTo g (At (missing g) 0) i))
      ⟨⟨_, _, _, _, rfl⟩, .refl, [], eDe4, .nil⟩ (fun i σ H' _ ⟨_, b, _⟩ => .of (b _ _ nle eLr)) ?_ ?_
    · rintro i x σ H5 H6 hi ⟨⟨a, b, c, d, rfl⟩, bt, bs, eDe, pp⟩ ⟨rfl, ex⟩
      obtain ⟨t, et, rfl⟩ := ref_at ex
      obtain ⟨cy, ec, ht⟩ := paired_get tts et
      have hc := List.mem_of_getElem? ec
      have hm := hsp cy hc
      obtain ⟨c1, c2⟩ := ring_len va hc
      have hm0 : 0 < (missing g).length := List.length_pos_iff.mpr hm
      have i12 : i < 12 := by
        have := (List.getElem?_eq_some_iff.mp ec).1
        have := ringsTo_len (g := g) g.length
        rw [ringsTo_all] at this
        omega
      have lbs : bs.length ≤ 156 := by
        rw [paired_len pp]
        refine Nat.le_trans (rpsTo_len va i) (Nat.le_trans (Nat.mul_le_mul (Nat.le_of_lt i12) (show g.length + 1 ≤ 13 by omega)) (by decide))
      refine ⟨_, rfl, .inl ⟨rfl, _, .of eDe⟩, _, rfl, _, rfl, Dm, iv (missing g), 0, .int (At (missing g) 0 : Nat), rfl, rfl, .of (bt _ _ nme em4), atI_nat (j := 0) (iv_at hm0), ?_⟩
      refine ⟨t, cy, At (missing g) 0, rfl, bt _ _ (ne_of ht eDe4 fun z => nomatch z) ht, c1, by omega, fun H7 l bs' s7 nl el pp' => ?_⟩
      refine ⟨De, l, bs.map V.ref, bs'.map V.ref, rfl, rfl, s7 _ _ eDe, el, ?_, ⟨_, _, _, _, rfl⟩, (bt.trans (Same.but s7)).trans but_upd, bs ++ bs', by rw [upd_same, List.map_append], ?_⟩
      · rw [len_refs, len_refs, paired_len pp', ringPairs_len' c1]
        exact small (by omega)
      · rw [rpsTo_succ ec]
        exact pairs_upd (s7 _ _ eDe) (paired_append (pp.same s7) pp')
    · rintro σ H5 ⟨⟨a, b, c, d, rfl⟩, bt, bs, eDe, pp⟩
      rw [len_refs, lts, rpsTo_all] at pp
      have a0 := ll_start va po
      have s05 : Same H H5 := bt.same s04 nE
      have lfew : fewest g ≤ 24 := Nat.le_trans fewest_bound (by omega)
      have les : (pairsTo g (At (missing g) 0) g.length).length ≤ 24 := by have := a0.cnt; omega
      -- held = list(origin_rows(entries, len(goal))[-1])
      refine ⟨_, rfl, _, rfl, p, iv g, rfl, .inr (hp.same s05).sqt, De, bs, _, g.length, (by rw [iv_len]; rfl), eDe, pp, a0.ok, l2, by omega, fun H6 r rs t s6 nr er et => ?_⟩
      refine ⟨_, rfl, r, _, _, _, rfl, rfl, .of er, atI_last _ _, t, _, rfl, .inr (.of et), fun Dh nDh => ?_⟩
      have s06 := s05.trans s6
      have nH : H Dh = none := s06.free nDh
      have neh : De ≠ Dh := ne_of_none (s6 _ _ eDe) nDh
      revert a0 pp et
      generalize pairsTo g (At (missing g) 0) g.length = es1
      intro pp a0 et
      -- waiting = [..]
      have s07 : Same H (upd H6 Dh (.lst (iv (run (home g.length) es1)))) := s06.trans (same_new nDh)
      have eDe7 : (upd H6 Dh (.lst (iv (run (home g.length) es1)))) De = some (.lst (bs.map V.ref)) := (upd_ne neh).trans (s6 _ _ eDe)
      have pp7 : PairsAt (upd H6 Dh (.lst (iv (run (home g.length) es1)))) bs es1 := (pp.same s6).same (same_new nDh)
      refine ⟨_, rfl, p, iv g, rfl, .inr (hp.same s07).sqt, (iv g).length, rfl, by rw [iv_len]; omega, by rw [iv_len]; omega, fun Dw nDw => ?_⟩
      rw [show ((iv g).length : Int).toNat = g.length by rw [iv_len]; omega]
      have nW : H Dw = none := s07.free nDw
      have new_ : De ≠ Dw := ne_of_none eDe7 nDw
      have nhw : Dh ≠ Dw := ne_of_none upd_same nDw
      refine lc_it (walk_range0 (n := g.length)) (fun i H' => Same (upd H6 Dh (.lst (iv (run (home g.length) es1)))) H' ∧ H' Dw = some (.lst (iv ((List.range i).filter fun b => decide (At (run (home g.length) es1) b ≠ At g b))))) ⟨same_new nDw, upd_same⟩ (fun _ _ _ _ => trivial) ?_ ?_
      · rintro i x H8 H9 hi ⟨s8, eW⟩ ⟨rfl, rfl⟩
        have e0 := filter_wrong (g := g) (held := run (home g.length) es1) (i := i)
        have hil : i < (run (home g.length) es1).length := by rw [a0.len]; exact hi
        refine ⟨rfl, _, rfl, _, rfl, Dh, _, (i : Nat), _, rfl, rfl, .of (s8 _ _ upd_same), atI_nat (iv_at hil), _, rfl, _, rfl, p, iv g, (i : Nat), _, rfl, rfl, (hp.same (s07.trans s8)).sqt, atI_nat (iv_at hi), rfl, _, rfl, ?_⟩
        rw [int_eq]
        refine ite2 (fun c => ?_) (fun c => ?_)
        · have c' : At (run (home g.length) es1) i ≠ At g i := by simpa using c
          rw [if_pos c'] at e0
          refine ⟨_, rfl, _, eW, filter_range_small (by omega), But.same but_upd s8 nDw, ?_⟩
          rw [upd_same, e0, iv_append]; rfl
        · have c' : ¬ At (run (home g.length) es1) i ≠ At g i := by simpa using c
          rw [if_neg c', List.append_nil] at e0
          exact ⟨s8, by rw [e0]; exact eW⟩
      · rintro H8 ⟨s8, eW⟩
        have s08 := s07.trans s8
        -- the while
        refine ⟨fun m σ H' => ∃ held es bs a b, m = (wrong g held).length ∧ σ = [some (.ref p), some (.ref Dm), some (.ref De), a, some (.ref Dh), b, some (.ref Dw)] ∧ Same H H' ∧ H' De = some (.lst (bs.map V.ref)) ∧ PairsAt H' bs es ∧ H' Dh = some (.lst (iv held)) ∧
            H' Dw = some (.lst (iv (wrong g held))) ∧ LL g held es,
          ⟨_, _, es1, bs, _, _, rfl, rfl, s08, s8 _ _ eDe7, pp7.same s8, s8 _ _ upd_same, eW, a0⟩, ?_⟩
        rintro m σ H9 ⟨held, es, bs, a, b, rfl, rfl, s9, eE, pp, eH, eW, LLa⟩
        have lbs : bs.length ≤ 24 := by rw [paired_len pp]; have := LLa.cnt; omega
        refine ⟨_, rfl, _, .inl ⟨_, .of eW, rfl⟩, ?_⟩
        rw [iv_empty]
        by_cases c : wrong g held = []
        · refine ite_f (by rw [c]; rfl) ?_
          obtain ⟨e1, e2⟩ := LLa.fin c
          refine ⟨_, rfl, De, bs.map V.ref, rfl, .inr (.of eE), bs, es, rfl, pp, by rw [e2]; omega, fun H10 l qs s10 nl el ll => ?_⟩
          exact k1 po H10 l qs es (s9.trans s10) el ll LLa.ok (by rw [LLa.run, e1]) e2
        · refine ite_t (by cases h : wrong g held with
            | nil => exact absurd h c
            | cons x l => rfl) ?_
          have hf := LLa.free va c
          have hbf : At (free g held (wrong g held)) 0 ∈ free g held (wrong g held) := At_mem hf
          revert hbf
          generalize hbe : At (free g held (wrong g held)) 0 = blk
          intro hbf
          have hbW : blk ∈ wrong g held := (List.mem_filter.mp hbf).1
          obtain ⟨j, hj, ej, jmin⟩ := LLa.source hbW
          obtain ⟨LL2, ew, _, hbl⟩ := LLa.step va hbf hj ej
          refine ⟨fun σ' H' => ∃ bs' a b, σ' = [some (.ref p), some (.ref Dm), some (.ref De), a, some (.ref Dh), b, some (.ref Dw)] ∧ Same H H' ∧ H' De = some (.lst (bs'.map V.ref)) ∧ PairsAt H' bs' (es ++ [(blk, j)]) ∧ H' Dh = some (.lst (iv (held.set blk (At g blk)))) ∧
            H' Dw = some (.lst (iv (wrong g (held.set blk (At g blk))))), ?_, ?_⟩
          · rintro σ' H' ⟨bs', a, b, e1, e2, e3, e4, e5, e6⟩
            refine ⟨(wrong g (held.set blk (At g blk))).length, ?_, _, _, bs', a, b, rfl, e1, e2, e3, e4, e5, e6, LL2⟩
            rw [ew, List.length_erase_of_mem hbW]
            have := List.length_pos_of_mem hbW
            omega
          · -- block = _free_blocks(goal, held, waiting)[0]
            have lW : (wrong g held).length ≤ 12 := by
              refine Nat.le_trans (List.length_filter_le _ _) ?_
              rw [List.length_range]; exact l2
            refine ⟨_, rfl, _, rfl, _, rfl, p, g, Dh, held, Dw, wrong g held, rfl, hp.same s9, eH, eW, fun x hx => (mem_wrong.mp hx).1, lW, fun H10 r s10 nr er => ?_⟩
            refine ⟨r, _, 0, .int (blk : Nat), rfl, rfl, .of er, atI_nat (j := 0) (by rw [iv_at hf, hbe]), ?_⟩
            -- entries.append((block, held.index(goal[block])))
            have s010 := s9.trans s10
            refine ⟨_, rfl, .inl ⟨rfl, _, .of (s10 _ _ eE)⟩, _, rfl, _, rfl, .inl ⟨rfl, _, .of (s10 _ _ eH)⟩, _, rfl, _, rfl, p, iv g, (blk : Nat), _, rfl, rfl, (hp.same s010).sqt, atI_nat (iv_at hbl), ?_⟩
            refine ⟨Dh, iv held, _, j, .int (At held j : Nat), rfl, rfl, .of (s10 _ _ eH), rfl, iv_flat, iv_at hj, ?_, ?_, (by show 2 ≤ sizeLine; decide), fun t nt => ?_⟩
            · rw [ej]; exact beq_self_eq_true ((At g blk : Nat) : Int)
            · intro m z hm hz
              obtain ⟨_, rfl⟩ := iv_is hz
              exact beq_eq_false_iff_ne.mpr fun q => jmin m hm (by omega)
            have eEt : (upd H10 t (.tup [.int (blk : Nat), .int (j : Nat)])) De = some (.lst (bs.map V.ref)) := (upd_ne (ne_of_none (s10 _ _ eE) nt)).trans (s10 _ _ eE)
            have tE : t ≠ De := (ne_of_none (s10 _ _ eE) nt).symm
            have tH : Dh ≠ t := ne_of_none (s10 _ _ eH) nt
            have tW : Dw ≠ t := ne_of_none (s10 _ _ eW) nt
            refine ⟨De, _, _, rfl, rfl, eEt, (by rw [len_refs]; exact small1000 (by omega)), ?_⟩
            have s011 : Same H (upd (upd H10 t (.tup [.int (blk : Nat), .int (j : Nat)])) De (.lst (bs.map V.ref ++ [.ref t]))) := But.same but_upd (s010.trans (same_new nt)) nE
            have eH11 : (upd (upd H10 t (.tup [.int (blk : Nat), .int (j : Nat)])) De (.lst (bs.map V.ref ++ [.ref t]))) Dh = some (.lst (iv held)) := (upd_ne neh.symm).trans ((upd_ne tH).trans (s10 _ _ eH))
            have eW11 : (upd (upd H10 t (.tup [.int (blk : Nat), .int (j : Nat)])) De (.lst (bs.map V.ref ++ [.ref t]))) Dw = some (.lst (iv (wrong g held))) := (upd_ne new_.symm).trans ((upd_ne tW).trans (s10 _ _ eW))
            have pp11 : PairsAt (upd (upd H10 t (.tup [.int (blk : Nat), .int (j : Nat)])) De (.lst (bs.map V.ref ++ [.ref t]))) (bs ++ [t]) (es ++ [(blk, j)]) :=
              pairs_upd eEt (paired_append ((pp.same s10).same (same_new nt)) (.cons upd_same .nil))
            have eE11 : (upd (upd H10 t (.tup [.int (blk : Nat), .int (j : Nat)])) De (.lst (bs.map V.ref ++ [.ref t]))) De = some (.lst ((bs ++ [t]).map V.ref)) := by rw [upd_same]; simp
            revert s011 eH11 eW11 pp11 eE11
            generalize upd (upd H10 t (.tup [.int (blk : Nat), .int (j : Nat)])) De (.lst (bs.map V.ref ++ [.ref t])) = H11
            intro s011 eH11 eW11 pp11 eE11
            -- held[block] = goal[block]
            refine ⟨_, rfl, _, rfl, p, iv g, (blk : Nat), _, rfl, rfl, (hp.same s011).sqt, atI_nat (iv_at hbl), ?_⟩
            refine ⟨_, rfl, _, rfl, Dh, _, (blk : Nat), blk, rfl, rfl, eH11, ixN_nat (by rw [iv_len, LLa.len]; exact hbl), ?_⟩
            rw [← iv_set]
            -- waiting.remove(block)
            obtain ⟨q, ql, hq, qmin, qe⟩ := L2.first_at (ns := zs (wrong g held)) (k := (blk : Int)) (zs_mem.mpr hbW)
            refine ⟨_, rfl, .inl ⟨rfl, _, .of ((upd_ne nhw.symm).trans eW11)⟩, _, rfl, Dw, zs (wrong g held), (blk : Nat), q, rfl, rfl, (upd_ne nhw.symm).trans eW11, hq, qmin, ?_⟩
            refine ⟨bs ++ [t], _, _, rfl, But.same but_upd (But.same but_upd s011 nH) nW, ?_, ?_, ?_, ?_⟩
            · rw [upd_ne new_, upd_ne neh]; exact eE11
            · exact pairs_upd ((upd_ne nhw.symm).trans eW11) (pairs_upd eH11 pp11)
            · rw [upd_ne nhw, upd_same]
            · rw [upd_same, qe, zs_erase, ew]; rfl
end
end Rd
set_option Elab.async false
set_option linter.all false
set_option maxRecDepth 100000
set_option maxHeartbeats 4000000
namespace Rd
open PySem PySem.Spec PyProof.Rows L2
/-! ### the promises of the law's own defs -/
/-- the bag of draws at b: its cells, how many are taken, what is left of a great one, the seed, the count -/
def BagAt (H : Hp) (b c : Addr) : Prop := ∃ (cells : List Int) (i d s k : Int), H b = some (.lst [.ref c, .int i, .int d, .int s, .int k]) ∧ H c = some (.lst (cells.map V.int)) ∧ c ≠ b ∧ 0 ≤ i ∧ 0 ≤ d
def spBag (K : PySem.W.Frag) : Sp := fun vs H Q _ => ∃ (a : Addr) (ns : List Int), vs = [.ref a] ∧ SqL K H a (ns.map V.int) ∧ ns.length ≤ 63 ∧ ∀ H' b c, Same H H' → H b = none → H c = none → BagAt H' b c → Q (.ref b) H'
def spTake : Sp := fun vs H Q _ => ∃ b c m, vs = [.ref b, .int (m : Nat)] ∧ BagAt H b c ∧ 1 ≤ m ∧ m ≤ 1000 ∧ ∀ H' (d : Nat), But b H H' → BagAt H' b c → d < m → Q (.int (d : Nat)) H'
def spIsNum : Sp := fun vs H Q _ => ∃ i : Int, vs = [.int i] ∧ Q (.bl true) H
def spRead : Sp := fun vs H Q _ => ∃ l qs es n, vs = [.ref l, .int (n : Nat)] ∧ H l = some (.lst (qs.map V.ref)) ∧ LinesAt H qs es ∧ (∀ e ∈ es, Okp n e) ∧ es.length ≤ 900 ∧ ∀ H' r bs, Same H H' → H r = none → H' r = some (.lst (bs.map V.ref)) → PairsAt H' bs es → Q (.ref r) H'
def spLeads (K : PySem.W.Frag) : Sp := fun vs H Q _ => ∃ r bs es q g, vs = [.ref r, .ref q] ∧ H r = some (.lst (bs.map V.ref)) ∧ PairsAt H bs es ∧ H q = some (.lst (iv g)) ∧ g.length ≤ 12 ∧ (∀ e ∈ es, Okp g.length e) ∧ run (home g.length) es = g ∧ ∀ H', Same H H' → Q (.bl true) H'
theorem cut_ints (ns : List Int) (lo hi : Option Int) : ∃ ms : List Int, cutV (ns.map V.int) lo hi = ms.map V.int ∧ ms.length ≤ ns.length := by
  unfold cutV
  refine ⟨(ns.drop (HT.sIx (ns.map V.int).length 0 lo)).take (HT.sIx (ns.map V.int).length (ns.map V.int).length hi - HT.sIx (ns.map V.int).length 0 lo), by rw [List.map_take, List.map_drop], ?_⟩
  rw [List.length_take, List.length_drop]
  omega
theorem int_at {ms : List Int} {i : Nat} {x : V} (h : (ms.map V.int)[i]? = some x) : ∃ z, ms[i]? = some z ∧ x = .int z := by
  rw [List.getElem?_map] at h
  cases e : ms[i]? with
  | none => rw [e] at h; cases h
  | some z => rw [e] at h; exact ⟨z, rfl, (Option.some.inj h).symm⟩
section
variable {P : Program} {w : World} {K : PySem.W.Frag} {mg : Str → Option Value} {base : Heap} {C : Addr}
theorem has_bag (d : Df K mg "_law_bag" sBag) (B : Bl mg) : Has P w K mg base CX0 1 "_law_bag" PBag (spBag K) := by
  refine has_of0 d scBag (fun vs H Q E h => ?_) (fun _ _ _ _ _ _ us hl => match us, hl with | [_], _ => rfl) (fun f cdv A outer s H vs Q E hr h => ?_)
  · obtain ⟨a, ns, rfl, _⟩ := h
    rfl
  · obtain ⟨a, ns, rfl, ha, hl, k⟩ := h
    refine ⟨_, pss_cons (ps_setLc (i := 2) (own := [("_law_cell", 1)]) (g := gName 1) (tt := tYes) (by rfl) scBag.nd rfl rfl (sw_true rfl rfl rfl (by decide +kernel)) (pi_list (pe_slice sl_list (pv 0) po_none (po_some pe_int))) (blkOk_by (N := NBag) (sc := defScope sBag) (by decide +kernel))
        (fun _ _ _ _ _ => pg_name (i := 1) scBag.nd rfl (.inl rfl)) (fun _ _ _ _ _ => pts_nil) (fun _ _ _ _ _ => pe_callTy call_int1 (by rfl) B.int (by decide +kernel) (pa_cons (pv 1) pa_nil)))
      (pss_cons (ps_set (i := 3) scBag.nd rfl (.inl rfl) pe_int)
      (pss_cons (ps_for PassesOwn.never rfl (pi_list (pv 2)) (pg_name (i := 1) scBag.nd rfl (.inl rfl))
        (pss_one (ps_set (i := 3) scBag.nd rfl (.inl rfl) (pe_op op_mod (pe_callTy call_int1 (by rfl) B.int (by decide +kernel) (pa_cons (pe_op op_add (pe_op op_add (pe_op op_mul (pv 3) pe_int) (pe_op op_mul (pv 1) pe_int)) pe_int) pa_nil)) pe_int))))
      (pss_one (ps_ret (pe_lst (pa_cons (pv 2) (pa_cons pe_int (pa_cons pe_int (pa_cons (pv 3) (pa_cons pe_int pa_nil)))))))))), ?_⟩
    obtain ⟨ms, em, lm⟩ := cut_ints ns none (some 63)
    refine ⟨_, rfl, 63, rfl, a, _, rfl, ha, fun p np => ?_⟩
    rw [em]
    refine ⟨p, rfl, ⟨_, .of upd_same⟩, fun D nD => lc_it (walk_list (xs := ms.map V.int)) (fun i H' => Same (upd H p (.lst (ms.map V.int))) H' ∧ H' D = some (.lst ((ms.take i).map V.int))) ⟨same_new nD, upd_same⟩ (fun i H' _ ⟨s, _⟩ => .of (s _ _ upd_same)) ?_ ?_⟩
    · rintro i x H1 H2 hi ⟨s1, eD⟩ ⟨rfl, ex⟩
      obtain ⟨z, ez, rfl⟩ := int_at ex
      refine ⟨rfl, _, rfl, .inl ⟨_, rfl, _, eD, ?_, But.same but_upd s1 nD, ?_⟩⟩
      · rw [List.length_map]
        exact small1000 (Nat.le_trans (List.length_take_le' _ _) (by omega))
      · rw [upd_same, take_snoc ez, List.map_append]; rfl
    · rintro H1 ⟨s1, eD⟩
      rw [List.length_map, List.take_length] at eD
      have s2 : Same H H1 := (same_new np).trans s1
      have nDH : H D = none := (same_new np).free nD
      refine ⟨_, rfl, D, rfl, ⟨_, .of eD⟩, for_it (walk_list (xs := ms.map V.int)) (fun i σ H' => (∃ (x : Option V) (z : Int), σ = [some (.ref a), x, some (.ref D), some (.int z)]) ∧ H' = H1) ⟨⟨_, _, rfl⟩, rfl⟩ (fun i σ H' _ ⟨_, e⟩ => .of (by rw [e]; exact eD)) ?_ ?_⟩
      · rintro i x σ H2 H3 hi ⟨⟨y, z, rfl⟩, rfl⟩ ⟨rfl, ex⟩
        obtain ⟨v, ev, rfl⟩ := int_at ex
        refine ⟨_, rfl, z, 48271, rfl, rfl, .inr ⟨by decide, by decide⟩, _, rfl, v, 69621, rfl, rfl, .inr ⟨by decide, by decide⟩, _, _, rfl, rfl, _, 11, rfl, rfl, .inl ⟨_, rfl, _, 2147483647, rfl, rfl, (by show (0 : Int) < 2147483647; decide), ⟨_, _, rfl⟩, rfl⟩⟩
      · rintro σ H2 ⟨⟨y, z, rfl⟩, rfl⟩
        refine ⟨_, rfl, _, rfl, (by show 5 ≤ sizeLine; decide), fun b nb => ?_⟩
        exact k _ b D (s2.trans (same_new nb)) (s2.free nb) nDH ⟨ms, 0, 0, z, 0, upd_same, (upd_ne (ne_of_none eD nb)).trans eD, ne_of_none eD nb, by decide, by decide⟩
theorem has_take (d : Df K mg "_law_take" sTake) (B : Bl mg) : Has P w K mg base CX0 1 "_law_take" PTake spTake := by
  refine has_of0 d scTake (fun vs H Q E h => ?_) (fun _ _ _ _ _ _ us hl => match us, hl with | [_, _], _ => rfl) (fun f cdv A outer s H vs Q E hr h => ?_)
  · obtain ⟨b, c, m, rfl, _⟩ := h
    rfl
  · obtain ⟨b, c, m, rfl, ⟨cells, i, d, z, n, hb, hc, ncb, hi0, hd⟩, m1, m2, k⟩ := h
    refine ⟨_, pss_cons (ps_asg (pe_op op_add (pe_ix ix_list (pv 0) pe_int (fun _ _ => rfl)) pe_int) (pg_sub (pv 0) pe_int set_list))
      (C8.pss_cut (ps_if (PW.pt (pw_and (pt_cmpR op_eq (pe_ix ix_list (pv 0) pe_int (fun _ _ => rfl)) pe_int (nomark _)) (pw_and1 (pt_cmpR op_lt (pe_ix ix_list (pv 0) pe_int (fun _ _ => rfl)) (pe_callB call_len_seq (by rfl) B.len PySem.boot_len (pa_cons (pe_ix ix_list (pv 0) pe_int (fun _ _ => rfl)) pa_nil)) (nomark _)))))
        (pss_cons (ps_set (i := 2) scTake.nd rfl (.inl rfl) (pe_callTy call_int1 (by rfl) B.int (by decide +kernel) (pa_cons (pe_ix ix_list (pe_ix ix_list (pv 0) pe_int (fun _ _ => rfl)) (pe_ix ix_list (pv 0) pe_int (fun _ _ => rfl)) (fun _ _ => rfl)) pa_nil)))
        (pss_cons (ps_asg (pe_op op_add (pe_ix ix_list (pv 0) pe_int (fun _ _ => rfl)) pe_int) (pg_sub (pv 0) pe_int set_list))
        (pss_one (ps_if (pt_cmpR op_ge (pv 2) (pe_op op_pow pe_int pe_int) (nomark _)) (pss_one (ps_asg (pv 2) (pg_sub (pv 0) pe_int set_list)))
          (pss_one (ps_asg (pe_op op_mod (pe_callTy call_int1 (by rfl) B.int (by decide +kernel) (pa_cons (pe_op op_add (pe_op op_add (pe_op op_mul (pe_ix ix_list (pv 0) pe_int (fun _ _ => rfl)) pe_int) (pe_op op_mul (pv 2) pe_int)) (pe_ix ix_list (pv 0) pe_int (fun _ _ => rfl))) pa_nil)) pe_int) (pg_sub (pv 0) pe_int set_list)))))))
        pss_nil)
      (pss_cons (ps_if (pt_cmpR op_gt (pe_ix ix_list (pv 0) pe_int (fun _ _ => rfl)) pe_int (nomark _))
        (pss_cons (ps_set (i := 3) scTake.nd rfl (.inl rfl) (pe_op op_mod (pe_callTy call_int1 (by rfl) B.int (by decide +kernel) (pa_cons (pe_ix ix_list (pv 0) pe_int (fun _ _ => rfl)) pa_nil)) (pv 1)))
        (pss_cons (ps_asg (pe_op op_fdiv (pe_callTy call_int1 (by rfl) B.int (by decide +kernel) (pa_cons (pe_ix ix_list (pv 0) pe_int (fun _ _ => rfl)) pa_nil)) (pv 1)) (pg_sub (pv 0) pe_int set_list))
        (pss_one (ps_ret (pv 3))))) pss_nil)
      (pss_cons (ps_set (i := 4) scTake.nd rfl (.inl rfl) (pe_op op_mod (pe_callTy call_int1 (by rfl) B.int (by decide +kernel) (pa_cons (pe_op op_add (pe_op op_add (pe_op op_mul (pe_ix ix_list (pv 0) pe_int (fun _ _ => rfl)) pe_int) (pe_op op_mul (pe_ix ix_list (pv 0) pe_int (fun _ _ => rfl)) pe_int)) pe_int) pa_nil)) pe_int))
      (pss_cons (ps_set (i := 5) scTake.nd rfl (.inl rfl) (pe_op op_mod (pe_callTy call_int1 (by rfl) B.int (by decide +kernel) (pa_cons (pe_op op_add (pe_op op_add (pe_op op_mul (pv 4) (pv 4)) (pe_op op_mul (pe_ix ix_list (pv 0) pe_int (fun _ _ => rfl)) pe_int)) (pe_op op_mul (pe_ix ix_list (pv 0) pe_int (fun _ _ => rfl)) pe_int)) pa_nil)) pe_int))
      (pss_one (ps_ret (pe_op op_mod (pe_callTy call_int1 (by rfl) B.int (by decide +kernel) (pa_cons (pe_op op_fdiv (pv 5) pe_int) pa_nil)) (pv 1)))))))), ?_⟩
    -- bag[4] = bag[4] + 1
    refine ⟨_, rfl, b, _, 4, .int n, rfl, rfl, .of hb, atI_nat (j := 4) rfl, n, 1, rfl, rfl, _, rfl, b, _, 4, 4, rfl, rfl, hb, rfl, ?_⟩
    have bt1 : But b H (upd H b (.lst [.ref c, .int i, .int d, .int z, .int (n + 1)])) := but_upd
    have hb1 : (upd H b (.lst [.ref c, .int i, .int d, .int z, .int (n + 1)])) b = some (.lst [.ref c, .int i, .int d, .int z, .int (n + 1)]) := upd_same
    have hc1 := bt1 _ _ ncb hc
    show C8.tCut _ _ _ _ (upd H b (.lst [.ref c, .int i, .int d, .int z, .int (n + 1)]))
    revert bt1 hb1 hc1
    generalize upd H b (.lst [.ref c, .int i, .int d, .int z, .int (n + 1)]) = H1
    intro bt1 hb1 hc1
    refine ⟨fun σ' H' => (∃ x, σ' = [some (.ref b), some (.int (m : Nat)), x, none, none, none]) ∧ But b H H' ∧ BagAt H' b c, ?_, ?_⟩
    · -- a further cell
      refine ⟨_, rfl, b, _, 2, .int d, rfl, rfl, .of hb1, atI_nat (j := 2) rfl, rfl, _, rfl, ?_⟩
      have same : (∃ x, ([some (.ref b), some (.int (m : Nat)), none, none, none, none] : L2.St) = [some (.ref b), some (.int (m : Nat)), x, none, none, none]) ∧ But b H H1 ∧ BagAt H1 b c := ⟨⟨_, rfl⟩, bt1, cells, i, d, z, n + 1, hb1, hc1, ncb, hi0, hd⟩
      refine ite2 (fun c1 => ?_) (fun _ => ite_f rfl same)
      refine ⟨_, rfl, b, _, 1, .int i, rfl, rfl, .of hb1, atI_nat (j := 1) rfl, _, rfl, b, _, 0, .ref c, rfl, rfl, .of hb1, atI_nat (j := 0) rfl, c, cells.map V.int, rfl, .inl (.of hc1), _, _, rfl, rfl, _, rfl, ?_⟩
      refine ite2 (fun c2 => ?_) (fun _ => same)
      have hi : i.toNat < cells.length := by
        have q : i < ((cells.map V.int).length : Int) := of_decide_eq_true c2
        rw [List.length_map] at q
        omega
      have hx : (cells.map V.int)[i.toNat]? = some (.int cells[i.toNat]) := by rw [List.getElem?_map, List.getElem?_eq_getElem hi]; rfl
      refine ⟨_, rfl, b, _, 0, .ref c, rfl, rfl, .of hb1, atI_nat (j := 0) rfl, _, rfl, b, _, 1, .int i, rfl, rfl, .of hb1, atI_nat (j := 1) rfl, c, _, i, _, rfl, rfl, .of hc1, at_of (j := i.toNat) (by omega) hx, .inl ⟨_, rfl, ?_⟩⟩
      generalize cells[i.toNat] = v
      have bt2 : But b H (upd H1 b (.lst [.ref c, .int (i + 1), .int d, .int z, .int (n + 1)])) := bt1.trans but_upd
      have hb2 : (upd H1 b (.lst [.ref c, .int (i + 1), .int d, .int z, .int (n + 1)])) b = some (.lst [.ref c, .int (i + 1), .int d, .int z, .int (n + 1)]) := upd_same
      have hc2 := bt2 _ _ ncb hc
      refine ⟨_, rfl, b, _, 1, .int i, rfl, rfl, .of hb1, atI_nat (j := 1) rfl, i, 1, rfl, rfl, _, rfl, b, _, 1, 1, rfl, rfl, hb1, rfl, ?_⟩
      refine ⟨_, rfl, 10, 18, rfl, rfl, ⟨by decide, by decide, by decide⟩, v, _, rfl, rfl, _, rfl, ?_⟩
      refine ite2 (fun c3 => ?_) (fun _ => ?_)
      · have hv : 0 ≤ v := Int.le_trans (by decide) (of_decide_eq_true c3)
        refine ⟨_, rfl, _, rfl, b, _, 2, 2, rfl, rfl, hb2, rfl, ⟨_, rfl⟩, bt2.trans but_upd, cells, i + 1, v, z, n + 1, upd_same, (upd_ne ncb).trans hc2, ncb, by omega, hv⟩
      · refine ⟨_, rfl, b, _, 3, .int z, rfl, rfl, .of hb2, atI_nat (j := 3) rfl, z, 40692, rfl, rfl, .inr ⟨by decide, by decide⟩, _, rfl, v, 48271, rfl, rfl, .inr ⟨by decide, by decide⟩, _, _, rfl, rfl, ?_⟩
        refine ⟨_, rfl, b, _, 4, .int (n + 1), rfl, rfl, .of hb2, atI_nat (j := 4) rfl, _, _, rfl, rfl, .inl ⟨_, rfl, _, 2147483647, rfl, rfl, (by show (0 : Int) < 2147483647; decide), ?_⟩⟩
        refine ⟨_, rfl, b, _, 3, 3, rfl, rfl, hb2, rfl, ⟨_, rfl⟩, bt2.trans but_upd, cells, i + 1, d, _, n + 1, upd_same, (upd_ne ncb).trans hc2, ncb, by omega, hd⟩
    · rintro σ' H2 ⟨⟨x, rfl⟩, bt2, cells', i', d', z', n', hb2, hc2, ncb', hi', hd'⟩
      have m0 : (0 : Int) < (m : Int) := by omega
      have bag2 : BagAt H2 b c := ⟨cells', i', d', z', n', hb2, hc2, ncb', hi', hd'⟩
      refine ⟨_, rfl, b, _, 2, .int d', rfl, rfl, .of hb2, atI_nat (j := 2) rfl, d', 0, rfl, rfl, _, rfl, ?_⟩
      refine ite2 (fun c1 => ?_) (fun _ => ?_)
      · refine ⟨_, rfl, b, _, 2, .int d', rfl, rfl, .of hb2, atI_nat (j := 2) rfl, .inl ⟨_, rfl, _, rfl, d', (m : Nat), rfl, rfl, m0, ?_⟩⟩
        refine ⟨_, rfl, b, _, 2, .int d', rfl, rfl, .of hb2, atI_nat (j := 2) rfl, .inl ⟨_, rfl, _, rfl, d', (m : Nat), rfl, rfl, ⟨m0, by omega⟩, ?_⟩⟩
        refine ⟨_, rfl, b, _, 2, 2, rfl, rfl, hb2, rfl, _, rfl, ?_⟩
        have h0 := Int.emod_nonneg d' (Int.ne_of_gt m0)
        have h1 := Int.emod_lt_of_pos d' m0
        have e : d' % (m : Int) = (((d' % (m : Int)).toNat : Nat) : Int) := by omega
        show Q (.int (d' % (m : Int))) _
        rw [e]
        exact k _ _ (bt2.trans but_upd) ⟨cells', i', d' / (m : Int), z', n', upd_same, (upd_ne ncb').trans hc2, ncb', hi', Int.ediv_nonneg hd' (Int.le_of_lt m0)⟩ (by omega)
      · refine ⟨_, rfl, b, _, 3, .int z', rfl, rfl, .of hb2, atI_nat (j := 3) rfl, z', 48271, rfl, rfl, .inr ⟨by decide, by decide⟩, _, rfl, b, _, 4, .int n', rfl, rfl, .of hb2, atI_nat (j := 4) rfl, n', 69621, rfl, rfl, .inr ⟨by decide, by decide⟩, _, _, rfl, rfl, _, 12345, rfl, rfl,
          .inl ⟨_, rfl, _, 2147483647, rfl, rfl, (by show (0 : Int) < 2147483647; decide), ?_⟩⟩
        have h0 := Int.emod_nonneg (z' * 48271 + n' * 69621 + 12345) (b := 2147483647) (by decide)
        have h1 := Int.emod_lt_of_pos (z' * 48271 + n' * 69621 + 12345) (b := 2147483647) (by decide)
        show tSeq _ _ _ [some (.ref b), some (.int (m : Nat)), x, none, some (.int ((z' * 48271 + n' * 69621 + 12345) % 2147483647)), none] H2
        revert h0 h1
        generalize (z' * 48271 + n' * 69621 + 12345) % 2147483647 = once
        intro h0 h1
        refine ⟨_, rfl, _, rfl, once, once, rfl, rfl, .inl ⟨by omega, by omega⟩, _, rfl, b, _, 3, .int z', rfl, rfl, .of hb2, atI_nat (j := 3) rfl, z', 16807, rfl, rfl, .inr ⟨by decide, by decide⟩, _, _, rfl, rfl, _, rfl, b, _, 4, .int n', rfl, rfl, .of hb2, atI_nat (j := 4) rfl, n', 40692, rfl, rfl,
          .inr ⟨by decide, by decide⟩, _, _, rfl, rfl, .inl ⟨_, rfl, _, 2147483629, rfl, rfl, (by show (0 : Int) < 2147483629; decide), ?_⟩⟩
        refine ⟨_, rfl, _, 64, rfl, rfl, ⟨by decide, by decide⟩, .inl ⟨_, rfl, _, rfl, _, (m : Nat), rfl, rfl, m0, ?_⟩⟩
        generalize (once * once + z' * 16807 + n' * 40692) % 2147483629 / 64 = y
        have g0 := Int.emod_nonneg y (Int.ne_of_gt m0)
        have g1 := Int.emod_lt_of_pos y m0
        have e : y % (m : Int) = (((y % (m : Int)).toNat : Nat) : Int) := by omega
        show Q (.int (y % (m : Int))) _
        rw [e]
        exact k _ _ bt2 bag2 (by omega)
end
end Rd
set_option Elab.async false
set_option linter.all false
set_option maxRecDepth 100000
set_option maxHeartbeats 4000000
namespace Rd
open PySem PySem.Spec PyProof.Rows L2
theorem dp_ints {K : PySem.W.Frag} {H : Hp} : ∀ ns : List Int, DpAll K H (ns.map V.int) (ns.map PyData.int)
  | [] => .nil
  | n :: ns => .cons (.int n) (dp_ints ns)
theorem eqv_ints (ns : List Int) : PyData.eqv (.list (ns.map PyData.int)) (.list (ns.map PyData.int)) = true :=
  SeqAt.eqv_refl _ (SeqAt.canLay_of_shaped (PySem.W.ke_shaped_ints ns))
section
variable {P : Program} {w : World} {K : PySem.W.Frag} {mg : Str → Option Value} {base : Heap} {C : Addr}
theorem has_isNum (d : Df K mg "_law_is_number" sIsNum) (B : Bl mg) : Has P w K mg base CX0 1 "_law_is_number" PIsNum spIsNum := by
  refine has_of0 d scIsNum (fun vs H Q E h => ?_) (fun _ _ _ _ _ _ us hl => match us, hl with | [_], _ => rfl) (fun f cdv A outer s H vs Q E hr h => ?_)
  · obtain ⟨i, rfl, _⟩ := h
    rfl
  · obtain ⟨i, rfl, k⟩ := h
    refine ⟨_, pss_one (ps_ret (pe_and (pe_callB call_isi (by rfl) B.isi (by decide +kernel) (pa_cons (pv 0) (pa_cons (pe_bltn (v := .ty "int") (by rfl) B.int (by decide +kernel) rfl) pa_nil)))
      (pe_one (pe_not (pe_callB call_isi (by rfl) B.isi (by decide +kernel) (pa_cons (pv 0) (pa_cons (pe_bltn (v := .ty "bool") (by rfl) B.bool (by decide +kernel) rfl) pa_nil))))))), ?_⟩
    refine ⟨_, rfl, .int i, .ty "int", .type "int", .type "int", true, rfl, .ty _, .base (.int _), kit_ty (by decide +kernel), true, rfl, iteT ?_⟩
    exact ⟨_, rfl, .int i, .ty "bool", .type "int", .type "bool", false, rfl, .ty _, .base (.int _), kit_ty (by decide +kernel), false, rfl, k⟩
theorem has_read (d : Df K mg "_law_read" sRead) (B : Bl mg) (hN : Has P w K mg base CX0 1 "_law_is_number" PIsNum spIsNum) : Has P w K mg base CX0 2 "_law_read" PRead spRead := by
  obtain ⟨fN, fdN, gN, GN, kN, bN⟩ := hN
  refine has_of0 d scRead (fun vs H Q E h => ?_) (fun _ _ _ _ _ _ us hl => match us, hl with | [_, _], _ => rfl) (fun f cdv A outer s H vs Q E hr h => ?_)
  · obtain ⟨l, qs, es, n, rfl, _⟩ := h
    rfl
  · obtain ⟨l, qs, es, n, rfl, hl, ll, oke, le, k⟩ := h
    refine ⟨_, pss_cons (ps_if (pt_not (pt_val (pe_callB call_isi (by rfl) B.isi (by decide +kernel) (pa_cons (pv 0) (pa_cons (pe_bltn (v := .ty "list") (by rfl) B.list (by decide +kernel) rfl) pa_nil))))) (pss_one ps_never) pss_nil)
      (pss_cons (ps_set (i := 2) scRead.nd rfl (.inl rfl) (pe_lst pa_nil))
      (pss_cons (ps_for PassesOwn.never rfl (pi_list (pv 0)) (pg_name (i := 3) scRead.nd rfl (.inl rfl))
        (pss_cons (ps_if (PW.pt (pw_or (pt_not (pt_val (pe_callB call_isi (by rfl) B.isi (by decide +kernel) (pa_cons (pv 3) (pa_cons (pe_bltn (v := .ty "tuple") (by rfl) B.tuple (by decide +kernel) rfl) pa_nil))))) (pw_or1 (pt_cmpR op_ne (pe_callB call_len_seq (by rfl) B.len PySem.boot_len (pa_cons (pv 3) pa_nil)) pe_int (nomark _))))) (pss_one ps_never) pss_nil)
        (pss_cons (ps_if (PW.pt (pw_or (pt_not (pt_val (pe_callB call_isi (by rfl) B.isi (by decide +kernel) (pa_cons (pe_ix ix_tup (pv 3) pe_int (fun _ _ => rfl)) (pa_cons (pe_bltn (v := .ty "str") (by rfl) B.str (by decide +kernel) rfl) pa_nil))))) (pw_or1 (pt_cmpR op_ne (pe_ix ix_tup (pv 3) pe_int (fun _ _ => rfl)) pe_str (nomark _))))) (pss_one ps_never) pss_nil)
        (pss_cons (ps_if (PW.pt (pw_or (pt_not (pt_val (pe_call GN hr rfl gN kN bN .nil pass0 (pa_cons (pe_ix ix_tup (pv 3) pe_int (fun _ _ => rfl)) pa_nil)))) (pw_or1 (pt_not (pt_val (pe_call GN hr rfl gN kN bN .nil pass0 (pa_cons (pe_ix ix_tup (pv 3) pe_int (fun _ _ => rfl)) pa_nil))))))) (pss_one ps_never) pss_nil)
        (pss_cons (ps_if (PW.pt (pw_or (pt_not (pt_val (pe_callB call_isi (by rfl) B.isi (by decide +kernel) (pa_cons (pe_ix ix_tup (pv 3) pe_int (fun _ _ => rfl)) (pa_cons (pe_bltn (v := .ty "str") (by rfl) B.str (by decide +kernel) rfl) pa_nil))))) (pw_or1 (pt_cmpR op_ne (pe_ix ix_tup (pv 3) pe_int (fun _ _ => rfl)) pe_str (nomark _))))) (pss_one ps_never) pss_nil)
        (pss_cons (ps_if (PW.pt (pw_or (pt_cmpR op_lt (pe_ix ix_tup (pv 3) pe_int (fun _ _ => rfl)) pe_int (nomark _)) (pw_or (pt_cmpR op_ge (pe_ix ix_tup (pv 3) pe_int (fun _ _ => rfl)) (pv 1) (nomark _)) (pw_or (pt_cmpR op_lt (pe_ix ix_tup (pv 3) pe_int (fun _ _ => rfl)) pe_int (nomark _))
            (pw_or (pt_cmpR op_ge (pe_ix ix_tup (pv 3) pe_int (fun _ _ => rfl)) (pv 1) (nomark _)) (pw_or1 (pt_cmpR op_eq (pe_ix ix_tup (pv 3) pe_int (fun _ _ => rfl)) (pe_ix ix_tup (pv 3) pe_int (fun _ _ => rfl)) (nomark _)))))))) (pss_one ps_never) pss_nil)
        (pss_one (ps_expr (pe_bm PySem.F.plainAttrs_list PySem.F.slot_list_append PySem.F.type_list_append mt_append (pv 2) (pa_cons (pe_tup (pa_cons (pe_ix ix_tup (pv 3) pe_int (fun _ _ => rfl)) (pa_cons (pe_ix ix_tup (pv 3) pe_int (fun _ _ => rfl)) pa_nil))) pa_nil))))))))))
      (pss_one (ps_ret (pv 2))))), ?_⟩
    refine ⟨_, rfl, .ref l, .ty "list", .type "list", .type "list", true, rfl, .ty _, .base (.lst hl), kit_ty (by decide +kernel), true, rfl, ite_f rfl ?_⟩
    refine ⟨small (by show 0 ≤ 1000; decide), fun D nD => ?_⟩
    refine ⟨_, rfl, l, rfl, ⟨_, .of ((same_new nD) _ _ hl)⟩, for_it (walk_list (xs := qs.map V.ref)) (fun i σ H' => (∃ a, σ = [some (.ref l), some (.int (n : Nat)), some (.ref D), a]) ∧ Same H H' ∧ ∃ bs, H' D = some (.lst (bs.map V.ref)) ∧ PairsAt H' bs (es.take i)) ⟨⟨_, rfl⟩, same_new nD, [], upd_same, .nil⟩ (fun i σ H' _ ⟨_, s, _⟩ => .of (s _ _ hl)) ?_ ?_⟩
    · rintro i x σ H1 H2 hi ⟨⟨a, rfl⟩, s1, bs, eD, pp⟩ ⟨rfl, ex⟩
      obtain ⟨q, eq_, rfl⟩ := ref_at ex
      obtain ⟨e, ee, hq⟩ := paired_get ll eq_
      obtain ⟨o1, o2, o3⟩ := oke e (List.mem_of_getElem? ee)
      have lbs : bs.length ≤ 900 := by rw [paired_len pp]; exact Nat.le_trans (List.length_take_le' _ _) le
      have hq2 := s1 _ _ hq
      have sq : SqT K H2 q [.str "copy", .int (e.1 : Nat), .int (e.2 : Nat), .str ""] := .of hq2
      -- isinstance, len
      refine ⟨_, rfl, .ref q, .ty "tuple", .type "tuple", .type "tuple", true, rfl, .ty _, .base (.tup hq2), kit_ty (by decide +kernel), true, rfl, ite_f rfl ?_⟩
      refine ⟨_, rfl, q, _, rfl, .inr sq, rfl, _, rfl, ite_f rfl ?_⟩
      -- 'copy'
      refine ⟨_, rfl, q, _, 0, .str "copy", rfl, rfl, sq, atI_nat (j := 0) rfl, .str "copy", .ty "str", .type "str", .type "str", true, rfl, .ty _, .base (.str _), kit_ty (by decide +kernel), true, rfl, ite_f rfl ?_⟩
      refine ⟨_, rfl, q, _, 0, .str "copy", rfl, rfl, sq, atI_nat (j := 0) rfl, rfl, _, rfl, ite_f (by rw [decide_eq_true rfl]; rfl) ?_⟩
      -- numbers
      refine ⟨_, rfl, q, _, 1, .int (e.1 : Nat), rfl, rfl, sq, atI_nat (j := 1) rfl, (e.1 : Nat), rfl, true, rfl, ite_f rfl ?_⟩
      refine ⟨_, rfl, q, _, 2, .int (e.2 : Nat), rfl, rfl, sq, atI_nat (j := 2) rfl, (e.2 : Nat), rfl, true, rfl, ite_f rfl ?_⟩
      -- ''
      refine ⟨_, rfl, q, _, 3, .str "", rfl, rfl, sq, atI_nat (j := 3) rfl, .str "", .ty "str", .type "str", .type "str", true, rfl, .ty _, .base (.str _), kit_ty (by decide +kernel), true, rfl, ite_f rfl ?_⟩
      refine ⟨_, rfl, q, _, 3, .str "", rfl, rfl, sq, atI_nat (j := 3) rfl, rfl, _, rfl, ite_f (by rw [decide_eq_true rfl]; rfl) ?_⟩
      -- bounds
      refine ⟨_, rfl, q, _, 1, .int (e.1 : Nat), rfl, rfl, sq, atI_nat (j := 1) rfl, _, 0, rfl, rfl, _, rfl, ite_f (decide_eq_false (by omega)) ?_⟩
      refine ⟨_, rfl, q, _, 1, .int (e.1 : Nat), rfl, rfl, sq, atI_nat (j := 1) rfl, _, rfl, _, _, rfl, rfl, _, rfl, ite_f (decide_eq_false (by omega)) ?_⟩
      refine ⟨_, rfl, q, _, 2, .int (e.2 : Nat), rfl, rfl, sq, atI_nat (j := 2) rfl, _, 0, rfl, rfl, _, rfl, ite_f (decide_eq_false (by omega)) ?_⟩
      refine ⟨_, rfl, q, _, 2, .int (e.2 : Nat), rfl, rfl, sq, atI_nat (j := 2) rfl, _, rfl, _, _, rfl, rfl, _, rfl, ite_f (decide_eq_false (by omega)) ?_⟩
      refine ⟨_, rfl, q, _, 1, .int (e.1 : Nat), rfl, rfl, sq, atI_nat (j := 1) rfl, _, rfl, q, _, 2, .int (e.2 : Nat), rfl, rfl, sq, atI_nat (j := 2) rfl, rfl, _, rfl, ite_f (by rw [int_eq]; exact decide_eq_false o3) ?_⟩
      -- append
      refine ⟨_, rfl, .inl ⟨rfl, _, .of eD⟩, _, rfl, q, _, 1, .int (e.1 : Nat), rfl, rfl, sq, atI_nat (j := 1) rfl, _, rfl, q, _, 2, .int (e.2 : Nat), rfl, rfl, sq, atI_nat (j := 2) rfl, (by show 2 ≤ sizeLine; decide), fun t nt => ?_⟩
      have ntD : D ≠ t := ne_of_none eD nt
      have eD2 : (upd H2 t (.tup [.int (e.1 : Nat), .int (e.2 : Nat)])) D = some (.lst (bs.map V.ref)) := (upd_ne ntD).trans eD
      refine ⟨D, _, _, rfl, rfl, eD2, (by rw [len_refs]; exact small1000 (by omega)), ⟨_, rfl⟩, But.same but_upd (s1.trans (same_new nt)) nD, bs ++ [t], by rw [upd_same]; simp, ?_⟩
      rw [take_snoc ee]
      exact pairs_upd eD2 (paired_append (pp.same (same_new nt)) (.cons upd_same .nil))
    · rintro σ H1 ⟨⟨a, rfl⟩, s1, bs, eD, pp⟩
      rw [len_refs, paired_len ll, List.take_length] at pp
      exact ⟨_, rfl, k H1 D bs s1 nD eD pp⟩
theorem has_leads (d : Df K mg "_law_leads" sLeads) (B : Bl mg) : Has P w K mg base CX0 1 "_law_leads" PLeads (spLeads K) := by
  refine has_of0 d scLeads (fun vs H Q E h => ?_) (fun _ _ _ _ _ _ us hl => match us, hl with | [_, _], _ => rfl) (fun f cdv A outer s H vs Q E hr h => ?_)
  · obtain ⟨r, bs, es, q, g, rfl, _⟩ := h
    rfl
  · obtain ⟨r, bs, es, q, g, rfl, er, pp, eq_, lg, oke, hrun, k⟩ := h
    refine ⟨_, pss_cons (ps_setLc (i := 2) (own := [("_law_block", 4)]) (g := gName 4) (tt := tYes) (by rfl) scLeads.nd rfl rfl (sw_true rfl rfl rfl (by decide +kernel)) (pi_range1 (by rfl) B.range (pa_cons (pe_callB call_len_seq (by rfl) B.len PySem.boot_len (pa_cons (pv 1) pa_nil)) pa_nil)) (blkOk_by (N := NLeads) (sc := defScope sLeads) (by decide +kernel))
        (fun _ _ _ _ _ => pg_name (i := 4) scLeads.nd rfl (.inl rfl)) (fun _ _ _ _ _ => pts_nil) (fun _ _ _ _ _ => pv 4))
      (pss_cons (ps_for PassesOwn.never rfl (pi_list (pv 0)) (pg_name (i := 3) scLeads.nd rfl (.inl rfl))
        (pss_one (ps_asg (pe_ix ix_list (pv 2) (pe_ix ix_tup (pv 3) pe_int (fun _ _ => rfl)) (fun _ _ => rfl)) (pg_sub (pv 2) (pe_ix ix_tup (pv 3) pe_int (fun _ _ => rfl)) set_list))))
      (pss_one (ps_ret (pe_cmpR (op_eqD hr.units) (pv 2) (pv 1) (nomark _))))), ?_⟩
    refine ⟨_, rfl, q, iv g, rfl, .inl (.of eq_), (iv g).length, rfl, by rw [iv_len]; omega, by rw [iv_len]; omega, fun D nD => ?_⟩
    rw [show ((iv g).length : Int).toNat = g.length by rw [iv_len]; omega]
    refine lc_it (walk_range0 (n := g.length)) (fun i H' => Same H H' ∧ H' D = some (.lst (iv (home i)))) ⟨same_new nD, upd_same⟩ (fun _ _ _ _ => trivial) ?_ ?_
    · rintro i x H1 H2 hi ⟨s1, eD⟩ ⟨rfl, rfl⟩
      refine ⟨rfl, _, rfl, _, eD, ?_, But.same but_upd s1 nD, ?_⟩
      · rw [iv_len]; unfold home; rw [List.length_range]; exact small1000 (by omega)
      · rw [upd_same]; unfold home; rw [List.range_succ, iv_append]; rfl
    · rintro H1 ⟨s1, eD⟩
      have nqD : q ≠ D := ne_of_none eq_ nD
      refine ⟨_, rfl, r, rfl, ⟨_, .of (s1 _ _ er)⟩, for_it (walk_list (xs := bs.map V.ref)) (fun i σ H' => (∃ a b, σ = [some (.ref r), some (.ref q), some (.ref D), a, b]) ∧ Same H H' ∧ H' D = some (.lst (iv (run (home g.length) (es.take i))))) ⟨⟨_, _, rfl⟩, s1, eD⟩ (fun i σ H' _ ⟨_, s, _⟩ => .of (s _ _ er)) ?_ ?_⟩
      · rintro i x σ H2 H3 hi ⟨⟨a, b, rfl⟩, s2, eD2⟩ ⟨rfl, ex⟩
        obtain ⟨t, et, rfl⟩ := ref_at ex
        obtain ⟨e, ee, ht⟩ := paired_get pp et
        obtain ⟨o1, o2, o3⟩ := oke e (List.mem_of_getElem? ee)
        have hlen : (run (home g.length) (es.take i)).length = g.length := by rw [run_len]; simp [home]
        have sq : SqT K H3 t [.int (e.1 : Nat), .int (e.2 : Nat)] := .of (s2 _ _ ht)
        refine ⟨_, rfl, _, rfl, t, _, 1, .int (e.2 : Nat), rfl, rfl, sq, atI_nat (j := 1) rfl, D, _, (e.2 : Nat), _, rfl, rfl, .of eD2, atI_nat (iv_at (by omega)), ?_⟩
        refine ⟨_, rfl, _, rfl, t, _, 0, .int (e.1 : Nat), rfl, rfl, sq, atI_nat (j := 0) rfl, D, _, (e.1 : Nat), e.1, rfl, rfl, eD2, ixN_nat (by rw [iv_len, hlen]; exact o1), ⟨_, _, rfl⟩, But.same but_upd s2 nD, ?_⟩
        rw [upd_same, ← iv_set, run_take ee]; rfl
      · rintro σ H2 ⟨⟨a, b, rfl⟩, s2, eD2⟩
        rw [len_refs, paired_len pp, List.take_length, hrun] at eD2
        refine ⟨_, rfl, _, rfl, .list ((zs g).map PyData.int), .list ((zs g).map PyData.int), .lst (.of eD2) (dp_ints _), .lst (.of (s2 _ _ eq_)) (dp_ints _), PySem.W.ke_shaped_ints _, PySem.W.ke_shaped_ints _, ?_⟩
        rw [eqv_ints]
        exact k H2 s2
end
end Rd
set_option Elab.async false
set_option linter.all false
set_option maxRecDepth 100000
set_option maxHeartbeats 4000000
namespace Rd
open PySem PySem.Spec PyProof.Rows L2
/-- what isinstance of a NoLog leans on -/
structure Ex (K : PySem.W.Frag) (mg : Str → Option Value) (C : Addr) : Prop where
  n : Nl K mg C
  exm : PySem.W.exmOne K (.ref C) (.ref C) = some true
  ec : ExcC K C
  ig : ∃ CI, mg "InvalidGoal" = some (.ref CI) ∧ PySem.W.kitOne K (.ref C) (.ref CI) = some false
  ns : ∃ CS, mg "NoSafeLog" = some (.ref CS) ∧ PySem.W.kitOne K (.ref C) (.ref CS) = some false
  tm : ∃ CT, mg "TooMany" = some (.ref CT) ∧ PySem.W.kitOne K (.ref C) (.ref CT) = some false
  re : ∃ CR, mg "RedoError" = some (.ref CR) ∧ PySem.W.kitOne K (.ref C) (.ref CR) = some true
  ve : mg "ValueError" = none
  kv : PySem.W.kitOne K (.ref C) (.type "ValueError") = some true
def keyL (g : List Nat) : List Key := (zs g).map Sum.inl
theorem keyL_iv {g : List Nat} : (keyL g).map kV = iv g := by
  unfold keyL iv
  rw [List.map_map]; rfl
theorem keyL_inj {g h : List Nat} : keyL g = keyL h ↔ g = h := by
  constructor
  · intro e
    have e1 : zs g = zs h := by
      have := congrArg (List.map kV) e
      rw [keyL_iv, keyL_iv] at this
      exact List.map_inj_right (fun a b q => V.int.inj q) |>.mp this
    unfold zs at e1
    exact List.map_inj_right (fun a b q => by omega) |>.mp e1
  · rintro rfl; rfl
def farK (far : Far) : List (List Key × V) := far.map fun e => (keyL e.1, V.int (e.2 : Nat))
theorem farK_look {far : Far} {g : List Nat} : valV (farK far) (keyL g) = (lookF far g).map fun k => V.int (k : Nat) := by
  unfold valV farK
  induction far with
  | nil => rfl
  | cons e far ih =>
    rw [List.map_cons, List.find?_cons]
    by_cases c : e.1 = g
    · have c' : decide (keyL e.1 = keyL g) = true := decide_eq_true (keyL_inj.mpr c)
      rw [c']
      show some _ = _
      unfold lookF
      rw [if_pos c]; rfl
    · have c' : decide (keyL e.1 = keyL g) = false := decide_eq_false fun q => c (keyL_inj.mp q)
      rw [c']
      unfold lookF
      rw [if_neg c]
      exact ih
def spCall (C : Addr) : Sp := fun vs H Q E => ∃ (door : Nat) (p : Addr) (g : List Nat), vs = [.int (door : Nat), .ref p] ∧ Fz H p (iv g) ∧ GoalOk g ∧ ¬ Possible g ∧ ∀ H', Same H H' → E (.ref C) none H'
def spRefused : Sp := fun vs H Q _ => ∃ (door : Nat) (p : Addr) (g : List Nat), vs = [.int (door : Nat), .ref p] ∧ Fz H p (iv g) ∧ GoalOk g ∧ ¬ Possible g ∧ ∀ H', Same H H' → Q (.bl true) H'
def spGoalR : Sp := fun vs H Q _ => ∃ p g d far, vs = [.ref p, .ref d] ∧ Fz H p (iv g) ∧ GoalOk g ∧ H d = some (.dT (farK far)) ∧ Found g.length far ∧ ∀ H', Same H H' → Q (.bl true) H'
section
variable {P : Program} {w : World} {K : PySem.W.Frag} {mg : Str → Option Value} {base : Heap} {C : Addr}
theorem has_call (d : Df K mg "_law_call" sCall) (hF : Has P w K mg base (L2.CX P w) 4 "fewest_copies" PFewest (spFewest C)) (hL : Has P w K mg base (L2.CX P w) 4 "least_log" PLeast (spLeast C)) : Has P w K mg base (L2.CX P w) 5 "_law_call" PCall (spCall C) := by
  obtain ⟨fF, fdF, gF, GF, kF, bF⟩ := hF
  obtain ⟨fL, fdL, gL, GL, kL, bL⟩ := hL
  refine has_of d scCall (fun vs H Q E h => ?_) (fun _ _ _ _ _ _ us hl => match us, hl with | [_, _], _ => rfl) (fun f cdv A outer s H vs Q E hr h => ?_)
  · obtain ⟨door, p, g, rfl, _⟩ := h
    rfl
  · obtain ⟨door, p, g, rfl, hp, ok, np, k⟩ := h
    refine ⟨_, pss_cons (ps_if (pt_cmpR op_eq (pv 0) pe_int (nomark _)) (pss_one (ps_ret (pe_call GF hr rfl gF kF bF .nil (passes_call (takes_of rfl rfl rfl rfl) (fun _ _ _ _ h => h)) (pa_cons (pv 1) pa_nil)))) pss_nil)
      (pss_one (ps_ret (pe_call GL hr rfl gL kL bL .nil (passes_call (takes_of rfl rfl rfl rfl) (fun _ _ _ _ h => h)) (pa_cons (pv 1) pa_nil)))), ?_⟩
    refine ⟨_, rfl, rfl, _, rfl, ite2 (fun _ => ?_) (fun _ => ?_)⟩
    · exact ⟨_, rfl, p, g, rfl, hp, ok, fun po => absurd po np, fun _ => k⟩
    · exact ⟨_, rfl, p, g, rfl, hp, ok, fun po => absurd po np, fun _ => k⟩
theorem has_refused (d : Df K mg "_law_refused" sRefused) (B : Bl mg) (X : Ex K mg C) (hC : Has P w K mg base (L2.CX P w) 5 "_law_call" PCall (spCall C)) : Has P w K mg base CX0 6 "_law_refused" PRefused spRefused := by
  obtain ⟨fC, fdC, gC, GC, kC, bC⟩ := hC
  obtain ⟨CI, gI, kI⟩ := X.ig
  obtain ⟨CS, gS, kS⟩ := X.ns
  obtain ⟨CT, gT, kT⟩ := X.tm
  obtain ⟨CR, gR, kR⟩ := X.re
  refine has_of0 d scRefused (fun vs H Q E h => ?_) (fun _ _ _ _ _ _ us hl => match us, hl with | [_, _], _ => rfl) (fun f cdv A outer s H vs Q E hr h => ?_)
  · obtain ⟨door, p, g, rfl, _⟩ := h
    rfl
  · obtain ⟨door, p, g, rfl, hp, ok, np, k⟩ := h
    refine ⟨_, pss_cons (ps_try_take (i := 2) (tb := fun W => tDrop (tCallS (spCall C) (WE W) (tCons (tVar 0) (tCons (tVar 1) tNil))))
        (ts := fun a cls d D σ H => cls = .ref C ∧ d = none ∧ tSeq (tIfS (tOr (tB (tCB (rIsE K C a) (tCons (tVar 2) (tCons (tC (.ref CI)) tNil)))) (tOr (tB (tCB (rIsE K C a) (tCons (tVar 2) (tCons (tC (.ref CS)) tNil)))) (tB (tCB (rIsE K C a) (tCons (tVar 2) (tCons (tC (.ref CT)) tNil)))))) tNever tNext)
          (tRet (tAndV (tCB (rIsE K C a) (tCons (tVar 2) (tCons (tC (.ref CR)) tNil))) (tCB (rIsE K C a) (tCons (tVar 2) (tCons (tC (.ty "ValueError")) tNil))))) D σ H)
        rfl rfl scRefused.nd rfl rfl ⟨rfl, by decide, .inl X.n.g⟩
        (fun W pn xe tk _ => pss_one (ps_expr (by exact (pe_callS GC hr rfl gC kC bC (fun σ => passAt tk σ) (by exact (pa_cons (pv 0) (pa_cons (pv 1) pa_nil)))))))
        (fun a oe cls d pn hz hf => ⟨fun pins s σ H D I h => ?_⟩)) pss_never, ?_⟩
    · obtain ⟨rfl, rfl, h⟩ := h
      refine (pss_cons (ps_if (PW.pt (pw_or (pt_val (pe_callB (call_isE X.ec hz hf) (by rfl) B.isi (by decide +kernel) (pa_cons (pv 2) (pa_cons (pe_glob (v := .ref CI) (by rfl) gI rfl) pa_nil))))
          (pw_or (pt_val (pe_callB (call_isE X.ec hz hf) (by rfl) B.isi (by decide +kernel) (pa_cons (pv 2) (pa_cons (pe_glob (v := .ref CS) (by rfl) gS rfl) pa_nil))))
          (pw_or1 (pt_val (pe_callB (call_isE X.ec hz hf) (by rfl) B.isi (by decide +kernel) (pa_cons (pv 2) (pa_cons (pe_glob (v := .ref CT) (by rfl) gT rfl) pa_nil)))))))) (pss_one ps_never) pss_nil)
        (pss_one (ps_ret (pe_and (pe_callB (call_isE X.ec hz hf) (by rfl) B.isi (by decide +kernel) (pa_cons (pv 2) (pa_cons (pe_glob (v := .ref CR) (by rfl) gR rfl) pa_nil)))
          (pe_one (pe_callB (call_isE X.ec hz hf) (by rfl) B.isi (by decide +kernel) (pa_cons (pv 2) (pa_cons (pe_bltn (v := .ty "ValueError") (by rfl) X.ve (by decide +kernel) rfl) pa_nil)))))))).run pins s σ H D I h
    · refine ⟨_, rfl, _, rfl, door, p, g, rfl, hp, ok, np, fun H1 s1 => ⟨X.exm, fun a na => ⟨rfl, rfl, ?_⟩⟩⟩
      refine ⟨_, rfl, .ref CI, .ref CI, false, rfl, (fun _ r => r), kI, false, rfl, ite_f rfl ?_⟩
      refine ⟨_, rfl, .ref CS, .ref CS, false, rfl, (fun _ r => r), kS, false, rfl, ite_f rfl ?_⟩
      refine ⟨_, rfl, .ref CT, .ref CT, false, rfl, (fun _ r => r), kT, false, rfl, ite_f rfl ?_⟩
      refine ⟨_, rfl, .ref CR, .ref CR, true, rfl, (fun _ r => r), kR, true, rfl, ite_t rfl ?_⟩
      exact ⟨_, rfl, .ty "ValueError", .type "ValueError", true, rfl, (fun _ r => r), X.kv, k H1 s1⟩
theorem has_goalR (d : Df K mg "_law_goal_right" sGoalR) (B : Bl mg) (hRf : Has P w K mg base CX0 6 "_law_refused" PRefused spRefused) (hF : Has P w K mg base (L2.CX P w) 4 "fewest_copies" PFewest (spFewest C)) (hN : Has P w K mg base CX0 1 "_law_is_number" PIsNum spIsNum)
    (hL : Has P w K mg base (L2.CX P w) 4 "least_log" PLeast (spLeast C)) (hRd : Has P w K mg base CX0 2 "_law_read" PRead spRead) (hLd : Has P w K mg base CX0 1 "_law_leads" PLeads (spLeads K)) : Has P w K mg base CX0 7 "_law_goal_right" PGoalR spGoalR := by
  obtain ⟨fRf, fdRf, gRf, GRf, kRf, bRf⟩ := hRf
  obtain ⟨fF, fdF, gF, GF, kF, bF⟩ := hF
  obtain ⟨fN, fdN, gN, GN, kN, bN⟩ := hN
  obtain ⟨fL, fdL, gL, GL, kL, bL⟩ := hL
  obtain ⟨fRd, fdRd, gRd, GRd, kRd, bRd⟩ := hRd
  obtain ⟨fLd, fdLd, gLd, GLd, kLd, bLd⟩ := hLd
  refine has_of0 d scGoalR (fun vs H Q E h => ?_) (fun _ _ _ _ _ _ us hl => match us, hl with | [_, _], _ => rfl) (fun f cdv A outer s H vs Q E hr h => ?_)
  · obtain ⟨p, g, d, far, rfl, _⟩ := h
    rfl
  · obtain ⟨p, g, dd, far, rfl, hp, ok, hd, fo, k⟩ := h
    have hu := hu_of hr
    refine ⟨_, pss_cons (ps_if (pt_cmp (pc_dnotinF hu (pv 0) (pv 1)) (by rfl)) (pss_one (ps_ret (pe_and (pe_call GRf hr rfl gRf kRf bRf .nil pass0 (pa_cons pe_int (pa_cons (pv 0) pa_nil))) (pe_one (pe_call GRf hr rfl gRf kRf bRf .nil pass0 (pa_cons pe_int (pa_cons (pv 0) pa_nil))))))) pss_nil)
      (pss_cons (ps_set (i := 2) scGoalR.nd rfl (.inl rfl) (pe_call GF (hr.mono (by decide)) rfl gF kF bF .nil passL (pa_cons (pv 0) pa_nil)))
      (pss_cons (ps_if (PW.pt (pw_or (pt_not (pt_val (pe_call GN (hr.mono (by decide)) rfl gN kN bN .nil pass0 (pa_cons (pv 2) pa_nil)))) (pw_or1 (pt_cmpR op_ne (pv 2) (pe_dgetF hu (pv 1) (pv 0) (fun _ _ => rfl)) (nomark _))))) (pss_one ps_never) pss_nil)
      (pss_cons (ps_set (i := 3) scGoalR.nd rfl (.inl rfl) (pe_call GRd (hr.mono (by decide)) rfl gRd kRd bRd .nil pass0 (pa_cons (pe_call GL (hr.mono (by decide)) rfl gL kL bL .nil passL (pa_cons (pv 0) pa_nil)) (pa_cons (pe_callB call_len_seq (by rfl) B.len PySem.boot_len (pa_cons (pv 0) pa_nil)) pa_nil))))
      (pss_one (ps_ret (pe_and (pe_cmp (pc_notN (pv 3))) (pe_and (pe_cmpR op_eq (pe_callB call_len_seq (by rfl) B.len PySem.boot_len (pa_cons (pv 3) pa_nil)) (pe_dgetF hu (pv 1) (pv 0) (fun _ _ => rfl)) (nomark _))
        (pe_one (pe_call GLd (hr.mono (by decide)) rfl gLd kLd bLd .nil pass0 (pa_cons (pv 3) (pa_cons (pe_callTy call_list_of (by rfl) B.list (by decide +kernel) (pa_cons (pv 0) pa_nil)) pa_nil)))))))))))
    , ?_⟩
    have key : ∀ {H' : Hp}, Same H H' → Fz H' p ((keyL g).map kV) := fun s => by rw [keyL_iv]; exact hp.same s
    refine ⟨_, rfl, _, rfl, dd, p, farK far, keyL g, rfl, rfl, hd, key (Same.refl H), _, rfl, ?_⟩
    rw [farK_look]
    obtain ⟨f1, f2⟩ := fo g rfl ok.1
    cases hlk : lookF far g with
    | none =>
      have np := f2 hlk
      refine ite_t rfl ⟨_, rfl, 0, p, g, rfl, hp, ok, np, fun H1 s1 => ⟨true, rfl, ite_t rfl ?_⟩⟩
      exact ⟨_, rfl, 1, p, g, rfl, hp.same s1, ok, np, fun H2 s2 => k H2 (s1.trans s2)⟩
    | some kk =>
      obtain ⟨po, hk⟩ := f1 kk hlk
      have look : valV (farK far) (keyL g) = some (.int (fewest g : Nat)) := by rw [farK_look, hlk, hk]; rfl
      refine ite_f rfl ?_
      refine ⟨_, rfl, p, g, rfl, hp, ok, fun _ H1 s1 => ?_, fun np => absurd po np⟩
      refine ⟨_, rfl, (fewest g : Nat), rfl, true, rfl, ite_f rfl ?_⟩
      refine ⟨_, rfl, _, rfl, _, rfl, dd, p, farK far, keyL g, _, rfl, rfl, s1 _ _ hd, key s1, look, rfl, _, rfl, ite_f (by rw [decide_eq_true rfl]; rfl) ?_⟩
      refine ⟨_, rfl, p, g, rfl, hp.same s1, ok, fun _ H2 l qs es s2 el ll oke hrun hlen => ?_, fun np => absurd po np⟩
      have s12 := s1.trans s2
      have lf : fewest g ≤ 24 := Nat.le_trans fewest_bound (by have := ok.2.2; omega)
      refine ⟨_, rfl, p, iv g, rfl, .inr (hp.same s12).sqt, l, qs, es, g.length, (by rw [iv_len]; rfl), el, ll, oke, by omega, fun H3 r bs s3 nr er pp => ?_⟩
      have s13 := s12.trans s3
      refine ⟨_, rfl, _, rfl, ite_t rfl ?_⟩
      refine ⟨_, rfl, r, bs.map V.ref, rfl, .inl (.of er), _, rfl, _, rfl, dd, p, farK far, keyL g, _, rfl, rfl, s13 _ _ hd, key s13, look, rfl, _, rfl, ite_t (by rw [len_refs, paired_len pp, hlen]; exact decide_eq_true rfl) ?_⟩
      refine ⟨_, rfl, _, rfl, p, iv g, rfl, .inr (hp.same s13).sqt, fun q nq => ?_⟩
      refine ⟨r, bs, es, q, g, rfl, (same_new nq) _ _ er, pp.same (same_new nq), upd_same, ok.2.2, oke, hrun, fun H4 s4 => k H4 (s13.trans ((same_new nq).trans s4))⟩
end
end Rd
set_option Elab.async false
set_option linter.all false
set_option maxRecDepth 100000
set_option maxHeartbeats 4000000
namespace Rd
open PySem PySem.Spec PyProof.Rows L2
/-! ### the search's state -/
structure Fine (n : Nat) (st : BS) : Prop where
  keys : ∀ e ∈ st.1, e.1.length = n ∧ Valid e.1
  nd : (st.1.map (·.1)).Nodup
  le : st.2.length ≤ st.1.length
theorem Fine.add {n d : Nat} {st : BS} (f : Fine n st) {x : List Nat} (hl : x.length = n) (hv : Valid x) : Fine n (bAdd d st x) := by
  unfold bAdd
  by_cases c : x ∈ st.1.map (·.1)
  · rw [if_pos c]; exact f
  · rw [if_neg c]
    refine ⟨fun e he => ?_, ?_, ?_⟩
    · rcases List.mem_append.mp he with h | h
      · exact f.keys e h
      · have : e = (x, d) := by simpa using h
        rw [this]; exact ⟨hl, hv⟩
    · show ((st.1 ++ [(x, d)]).map (·.1)).Nodup
      rw [List.map_append, List.nodup_append]
      refine ⟨f.nd, by simp, fun a ha b hb e => ?_⟩
      have : b = x := by simpa using hb
      rw [e, this] at ha
      exact c ha
    · show (st.2 ++ [x]).length ≤ (st.1 ++ [(x, d)]).length
      rw [List.length_append, List.length_append]
      have := f.le
      simp; omega
theorem Fine.few {n : Nat} {st : BS} (f : Fine n st) (hn : n ≤ 4) : st.1.length ≤ 256 := keys_few hn f.keys f.nd
theorem bSrc_succ {d : Nat} {img : List Nat} {t k : Nat} {st : BS} : bSrc d img t (k + 1) st = bAdd d (bSrc d img t k st) (img.set t (At img k)) := by
  unfold bSrc
  rw [List.range_succ, List.foldl_append]; rfl
theorem bTgt_succ {n d : Nat} {img : List Nat} {k : Nat} {st : BS} : bTgt n d img (k + 1) st = bSrc d img k n (bTgt n d img k st) := by
  unfold bTgt
  rw [List.range_succ, List.foldl_append]; rfl
theorem bLev_snoc {n d : Nat} {lev : List (List Nat)} {img : List Nat} {st : BS} : bLev n d (lev ++ [img]) st = bTgt n d img n (bLev n d lev st) := by
  unfold bLev
  rw [List.foldl_append]; rfl
theorem Level.fine {n d : Nat} {far : Far} {lev : List (List Nat)} (L : Level n d far lev) : Fine n (far, []) :=
  ⟨fun e he => let ⟨a, _⟩ := L.keys e.1 e.2 he; ⟨a.1, a.2.1⟩, L.nodup, Nat.zero_le _⟩
theorem set_cut {g : List Nat} {t v : Nat} (h : t < g.length) : g.set t v = g.take t ++ (v :: g.drop (t + 1)) := List.set_eq_take_append_cons_drop .. |>.trans (if_pos h)
theorem cut_lo {g : List Nat} {t : Nat} (h : t < g.length) : cutV (iv g) none (some (t : Int)) = iv (g.take t) := by
  unfold cutV
  rw [HT.sIx_none, HT.sIx_nat, iv_len, Nat.min_eq_left (Nat.le_of_lt h), List.drop_zero, Nat.sub_zero]
  simp [iv, zs, List.map_take]
theorem cut_hi {g : List Nat} {t : Nat} (h : t < g.length) : cutV (iv g) (some ((t : Int) + 1)) none = iv (g.drop (t + 1)) := by
  unfold cutV
  rw [show ((t : Int) + 1) = ((t + 1 : Nat) : Int) by omega, HT.sIx_nat, HT.sIx_none, iv_len, Nat.min_eq_left h]
  have : ((iv g).drop (t + 1)).length ≤ g.length - (t + 1) := by rw [List.length_drop, iv_len]; exact Nat.le_refl _
  rw [List.take_of_length_le this]
  simp [iv, zs, List.map_drop]
theorem farK_in {far : Far} {g : List Nat} : (valV (farK far) (keyL g)).isSome = decide (g ∈ far.map (·.1)) := by
  rw [farK_look, Option.isSome_map]
  induction far with
  | nil => rfl
  | cons e far ih =>
    unfold lookF
    by_cases c : e.1 = g
    · rw [if_pos c, decide_eq_true (by rw [List.map_cons, c]; exact List.mem_cons_self)]; rfl
    · rw [if_neg c, ih]
      by_cases h : g ∈ far.map (·.1)
      · rw [decide_eq_true h, decide_eq_true (by rw [List.map_cons]; exact List.mem_cons_of_mem _ h)]
      · rw [decide_eq_false h, decide_eq_false (by rw [List.map_cons, List.mem_cons]; exact fun z => z.elim (fun q => c q.symm) h)]
theorem farK_put {far : Far} {g : List Nat} {d : Nat} (h : g ∉ far.map (·.1)) : putK (farK far) (keyL g) (.int (d : Nat)) = farK (far ++ [(g, d)]) := by
  unfold putK
  have e : (farK far).any (fun kv => decide (kv.1 = keyL g)) = false := by
    rw [List.any_eq_false]
    intro kv hkv q
    unfold farK at hkv
    obtain ⟨e, he, rfl⟩ := List.mem_map.mp hkv
    have : e.1 = g := keyL_inj.mp (of_decide_eq_true q)
    exact h (this ▸ List.mem_map_of_mem he)
  rw [e, if_neg Bool.false_ne_true]
  unfold farK
  rw [List.map_append]; rfl
theorem farK_len {far : Far} : (farK far).length = far.length := List.length_map _
def spDist : Sp := fun vs H Q _ => ∃ n : Nat, vs = [.int (n : Nat)] ∧ 1 ≤ n ∧ n ≤ 4 ∧ ∀ H' d far, Same H H' → H' d = some (.dT (farK far)) → Found n far → Q (.ref d) H'
/-- the heap in the midst of a level -/
structure Bst (H0 H' : Hp) (D Lv Bd : Addr) (ls : List Addr) (lev : List (List Nat)) (n : Nat) (st : BS) : Prop where
  same : Same H0 H'
  far : H' D = some (.dT (farK st.1))
  lv : H' Lv = some (.lst (ls.map V.ref))
  tt : TupsAt H' ls lev
  bd : ∃ bs, H' Bd = some (.lst (bs.map V.ref)) ∧ TupsAt H' bs st.2
  fine : Fine n st
theorem tups_upd {H : Hp} {l : Addr} {u o : HO} {bs : List Addr} {es : List (List Nat)} (e : H l = some u) (ne : ∀ c : List Nat, u ≠ .tup (iv c)) (p : TupsAt H bs es) : TupsAt (upd H l o) bs es :=
  paired_but (f := fun c => HO.tup (iv c)) (fun c z => by rw [e] at z; exact ne c (Option.some.inj z)) but_upd p
section
variable {P : Program} {w : World} {K : PySem.W.Frag} {mg : Str → Option Value} {base : Heap} {C : Addr}
/-- image[:target] + (image[source],) + image[target + 1:] -/
theorem reached {σ : L2.St} {H : Hp} {Q : VK} {p : Addr} {g : List Nat} {t s : Nat} (h6 : σ[6]? = some (some (.ref p))) (h7 : σ[7]? = some (some (.int (t : Nat)))) (h8 : σ[8]? = some (some (.int (s : Nat)))) (hp : H p = some (.tup (iv g))) (ht : t < g.length) (hs : s < g.length) (hg : g.length ≤ 12)
    (k : ∀ H' q, Same H H' → H' q = some (.tup (iv (g.set t (At g s)))) → Q (.ref q) H') :
    tOp (rCatA K) (tOp (rCatA K) (L2.tSl (rSlT K) (tVar 6) tNoPart (tPart (tVar 7))) (tTup (tCons (tOp (rIxT K) (tVar 6) (tVar 8)) tNil))) (L2.tSl (rSlT K) (tVar 6) (tPart (tOp (rI0 fun i j => .int (i + j)) (tVar 7) (tC (.int 1)))) tNoPart) σ H Q := by
  have hlen : (iv g).length = g.length := iv_len
  refine ⟨_, h6, _, h7, _, rfl, p, iv g, rfl, .of hp, ?_, fun p1 n1 => ?_⟩
  · rw [HT.sIx_nat, hlen]; omega
  rw [cut_lo ht]
  have s1 : Same H (upd H p1 (.tup (iv (g.take t)))) := same_new n1
  refine ⟨_, h6, _, h8, p, iv g, (s : Nat), .int (At g s), rfl, rfl, .of (s1 _ _ hp), atI_nat (iv_at hs), (by show 1 ≤ sizeLine; decide), fun p2 n2 => ?_⟩
  have s2 := s1.trans (same_new n2 (o := .tup [.int (At g s)]))
  have n12 : p1 ≠ p2 := ne_of_none upd_same n2
  have lt : (iv (g.take t)).length ≤ 12 := by rw [iv_len]; exact Nat.le_trans (List.length_take_le' _ _) hg
  -- the first sum: some tuple of take t ++ [v]
  have last : ∀ H' q, Same H H' → H' q = some (.tup (iv (g.take t ++ [At g s]))) → L2.tSl (rSlT K) (tVar 6) (tPart (tOp (rI0 fun i j => .int (i + j)) (tVar 7) (tC (.int 1)))) tNoPart σ H' (fun y H2 => rCatA K (.ref q) y H2 Q) := fun H' q sm eq_ => by
    refine ⟨_, h6, _, h7, (t : Nat), 1, rfl, rfl, _, rfl, p, iv g, rfl, .of (sm _ _ hp), ?_, fun p3 n3 => ?_⟩
    · rw [show ((t : Int) + 1) = ((t + 1 : Nat) : Int) by omega, HT.sIx_nat, hlen]; omega
    show rCatA K (.ref q) (.ref p3) (upd H' p3 (.tup (cutV (iv g) (some ((t : Int) + 1)) none))) Q
    rw [cut_hi ht]
    have s3 := sm.trans (same_new n3 (o := .tup (iv (g.drop (t + 1)))))
    have nq3 : q ≠ p3 := ne_of_none eq_ n3
    have whole : iv (g.take t ++ [At g s]) ++ iv (g.drop (t + 1)) = iv (g.set t (At g s)) := by rw [set_cut ht, ← iv_append]; simp
    refine ⟨q, p3, _, _, rfl, rfl, .of ((upd_ne nq3).trans eq_), .of upd_same, ?_, fun z => ?_, fun _ z => ?_, fun _ _ p4 n4 => ?_⟩
    · rw [iv_len, iv_len, List.length_append, List.length_singleton, List.length_drop]
      have := List.length_take_le' t g
      exact small (by omega)
    · rw [iv_append] at z; simp [iv_one] at z
    · rw [z, List.append_nil] at whole
      exact k _ q s3 (by rw [← whole]; exact (upd_ne nq3).trans eq_)
    · exact k _ p4 (s3.trans (same_new n4)) (by rw [upd_same, whole])
  have e1 : (upd (upd H p1 (.tup (iv (g.take t)))) p2 (.tup [.int (At g s)])) p1 = some (.tup (iv (g.take t))) := (upd_ne n12).trans upd_same
  refine ⟨p1, p2, _, _, rfl, rfl, .of e1, .of upd_same, ?_, fun z => ?_, fun _ z => (nomatch z), fun _ _ p4 n4 => ?_⟩
  · exact small (by show (iv (g.take t)).length + 1 ≤ 1000; omega)
  · refine last _ p2 s2 ?_
    rw [upd_same, iv_append, z]; rfl
  · refine last _ p4 (s2.trans (same_new n4)) ?_
    rw [upd_same, iv_append]; rfl
end
end Rd
set_option Elab.async false
set_option linter.all false
set_option maxRecDepth 100000
set_option maxHeartbeats 4000000
namespace Rd
open PySem PySem.Spec PyProof.Rows L2
section
variable {P : Program} {w : World} {K : PySem.W.Frag} {mg : Str → Option Value} {base : Heap} {C : Addr}
theorem has_dist (d : Df K mg "_law_distances" sDist) (B : Bl mg) : Has P w K mg base CX0 1 "_law_distances" PDist spDist := by
  refine has_of0 d scDist (fun vs H Q E h => ?_) (fun _ _ _ _ _ _ us hl => match us, hl with | [_], _ => rfl) (fun f cdv A outer s H vs Q E hr h => ?_)
  · obtain ⟨n, rfl, _⟩ := h
    rfl
  · obtain ⟨n, rfl, n1, n4, k⟩ := h
    have hu := hu_of hr
    refine ⟨_, pss_cons (ps_set (i := 1) scDist.nd rfl (.inl rfl) (pe_callTy call_tuple_of (by rfl) B.tuple (by decide +kernel) (pa_cons (pe_lc (own := [("_law_block", 10)]) (g := gName 10) (tt := tYes) rfl scDist.nd (pi_range1 (by rfl) B.range (pa_cons (pv 0) pa_nil))
        (blkOk_by (N := NDist) (sc := defScope sDist) (by decide +kernel)) (fun _ _ _ _ _ => pg_name (i := 10) scDist.nd rfl (.inl rfl)) (fun _ _ _ _ _ => pts_nil) (fun _ _ _ _ _ => pv 10)) pa_nil)))
      (pss_cons (ps_set (i := 2) scDist.nd rfl (.inl rfl) (pe_disp1 hu (pv 1) pe_int))
      (pss_cons (ps_set (i := 3) scDist.nd rfl (.inl rfl) (pe_lst (pa_cons (pv 1) pa_nil)))
      (pss_cons (ps_for PassesOwn.never rfl (pi_range2 (by rfl) B.range (pa_cons pe_int (pa_cons pe_int pa_nil))) (pg_name (i := 4) scDist.nd rfl (.inl rfl))
        (pss_cons (ps_set (i := 5) scDist.nd rfl (.inl rfl) (pe_lst pa_nil))
        (pss_cons (ps_for PassesOwn.never rfl (pi_list (pv 3)) (pg_name (i := 6) scDist.nd rfl (.inl rfl))
          (pss_one (ps_for PassesOwn.never rfl (pi_range1 (by rfl) B.range (pa_cons (pv 0) pa_nil)) (pg_name (i := 7) scDist.nd rfl (.inl rfl))
            (pss_one (ps_for PassesOwn.never rfl (pi_range1 (by rfl) B.range (pa_cons (pv 0) pa_nil)) (pg_name (i := 8) scDist.nd rfl (.inl rfl))
              (pss_cons (ps_set (i := 9) scDist.nd rfl (.inl rfl) (pe_op op_catA (pe_op op_catA (pe_slice sl_tup (pv 6) po_none (po_some (pv 7))) (pe_tup (pa_cons (pe_ix ix_tup (pv 6) (pv 8) (fun _ _ => rfl)) pa_nil))) (pe_slice sl_tup (pv 6) (po_some (pe_op op_add (pv 7) pe_int)) po_none)))
              (pss_one (ps_if (pt_cmp (pc_dnotin hu (pv 9) (pv 2)) (by rfl))
                (pss_cons (ps_dput hu (pv 2) (pv 9) (pv 4) rfl) (pss_one (ps_expr (pe_bm PySem.F.plainAttrs_list PySem.F.slot_list_append PySem.F.type_list_append mt_append (pv 5) (pa_cons (pv 9) pa_nil))))) pss_nil))))))))
        (pss_cons (ps_set (i := 3) scDist.nd rfl (.inl rfl) (pv 5))
        (pss_one (ps_if (pt_not (pt_truth (pv 3) (fun _ => rfl))) (pss_one ps_break) pss_nil))))))
      (pss_one (ps_ret (pv 2)))))), ?_⟩
    -- _law_begin
    refine ⟨_, rfl, (n : Nat), rfl, by omega, by omega, fun D0 nD0 => ?_⟩
    rw [Int.toNat_natCast]
    refine lc_it (walk_range0 (n := n)) (fun i H' => Same H H' ∧ H' D0 = some (.lst (iv (home i)))) ⟨same_new nD0, upd_same⟩ (fun _ _ _ _ => trivial) ?_ ?_
    · rintro i x H1 H2 hi ⟨s1, eD⟩ ⟨rfl, rfl⟩
      refine ⟨rfl, _, rfl, _, eD, ?_, But.same but_upd s1 nD0, ?_⟩
      · rw [iv_len]; unfold home; rw [List.length_range]; exact small1000 (by omega)
      · rw [upd_same]; unfold home; rw [List.range_succ, iv_append]; rfl
    rintro H1 ⟨s1, eD0⟩
    refine ⟨D0, _, rfl, .inl ⟨.of eD0, fun b0 nb0 => ?_⟩⟩
    have s2 : Same H (upd H1 b0 (.tup (iv (home n)))) := s1.trans (same_new nb0)
    -- _law_far = {_law_begin: 0}
    intro D nD
    have nbD : b0 ≠ D := ne_of_none upd_same nD
    refine ⟨_, rfl, upd_same, b0, keyL (home n), rfl, ?_, ?_⟩
    · rw [keyL_iv, upd_ne nbD]; exact upd_same
    rw [upd_upd]
    have s3 : Same H (upd (upd H1 b0 (.tup (iv (home n)))) D (.dT [(keyL (home n), .int 0)])) := s2.trans (same_new nD)
    have nHD : H D = none := s2.free nD
    have eb0 : (upd (upd H1 b0 (.tup (iv (home n)))) D (.dT [(keyL (home n), .int 0)])) b0 = some (.tup (iv (home n))) := (upd_ne nbD).trans upd_same
    -- _law_level = [_law_begin]
    refine ⟨_, rfl, (by show 1 ≤ sizeLine; decide), fun Lv nLv => ?_⟩
    have s4 := s3.trans (same_new nLv (o := .lst [.ref b0]))
    have nHL : H Lv = none := s3.free nLv
    have nDL : D ≠ Lv := ne_of_none upd_same nLv
    refine ⟨1, 257, rfl, ⟨by decide, by decide, by decide, by decide⟩, ?_⟩
    refine for_it (walk_range (lo := 1) (n := 256)) (fun i σ H' => ∃ (Lv : Addr) (far : Far) (lev : List (List Nat)) (ls : List Addr) (a b c e f g h : Option V), σ = [some (.int (n : Nat)), a, some (.ref D), some (.ref Lv), b, c, e, f, g, h, none] ∧ H Lv = none ∧ Same H H' ∧ H' D = some (.dT (farK far)) ∧
        H' Lv = some (.lst (ls.map V.ref)) ∧ TupsAt H' ls lev ∧ Level n i far lev)
      ⟨Lv, [(home n, 0)], [home n], [b0], _, _, _, _, _, _, _, rfl, nHL, s4, (upd_ne nDL).trans upd_same, upd_same, .cons ((upd_ne (ne_of_none eb0 nLv)).trans eb0) .nil, level0 n⟩ (fun _ _ _ _ _ => trivial) ?_ ?_
    · rintro i x σ H2 H3 hi ⟨Lv, far, lev, ls, a, b, c, e, ff, gg, hh, rfl, nHL, s5, eD, eL, tt, LL⟩ ⟨rfl, rfl⟩
      have ed : (1 + (i : Int)) = ((i + 1 : Nat) : Int) := by omega
      -- _law_beyond = []
      refine ⟨small (by show 0 ≤ 1000; decide), fun Bd nBd => ?_⟩
      have nHB : H Bd = none := s5.free nBd
      have nDB : D ≠ Bd := ne_of_none eD nBd
      have nLB : Lv ≠ Bd := ne_of_none eL nBd
      have nDL' : D ≠ Lv := ne_of eD eL fun z => nomatch z
      have lls := paired_len tt
      have lkeep : ∀ img ∈ lev, img.length = n ∧ Valid img := fun img h => let ⟨a, _⟩ := (LL.lev img).mp h; ⟨a.1, a.2.1⟩
      have B0 : Bst H (upd H3 Bd (.lst [])) D Lv Bd ls lev n (far, []) :=
        ⟨s5.trans (same_new nBd), (upd_ne nDB).trans eD, (upd_ne nLB).trans eL, tt.same (same_new nBd), ⟨[], upd_same, .nil⟩, LL.fine⟩
      refine ⟨_, rfl, Lv, rfl, ⟨_, .of B0.lv⟩, for_it (walk_list (xs := ls.map V.ref)) (fun j σ H' => (∃ (e f g h : Option V), σ = [some (.int (n : Nat)), a, some (.ref D), some (.ref Lv), some (.int ((i + 1 : Nat) : Int)), some (.ref Bd), e, f, g, h, none]) ∧ Bst H H' D Lv Bd ls lev n (bLev n (i + 1) (lev.take j) (far, [])))
        ⟨⟨_, _, _, _, by rw [← ed]; rfl⟩, B0⟩ (fun j σ H' _ ⟨_, b⟩ => .of b.lv) ?_ ?_⟩
      · rintro j x σ H4 H5 hj ⟨⟨e1, e2, e3, e4, rfl⟩, Bs⟩ ⟨rfl, ex⟩
        obtain ⟨p, ep, rfl⟩ := ref_at ex
        obtain ⟨img, ei, _⟩ := paired_get tt ep
        obtain ⟨il, iv_⟩ := lkeep img (List.mem_of_getElem? ei)
        have eimg : ∀ {H' : Hp} {st : BS}, Bst H H' D Lv Bd ls lev n st → H' p = some (.tup (iv img)) := fun b => by
          obtain ⟨img', ei', h⟩ := paired_get b.tt ep
          rw [ei] at ei'
          cases ei'
          exact h
        -- targets
        refine ⟨_, rfl, (n : Nat), rfl, by omega, by omega, ?_⟩
        rw [Int.toNat_natCast]
        refine for_it (walk_range0 (n := n)) (fun t σ H' => (∃ (f g h : Option V), σ = [some (.int (n : Nat)), a, some (.ref D), some (.ref Lv), some (.int ((i + 1 : Nat) : Int)), some (.ref Bd), some (.ref p), f, g, h, none]) ∧ Bst H H' D Lv Bd ls lev n (bTgt n (i + 1) img t (bLev n (i + 1) (lev.take j) (far, []))))
          ⟨⟨_, _, _, rfl⟩, Bs⟩ (fun _ _ _ _ _ => trivial) ?_ ?_
        · rintro t x σ H6 H7 ht ⟨⟨f1, f2, f3, rfl⟩, Bt⟩ ⟨rfl, rfl⟩
          -- sources
          refine ⟨_, rfl, (n : Nat), rfl, by omega, by omega, ?_⟩
          rw [Int.toNat_natCast]
          refine for_it (walk_range0 (n := n)) (fun u σ H' => (∃ (g h : Option V), σ = [some (.int (n : Nat)), a, some (.ref D), some (.ref Lv), some (.int ((i + 1 : Nat) : Int)), some (.ref Bd), some (.ref p), some (.int (t : Nat)), g, h, none]) ∧
              Bst H H' D Lv Bd ls lev n (bSrc (i + 1) img t u (bTgt n (i + 1) img t (bLev n (i + 1) (lev.take j) (far, [])))))
            ⟨⟨_, _, rfl⟩, Bt⟩ (fun _ _ _ _ _ => trivial) ?_ ?_
          · rintro u x σ H8 H9 hu' ⟨⟨g1, g2, rfl⟩, Bu⟩ ⟨rfl, rfl⟩
            have hx : (img.set t (At img u)).length = n := by simpa using il
            have hv : Valid (img.set t (At img u)) := iv_.set (iv_.lt (by omega))
            have fin := Bu.fine.add (d := i + 1) hx hv
            refine reached (g := img) (t := t) (s := u) rfl rfl rfl (eimg Bu) (by omega) (by omega) (by omega) fun H10 q s10 eq_ => ?_
            rw [bSrc_succ]
            revert Bu fin
            generalize bSrc (i + 1) img t u (bTgt n (i + 1) img t (bLev n (i + 1) (lev.take j) (far, []))) = st
            generalize img.set t (At img u) = y at *
            intro Bu fin
            obtain ⟨bs, eB, tB⟩ := Bu.bd
            have eD10 := s10 _ _ Bu.far
            have eB10 := s10 _ _ eB
            refine ⟨_, rfl, _, rfl, D, _, rfl, .t (k := keyL y) eD10 (by rw [keyL_iv]; exact eq_), _, rfl, ?_⟩
            rw [farK_in]
            by_cases cin : y ∈ st.1.map (·.1)
            · refine ite_f (by rw [decide_eq_true cin]; rfl) ⟨⟨_, _, rfl⟩, ?_⟩
              have e0 : bAdd (i + 1) st y = st := if_pos cin
              rw [e0]
              exact ⟨Bu.same.trans s10, eD10, s10 _ _ Bu.lv, Bu.tt.same s10, ⟨bs, eB10, tB.same s10⟩, Bu.fine⟩
            · have e0 : bAdd (i + 1) st y = (st.1 ++ [(y, i + 1)], st.2 ++ [y]) := if_neg cin
              rw [e0] at fin ⊢
              refine ite_t (by rw [decide_eq_false cin]; rfl) ?_
              have few := Bu.fine.few n4
              refine ⟨_, rfl, _, rfl, _, rfl, D, _, rfl, .t (k := keyL y) eD10 (by rw [keyL_iv]; exact eq_) (by rw [farK_len]; exact small1000 (by omega)), ?_⟩
              rw [farK_put cin]
              have nDB' : Bd ≠ D := nDB.symm
              have nLD : Lv ≠ D := nDL'.symm
              have eB11 : (upd H10 D (.dT (farK (st.1 ++ [(y, i + 1)])))) Bd = some (.lst (bs.map V.ref)) := (upd_ne nDB').trans eB10
              have lbs : bs.length ≤ 256 := by rw [paired_len tB]; exact Nat.le_trans Bu.fine.le few
              have nqD : q ≠ D := ne_of eq_ eD10 fun z => nomatch z
              have nqB : q ≠ Bd := ne_of eq_ eB10 fun z => nomatch z
              have up : ∀ {zs : List Addr} {cs : List (List Nat)}, TupsAt H10 zs cs → TupsAt (upd (upd H10 D (.dT (farK (st.1 ++ [(y, i + 1)])))) Bd (.lst (bs.map V.ref ++ [.ref q]))) zs cs := fun z =>
                tups_upd eB11 (fun c q => nomatch q) (tups_upd eD10 (fun c q => nomatch q) z)
              refine ⟨_, rfl, .inl ⟨rfl, _, .of eB11⟩, _, rfl, Bd, _, _, rfl, rfl, eB11, (by rw [len_refs]; exact small1000 (by omega)), ⟨_, _, rfl⟩, ?_⟩
              refine ⟨But.same but_upd (But.same but_upd (Bu.same.trans s10) nHD) nHB, ?_, ?_, up (Bu.tt.same s10), ⟨bs ++ [q], by rw [upd_same]; simp, ?_⟩, fin⟩
              · rw [upd_ne nDB, upd_same]
              · rw [upd_ne nLB, upd_ne nLD]; exact s10 _ _ Bu.lv
              · refine paired_append (up (tB.same s10)) (.cons ?_ .nil)
                rw [upd_ne nqB, upd_ne nqD]; exact eq_
          · rintro σ H8 ⟨⟨g1, g2, rfl⟩, Bu⟩
            refine ⟨⟨_, _, _, rfl⟩, ?_⟩
            rw [bTgt_succ]
            exact Bu
        · rintro σ H6 ⟨⟨f1, f2, f3, rfl⟩, Bt⟩
          refine ⟨⟨_, _, _, _, rfl⟩, ?_⟩
          rw [take_snoc ei, bLev_snoc]
          exact Bt
      · rintro σ H4 ⟨⟨e1, e2, e3, e4, rfl⟩, Bs⟩
        rw [len_refs, lls, List.take_length] at Bs
        have L2_ := level_step LL
        obtain ⟨bs, eB, tB⟩ := Bs.bd
        -- _law_level = _law_beyond
        refine ⟨_, rfl, ?_⟩
        refine ⟨_, rfl, _, .inl ⟨_, .of eB, rfl⟩, ?_⟩
        cases hb : (bLev n (i + 1) lev (far, [])).2 with
        | nil =>
          rw [hb] at tB L2_
          cases tB
          refine ite_t rfl ?_
          exact ⟨_, rfl, k H4 D _ Bs.same Bs.far (level_end L2_)⟩
        | cons z zs =>
          rw [hb] at tB
          cases tB with
          | cons h1 h2 =>
            refine ite_f rfl ⟨Bd, _, _, _, _, _, _, _, _, _, _, rfl, nHB, Bs.same, Bs.far, eB, ?_, L2_⟩
            rw [hb]
            exact .cons h1 h2
    · rintro σ H2 ⟨Lv, far, lev, ls, a, b, c, e, ff, gg, hh, rfl, nHL, s5, eD, eL, tt, LL⟩
      exact ⟨_, rfl, k H2 D far s5 eD (level_far LL (by omega))⟩
end
end Rd
set_option Elab.async false
set_option linter.all false
set_option maxRecDepth 100000
set_option maxHeartbeats 4000000
namespace Rd
open PySem PySem.Spec PyProof.Rows L2
theorem BagAt.same {H H' : Hp} {b c : Addr} (B : BagAt H b c) (s : Same H H') : BagAt H' b c :=
  let ⟨cells, i, d, z, n, hb, hc, r⟩ := B
  ⟨cells, i, d, z, n, s _ _ hb, s _ _ hc, r⟩
theorem BagAt.new {H : Hp} {b c L : Addr} (B : BagAt H b c) (n : H L = none) : L ≠ b ∧ L ≠ c :=
  let ⟨_, _, _, _, _, hb, hc, _⟩ := B
  ⟨fun e => (ne_of_none hb n) e.symm, fun e => (ne_of_none hc n) e.symm⟩
theorem BagAt.upd {H : Hp} {b c L : Addr} {o : HO} (B : BagAt H b c) (n : L ≠ b ∧ L ≠ c) : BagAt (upd H L o) b c :=
  let ⟨cells, i, d, z, k, hb, hc, r⟩ := B
  ⟨cells, i, d, z, k, (upd_ne n.1.symm).trans hb, (upd_ne n.2.symm).trans hc, r⟩
theorem BagAt.lst {H : Hp} {b c : Addr} (B : BagAt H b c) : ∃ xs, H b = some (.lst xs) := let ⟨_, _, _, _, _, hb, _⟩ := B; ⟨_, hb⟩
/-- behind a write at an address that was new -/
theorem But.upd {b p : Addr} {H H' : Hp} {o : HO} (s : But b H H') (n : H p = none) : But b H (upd H' p o) := fun a x ne e => (upd_ne (ne_of_none e n)).trans (s a x ne e)
def spSmallR : Sp := fun vs H Q _ => ∃ (b c : Addr) (n : Nat), vs = [.ref b, .int (n : Nat)] ∧ BagAt H b c ∧ 1 ≤ n ∧ n ≤ 4 ∧ ∀ H', Q (.bl true) H'
section
variable {P : Program} {w : World} {K : PySem.W.Frag} {mg : Str → Option Value} {base : Heap} {C : Addr}
theorem has_smallR (d : Df K mg "_law_small_right" sSmallR) (B : Bl mg) (hD : Has P w K mg base CX0 1 "_law_distances" PDist spDist) (hT : Has P w K mg base CX0 1 "_law_take" PTake spTake)
    (hG : Has P w K mg base CX0 7 "_law_goal_right" PGoalR spGoalR) : Has P w K mg base CX0 8 "_law_small_right" PSmallR spSmallR := by
  obtain ⟨fD, fdD, gD, GD, kD, bD⟩ := hD
  obtain ⟨fT, fdT, gT, GT, kT, bT⟩ := hT
  obtain ⟨fG, fdG, gG, GG, kG, bG⟩ := hG
  refine has_of0 d scSmallR (fun vs H Q E h => ?_) (fun _ _ _ _ _ _ us hl => match us, hl with | [_, _], _ => rfl) (fun f cdv A outer s H vs Q E hr h => ?_)
  · obtain ⟨b, c, n, rfl, _⟩ := h
    rfl
  · obtain ⟨b, c, n, rfl, hb, n1, n4, k⟩ := h
    refine ⟨_, pss_cons (ps_set (i := 2) scSmallR.nd rfl (.inl rfl) (pe_call GD (hr.mono (by decide)) rfl gD kD bD .nil pass0 (pa_cons (pv 1) pa_nil)))
      (pss_cons (ps_for PassesOwn.never rfl (pi_range1 (by rfl) B.range (pa_cons pe_int pa_nil)) (pg_name (i := 3) scSmallR.nd rfl (.inl rfl))
        (pss_cons (ps_set (i := 4) scSmallR.nd rfl (.inl rfl) (pe_callTy call_tupF (by rfl) B.tuple (by decide +kernel) (pa_cons (pe_lc (own := [("_law_block", 5)]) (g := gName 5) (tt := tYes) rfl scSmallR.nd (pi_range1 (by rfl) B.range (pa_cons (pv 1) pa_nil))
          (blkOk_by (N := NSmallR) (sc := defScope sSmallR) (by decide +kernel)) (fun _ _ _ _ _ => pg_name (i := 5) scSmallR.nd rfl (.inl rfl)) (fun _ _ _ _ _ => pts_nil) (fun _ _ _ _ _ => pe_call GT (hr.mono (by decide)) (by rfl) gT kT bT .nil pass0 (pa_cons (pv 0) (pa_cons (pv 1) pa_nil)))) pa_nil)))
        (pss_one (ps_if (pt_not (pt_val (pe_call GG hr rfl gG kG bG .nil pass0 (pa_cons (pv 4) (pa_cons (pv 2) pa_nil))))) (pss_one ps_never) pss_nil))))
      (pss_one (ps_ret pe_bl))), ?_⟩
    refine ⟨_, rfl, n, rfl, n1, n4, fun H1 D far s1 eD fo => ?_⟩
    have bg1 := hb.same s1
    refine ⟨12, rfl, by decide, by decide, ?_⟩
    refine for_it (walk_range0 (n := 12)) (fun i σ H' => (∃ (x y : Option V), σ = [some (.ref b), some (.int (n : Nat)), some (.ref D), x, y, none]) ∧ But b H1 H' ∧ BagAt H' b c) ⟨⟨_, _, rfl⟩, But.refl, bg1⟩ (fun _ _ _ _ _ => trivial) ?_ ?_
    · rintro i x σ H2 H3 hi ⟨⟨x1, x2, rfl⟩, s2, bg2⟩ ⟨rfl, rfl⟩
      have nDb : D ≠ b := let ⟨_, e⟩ := bg1.lst; ne_of eD e fun z => nomatch z
      have eD2 := s2 _ _ nDb eD
      refine ⟨_, rfl, (n : Nat), rfl, by omega, by omega, fun L nL => ?_⟩
      rw [Int.toNat_natCast]
      have nbL := bg2.new nL
      refine lc_it (walk_range0 (n := n)) (fun i H' => ∃ g : List Nat, g.length = i ∧ (∀ x ∈ g, x < n) ∧ But b H3 H' ∧ BagAt H' b c ∧ H' L = some (.lst (iv g))) ⟨[], rfl, (fun _ z => nomatch z), But.refl.upd nL, bg2.upd nbL, upd_same⟩ (fun _ _ _ _ => trivial) ?_ ?_
      · rintro j x H4 H5 hj ⟨g, lg, vg, s4, bg4, eL⟩ ⟨rfl, rfl⟩
        refine ⟨rfl, _, rfl, _, rfl, b, c, n, rfl, bg4, n1, by omega, fun H6 d s6 bg6 hd => ?_⟩
        refine ⟨_, s6 _ _ nbL.1 eL, by rw [iv_len]; exact small1000 (by omega), g ++ [d], by rw [List.length_append, lg]; rfl, fun x hx => ?_, (s4.trans s6).upd nL, bg6.upd nbL, ?_⟩
        · rcases List.mem_append.mp hx with h | h
          · exact vg x h
          · rw [List.mem_singleton.mp h]; exact hd
        · rw [upd_same, iv_append]; rfl
      · rintro H4 ⟨g, lg, vg, s4, bg4, eL⟩
        refine ⟨L, _, rfl, .of eL, fun p o np od => ?_⟩
        have hp : Fz (upd H4 p (.frz o (.tup (iv g)))) p (iv g) := ⟨o, upd_same, od⟩
        have ok : GoalOk g := ⟨fun x hx => by rw [lg]; exact vg x hx, by omega, by omega⟩
        have eD4 : (upd H4 p (.frz o (.tup (iv g)))) D = some (.dT (farK far)) := same_new np _ _ (s4 _ _ nDb eD2)
        refine ⟨_, rfl, _, rfl, p, g, D, far, rfl, hp, ok, eD4, by rw [lg]; exact fo, fun H7 s7 => ?_⟩
        have s47 : Same H4 H7 := (same_new np).trans s7
        exact ⟨true, rfl, ite_f rfl ⟨⟨_, _, rfl⟩, (s2.trans s4).trans (Same.but s47), bg4.same s47⟩⟩
    · rintro σ H2 ⟨⟨x1, x2, rfl⟩, s2, bg2⟩
      exact k H2
end
end Rd
set_option Elab.async false
set_option linter.all false
set_option maxRecDepth 100000
set_option maxHeartbeats 4000000
namespace Rd
open PySem PySem.Spec PyProof.Rows L2
theorem source_ne {n t d : Nat} (ht : t < n) (hd : d < n - 1) : (t + 1 + d) % n < n ∧ t ≠ (t + 1 + d) % n := by
  have hn : 0 < n := by omega
  refine ⟨Nat.mod_lt _ hn, ?_⟩
  by_cases c : t + 1 + d < n
  · rw [Nat.mod_eq_of_lt c]; omega
  · rw [Nat.mod_eq_sub_mod (by omega), Nat.mod_eq_of_lt (by omega)]; omega
/-- the heap in the midst of the drawing -/
structure Dst (H0 H' : Hp) (b c F R : Addr) (n : Nat) (fr : List Nat) (bs : List Addr) (es : List (Nat × Nat)) : Prop where
  but : But b H0 H'
  bag : BagAt H' b c
  fb : F ≠ b
  lf : H' F = some (.lst (iv fr))
  fl : fr.length ≤ 12
  fn : ∀ x ∈ fr, x < n
  rb : R ≠ b ∧ R ≠ c
  fR : F ≠ R
  rows : H' R = some (.lst (bs.map V.ref))
  pp : PairsAt H' bs es
  oke : ∀ e ∈ es, Okp n e
theorem Dst.take {H0 H' H2 : Hp} {b c F R : Addr} {n : Nat} {fr : List Nat} {bs : List Addr} {es : List (Nat × Nat)} (S : Dst H0 H' b c F R n fr bs es) (s : But b H' H2) (g : BagAt H2 b c) : Dst H0 H2 b c F R n fr bs es := by
  obtain ⟨xs, eb⟩ := S.bag.lst
  exact ⟨S.but.trans s, g, S.fb, s _ _ S.fb S.lf, S.fl, S.fn, S.rb, S.fR, s _ _ S.rb.1 S.rows, paired_but (fun e z => by rw [eb] at z; exact (nomatch z)) s S.pp, S.oke⟩
theorem Dst.same {H0 H' H2 : Hp} {b c F R : Addr} {n : Nat} {fr : List Nat} {bs : List Addr} {es : List (Nat × Nat)} (S : Dst H0 H' b c F R n fr bs es) (s : Same H' H2) : Dst H0 H2 b c F R n fr bs es :=
  S.take (Same.but s) (S.bag.same s)
def spDrawn : Sp := fun vs H Q _ => ∃ (b c : Addr), vs = [.ref b] ∧ BagAt H b c ∧ ∀ H' q r bs es (n : Nat), But b H H' → BagAt H' b c → H' q = some (.lst [.int (n : Nat), .ref r]) → H' r = some (.lst (bs.map V.ref)) → PairsAt H' bs es → 2 ≤ n → n ≤ 12 → (∀ e ∈ es, Okp n e) → es.length ≤ 60 → Q (.ref q) H'
section
variable {P : Program} {w : World} {K : PySem.W.Frag} {mg : Str → Option Value} {base : Heap} {C : Addr}
theorem has_drawn (d : Df K mg "_law_drawn_log" sDrawn) (B : Bl mg) (hT : Has P w K mg base CX0 1 "_law_take" PTake spTake) : Has P w K mg base CX0 2 "_law_drawn_log" PDrawn spDrawn := by
  obtain ⟨fT, fdT, gT, GT, kT, bT⟩ := hT
  refine has_of0 d scDrawn (fun vs H Q E h => ?_) (fun _ _ _ _ _ _ us hl => match us, hl with | [_], _ => rfl) (fun f cdv A outer s H vs Q E hr h => ?_)
  · obtain ⟨b, c, rfl, _⟩ := h
    rfl
  · obtain ⟨b, c, rfl, hb, k⟩ := h
    refine ⟨_, pss_cons (ps_set (i := 1) scDrawn.nd rfl (.inl rfl) (pe_op op_add pe_int (pe_call GT hr rfl gT kT bT .nil pass0 (pa_cons (pv 0) (pa_cons pe_int pa_nil)))))
      (pss_cons (ps_set (i := 2) scDrawn.nd rfl (.inl rfl) (pe_call GT hr rfl gT kT bT .nil pass0 (pa_cons (pv 0) (pa_cons pe_int pa_nil))))
      (C8.pss_cut (ps_if (pt_cmpR op_eq (pv 2) pe_int (nomark _)) (pss_one (ps_set (i := 2) scDrawn.nd rfl (.inl rfl) (pe_op op_add pe_int (pe_call GT hr rfl gT kT bT .nil pass0 (pa_cons (pv 0) (pa_cons pe_int pa_nil)))))) pss_nil)
      (pss_cons (ps_set (i := 3) scDrawn.nd rfl (.inl rfl) (pe_call GT hr rfl gT kT bT .nil pass0 (pa_cons (pv 0) (pa_cons pe_int pa_nil))))
      (pss_cons (ps_setLc (i := 4) (own := [("_law_block", 9)]) (g := gName 9) (tt := tYes) (by rfl) scDrawn.nd rfl rfl (sw_true rfl rfl rfl (by decide +kernel)) (pi_range1 (by rfl) B.range (pa_cons (pv 1) pa_nil)) (blkOk_by (N := NDrawn) (sc := defScope sDrawn) (by decide +kernel))
        (fun _ _ _ _ _ => pg_name (i := 9) scDrawn.nd rfl (.inl rfl)) (fun _ _ _ _ _ => pts_nil) (fun _ _ _ _ _ => pv 9))
      (pss_cons (ps_set (i := 5) scDrawn.nd rfl (.inl rfl) (pe_lst pa_nil))
      (pss_cons (ps_for PassesOwn.never rfl (pi_range1 (by rfl) B.range (pa_cons (pv 2) pa_nil)) (pg_name (i := 6) scDrawn.nd rfl (.inl rfl))
        (pss_cons (ps_set (i := 7) scDrawn.nd rfl (.inr rfl) (pe_call GT hr rfl gT kT bT .nil pass0 (pa_cons (pv 0) (pa_cons (pv 1) pa_nil))))
        (C8.pss_cut (ps_if (PW.pt (pw_and (pt_cmpR op_gt (pv 3) pe_int (nomark _)) (pw_and1 (pt_truth (pv 4) (fun _ => rfl)))))
          (pss_one (ps_set (i := 7) scDrawn.nd rfl (.inr rfl) (pe_ix ix_list (pv 4) (pe_call GT hr rfl gT kT bT .nil pass0 (pa_cons (pv 0) (pa_cons (pe_callB call_len_seq (by rfl) B.len PySem.boot_len (pa_cons (pv 4) pa_nil)) pa_nil))) (fun _ _ => rfl)))) pss_nil)
        (pss_cons (ps_set (i := 8) scDrawn.nd rfl (.inl rfl) (pe_op op_mod (pe_callTy call_int1 (by rfl) B.int (by decide +kernel) (pa_cons (pe_op op_add (pe_op op_add (pv 7) pe_int) (pe_call GT hr rfl gT kT bT .nil pass0 (pa_cons (pv 0) (pa_cons (pe_op op_sub (pv 1) pe_int) pa_nil)))) pa_nil)) (pv 1)))
        (pss_cons (ps_setLc (i := 4) (own := [("_law_block", 9)]) (g := gName 9) (te := tVar 9) (by rfl) scDrawn.nd rfl rfl (sw_true rfl rfl rfl (by decide +kernel)) (pi_list (pv 4)) (blkOk_by (N := NDrawn) (sc := defScope sDrawn) (by decide +kernel))
          (fun _ _ _ _ _ => pg_name (i := 9) scDrawn.nd rfl (.inl rfl)) (fun _ _ _ _ _ => pts_one (pt_cmpR op_ne (pv 9) (pv 7) (nomark _))) (fun _ _ _ _ _ => pv 9))
        (pss_one (ps_expr (pe_bm PySem.F.plainAttrs_list PySem.F.slot_list_append PySem.F.type_list_append mt_append (pv 5) (pa_cons (pe_tup (pa_cons (pv 7) (pa_cons (pv 8) pa_nil))) pa_nil)))))))))
      (pss_one (ps_ret (pe_lst (pa_cons (pv 1) (pa_cons (pv 5) pa_nil))))))))))), ?_⟩
    -- blocks, many
    refine ⟨_, rfl, b, c, 11, rfl, hb, by decide, by decide, fun H1 d1 s1 bg1 hd1 => ?_⟩
    refine ⟨2, (d1 : Nat), rfl, rfl, ?_⟩
    have e2 : (2 : Int) + (d1 : Nat) = ((2 + d1 : Nat) : Int) := by omega
    refine ⟨_, rfl, b, c, 16, rfl, bg1, by decide, by decide, fun H2 d2 s2 bg2 hd2 => ?_⟩
    refine ⟨fun σ' H' => (∃ n m : Nat, σ' = [some (.ref b), some (.int (n : Nat)), some (.int (m : Nat)), none, none, none, none, none, none, none] ∧ 2 ≤ n ∧ n ≤ 12 ∧ m ≤ 60) ∧ But b H H' ∧ BagAt H' b c, ?_, ?_⟩
    · refine ⟨_, rfl, rfl, _, rfl, ite2 (fun _ => ?_) (fun _ => ?_)⟩
      · refine ⟨_, rfl, b, c, 46, rfl, bg2, by decide, by decide, fun H3 d3 s3 bg3 hd3 => ?_⟩
        have e15 : (15 : Int) + (d3 : Nat) = ((15 + d3 : Nat) : Int) := by omega
        exact ⟨15, (d3 : Nat), rfl, rfl, ⟨2 + d1, 15 + d3, by rw [← e2, ← e15]; rfl, by omega, by omega, by omega⟩, (s1.trans s2).trans s3, bg3⟩
      · exact ⟨⟨2 + d1, d2, by rw [← e2]; rfl, by omega, by omega, by omega⟩, s1.trans s2, bg2⟩
    rintro σ H3 ⟨⟨n, m, rfl, n2, n12, hm⟩, s3, bg3⟩
    -- tight, fresh
    refine ⟨_, rfl, b, c, 3, rfl, bg3, by decide, by decide, fun H4 d4 s4 bg4 hd4 => ?_⟩
    have s34 := s3.trans s4
    refine ⟨_, rfl, (n : Nat), rfl, by omega, by omega, fun F nF => ?_⟩
    rw [Int.toNat_natCast]
    refine lc_it (walk_range0 (n := n)) (fun i H' => Same H4 H' ∧ H' F = some (.lst (iv (home i)))) ⟨same_new nF, upd_same⟩ (fun _ _ _ _ => trivial) ?_ ?_
    · rintro i x H5 H6 hi ⟨s5, eF⟩ ⟨rfl, rfl⟩
      refine ⟨rfl, _, rfl, _, eF, ?_, But.same but_upd s5 nF, ?_⟩
      · rw [iv_len]; unfold home; rw [List.length_range]; exact small1000 (by omega)
      · rw [upd_same]; unfold home; rw [List.range_succ, iv_append]; rfl
    rintro H5 ⟨s5, eF⟩
    have bg5 := bg4.same s5
    have nbF : F ≠ b := (bg4.new nF).1
    refine ⟨small (by show 0 ≤ 1000; decide), fun R nR => ?_⟩
    have nHR : H R = none := by
      cases e : H R with
      | none => rfl
      | some o =>
        have q := s5 _ _ (s34 _ _ (bg5.new nR).1 e)
        rw [nR] at q
        cases q
    have S0 : Dst H (upd H5 R (.lst [])) b c F R n (home n) [] [] :=
      ⟨(s34.trans (Same.but s5)).upd nHR, bg5.upd (bg5.new nR), nbF, (upd_ne (ne_of_none eF nR)).trans eF, by unfold home; rw [List.length_range]; exact n12, fun x hx => by unfold home at hx; simpa using hx, bg5.new nR, ne_of_none eF nR, upd_same, .nil, fun _ z => nomatch z⟩
    refine ⟨_, rfl, (m : Nat), rfl, by omega, by omega, ?_⟩
    rw [Int.toNat_natCast]
    refine for_it (walk_range0 (n := m)) (fun i σ H' => ∃ (F : Addr) (fr : List Nat) (bs : List Addr) (es : List (Nat × Nat)) (x6 x7 x8 : Option V), σ = [some (.ref b), some (.int (n : Nat)), some (.int (m : Nat)), some (.int (d4 : Nat)), some (.ref F), some (.ref R), x6, x7, x8, none] ∧ Dst H H' b c F R n fr bs es ∧ es.length = i)
      ⟨F, home n, [], [], _, _, _, rfl, S0, rfl⟩ (fun _ _ _ _ _ => trivial) ?_ ?_
    · rintro i x σ H6 H7 hi ⟨F, fr, bs, es, x6, x7, x8, rfl, S, le⟩ ⟨rfl, rfl⟩
      refine ⟨_, rfl, _, rfl, b, c, n, rfl, S.bag, by omega, by omega, fun H8 t0 s8 bg8 ht0 => ?_⟩
      have S8 := S.take s8 bg8
      revert S8
      clear s8 bg8
      intro S8
      refine ⟨fun σ' H' => ∃ t : Nat, σ' = [some (.ref b), some (.int (n : Nat)), some (.int (m : Nat)), some (.int (d4 : Nat)), some (.ref F), some (.ref R), some (.int (i : Nat)), some (.int (t : Nat)), x8, none] ∧ t < n ∧ Dst H H' b c F R n fr bs es, ?_, ?_⟩
      · refine ⟨_, rfl, (d4 : Nat), 0, rfl, rfl, _, rfl, ite2 (fun _ => ?_) (fun _ => ?_)⟩
        · refine ⟨_, rfl, _, .inl ⟨_, .of S8.lf, rfl⟩, ?_⟩
          cases fr with
          | nil => exact ite_f rfl ⟨t0, rfl, ht0, S8⟩
          | cons y ys =>
            refine ite_t rfl ?_
            refine ⟨_, rfl, _, rfl, _, rfl, F, _, rfl, .inl (.of S8.lf), b, c, (iv (y :: ys)).length, rfl, S8.bag, ?_, ?_, fun H9 d9 s9 bg9 hd9 => ?_⟩
            · rw [iv_len]; exact Nat.succ_pos _
            · rw [iv_len]; have := S8.fl; omega
            · have S9 := S8.take s9 bg9
              have hd9' : d9 < (y :: ys).length := by rw [← iv_len]; exact hd9
              exact ⟨F, _, _, _, rfl, rfl, .of S9.lf, atI_nat (iv_at hd9'), At (y :: ys) d9, rfl, S9.fn _ (At_mem hd9'), S9⟩
        · exact ⟨t0, rfl, ht0, S8⟩
      · rintro σ H9 ⟨t, rfl, ht, S9⟩
        clear S S8
        -- source
        refine ⟨_, rfl, (t : Nat), 1, rfl, rfl, _, rfl, _, rfl, (n : Nat), 1, rfl, rfl, b, c, n - 1, ?_, S9.bag, by omega, by omega, fun H10 dd s10 bg10 hdd => ?_⟩
        · show [V.ref b, V.int ((n : Nat) - 1)] = [V.ref b, V.int ((n - 1 : Nat) : Int)]
          rw [show ((n : Nat) : Int) - 1 = ((n - 1 : Nat) : Int) by omega]
        have S10 := S9.take s10 bg10
        obtain ⟨so1, so2⟩ := source_ne ht hdd
        have es0 : ((t : Nat) + 1 + (dd : Nat) : Int) % (n : Nat) = (((t + 1 + dd) % n : Nat) : Int) := by
          rw [Int.natCast_emod]; rfl
        refine ⟨_, _, rfl, rfl, .inl ⟨_, rfl, _, rfl, _, (n : Nat), rfl, rfl, (by show (0 : Int) < (n : Nat); omega), ?_⟩⟩
        show tSeq _ _ _ [some (.ref b), some (.int (n : Nat)), some (.int (m : Nat)), some (.int (d4 : Nat)), some (.ref F), some (.ref R), some (.int (i : Nat)), some (.int (t : Nat)), some (.int (((t : Nat) + 1 + (dd : Nat) : Int) % (n : Nat))), none] H10
        rw [es0]
        revert so1 so2
        generalize (t + 1 + dd) % n = so
        intro so1 so2
        -- fresh
        refine ⟨_, rfl, F, rfl, ⟨_, .of S10.lf⟩, fun L nL => ?_⟩
        refine lc_it (walk_list (xs := iv fr)) (fun i H' => ∃ g : List Nat, (∀ x ∈ g, x < n) ∧ g.length ≤ i ∧ Same H10 H' ∧ H' L = some (.lst (iv g))) ⟨[], (fun _ z => nomatch z), Nat.le_refl _, same_new nL, upd_same⟩ (fun i H' _ ⟨g, _, _, s, _⟩ => .of (s _ _ S10.lf)) ?_ ?_
        · rintro j x H11 H12 hj ⟨g, vg, lg, s11, eL⟩ ⟨rfl, ex⟩
          obtain ⟨hj', rfl⟩ := iv_is ex
          refine ⟨rfl, _, rfl, _, rfl, rfl, _, rfl, ite2 (fun _ => ?_) (fun _ => ?_)⟩
          · refine ⟨_, rfl, _, eL, by rw [iv_len]; exact small1000 (by have := S10.fl; omega), g ++ [At fr j], fun x hx => ?_, by rw [List.length_append]; exact Nat.succ_le_succ lg, But.same but_upd s11 nL, ?_⟩
            · rcases List.mem_append.mp hx with h | h
              · exact vg x h
              · rw [List.mem_singleton.mp h]; exact S10.fn _ (At_mem hj')
            · rw [upd_same, iv_append]; rfl
          · exact ⟨g, vg, Nat.le_succ_of_le lg, s11, eL⟩
        · rintro H11 ⟨g, vg, lg, s11, eL⟩
          rw [iv_len] at lg
          have S11 := S10.same s11
          have nRL : L ≠ R := fun z => (ne_of_none S10.rows nL) z.symm
          have nbL := S10.bag.new nL
          have lbs : bs.length ≤ 60 := by rw [paired_len S11.pp]; omega
          refine ⟨_, rfl, .inl ⟨rfl, _,   .of S11.rows⟩, _, rfl, _, rfl, (by show 2 ≤ sizeLine; decide), fun T nT => ?_⟩
          have nRT : R ≠ T := ne_of_none S11.rows nT
          have S12 := S11.same (same_new nT (o := .tup [.int (t : Nat), .int (so : Nat)]))
          refine ⟨R, _, _, rfl, rfl, S12.rows, (by rw [len_refs]; exact small1000 (by omega)), ⟨L, g, bs ++ [T], es ++ [(t, so)], _, _, _, rfl, ?_, by rw [List.length_append, le]; rfl⟩⟩
          have nHR' : ∀ o, H R = some o → False := fun o e => by rw [nHR] at e; cases e
          refine ⟨S12.but.upd nHR, S12.bag.upd S12.rb, nbL.1, ?_, Nat.le_trans lg S10.fl, vg, S12.rb, nRL, by rw [upd_same]; simp, ?_, fun e he => ?_⟩
          · exact (upd_ne nRL).trans ((same_new nT) _ _ eL)
          · exact pairs_upd S12.rows (paired_append S12.pp (.cons upd_same .nil))
          · rcases List.mem_append.mp he with h | h
            · exact S12.oke e h
            · rw [List.mem_singleton.mp h]; exact ⟨ht, so1, so2⟩
    · rintro σ H6 ⟨F, fr, bs, es, x6, x7, x8, rfl, S, le⟩
      refine ⟨_, rfl, _, rfl, (by show 2 ≤ sizeLine; decide), fun q nq => ?_⟩
      have Sq := S.same (same_new nq (o := .lst [.int (n : Nat), .ref R]))
      exact k _ q R bs es n Sq.but Sq.bag upd_same Sq.rows Sq.pp n2 n12 Sq.oke (by omega)
end
end Rd
set_option Elab.async false
set_option linter.all false
set_option maxRecDepth 100000
set_option maxHeartbeats 4000000
namespace Rd
open PySem PySem.Spec PyProof.Rows L2
def spPrefR : Sp := fun vs H Q _ => ∃ (n : Nat) (r : Addr) (bs : List Addr) (es : List (Nat × Nat)), vs = [.int (n : Nat), .ref r] ∧ H r = some (.lst (bs.map V.ref)) ∧ PairsAt H bs es ∧ 2 ≤ n ∧ n ≤ 12 ∧ (∀ e ∈ es, Okp n e) ∧ es.length ≤ 60 ∧ ∀ H', Same H H' → Q (.bl true) H'
section
variable {P : Program} {w : World} {K : PySem.W.Frag} {mg : Str → Option Value} {base : Heap} {C : Addr}
theorem has_prefR (d : Df K mg "_law_prefixes_right" sPrefR) (B : Bl mg) (hF : Has P w K mg base (L2.CX P w) 4 "fewest_copies" PFewest (spFewest C)) (hN : Has P w K mg base CX0 1 "_law_is_number" PIsNum spIsNum)
    (hL : Has P w K mg base (L2.CX P w) 4 "least_log" PLeast (spLeast C)) (hRd : Has P w K mg base CX0 2 "_law_read" PRead spRead) (hLd : Has P w K mg base CX0 1 "_law_leads" PLeads (spLeads K)) : Has P w K mg base CX0 5 "_law_prefixes_right" PPrefR spPrefR := by
  obtain ⟨fF, fdF, gF, GF, kF, bF⟩ := hF
  obtain ⟨fN, fdN, gN, GN, kN, bN⟩ := hN
  obtain ⟨fL, fdL, gL, GL, kL, bL⟩ := hL
  obtain ⟨fRd, fdRd, gRd, GRd, kRd, bRd⟩ := hRd
  obtain ⟨fLd, fdLd, gLd, GLd, kLd, bLd⟩ := hLd
  refine has_of0 d scPrefR (fun vs H Q E h => ?_) (fun _ _ _ _ _ _ us hl => match us, hl with | [_, _], _ => rfl) (fun f cdv A outer s H vs Q E hr h => ?_)
  · obtain ⟨n, r, bs, es, rfl, _⟩ := h
    rfl
  · obtain ⟨n, r, bs, es, rfl, er, pp, n2, n12, oke, le, k⟩ := h
    refine ⟨_, pss_cons (ps_setLc (i := 2) (own := [("_law_block", 6)]) (g := gName 6) (tt := tYes) (by rfl) scPrefR.nd rfl rfl (sw_true rfl rfl rfl (by decide +kernel)) (pi_range1 (by rfl) B.range (pa_cons (pv 0) pa_nil)) (blkOk_by (N := NPrefR) (sc := defScope sPrefR) (by decide +kernel))
        (fun _ _ _ _ _ => pg_name (i := 6) scPrefR.nd rfl (.inl rfl)) (fun _ _ _ _ _ => pts_nil) (fun _ _ _ _ _ => pv 6))
      (pss_cons (ps_for PassesOwn.never rfl (pi_range1 (by rfl) B.range (pa_cons (pe_op op_add (pe_callB call_len_seq (by rfl) B.len PySem.boot_len (pa_cons (pv 1) pa_nil)) pe_int) pa_nil)) (pg_name (i := 3) scPrefR.nd rfl (.inl rfl))
        (pss_cons (ps_set (i := 4) scPrefR.nd rfl (.inl rfl) (pe_call GF hr rfl gF kF bF .nil passL (pa_cons (pe_callTy call_tupF (by rfl) B.tuple (by decide +kernel) (pa_cons (pv 2) pa_nil)) pa_nil)))
        (pss_cons (ps_if (PW.pt (pw_or (pt_not (pt_val (pe_call GN (hr.mono (by decide)) rfl gN kN bN .nil pass0 (pa_cons (pv 4) pa_nil)))) (pw_or (pt_cmpR op_lt (pv 4) pe_int (nomark _)) (pw_or1 (pt_cmpR op_gt (pv 4) (pv 3) (nomark _)))))) (pss_one ps_never) pss_nil)
        (pss_one (ps_if (pt_cmpR op_lt (pv 3) (pe_callB call_len_seq (by rfl) B.len PySem.boot_len (pa_cons (pv 1) pa_nil)) (nomark _))
          (pss_one (ps_asg (pe_ix ix_list (pv 2) (pe_ix ix_tup (pe_ix ix_list (pv 1) (pv 3) (fun _ _ => rfl)) pe_int (fun _ _ => rfl)) (fun _ _ => rfl)) (pg_sub (pv 2) (pe_ix ix_tup (pe_ix ix_list (pv 1) (pv 3) (fun _ _ => rfl)) pe_int (fun _ _ => rfl)) set_list))) pss_nil)))))
      (pss_cons (ps_set (i := 5) scPrefR.nd rfl (.inl rfl) (pe_call GRd (hr.mono (by decide)) rfl gRd kRd bRd .nil pass0 (pa_cons (pe_call GL hr rfl gL kL bL .nil passL (pa_cons (pe_callTy call_tupF (by rfl) B.tuple (by decide +kernel) (pa_cons (pv 2) pa_nil)) pa_nil)) (pa_cons (pv 0) pa_nil))))
      (pss_cons (ps_if (PW.pt (pw_or (pt_cmp (pc_isN (pv 5)) (by rfl)) (pw_or1 (pt_cmpR op_gt (pe_callB call_len_seq (by rfl) B.len PySem.boot_len (pa_cons (pv 5) pa_nil)) (pe_callB call_len_seq (by rfl) B.len PySem.boot_len (pa_cons (pv 1) pa_nil)) (nomark _))))) (pss_one ps_never) pss_nil)
      (pss_one (ps_ret (pe_call GLd (hr.mono (by decide)) rfl gLd kLd bLd .nil pass0 (pa_cons (pv 5) (pa_cons (pv 2) pa_nil)))))))), ?_⟩
    refine ⟨_, rfl, (n : Nat), rfl, by omega, by omega, fun D nD => ?_⟩
    rw [Int.toNat_natCast]
    refine lc_it (walk_range0 (n := n)) (fun i H' => Same H H' ∧ H' D = some (.lst (iv (home i)))) ⟨same_new nD, upd_same⟩ (fun _ _ _ _ => trivial) ?_ ?_
    · rintro i x H1 H2 hi ⟨s1, eD⟩ ⟨rfl, rfl⟩
      refine ⟨rfl, _, rfl, _, eD, ?_, But.same but_upd s1 nD, ?_⟩
      · rw [iv_len]; unfold home; rw [List.length_range]; exact small1000 (by omega)
      · rw [upd_same]; unfold home; rw [List.range_succ, iv_append]; rfl
    rintro H1 ⟨s1, eD⟩
    have lb : (bs.map V.ref).length = es.length := by rw [len_refs, paired_len pp]
    have hpos : ∀ i, (run (home n) (es.take i)).length = n := fun i => by rw [run_len]; simp [home]
    have okt : ∀ i, ∀ e ∈ es.take i, Okp n e := fun i e he => oke e (List.mem_of_mem_take he)
    have okh : ∀ i, ∀ e ∈ es.take i, Okp (home n).length e := fun i e he => by simpa [home] using okt i e he
    have ok : ∀ i, GoalOk (run (home n) (es.take i)) := fun i => ⟨run_valid (Valid.range n) (okh i), by rw [hpos]; omega, by rw [hpos]; exact n12⟩
    have po : ∀ i, Possible (run (home n) (es.take i)) := fun i => possible_run (possible_home n) (okh i)
    refine ⟨_, rfl, r, _, rfl, .inl (.of (s1 _ _ er)), _, 1, rfl, rfl, ((es.length + 1 : Nat) : Int), ?_, by omega, by omega, ?_⟩
    · show [V.int (((bs.map V.ref).length : Nat) + 1)] = [V.int ((es.length + 1 : Nat) : Int)]
      rw [lb]; rfl
    rw [Int.toNat_natCast]
    refine for_it (walk_range0 (n := es.length + 1)) (fun i σ H' => (∃ (x3 x4 : Option V), σ = [some (.int (n : Nat)), some (.ref r), some (.ref D), x3, x4, none, none]) ∧ Same H H' ∧ H' D = some (.lst (iv (run (home n) (es.take i)))))
      ⟨⟨_, _, rfl⟩, s1, eD⟩ (fun _ _ _ _ _ => trivial) ?_ ?_
    · rintro i x σ H2 H3 hi ⟨⟨x3, x4, rfl⟩, s2, eD2⟩ ⟨rfl, rfl⟩
      refine ⟨_, rfl, D, _, rfl, .of eD2, fun p o np od => ?_⟩
      refine ⟨p, _, rfl, ⟨o, upd_same, od⟩, ok i, fun _ H4 s4 => ?_, fun no => absurd (po i) no⟩
      have s24 := s2.trans ((same_new np).trans s4)
      have eD4 := s4 _ _ ((same_new np) _ _ eD2)
      have hle : fewest (run (home n) (es.take i)) ≤ i := Nat.le_trans (fewest_le (okt i)) (List.length_take_le _ _)
      revert hle
      generalize fewest (run (home n) (es.take i)) = fw
      intro hle
      refine ⟨_, rfl, (fw : Nat), rfl, true, rfl, ite_f rfl ?_⟩
      refine ⟨_, rfl, (fw : Nat), 0, rfl, rfl, _, rfl, ite_f (decide_eq_false (by omega)) ?_⟩
      refine ⟨_, rfl, _, rfl, (fw : Nat), (i : Nat), rfl, rfl, _, rfl, ite_f (decide_eq_false (by omega)) ?_⟩
      refine ⟨_, rfl, _, rfl, r, _, rfl, .inl (.of (s24 _ _ er)), (i : Nat), _, rfl, rfl, _, rfl, ite2 (fun c => ?_) (fun c => ?_)⟩
      · have hi' : i < es.length := by
          have q : ((i : Nat) : Int) < ((bs.map V.ref).length : Nat) := of_decide_eq_true c
          rw [lb] at q
          omega
        have hib : i < bs.length := by rw [len_refs] at lb; omega
        obtain ⟨e, ee, ht⟩ := paired_get pp (List.getElem?_eq_getElem hib)
        obtain ⟨o1, o2, o3⟩ := oke e (List.mem_of_getElem? ee)
        have sq : SqT K H4 bs[i] [.int (e.1 : Nat), .int (e.2 : Nat)] := .of (s24 _ _ ht)
        have ix : (bs.map V.ref)[i]? = some (.ref bs[i]) := by rw [List.getElem?_map, List.getElem?_eq_getElem hib]; rfl
        have er4 := s24 _ _ er
        refine ⟨_, rfl, _, rfl, _, rfl, r, _, (i : Nat), _, rfl, rfl, .of er4, atI_nat ix, bs[i], _, 1, .int (e.2 : Nat), rfl, rfl, sq, atI_nat (j := 1) rfl, D, _, (e.2 : Nat), _, rfl, rfl, .of eD4, atI_nat (iv_at (by rw [hpos]; exact o2)), ?_⟩
        refine ⟨_, rfl, _, rfl, _, rfl, r, _, (i : Nat), _, rfl, rfl, .of er4, atI_nat ix, bs[i], _, 0, .int (e.1 : Nat), rfl, rfl, sq, atI_nat (j := 0) rfl, D, _, (e.1 : Nat), e.1, rfl, rfl, eD4, ixN_nat (by rw [iv_len, hpos]; exact o1), ⟨⟨_, _, rfl⟩, But.same but_upd s24 nD, ?_⟩⟩
        rw [upd_same, ← iv_set, run_take ee]; rfl
      · have hi' : es.length ≤ i := by
          have q : ¬ ((i : Nat) : Int) < ((bs.map V.ref).length : Nat) := fun z => c (decide_eq_true z)
          rw [lb] at q
          omega
        refine ⟨⟨_, _, rfl⟩, s24, ?_⟩
        rw [List.take_of_length_le (by omega), ← List.take_of_length_le hi']
        exact eD4
    · rintro σ H2 ⟨⟨x3, x4, rfl⟩, s2, eD2⟩
      have okw := ok (es.length + 1)
      have pow := po (es.length + 1)
      have lew : fewest (run (home n) (es.take (es.length + 1))) ≤ es.length := Nat.le_trans (fewest_le (okt _)) (List.length_take_le' _ _)
      have lw := hpos (es.length + 1)
      revert okw pow lew lw eD2
      generalize run (home n) (es.take (es.length + 1)) = g
      intro eD2 okw pow lew lw
      refine ⟨_, rfl, D, _, rfl, .of eD2, fun p o np od => ?_⟩
      refine ⟨p, g, rfl, ⟨o, upd_same, od⟩, okw, fun _ H4 l qs fs s4 el ll okf hrun hlen => ?_, fun no => absurd pow no⟩
      have s24 := s2.trans ((same_new np).trans s4)
      have eD4 := s4 _ _ ((same_new np) _ _ eD2)
      refine ⟨_, rfl, l, qs, fs, n, rfl, el, ll, by rw [← lw]; exact okf, by omega, fun H5 t cs s5 nt et pt => ?_⟩
      have s25 := s24.trans s5
      refine ⟨_, rfl, _, rfl, ite_f rfl ?_⟩
      refine ⟨_, rfl, t, cs.map V.ref, rfl, .inl (.of et), _, rfl, r, _, rfl, .inl (.of (s25 _ _ er)), _, _, rfl, rfl, _, rfl, ite_f (decide_eq_false (by rw [lb, len_refs, paired_len pt, hlen]; omega)) ?_⟩
      exact ⟨_, rfl, _, rfl, t, cs, fs, D, g, rfl, et, pt, s5 _ _ eD4, okw.2.2, okf, hrun, fun H6 s6 => k H6 (s25.trans s6)⟩
end
end Rd
set_option Elab.async false
set_option linter.all false
set_option maxRecDepth 100000
set_option maxHeartbeats 4000000
namespace Rd
open PySem PySem.Spec PyProof.Rows L2
def spLaw (K : PySem.W.Frag) : Sp := fun vs H Q _ => ∃ (a : Addr) (ns : List Int), vs = [.ref a] ∧ SqL K H a (ns.map V.int) ∧ ns.length ≤ 63 ∧ ∀ H', Q (.bl true) H'
theorem eight : ∀ d : Nat, d < 8 → ∃ m : Nat, ([.int 1, .int 2, .int 2, .int 3, .int 3, .int 3, .int 3, .int 4] : List V)[d]? = some (.int (m : Nat)) ∧ 1 ≤ m ∧ m ≤ 4
  | 0, _ => ⟨1, rfl, by decide, by decide⟩
  | 1, _ => ⟨2, rfl, by decide, by decide⟩
  | 2, _ => ⟨2, rfl, by decide, by decide⟩
  | 3, _ => ⟨3, rfl, by decide, by decide⟩
  | 4, _ => ⟨3, rfl, by decide, by decide⟩
  | 5, _ => ⟨3, rfl, by decide, by decide⟩
  | 6, _ => ⟨3, rfl, by decide, by decide⟩
  | 7, _ => ⟨4, rfl, by decide, by decide⟩
  | n + 8, h => absurd h (by omega)
section
variable {P : Program} {w : World} {K : PySem.W.Frag} {mg : Str → Option Value} {base : Heap} {C : Addr}
theorem law_ok {f : Addr} {fd : FuncData} (d : FnP K "law" sLaw f fd) (hB : Has P w K mg base CX0 1 "_law_bag" PBag (spBag K)) (hT : Has P w K mg base CX0 1 "_law_take" PTake spTake) (hD : Has P w K mg base CX0 2 "_law_drawn_log" PDrawn spDrawn)
    (hP : Has P w K mg base CX0 5 "_law_prefixes_right" PPrefR spPrefR) (hS : Has P w K mg base CX0 8 "_law_small_right" PSmallR spSmallR) : FnOk P w K mg base CX0 9 f fd PLaw (spLaw K) := by
  obtain ⟨fB, fdB, gB, GB, kB, bB⟩ := hB
  obtain ⟨fT, fdT, gT, GT, kT, bT⟩ := hT
  obtain ⟨fD, fdD, gD, GD, kD, bD⟩ := hD
  obtain ⟨fP, fdP, gP, GP, kP, bP⟩ := hP
  obtain ⟨fS, fdS, gS, GS, kS, bS⟩ := hS
  refine FunD.ok d scLaw (fun vs H Q E h => ?_) (fun cdv A outer s H vs Q E hr h => ?_)
  · obtain ⟨a, ns, rfl, _⟩ := h
    rfl
  · suffices z : ∃ t, PSs (cxOf CX0 P w K mg base NLaw "law" (defScope sLaw) f cdv A outer s H E).nox (defBody sLaw) t ∧ t { nx := fun _ H' => Q .non H', rt := Q } (start NLaw vs) H from
      let ⟨t, h1, h2⟩ := z
      ⟨t, PSs.nox h1, h2⟩
    obtain ⟨a, ns, rfl, ha, hl, k⟩ := h
    refine ⟨_, pss_cons (ps_set (i := 1) scLaw.nd rfl (.inl rfl) (pe_call GB (hr.mono (by decide)) rfl gB kB bB .nil pass0 (pa_cons (pv 0) pa_nil)))
      (pss_cons (ps_set (i := 2) scLaw.nd rfl (.inl rfl) (pe_ix ix_list (pe_lst (pa_cons pe_int (pa_cons pe_int (pa_cons pe_int (pa_cons pe_int (pa_cons pe_int (pa_cons pe_int (pa_cons pe_int (pa_cons pe_int pa_nil))))))))) (pe_call GT (hr.mono (by decide)) rfl gT kT bT .nil pass0 (pa_cons (pv 1) (pa_cons pe_int pa_nil))) (fun _ _ => rfl)))
      (pss_cons (ps_set (i := 3) scLaw.nd rfl (.inl rfl) (pe_call GD (hr.mono (by decide)) rfl gD kD bD .nil pass0 (pa_cons (pv 1) pa_nil)))
      (pss_cons (ps_if (pt_not (pt_val (pe_call GP (hr.mono (by decide)) rfl gP kP bP .nil pass0 (pa_cons (pe_ix ix_list (pv 3) pe_int (fun _ _ => rfl)) (pa_cons (pe_ix ix_list (pv 3) pe_int (fun _ _ => rfl)) pa_nil))))) (pss_one ps_never) pss_nil)
      (pss_one (ps_ret (pe_call GS hr rfl gS kS bS .nil pass0 (pa_cons (pv 1) (pa_cons (pv 2) pa_nil)))))))), ?_⟩
    refine ⟨_, rfl, a, ns, rfl, ha, hl, fun H1 b c s1 nb nc bg1 => ?_⟩
    refine ⟨(by show 8 ≤ sizeLine; decide), fun L nL => ?_⟩
    have bg2 := bg1.upd (o := .lst [.int 1, .int 2, .int 2, .int 3, .int 3, .int 3, .int 3, .int 4]) (bg1.new nL)
    have nLb := (bg1.new nL).1
    refine ⟨_, rfl, b, c, 8, rfl, bg2, by decide, by decide, fun H3 d3 s3 bg3 hd3 => ?_⟩
    obtain ⟨m, em, m1, m4⟩ := eight d3 hd3
    refine ⟨L, _, (d3 : Nat), _, rfl, rfl, .of (s3 _ _ nLb upd_same), atI_nat em, ?_⟩
    refine ⟨_, rfl, b, c, rfl, bg3, fun H4 q r bs es n s4 bg4 eq_ er pp n2 n12 oke le => ?_⟩
    refine ⟨_, rfl, q, _, 0, .int (n : Nat), rfl, rfl, .of eq_, atI_nat (j := 0) rfl, _, rfl, q, _, 1, .ref r, rfl, rfl, .of eq_, atI_nat (j := 1) rfl, n, r, bs, es, rfl, er, pp, n2, n12, oke, le, fun H5 s5 => ?_⟩
    exact ⟨true, rfl, ite_f rfl ⟨_, rfl, _, rfl, b, c, m, rfl, bg4.same s5, m1, m4, k⟩⟩
end
end Rd
set_option Elab.async false
set_option linter.all false
set_option maxRecDepth 100000
set_option maxHeartbeats 0
namespace Rd
open PySem PySem.Spec PyProof.Rows L2
section
variable {K : PySem.W.Frag} {h : Heap} {mg : Str → Option Value}
theorem dfR (X : K.In h) (G : h.Ns mainGlobals mg) (c : SaysR K) (i : Nat) {x : Str} {st : Stmt} {d : He.DefD} (e : d = ⟨(x, none), x, x, defArgs st, defBody st, defScope st, [], []⟩) (hd : fn[i]? = some d) (hf : fa[i]? = some (.glo x)) : ∃ fd, FnP K x st (He.ga K x) fd ∧ mg x = some (.ref (He.ga K x)) := by
  obtain ⟨fd, F⟩ := c.d.def_ i hd
  subst e
  exact ⟨fd, F, He.glo_ok X G (c.d.fact i hf)⟩
theorem df (X : K.In h) (G : h.Ns mainGlobals mg) (c : SaysR K) (i : Nat) {x : Str} {st : Stmt} {d : He.DefD} (e : d = ⟨(x, none), x, x, defArgs st, defBody st, defScope st, [], []⟩) (hd : fn[i]? = some d) (hf : fa[i]? = some (.glo x)) : Df K mg x st :=
  let ⟨fd, F, g⟩ := dfR X G c i e hd hf
  ⟨_, fd, F, g⟩
theorem blR (X : K.In h) (G : h.Ns mainGlobals mg) (c : SaysR K) : Bl mg where
  isi := He.free_ok X G (c.d.fact 27 (f := .free "isinstance") rfl)
  int := He.free_ok X G (c.d.fact 28 (f := .free "int") rfl)
  len := He.free_ok X G (c.d.fact 29 (f := .free "len") rfl)
  range := He.free_ok X G (c.d.fact 30 (f := .free "range") rfl)
  tuple := He.free_ok X G (c.d.fact 31 (f := .free "tuple") rfl)
  list := He.free_ok X G (c.d.fact 32 (f := .free "list") rfl)
  enm := He.free_ok X G (c.d.fact 33 (f := .free "enumerate") rfl)
  str := He.free_ok X G (c.d.fact 34 (f := .free "str") rfl)
  bool := He.free_ok X G (c.d.fact 35 (f := .free "bool") rfl)
  most := He.int_ok X G (c.d.fact 37 (f := .int "MOST_BLOCKS" 12) rfl)
theorem exR (X : K.In h) (G : h.Ns mainGlobals mg) (c : SaysR K) : Ex K mg (He.ga K "NoLog") := by
  obtain ⟨x1, x2, x3, x4⟩ := He.exc_ok (c.d.fact 43 (f := .exc "NoLog") rfl)
  obtain ⟨c1, q⟩ := He.ba (c.ex : exB K = true)
  obtain ⟨c2, q⟩ := He.ba q
  obtain ⟨c3, q⟩ := He.ba q
  obtain ⟨c4, q⟩ := He.ba q
  obtain ⟨c5, q⟩ := He.ba q
  obtain ⟨c6, q⟩ := He.ba q
  obtain ⟨c7, q⟩ := He.ba q
  obtain ⟨c8, q⟩ := He.ba q
  obtain ⟨c9, q⟩ := He.ba q
  obtain ⟨c10, q⟩ := He.ba q
  obtain ⟨c11, c12⟩ := He.ba q
  exact ⟨⟨He.glo_ok X G (c.d.fact 39 (f := .glo "NoLog") rfl), x1, x2, x3, x4⟩, He.exm_ok (c.d.fact 44 (f := .exm "NoLog" "NoLog" true) rfl),
    ⟨He.eqO_ok c1, He.eqO_ok c2, x3, c3, He.eqO_ok c4, He.eqO_ok c5, of_decide_eq_true c6, of_decide_eq_true c7⟩,
    ⟨_, He.glo_ok X G (c.d.fact 40 (f := .glo "InvalidGoal") rfl), of_decide_eq_true c8⟩, ⟨_, He.glo_ok X G (c.d.fact 42 (f := .glo "NoSafeLog") rfl), of_decide_eq_true c9⟩, ⟨_, He.glo_ok X G (c.d.fact 41 (f := .glo "TooMany") rfl), of_decide_eq_true c10⟩,
    ⟨_, He.glo_ok X G (c.d.fact 38 (f := .glo "RedoError") rfl), of_decide_eq_true c11⟩, He.free_ok X G (c.d.fact 36 (f := .free "ValueError") rfl), of_decide_eq_true c12⟩
theorem facts {P : Program} {w : World} {f : Addr} (X : K.In h) (G : h.Ns mainGlobals mg) (hfa : mg ("law" : Str) = some (.ref f)) (c : SaysR K) :
    ∃ fd : FuncData, (∀ (s : Shared) (v : Value), BindsTo s fd ⟨[v], []⟩ [("_law_script", v)]) ∧ ∀ base : Heap, K.In base → base.Ns mainGlobals mg → FnOk P w K mg base CX0 9 f fd PLaw (spLaw K) := by
  obtain ⟨fd, F, g⟩ := dfR (mg := mg) X G c 26 (x := "law") (st := sLaw) (d := dLaw) rfl rfl rfl
  have ef : f = He.ga K "law" := by rw [hfa] at g; exact Value.ref.inj (Option.some.inj g)
  subst ef
  refine ⟨fd, fun s v => FunD.bindsA F (ps := PLaw) (fun _ _ _ _ _ _ us hl => match us, hl with | [_], _ => rfl) s [v] rfl, fun base _ _ => ?_⟩
  have B := blR X G c
  have E := exR X G c
  have hHome : Has P w K mg base CX0 1 "home" PHome spHome := has_home (df X G c 0 (d := dHome) rfl rfl rfl) B
  have hIs : Has P w K mg base CX0 1 "is_index" PIsIndex spIsIndex := has_isIndex (df X G c 1 (d := dIsIndex) rfl rfl rfl) B
  have hCopies : HasR P w K mg base 1 "copies" spCopies := has_copies (df X G c 2 (d := dCopies) rfl rfl rfl)
  have hOrig : Has P w K mg base CX0 2 "origin_rows" POrig spOrig := has_orig (df X G c 3 (d := dOrig) rfl rfl rfl) B hHome
  have hCG : Has P w K mg base CX0 2 "check_goal" PCheckG spCheckG := has_checkG (df X G c 4 (d := dCheckG) rfl rfl rfl) B hIs
  have hCh : Has P w K mg base CX0 1 "changed_blocks" PChanged spChanged := has_changed (df X G c 5 (d := dChanged) rfl rfl rfl) B
  have hMi : Has P w K mg base CX0 1 "_missing" PMissing spMissing := has_missing (df X G c 6 (d := dMissing) rfl rfl rfl) B
  have hCP : Has P w K mg base (L2.CX P w) 3 "check_possible" PCheckP (spCheckP _) := has_checkP (df X G c 7 (d := dCheckP) rfl rfl rfl) B E.n hCG hCh hMi
  have hRF : Has P w K mg base CX0 1 "_ring_from" PRingFrom spRingFrom := has_ringFrom (df X G c 8 (d := dRingFrom) rfl rfl rfl) B
  have hCl : Has P w K mg base CX0 3 "closed_rings" PClosed spClosed := has_closed (df X G c 9 (d := dClosed) rfl rfl rfl) B hCG hRF
  have hFe : Has P w K mg base (L2.CX P w) 4 "fewest_copies" PFewest (spFewest _) := has_fewest (df X G c 10 (d := dFewest) rfl rfl rfl) B hCP hCh hCl
  have hRP : Has P w K mg base CX0 1 "_ring_pairs" PRingPairs spRingPairs := has_ringPairs (df X G c 11 (d := dRingPairs) rfl rfl rfl) B
  have hFr : Has P w K mg base CX0 1 "_free_blocks" PFree spFree := has_free (df X G c 12 (d := dFree) rfl rfl rfl) B
  have hLe : Has P w K mg base (L2.CX P w) 4 "least_log" PLeast (spLeast _) := has_least (df X G c 13 (d := dLeast) rfl rfl rfl) B hCP hMi hCl hRP hOrig hFr hCopies
  have hBag : Has P w K mg base CX0 1 "_law_bag" PBag (spBag K) := has_bag (df X G c 14 (d := dBag) rfl rfl rfl) B
  have hTake : Has P w K mg base CX0 1 "_law_take" PTake spTake := has_take (df X G c 15 (d := dTake) rfl rfl rfl) B
  have hNum : Has P w K mg base CX0 1 "_law_is_number" PIsNum spIsNum := has_isNum (df X G c 16 (d := dIsNum) rfl rfl rfl) B
  have hRead : Has P w K mg base CX0 2 "_law_read" PRead spRead := has_read (df X G c 17 (d := dRead) rfl rfl rfl) B hNum
  have hLeads : Has P w K mg base CX0 1 "_law_leads" PLeads (spLeads K) := has_leads (df X G c 18 (d := dLeads) rfl rfl rfl) B
  have hDist : Has P w K mg base CX0 1 "_law_distances" PDist spDist := has_dist (df X G c 19 (d := dDist) rfl rfl rfl) B
  have hCall : Has P w K mg base (L2.CX P w) 5 "_law_call" PCall (spCall _) := has_call (df X G c 20 (d := dCall) rfl rfl rfl) hFe hLe
  have hRef : Has P w K mg base CX0 6 "_law_refused" PRefused spRefused := has_refused (df X G c 21 (d := dRefused) rfl rfl rfl) B E hCall
  have hGR : Has P w K mg base CX0 7 "_law_goal_right" PGoalR spGoalR := has_goalR (df X G c 22 (d := dGoalR) rfl rfl rfl) B hRef hFe hNum hLe hRead hLeads
  have hSR : Has P w K mg base CX0 8 "_law_small_right" PSmallR spSmallR := has_smallR (df X G c 23 (d := dSmallR) rfl rfl rfl) B hDist hTake hGR
  have hDr : Has P w K mg base CX0 2 "_law_drawn_log" PDrawn spDrawn := has_drawn (df X G c 24 (d := dDrawn) rfl rfl rfl) B hTake
  have hPR : Has P w K mg base CX0 5 "_law_prefixes_right" PPrefR spPrefR := has_prefR (df X G c 25 (d := dPrefR) rfl rfl rfl) B hFe hNum hLe hRead hLeads
  exact law_ok F hBag hTake hDr hPR hSR
end
end Rd
open PySem PySem.W PySem.Calls PyProof.Rows
theorem PySem.Challenge.cw_redolots_k34_whole_none_shorter_holds : PySem.Challenge.rw_redolots_k34_whole_none_shorter.Holds := by
  w_on; o_law
  refine HandSHeadRun.head_any (r := OpenLaw.row PySem.Challenge.rw_redolots_k34_whole_none_shorter) (q := Rd.qv) (H := Rd.hkR) (ob := Rd.ob) (M := 4000) (loose := Rd.looseNames) (d := HandSHeadRun.topDef Rd.R.prog 39) (kwd := []) Rd.ob_eq
    (by kernel_rfl) (fun s => by kernel_rfl) Rd.runR (by kernel_rfl) (by kernel_rfl) (by kernel_rfl) (by rfl) (by first | assumption | decide +kernel) (by decide +kernel) ⟨rfl, rfl, rfl, rfl, rfl, by decide +kernel⟩ ?hw ?hc
  case hw => w_witness2
  case hc =>
    refine L2.walk_ofE (l := PySem.Challenge.rw_redolots_k34_whole_none_shorter) (n := 63) (k := 9) (x := "_law_script") (CX := L2.CX0) rfl (by decide) (by kernel_rfl) ⟨rfl, by decide, by decide⟩ ?F (fun _ _ _ _ z => z)
    intro w mg fa h Y G hmg0
    obtain ⟨K, KX, c⟩ := Y
    have hmg : mg ("law" : PySem.Str) = some (.ref fa) := by
      have e : (HandSHeadRun.topDef Rd.R.prog 39).name = ("law" : PySem.Str) := by kernel_rfl
      rw [← e]
      exact hmg0
    obtain ⟨fd, hb, hF⟩ := Rd.facts (P := (PySem.Challenge.rw_redolots_k34_whole_none_shorter).prog) (w := w) KX G hmg c
    exact ⟨K, fd, Rd.spLaw K, KX, hb, fun H a ns hl _ hS => ⟨a, ns, rfl, hS, hl, fun _ => rfl⟩, hF⟩

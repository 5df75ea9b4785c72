import PyProof.Rows.All
import Wide.All
import OpenK.AllK
import Wide.FinOn
import HandS.ForMost
import HandS.Steps
import HandS.TupAny
import KE.KSortRegAny
import KE.SortData
import KE.KDictCopyH
import KE.KDictDisplayH
import Open.Row
import PySem.Challenge.RW_textshards_k23_whole_certain_on_every_ci
set_option Elab.async false
set_option linter.all false
/-! TsGraph -/
/-! Depth first order and components: the plain law of components.py, over any finite graph. -/
namespace Ts
section
variable {A : Type} [DecidableEq A]

/-- reached by edges -/
inductive Rch (E : A → List A) : A → A → Prop where
  | refl (x : A) : Rch E x x
  | step {x y z : A} : y ∈ E x → Rch E y z → Rch E x z

theorem Rch.one {E : A → List A} {x y : A} (h : y ∈ E x) : Rch E x y := .step h (.refl y)
theorem Rch.trans {E : A → List A} {x y z : A} (h : Rch E x y) (g : Rch E y z) : Rch E x z := by
  induction h with
  | refl => exact g
  | step e _ ih => exact .step e (ih g)

/-- what the walk of finished_from keeps: seen, order, the stack (bottom first) -/
structure Dfs (E : A → List A) (S order : List A) (stk : List (A × Nat)) : Prop where
  mem : ∀ x, x ∈ S ↔ x ∈ order ∨ x ∈ stk.map (·.1)
  nd : (order ++ stk.map (·.1)).Nodup
  sd : S.Nodup
  fin : ∀ x ∈ order, ∀ y ∈ E x, y ∈ S
  idx : ∀ p ∈ stk, p.2 ≤ (E p.1).length ∧ ∀ (j : Nat) (y : A), j < p.2 → (E p.1)[j]? = some y → y ∈ S
  chain : (stk.map (·.1)).Pairwise (Rch E)
  ord : ∀ (U : List A) (x : A) (W : List A), order = U ++ x :: W → ∀ u, u ∈ U ++ [x] → ∀ v, v ∈ E u → v ∉ U ++ [x] → Rch E v x

theorem Dfs.empty (E : A → List A) : Dfs E [] [] [] where
  mem := by simp
  nd := by simp
  sd := by simp
  fin := by simp
  idx := by simp
  chain := by simp
  ord := by simp

theorem Dfs.start {E : A → List A} {S order : List A} {x : A} (d : Dfs E S order []) (hx : x ∉ S) : Dfs E (S ++ [x]) order [(x, 0)] where
  mem := fun y => by
    have := d.mem y
    simp at this
    simp [this]
  nd := by
    have h := d.nd
    simp at h
    have hn : x ∉ order := fun m => hx ((d.mem x).mpr (.inl m))
    simp only [List.map_cons, List.map_nil]
    rw [List.nodup_append]
    refine ⟨h, by simp, ?_⟩
    intro a ha b hb e
    simp at hb
    subst hb; subst e
    exact hn ha
  sd := by
    rw [List.nodup_append]
    refine ⟨d.sd, by simp, ?_⟩
    intro a ha b hb e
    simp at hb
    subst hb; subst e
    exact hx ha
  fin := fun y hy z hz => List.mem_append.mpr (.inl (d.fin y hy z hz))
  idx := fun p hp => by
    simp at hp
    subst hp
    exact ⟨Nat.zero_le _, fun j y h => absurd h (Nat.not_lt_zero _)⟩
  chain := by simp
  ord := d.ord

theorem Dfs.push {E : A → List A} {S order : List A} {rest : List (A × Nat)} {x y : A} {i : Nat} (d : Dfs E S order (rest ++ [(x, i)])) (hy : (E x)[i]? = some y) (hn : y ∉ S) :
    Dfs E (S ++ [y]) order (rest ++ [(x, i + 1)] ++ [(y, 0)]) where
  mem := fun z => by
    have := d.mem z
    simp only [List.map_append, List.map_cons, List.map_nil, List.mem_append, List.mem_singleton] at this ⊢
    rw [this]
    constructor
    · rintro ((h | h | h) | h)
      · exact .inl h
      · exact .inr (.inl (.inl h))
      · exact .inr (.inl (.inr h))
      · exact .inr (.inr h)
    · rintro (h | (h | h) | h)
      · exact .inl (.inl h)
      · exact .inl (.inr (.inl h))
      · exact .inl (.inr (.inr h))
      · exact .inr h
  nd := by
    have h := d.nd
    have hno : y ∉ order ++ (rest ++ [(x, i)]).map (·.1) := fun m => by
      rcases List.mem_append.mp m with m | m
      · exact hn ((d.mem y).mpr (.inl m))
      · exact hn ((d.mem y).mpr (.inr m))
    have e : order ++ (rest ++ [(x, i + 1)] ++ [(y, 0)]).map (fun p : A × Nat => p.1) = (order ++ (rest ++ [(x, i)]).map (fun p : A × Nat => p.1)) ++ [y] := by simp
    rw [e, List.nodup_append]
    refine ⟨h, by simp, ?_⟩
    intro a ha b hb e2
    simp at hb
    subst hb; subst e2
    exact hno ha
  sd := by
    rw [List.nodup_append]
    refine ⟨d.sd, by simp, ?_⟩
    intro a ha b hb e
    simp at hb
    subst hb; subst e
    exact hn ha
  fin := fun u hu z hz => List.mem_append.mpr (.inl (d.fin u hu z hz))
  idx := fun p hp => by
    rcases List.mem_append.mp hp with hp | hp
    · rcases List.mem_append.mp hp with hp | hp
      · obtain ⟨h1, h2⟩ := d.idx p (List.mem_append.mpr (.inl hp))
        exact ⟨h1, fun j z hj hz => List.mem_append.mpr (.inl (h2 j z hj hz))⟩
      · simp at hp
        subst hp
        obtain ⟨h1, h2⟩ := d.idx (x, i) (List.mem_append.mpr (.inr (by simp)))
        have hi : i < (E x).length := (List.getElem?_eq_some_iff.mp hy).1
        refine ⟨hi, fun j z hj hz => ?_⟩
        by_cases e : j = i
        · subst e
          have hz' : (E x)[j]? = some z := hz
          rw [hy] at hz'
          cases hz'
          simp
        · exact List.mem_append.mpr (.inl (h2 j z (by omega) hz))
    · simp at hp
      subst hp
      exact ⟨Nat.zero_le _, fun j z h => absurd h (Nat.not_lt_zero _)⟩
  chain := by
    have h := d.chain
    have e : (rest ++ [(x, i + 1)] ++ [(y, 0)]).map (fun p : A × Nat => p.1) = (rest ++ [(x, i)]).map (fun p : A × Nat => p.1) ++ [y] := by simp
    rw [e, List.pairwise_append]
    refine ⟨h, by simp, ?_⟩
    intro a ha b hb
    simp at hb
    subst hb
    have hxy : Rch E x b := .one (List.mem_of_getElem? hy)
    simp only [List.map_append, List.map_cons, List.map_nil] at h ha
    rw [List.pairwise_append] at h
    rcases List.mem_append.mp ha with ha | ha
    · exact (h.2.2 a ha x (by simp)).trans hxy
    · simp at ha
      subst ha
      exact hxy
  ord := d.ord

theorem Dfs.skip {E : A → List A} {S order : List A} {rest : List (A × Nat)} {x y : A} {i : Nat} (d : Dfs E S order (rest ++ [(x, i)])) (hy : (E x)[i]? = some y) (hm : y ∈ S) :
    Dfs E S order (rest ++ [(x, i + 1)]) where
  mem := fun z => by
    have := d.mem z
    simp only [List.map_append, List.map_cons, List.map_nil] at this ⊢
    exact this
  nd := by
    have h := d.nd
    simp only [List.map_append, List.map_cons, List.map_nil] at h ⊢
    exact h
  sd := d.sd
  fin := d.fin
  idx := fun p hp => by
    rcases List.mem_append.mp hp with hp | hp
    · exact d.idx p (List.mem_append.mpr (.inl hp))
    · simp at hp
      subst hp
      obtain ⟨h1, h2⟩ := d.idx (x, i) (List.mem_append.mpr (.inr (by simp)))
      have hi : i < (E x).length := (List.getElem?_eq_some_iff.mp hy).1
      refine ⟨hi, fun j z hj hz => ?_⟩
      by_cases e : j = i
      · subst e
        have hz' : (E x)[j]? = some z := hz
        rw [hy] at hz'
        cases hz'
        exact hm
      · exact h2 j z (by omega) hz
  chain := by
    have h := d.chain
    simp only [List.map_append, List.map_cons, List.map_nil] at h ⊢
    exact h
  ord := d.ord

theorem snoc_split {l U W : List A} {a x : A} (h : l ++ [a] = U ++ x :: W) : (W = [] ∧ U = l ∧ x = a) ∨ ∃ W', W = W' ++ [a] ∧ l = U ++ x :: W' := by
  rcases List.eq_nil_or_concat W with e | ⟨W', b, e⟩
  · subst e
    have h' : l ++ [a] = U ++ [x] := h
    have := List.append_inj' h' rfl
    exact .inl ⟨rfl, this.1.symm, (List.singleton_inj.mp this.2).symm⟩
  · rw [List.concat_eq_append] at e
    subst e
    have h' : l ++ [a] = (U ++ x :: W') ++ [b] := by rw [h]; simp
    have := List.append_inj' h' rfl
    have hb := List.singleton_inj.mp this.2
    subst hb
    exact .inr ⟨W', rfl, this.1⟩

theorem Dfs.pop {E : A → List A} {S order : List A} {rest : List (A × Nat)} {x : A} {i : Nat} (d : Dfs E S order (rest ++ [(x, i)])) (hi : (E x).length ≤ i) :
    Dfs E S (order ++ [x]) rest where
  mem := fun z => by
    have := d.mem z
    simp only [List.map_append, List.map_cons, List.map_nil, List.mem_append, List.mem_singleton] at this ⊢
    rw [this]
    constructor
    · rintro (h | h | h)
      · exact .inl (.inl h)
      · exact .inr h
      · exact .inl (.inr h)
    · rintro ((h | h) | h)
      · exact .inl h
      · exact .inr (.inr h)
      · exact .inr (.inl h)
  nd := by
    have h := d.nd
    simp only [List.map_append, List.map_cons, List.map_nil] at h
    have p : (order ++ (rest.map (·.1) ++ [x])).Perm (order ++ [x] ++ rest.map (·.1)) := by
      rw [List.append_assoc]
      exact List.Perm.append_left _ List.perm_append_comm
    exact p.nodup_iff.mp h
  sd := d.sd
  fin := fun u hu z hz => by
    rcases List.mem_append.mp hu with hu | hu
    · exact d.fin u hu z hz
    · simp at hu
      subst hu
      obtain ⟨h1, h2⟩ := d.idx (u, i) (List.mem_append.mpr (.inr (by simp)))
      obtain ⟨j, hj, e⟩ := List.getElem_of_mem hz
      exact h2 j z (Nat.lt_of_lt_of_le hj hi) (List.getElem?_eq_some_iff.mpr ⟨hj, e⟩)
  idx := fun p hp => d.idx p (List.mem_append.mpr (.inl hp))
  chain := by
    have h := d.chain
    simp only [List.map_append, List.map_cons, List.map_nil] at h
    exact (List.pairwise_append.mp h).1
  ord := fun U z W e u hu v hv hnv => by
    rcases snoc_split e with ⟨_, e2, e3⟩ | ⟨W', e1, e2⟩
    · subst e2; subst e3
      have hvS : v ∈ S := by
        rcases List.mem_append.mp hu with hu | hu
        · exact d.fin u hu v hv
        · simp at hu
          subst hu
          obtain ⟨h1, h2⟩ := d.idx (u, i) (List.mem_append.mpr (.inr (by simp)))
          obtain ⟨j, hj, e⟩ := List.getElem_of_mem hv
          exact h2 j v (Nat.lt_of_lt_of_le hj hi) (List.getElem?_eq_some_iff.mpr ⟨hj, e⟩)
      rcases (d.mem v).mp hvS with m | m
      · exact absurd (List.mem_append.mpr (.inl m)) hnv
      · simp only [List.map_append, List.map_cons, List.map_nil] at m
        have h := d.chain
        simp only [List.map_append, List.map_cons, List.map_nil] at h
        rcases List.mem_append.mp m with m | m
        · exact (List.pairwise_append.mp h).2.2 v m z (by simp)
        · exact absurd (List.mem_append.mpr (.inr m)) hnv
    · exact d.ord U z W' e2 u hu v hv hnv

/-- the measure of the walk -/
def wOut (E : A → List A) (nodes S : List A) : Nat := ((nodes.filter fun x => decide (x ∉ S)).map fun x => (E x).length + 2).sum
def wStk (E : A → List A) (stk : List (A × Nat)) : Nat := (stk.map fun p => (E p.1).length + 1 - p.2).sum
theorem wOut_le (E : A → List A) (S : List A) (y : A) : ∀ nodes : List A, wOut E nodes (S ++ [y]) ≤ wOut E nodes S
  | [] => Nat.le_refl _
  | a :: r => by
    have ih := wOut_le E S y r
    unfold wOut at ih ⊢
    rw [List.filter_cons, List.filter_cons]
    by_cases h1 : a ∈ S
    · have h2 : a ∈ S ++ [y] := List.mem_append.mpr (.inl h1)
      simp only [h1, h2, not_true_eq_false, decide_false, Bool.false_eq_true, if_false]
      exact ih
    · by_cases h2 : a ∈ S ++ [y]
      · simp only [h1, h2, not_true_eq_false, decide_false, Bool.false_eq_true, if_false, not_false_eq_true, decide_true, if_true, List.map_cons, List.sum_cons]
        omega
      · simp only [h1, h2, not_false_eq_true, decide_true, if_true, List.map_cons, List.sum_cons]
        omega
theorem wOut_push (E : A → List A) (S : List A) {y : A} (hn : y ∉ S) : ∀ nodes : List A, y ∈ nodes → wOut E nodes (S ++ [y]) + ((E y).length + 2) ≤ wOut E nodes S
  | [], h => by simp at h
  | a :: r, h => by
    have le := wOut_le E S y r
    by_cases e : a = y
    · subst e
      unfold wOut at le ⊢
      rw [List.filter_cons, List.filter_cons]
      have h2 : a ∈ S ++ [a] := by simp
      simp only [hn, h2, not_true_eq_false, decide_false, Bool.false_eq_true, if_false, not_false_eq_true, decide_true, if_true, List.map_cons, List.sum_cons]
      omega
    · have hr : y ∈ r := (List.mem_cons.mp h).resolve_left fun z => e z.symm
      have ih := wOut_push E S hn r hr
      unfold wOut at ih ⊢
      rw [List.filter_cons, List.filter_cons]
      by_cases h1 : a ∈ S
      · have h2 : a ∈ S ++ [y] := List.mem_append.mpr (.inl h1)
        simp only [h1, h2, not_true_eq_false, decide_false, Bool.false_eq_true, if_false]
        exact ih
      · have h2 : ¬ a ∈ S ++ [y] := fun m => by
          rcases List.mem_append.mp m with m | m
          · exact h1 m
          · exact e (List.mem_singleton.mp m)
        simp only [h1, h2, not_false_eq_true, decide_true, if_true, List.map_cons, List.sum_cons]
        omega
def wAll (E : A → List A) (nodes S : List A) (stk : List (A × Nat)) : Nat := wOut E nodes S + wStk E stk
theorem wAll_push {E : A → List A} {nodes S : List A} {rest : List (A × Nat)} {x y : A} {i : Nat} (hy : (E x)[i]? = some y) (hn : y ∉ S) (hm : y ∈ nodes) :
    wAll E nodes (S ++ [y]) (rest ++ [(x, i + 1)] ++ [(y, 0)]) < wAll E nodes S (rest ++ [(x, i)]) := by
  have h := wOut_push E S hn nodes hm
  have hi : i < (E x).length := (List.getElem?_eq_some_iff.mp hy).1
  unfold wAll wStk
  simp only [List.map_append, List.map_cons, List.map_nil, List.sum_append, List.sum_cons, List.sum_nil]
  omega
theorem wAll_skip {E : A → List A} {nodes S : List A} {rest : List (A × Nat)} {x y : A} {i : Nat} (hy : (E x)[i]? = some y) :
    wAll E nodes S (rest ++ [(x, i + 1)]) < wAll E nodes S (rest ++ [(x, i)]) := by
  have hi : i < (E x).length := (List.getElem?_eq_some_iff.mp hy).1
  unfold wAll wStk
  simp only [List.map_append, List.map_cons, List.map_nil, List.sum_append, List.sum_cons, List.sum_nil]
  omega
theorem wAll_pop {E : A → List A} {nodes S : List A} {rest : List (A × Nat)} {x : A} {i : Nat} (hi : i ≤ (E x).length) :
    wAll E nodes S rest < wAll E nodes S (rest ++ [(x, i)]) := by
  unfold wAll wStk
  simp only [List.map_append, List.map_cons, List.map_nil, List.sum_append, List.sum_cons, List.sum_nil]
  omega

/-! ### the second walk -/
/-- a path of n edges within U -/
inductive Via (E : A → List A) (U : A → Prop) : Nat → A → A → Prop where
  | refl {x : A} : U x → Via E U 0 x x
  | step {n : Nat} {x y z : A} : U x → y ∈ E x → Via E U n y z → Via E U (n + 1) x z
theorem Via.rch {E : A → List A} {U : A → Prop} {n : Nat} {x y : A} (h : Via E U n x y) : Rch E x y := by
  induction h with
  | refl => exact .refl _
  | step _ e _ ih => exact .step e ih
theorem Via.head {E : A → List A} {U : A → Prop} {n : Nat} {x y : A} (h : Via E U n x y) : U x := by
  cases h with
  | refl h => exact h
  | step h _ _ => exact h
/-- where a path leaves F -/
theorem Via.leaves {E : A → List A} {U : A → Prop} {F : List A} {n : Nat} {x s : A} (h : Via E U n x s) (hx : x ∈ F) (hs : s ∉ F) : ∃ u z m, m < n ∧ u ∈ F ∧ z ∈ E u ∧ z ∉ F ∧ Via E U m z s := by
  induction h with
  | refl => exact absurd hx hs
  | @step n x y z hU e r ih =>
    by_cases hy : y ∈ F
    · obtain ⟨u, v, m, h1, h2, h3, h4, h5⟩ := ih hy hs
      exact ⟨u, v, m, Nat.lt_succ_of_lt h1, h2, h3, h4, h5⟩
    · exact ⟨x, y, n, Nat.lt_succ_self n, hx, e, hy, r⟩
/-- the order's law: a path that stays at or before s leads back from s -/
theorem back_rch {E : A → List A} {order : List A} (nd : order.Nodup)
    (ord : ∀ (U : List A) (x : A) (W : List A), order = U ++ x :: W → ∀ u, u ∈ U ++ [x] → ∀ v, v ∈ E u → v ∉ U ++ [x] → Rch E v x)
    {P : List A} {s : A} {B : List A} (e : order = P ++ s :: B) : ∀ (n : Nat) (x : A), Via E (fun y => y ∈ P ++ [s]) n x s → Rch E s x := by
  intro n
  induction n using Nat.strongRecOn with
  | ind n ih =>
    intro x h
    by_cases hxs : x = s
    · subst hxs; exact .refl _
    · have hx : x ∈ P := by
        rcases List.mem_append.mp h.head with m | m
        · exact m
        · exact absurd (List.mem_singleton.mp m) hxs
      obtain ⟨P1, P2, eP⟩ := List.append_of_mem hx
      have e2 : order = P1 ++ x :: (P2 ++ s :: B) := by rw [e, eP]; simp
      have hs : s ∉ P1 ++ [x] := fun m => by
        rw [e2] at nd
        have e3 : P1 ++ x :: (P2 ++ s :: B) = (P1 ++ [x]) ++ (P2 ++ s :: B) := by simp
        rw [e3, List.nodup_append] at nd
        exact nd.2.2 s m s (by simp) rfl
      obtain ⟨u, z, m, hm, hu, hz, hzn, hp⟩ := h.leaves (F := P1 ++ [x]) (by simp) hs
      exact (ih m hm z hp).trans (ord P1 x _ e2 u hu z hz hzn)

/-- between two rounds: N the numbers so far -/
structure Kos (E : A → List A) (order : List A) (N : A → Option Nat) (many : Nat) (done : List A) : Prop where
  lt : ∀ x n, N x = some n → n < many ∧ x ∈ order
  pre : ∀ x y n, N x = some n → x ∈ E y → y ∈ order → ∃ m, N y = some m ∧ m ≤ n
  rch : ∀ x y n, N x = some n → N y = some n → Rch E x y
  done : ∀ x ∈ done, N x ≠ none

/-- within a round that began with s, T the stack -/
structure Rnd (E : A → List A) (order : List A) (N0 : A → Option Nat) (many : Nat) (s : A) (N : A → Option Nat) (T : List A) : Prop where
  old : ∀ x n, N0 x = some n → N x = some n
  new : ∀ x n, N x = some n → N0 x = some n ∨ (N0 x = none ∧ n = many ∧ ∃ k, Via E (fun y => N0 y = none ∧ y ∈ order) k x s)
  top : N s = some many
  out : ∀ x, N x = some many → x ∉ T → ∀ y, x ∈ E y → y ∈ order → N y ≠ none
  stk : ∀ x ∈ T, N x = some many

theorem Rnd.start {E : A → List A} {order done : List A} {N0 N : A → Option Nat} {many : Nat} {s : A} (K : Kos E order N0 many done) (hs : N0 s = none) (hm : s ∈ order) (hN : ∀ x, N x = if x = s then some many else N0 x) :
    Rnd E order N0 many s N [s] where
  old := fun x n h => by
    rw [hN]
    have : x ≠ s := fun e => by rw [e, hs] at h; cases h
    rw [if_neg this]
    exact h
  new := fun x n h => by
    rw [hN] at h
    by_cases e : x = s
    · subst e
      rw [if_pos rfl] at h
      cases h
      exact .inr ⟨hs, rfl, 0, .refl ⟨hs, hm⟩⟩
    · rw [if_neg e] at h
      exact .inl h
  top := by rw [hN, if_pos rfl]
  out := fun x h hn => by
    rw [hN] at h
    by_cases e : x = s
    · exact absurd (List.mem_singleton.mpr e) hn
    · rw [if_neg e] at h
      exact absurd (K.lt x many h).1 (Nat.lt_irrefl _)
  stk := fun x h => by
    have e := List.mem_singleton.mp h
    rw [hN, if_pos e]

/-- one predecessor y of a popped x: W are those of its predecessors that were looked at -/
structure Inn (E : A → List A) (order : List A) (N0 : A → Option Nat) (many : Nat) (s x : A) (N : A → Option Nat) (T W : List A) : Prop where
  old : ∀ x n, N0 x = some n → N x = some n
  new : ∀ x n, N x = some n → N0 x = some n ∨ (N0 x = none ∧ n = many ∧ ∃ k, Via E (fun y => N0 y = none ∧ y ∈ order) k x s)
  top : N s = some many
  out : ∀ z, N z = some many → z ∉ T → z ≠ x → ∀ y, z ∈ E y → y ∈ order → N y ≠ none
  stk : ∀ x ∈ T, N x = some many
  me : N x = some many
  look : ∀ y ∈ W, N y ≠ none

theorem Rnd.pop {E : A → List A} {order : List A} {N0 N : A → Option Nat} {many : Nat} {s x : A} {T : List A} (r : Rnd E order N0 many s N (T ++ [x])) : Inn E order N0 many s x N T [] where
  old := r.old
  new := r.new
  top := r.top
  out := fun z h hn hx => r.out z h fun m => by
    rcases List.mem_append.mp m with m | m
    · exact hn m
    · exact hx (List.mem_singleton.mp m)
  stk := fun z h => r.stk z (List.mem_append.mpr (.inl h))
  me := r.stk x (by simp)
  look := fun y h => by simp at h
theorem Inn.skip {E : A → List A} {order : List A} {N0 N : A → Option Nat} {many : Nat} {s x y : A} {T W : List A} (r : Inn E order N0 many s x N T W) (hy : N y ≠ none) : Inn E order N0 many s x N T (W ++ [y]) :=
  ⟨r.old, r.new, r.top, r.out, r.stk, r.me, fun z h => by
    rcases List.mem_append.mp h with m | m
    · exact r.look z m
    · rw [List.mem_singleton.mp m]; exact hy⟩
theorem Inn.take {E : A → List A} {order : List A} {N0 N N' : A → Option Nat} {many : Nat} {s x y : A} {T W : List A} (r : Inn E order N0 many s x N T W) (hy : N y = none) (hx : x ∈ E y) (ho : y ∈ order) (hlt : ∀ x n, N0 x = some n → n < many)
    (hN : ∀ z, N' z = if z = y then some many else N z) : Inn E order N0 many s x N' (T ++ [y]) (W ++ [y]) where
  old := fun z n h => by
    rw [hN]
    have q := r.old z n h
    have : z ≠ y := fun e => by rw [e, hy] at q; cases q
    rw [if_neg this]
    exact q
  new := fun z n h => by
    rw [hN] at h
    by_cases e : z = y
    · subst e
      rw [if_pos rfl] at h
      cases h
      have h0 : N0 z = none := by
        cases q : N0 z with
        | none => rfl
        | some n => rw [r.old z n q] at hy; cases hy
      rcases r.new x many r.me with q | ⟨q1, q2, k, q3⟩
      · exact absurd (hlt x many q) (Nat.lt_irrefl _)
      · exact .inr ⟨h0, rfl, k + 1, .step ⟨h0, ho⟩ hx q3⟩
    · rw [if_neg e] at h
      exact r.new z n h
  top := by
    rw [hN]
    by_cases e : s = y
    · rw [if_pos e]
    · rw [if_neg e]; exact r.top
  out := fun z h hn hzx u hu hou => by
    rw [hN] at h
    by_cases e : z = y
    · exact absurd (List.mem_append.mpr (.inr (List.mem_singleton.mpr e))) hn
    · rw [if_neg e] at h
      have q := r.out z h (fun m => hn (List.mem_append.mpr (.inl m))) hzx u hu hou
      rw [hN]
      by_cases e2 : u = y
      · rw [if_pos e2]; simp
      · rw [if_neg e2]; exact q
  stk := fun z h => by
    rw [hN]
    by_cases e : z = y
    · rw [if_pos e]
    · rw [if_neg e]
      rcases List.mem_append.mp h with m | m
      · exact r.stk z m
      · exact absurd (List.mem_singleton.mp m) e
  me := by
    rw [hN]
    by_cases e : x = y
    · rw [if_pos e]
    · rw [if_neg e]; exact r.me
  look := fun z h => by
    rw [hN]
    by_cases e : z = y
    · rw [if_pos e]; simp
    · rw [if_neg e]
      rcases List.mem_append.mp h with m | m
      · exact r.look z m
      · exact absurd (List.mem_singleton.mp m) e
theorem Inn.done {E : A → List A} {order : List A} {N0 N : A → Option Nat} {many : Nat} {s x : A} {T W : List A} (r : Inn E order N0 many s x N T W) (hW : ∀ y, x ∈ E y → y ∈ order → y ∈ W) : Rnd E order N0 many s N T where
  old := r.old
  new := r.new
  top := r.top
  out := fun z h hn y hy ho => by
    by_cases e : z = x
    · subst e; exact r.look y (hW y hy ho)
    · exact r.out z h hn e y hy ho
  stk := r.stk
/-- a round's end -/
theorem Rnd.finish {E : A → List A} {order P B : List A} {N0 N : A → Option Nat} {many : Nat} {s : A} (nd : order.Nodup)
    (ord : ∀ (U : List A) (x : A) (W : List A), order = U ++ x :: W → ∀ u, u ∈ U ++ [x] → ∀ v, v ∈ E u → v ∉ U ++ [x] → Rch E v x)
    (e : order = P ++ s :: B) (K : Kos E order N0 many B) (hs : N0 s = none) (r : Rnd E order N0 many s N []) : Kos E order N (many + 1) (s :: B) := by
  have hU : ∀ y, N0 y = none ∧ y ∈ order → y ∈ P ++ [s] := fun y ⟨h1, h2⟩ => by
    rw [e] at h2
    rcases List.mem_append.mp h2 with m | m
    · exact List.mem_append.mpr (.inl m)
    · rcases List.mem_cons.mp m with m | m
      · exact List.mem_append.mpr (.inr (List.mem_singleton.mpr m))
      · exact absurd h1 (K.done y m)
  have via : ∀ {k : Nat} {x z : A}, Via E (fun y => N0 y = none ∧ y ∈ order) k x z → Via E (fun y => y ∈ P ++ [s]) k x z := fun {k x z} h => by
    induction h with
    | refl h => exact .refl (hU _ h)
    | step h1 h2 _ ih => exact .step (hU _ h1) h2 ih
  have hso : s ∈ order := by rw [e]; simp
  refine ⟨fun x n h => ?_, fun x y n h hxy hy => ?_, fun x y n hx hy => ?_, fun x hx => ?_⟩
  · rcases r.new x n h with q | ⟨q1, q2, k, q3⟩
    · exact ⟨Nat.lt_succ_of_lt (K.lt x n q).1, (K.lt x n q).2⟩
    · exact ⟨by omega, q3.head.2⟩
  · rcases r.new x n h with q | ⟨q1, q2, k, q3⟩
    · obtain ⟨m, h1, h2⟩ := K.pre x y n q hxy hy
      exact ⟨m, r.old y m h1, h2⟩
    · subst q2
      cases hNy : N y with
      | none => exact absurd hNy (r.out x h (by simp) y hxy hy)
      | some m =>
        refine ⟨m, rfl, ?_⟩
        rcases r.new y m hNy with q | ⟨_, q2, _⟩
        · exact Nat.le_of_lt (K.lt y m q).1
        · omega
  · rcases r.new x n hx with q | ⟨_, q2, k, q3⟩
    · rcases r.new y n hy with q' | ⟨_, q2', _⟩
      · exact K.rch x y n q q'
      · exact absurd (K.lt x n q).1 (by omega)
    · rcases r.new y n hy with q' | ⟨_, q2', k', q3'⟩
      · exact absurd (K.lt y n q').1 (by omega)
      · exact q3.rch.trans (back_rch nd ord e k' y (via q3'))
  · rcases List.mem_cons.mp hx with q | q
    · rw [q, r.top]; simp
    · cases h : N0 x with
      | none => exact absurd h (K.done x q)
      | some n => rw [r.old x n h]; simp
theorem Kos.skip {E : A → List A} {order B : List A} {N : A → Option Nat} {many : Nat} {s : A} (K : Kos E order N many B) (h : N s ≠ none) : Kos E order N many (s :: B) :=
  ⟨K.lt, K.pre, K.rch, fun x hx => by
    rcases List.mem_cons.mp hx with q | q
    · rw [q]; exact h
    · exact K.done x q⟩
theorem Kos.zero (E : A → List A) (order : List A) {N : A → Option Nat} (h : ∀ x, N x = none) : Kos E order N 0 [] :=
  ⟨fun x n q => by (rw [h] at q; cases q), fun x y n q => by (rw [h] at q; cases q), fun x y n q => by (rw [h] at q; cases q), fun x q => by simp at q⟩

/-- what the components are: a number for each node, along the edges it does not fall, and nodes of one number reach each other -/
structure Comps (E : A → List A) (nodes : List A) (N : A → Option Nat) (many : Nat) : Prop where
  all : ∀ x ∈ nodes, ∃ n, N x = some n
  lt : ∀ x n, N x = some n → n < many ∧ x ∈ nodes
  mono : ∀ x y n m, N x = some n → N y = some m → y ∈ E x → n ≤ m
  rch : ∀ x y n, N x = some n → N y = some n → Rch E x y
theorem Kos.comps {E : A → List A} {order nodes : List A} {N : A → Option Nat} {many : Nat} (K : Kos E order N many order) (h : ∀ x, x ∈ order ↔ x ∈ nodes) : Comps E nodes N many where
  all := fun x hx => by
    cases q : N x with
    | none => exact absurd q (K.done x ((h x).mpr hx))
    | some n => exact ⟨n, rfl⟩
  lt := fun x n q => ⟨(K.lt x n q).1, (h x).mp (K.lt x n q).2⟩
  mono := fun x y n m hx hy e => by
    obtain ⟨m', h1, h2⟩ := K.pre y x m hy e (K.lt x n hx).2
    rw [hx] at h1
    cases h1
    exact h2
  rch := K.rch

/-! ### walks with letters, within a group -/
section
variable {L : Type}
/-- a walk from x to z by the letters t, all states in G -/
inductive Lw (W : A → List (L × A)) (G : List A) : A → List L → A → Prop where
  | nil {x : A} : x ∈ G → Lw W G x [] x
  | cons {x y z : A} {c : L} {t : List L} : x ∈ G → (c, y) ∈ W x → Lw W G y t z → Lw W G x (c :: t) z
theorem Lw.trans {W : A → List (L × A)} {G : List A} {x y z : A} {t u : List L} (h : Lw W G x t y) (g : Lw W G y u z) : Lw W G x (t ++ u) z := by
  induction h with
  | nil _ => exact g
  | cons a b _ ih => exact .cons a b (ih g)
theorem Lw.last {W : A → List (L × A)} {G : List A} {x y : A} {t : List L} (h : Lw W G x t y) : y ∈ G := by
  induction h with
  | nil a => exact a
  | cons _ _ _ ih => exact ih
theorem Lw.head {W : A → List (L × A)} {G : List A} {x y : A} {t : List L} (h : Lw W G x t y) : x ∈ G := by
  cases h with
  | nil a => exact a
  | cons a _ _ => exact a
theorem Lw.snoc {W : A → List (L × A)} {G : List A} {x y z : A} {t : List L} {c : L} (h : Lw W G x t y) (e : (c, z) ∈ W y) (hz : z ∈ G) : Lw W G x (t ++ [c]) z :=
  h.trans (.cons h.last e (.nil hz))
/-- a set that is closed under the ways within G holds all that is walked to -/
theorem Lw.closed {W : A → List (L × A)} {G S : List A} {x y : A} {t : List L} (h : Lw W G x t y) (hS : ∀ a ∈ S, ∀ c b, (c, b) ∈ W a → b ∈ G → b ∈ S) (hx : x ∈ S) : y ∈ S := by
  induction h with
  | nil _ => exact hx
  | cons a e r ih => exact ih (hS _ hx _ _ e r.head)
/-- nodes of one number: a walk within them -/
theorem Comps.walk {W : A → List (L × A)} {nodes : List A} {N : A → Option Nat} {many : Nat} (C : Comps (fun x => (W x).map (·.2)) nodes N many) (hc : ∀ x ∈ nodes, ∀ y ∈ (W x).map (·.2), y ∈ nodes) {G : List A} {n : Nat} (hG : ∀ x, x ∈ G ↔ N x = some n)
    {x y : A} (hx : x ∈ G) (hy : y ∈ G) : ∃ t, Lw W G x t y := by
  have up : ∀ {a b : A}, Rch (fun x => (W x).map (·.2)) a b → ∀ i j, N a = some i → N b = some j → i ≤ j := by
    intro a b h
    induction h with
    | refl => intro i j h1 h2; rw [h1] at h2; cases h2; exact Nat.le_refl _
    | @step a b c e _ ih =>
      intro i j h1 h2
      obtain ⟨k, hk⟩ := C.all b (hc a (C.lt a i h1).2 b e)
      exact Nat.le_trans (C.mono a b i k h1 hk e) (ih k j hk h2)
  have main : ∀ {a b : A}, Rch (fun x => (W x).map (·.2)) a b → N a = some n → N b = some n → ∃ t, Lw W G a t b := by
    intro a b h
    induction h with
    | refl a => intro h1 _; exact ⟨[], .nil ((hG a).mpr h1)⟩
    | @step a b c e r ih =>
      intro h1 h2
      obtain ⟨k, hk⟩ := C.all b (hc a (C.lt a n h1).2 b e)
      have q1 := C.mono a b n k h1 hk e
      have q2 := up r k n hk h2
      have ek : k = n := by omega
      subst ek
      obtain ⟨t, ht⟩ := ih hk h2
      obtain ⟨p, hp, ep⟩ := List.mem_map.mp e
      obtain ⟨c', b'⟩ := p
      have eb : b' = b := ep
      subst eb
      exact ⟨c' :: t, .cons ((hG a).mpr h1) hp ht⟩
  exact main (C.rch x y n ((hG x).mp hx) ((hG y).mp hy)) ((hG x).mp hx) ((hG y).mp hy)
end
end
end Ts

/-! TsText -/
/-! Texts, the states of a circle, and the two laws: what a closed walk is worth, and what a level that can't be read is worth. -/
namespace Ts
abbrev Tx := List Nat
abbrev Sta := Tx × Nat

/-! ### advance -/
/-- the greatest k up to n such that the last k letters of r are the first k of w -/
def best (r w : Tx) : Nat → Nat
  | 0 => 0
  | k + 1 => if r.drop (r.length - (k + 1)) = w.take (k + 1) then k + 1 else best r w k
def adv (w : Tx) (m : Nat) (c : Nat) : Nat := best (w.take m ++ [c]) w (min (w.take m ++ [c]).length w.length)
theorem best_le (r w : Tx) : ∀ n, best r w n ≤ n
  | 0 => Nat.le_refl _
  | k + 1 => by
    unfold best
    split
    · exact Nat.le_refl _
    · exact Nat.le_succ_of_le (best_le r w k)
theorem best_ok (r w : Tx) : ∀ n, r.drop (r.length - best r w n) = w.take (best r w n)
  | 0 => by simp [best]
  | k + 1 => by
    unfold best
    split
    · assumption
    · exact best_ok r w k
theorem best_max (r w : Tx) : ∀ n k, k ≤ n → r.drop (r.length - k) = w.take k → k ≤ best r w n
  | 0, k, h, _ => h
  | n + 1, k, h, e => by
    unfold best
    split
    · exact h
    · rename_i hn
      have : k ≠ n + 1 := fun z => hn (z ▸ e)
      exact best_max r w n k (by omega) e
theorem adv_le (w : Tx) (m c : Nat) : adv w m c ≤ w.length := Nat.le_trans (best_le _ _ _) (Nat.min_le_right _ _)
theorem adv_end (w : Tx) (m c : Nat) : w.take (adv w m c) <:+ w.take m ++ [c] := by
  unfold adv
  rw [← best_ok]
  exact List.drop_suffix _ _
theorem adv_max (w : Tx) (m c j : Nat) (hj : j ≤ w.length) (h : w.take j <:+ w.take m ++ [c]) : j ≤ adv w m c := by
  unfold adv
  have hl := h.length_le
  rw [List.length_take, Nat.min_eq_left hj] at hl
  refine best_max _ _ _ j (Nat.le_min.mpr ⟨hl, hj⟩) ?_
  have e := List.suffix_iff_eq_drop.mp h
  rw [List.length_take, Nat.min_eq_left hj] at e
  exact e.symm

/-- M letters are matched behind x, with m matched ahead of it -/
structure Kmp (w : Tx) (m : Nat) (x : Tx) (M : Nat) : Prop where
  le : M ≤ w.length
  mine : w.take M <:+ w.take m ++ x
  most : ∀ j, j ≤ w.length → w.take j <:+ w.take m ++ x → j ≤ M
theorem Kmp.zero {w : Tx} {m : Nat} (h : m ≤ w.length) : Kmp w m [] m where
  le := h
  mine := by rw [List.append_nil]; exact List.suffix_refl _
  most := fun j hj hs => by
    have hl := hs.length_le
    rw [List.append_nil, List.length_take, List.length_take, Nat.min_eq_left hj, Nat.min_eq_left h] at hl
    exact hl
theorem Kmp.next {w : Tx} {m M : Nat} {x : Tx} (k : Kmp w m x M) (c : Nat) : Kmp w m (x ++ [c]) (adv w M c) where
  le := adv_le w M c
  mine := by
    refine (adv_end w M c).trans ?_
    obtain ⟨u, hu⟩ := k.mine
    exact ⟨u, by rw [← List.append_assoc, ← List.append_assoc, hu]⟩
  most := fun j hj hs => by
    refine adv_max w M c j hj ?_
    rw [← List.append_assoc] at hs
    rcases List.suffix_concat_iff.mp hs with e | ⟨t, et, ht⟩
    · rw [e]; exact List.nil_suffix
    · have hl : t.length + 1 = j := by
        have := congrArg List.length et
        rw [List.length_take, Nat.min_eq_left hj, List.length_append] at this
        simp at this
        omega
      have e2 : w.take (j - 1) = t := by
        have h1 := congrArg (List.take (j - 1)) et
        rw [List.take_take, Nat.min_eq_left (by omega), List.take_left' (by omega)] at h1
        exact h1
      have hjM : j - 1 ≤ M := k.most (j - 1) (by omega) (by rw [e2]; exact ht)
      have h3 : t <:+ w.take M := by
        refine List.suffix_of_suffix_length_le ht k.mine ?_
        rw [List.length_take, Nat.min_eq_left k.le]
        omega
      rw [et]
      obtain ⟨u, hu⟩ := h3
      exact ⟨u, by rw [← List.append_assoc, hu]⟩

/-! ### the ways of a circle -/
def foll (ws : List Tx) (g : Tx) : Tx := (ws.filter fun x => decide (x.dropLast = g)).map fun x => x.getLast?.getD 0
def way (ws : List Tx) (w : Tx) (s : Sta) (c : Nat) : Option Sta :=
  if c ∈ foll ws s.1 then (if adv w s.2 c = w.length then none else some ((s.1 ++ [c]).drop 1, adv w s.2 c)) else none
def ways (ws : List Tx) (w : Tx) (s : Sta) : List (Nat × Sta) := (foll ws s.1).filterMap fun c => (way ws w s c).map fun s' => (c, s')
theorem mem_ways {ws : List Tx} {w : Tx} {s s' : Sta} {c : Nat} : (c, s') ∈ ways ws w s ↔ way ws w s c = some s' := by
  unfold ways
  rw [List.mem_filterMap]
  constructor
  · rintro ⟨c', _, h⟩
    cases h2 : way ws w s c' with
    | none => rw [h2] at h; cases h
    | some s2 =>
      rw [h2] at h
      cases h
      exact h2
  · intro h
    refine ⟨c, ?_, by rw [h]; rfl⟩
    unfold way at h
    split at h
    · assumption
    · cases h
theorem foll_iff {ws : List Tx} (hne : ∀ x ∈ ws, x ≠ []) {g : Tx} {c : Nat} : c ∈ foll ws g ↔ g ++ [c] ∈ ws := by
  unfold foll
  rw [List.mem_map]
  constructor
  · rintro ⟨x, hx, e⟩
    obtain ⟨h1, h2⟩ := List.mem_filter.mp hx
    have h3 := of_decide_eq_true h2
    have h4 := List.dropLast_concat_getLast (hne x h1)
    rw [List.getLast?_eq_some_getLast (hne x h1)] at e
    have e' : x.getLast (hne x h1) = c := e
    rw [h3, e'] at h4
    rw [h4]
    exact h1
  · intro h
    refine ⟨g ++ [c], List.mem_filter.mpr ⟨h, decide_eq_true List.dropLast_concat⟩, ?_⟩
    rw [List.getLast?_concat]
    rfl
/-- reading letters -/
def rd (ws : List Tx) (w : Tx) : Sta → Tx → Option Sta
  | s, [] => some s
  | s, c :: t => (way ws w s c).bind fun s' => rd ws w s' t
theorem rd_append (ws : List Tx) (w : Tx) : ∀ (t u : Tx) (s : Sta), rd ws w s (t ++ u) = (rd ws w s t).bind fun s' => rd ws w s' u
  | [], u, s => rfl
  | c :: t, u, s => by
    show (way ws w s c).bind (fun s' => rd ws w s' (t ++ u)) = ((way ws w s c).bind fun s' => rd ws w s' t).bind _
    cases way ws w s c with
    | none => rfl
    | some s' => exact rd_append ws w t u s'
/-- a piece read within a group -/
def rin (ws : List Tx) (w : Tx) (G : Sta → Bool) : Option Sta → Tx → Bool
  | none, _ => false
  | some s, [] => G s
  | some s, c :: t => G s && rin ws w G (way ws w s c) t

/-- what a walk is worth: every word of grain letters of what was read is a window, and the word was never read whole -/
theorem rd_ok {ws : List Tx} {w : Tx} (hne : ∀ x ∈ ws, x ≠ []) {g : Tx} {m : Nat} (hm : m < w.length) : ∀ (n : Nat) (t : Tx) (s' : Sta), t.length = n → rd ws w (g, m) t = some s' →
    s'.1.length = g.length ∧ s'.1 <:+ g ++ t ∧ Kmp w m t s'.2 ∧ s'.2 < w.length ∧ (∀ y : Tx, y.length = g.length + 1 → y <:+: g ++ t → y ∈ ws) ∧ ∀ u v : Tx, t = u ++ v → ∃ M, Kmp w m u M ∧ M < w.length
  | 0, t, s', hl, h => by
    have e : t = [] := List.length_eq_zero_iff.mp hl
    subst e
    have e : some (g, m) = some s' := h
    cases e
    refine ⟨rfl, by rw [List.append_nil]; exact List.suffix_refl _, .zero (Nat.le_of_lt hm), hm, fun y hy hi => ?_, fun u v e => ?_⟩
    · have := hi.length_le
      rw [List.append_nil] at this
      omega
    · have e2 : u = [] := (List.append_eq_nil_iff.mp e.symm).1
      subst e2
      exact ⟨m, .zero (Nat.le_of_lt hm), hm⟩
  | n + 1, t, s', hl, h => by
    have ht : t ≠ [] := fun e => by rw [e] at hl; cases hl
    obtain ⟨t0, c, et⟩ : ∃ t0 c, t = t0 ++ [c] := ⟨t.dropLast, t.getLast ht, (List.dropLast_concat_getLast ht).symm⟩
    subst et
    have hl0 : t0.length = n := by simp at hl; exact hl
    rw [rd_append] at h
    cases h1 : rd ws w (g, m) t0 with
    | none => rw [h1] at h; cases h
    | some s1 =>
      rw [h1] at h
      have h2 : (way ws w s1 c).bind (fun s' => rd ws w s' []) = some s' := h
      obtain ⟨i1, i2, i3, i4, i5, i6⟩ := rd_ok hne hm n t0 s1 hl0 h1
      have h3 : way ws w s1 c = some s' := by
        cases q : way ws w s1 c with
        | none => rw [q] at h2; cases h2
        | some z => rw [q] at h2; exact h2
      unfold way at h3
      split at h3
      · rename_i hc
        split at h3
        · cases h3
        · rename_i hadv
          have e3 : ((s1.1 ++ [c]).drop 1, adv w s1.2 c) = s' := Option.some.inj h3
          have hw : s1.1 ++ [c] ∈ ws := (foll_iff hne).mp hc
          have k2 := i3.next c
          have hlt : adv w s1.2 c < w.length := Nat.lt_of_le_of_ne (adv_le _ _ _) hadv
          have hsuf : s1.1 ++ [c] <:+ g ++ (t0 ++ [c]) := by
            obtain ⟨u, hu⟩ := i2
            exact ⟨u, by rw [← List.append_assoc, hu, List.append_assoc]⟩
          subst e3
          refine ⟨by simp [i1], (List.drop_suffix _ _).trans hsuf, k2, hlt, fun y hy hi => ?_, fun u v e => ?_⟩
          · rw [← List.append_assoc] at hi
            rcases List.infix_concat_iff.mp hi with q | q
            · have : y = s1.1 ++ [c] := by
                rw [List.append_assoc] at q
                have q1 := List.suffix_of_suffix_length_le q hsuf (by simp [i1, hy])
                exact q1.eq_of_length (by simp [i1, hy])
              rw [this]
              exact hw
            · exact i5 y hy q
          · by_cases hv : v = []
            · subst hv
              rw [List.append_nil] at e
              subst e
              exact ⟨_, k2, hlt⟩
            · obtain ⟨v0, d, ev⟩ : ∃ v0 d, v = v0 ++ [d] := ⟨v.dropLast, v.getLast hv, (List.dropLast_concat_getLast hv).symm⟩
              subst ev
              rw [← List.append_assoc] at e
              exact i6 u v0 (List.append_inj' e rfl).1
      · cases h3

/-! ### circles -/
/-- count letters of a circle, from p on -/
def lround (C : Tx) (p n : Nat) : Tx := (List.range n).map fun k => C[(p + k) % C.length]?.getD 0
def OnC (C w : Tx) : Prop := ∃ p, p < C.length ∧ lround C p w.length = w
theorem lround_length (C : Tx) (p n : Nat) : (lround C p n).length = n := by simp [lround]
def rep (C : Tx) : Nat → Tx
  | 0 => []
  | k + 1 => C ++ rep C k
theorem rep_get (C : Tx) : ∀ (k i : Nat), i < k * C.length → (rep C k)[i]? = C[i % C.length]?
  | 0, i, h => by simp at h
  | k + 1, i, h => by
    show (C ++ rep C k)[i]? = _
    by_cases hi : i < C.length
    · rw [List.getElem?_append_left hi, Nat.mod_eq_of_lt hi]
    · rw [List.getElem?_append_right (by omega), rep_get C k (i - C.length) (by rw [Nat.succ_mul] at h; omega)]
      rw [Nat.mod_eq_sub_mod (by omega : C.length ≤ i)]
theorem rep_length (C : Tx) : ∀ k, (rep C k).length = k * C.length
  | 0 => by simp [rep]
  | k + 1 => by
    show (C ++ rep C k).length = _
    rw [List.length_append, rep_length C k, Nat.succ_mul]
    omega
theorem get_some {C : Tx} {i : Nat} (h : i < C.length) : C[i]? = some (C[i]?.getD 0) := by
  rw [List.getElem?_eq_getElem h]
  rfl
theorem lround_rep {C : Tx} (hC : C ≠ []) (p n : Nat) : ∃ k, lround C p n <:+: rep C k := by
  have hl : 0 < C.length := List.length_pos_iff.mpr hC
  refine ⟨p + n, ?_⟩
  have hle : p + n ≤ (p + n) * C.length := Nat.le_mul_of_pos_right _ hl
  have e : lround C p n = ((rep C (p + n)).drop p).take n := by
    apply List.ext_getElem?
    intro i
    by_cases hi : i < n
    · unfold lround
      rw [List.getElem?_map, List.getElem?_range hi, List.getElem?_take_of_lt hi, List.getElem?_drop, rep_get C (p + n) (p + i) (by omega)]
      exact (get_some (Nat.mod_lt _ hl)).symm
    · rw [List.getElem?_eq_none (by rw [lround_length]; omega), List.getElem?_eq_none (by rw [List.length_take]; omega)]
  rw [e]
  exact (List.take_prefix _ _).isInfix.trans (List.drop_suffix _ _).isInfix
theorem rd_rep {ws : List Tx} {w t : Tx} {s : Sta} (h : rd ws w s t = some s) : ∀ k, rd ws w s (rep t k) = some s
  | 0 => rfl
  | k + 1 => by
    show rd ws w s (t ++ rep t k) = some s
    rw [rd_append, h]
    exact rd_rep h k
/-- a piece of the text itself is on its circle -/
theorem onC_of_infix {t q : Tx} (hq : q ≠ []) (h : q <:+: t) : OnC t q := by
  obtain ⟨a, b, e⟩ := h
  have hl : 0 < q.length := List.length_pos_iff.mpr hq
  have ht : t.length = a.length + q.length + b.length := by
    rw [← e, List.length_append, List.length_append]
  refine ⟨a.length, by omega, ?_⟩
  apply List.ext_getElem?
  intro i
  by_cases hi : i < q.length
  · unfold lround
    rw [List.getElem?_map, List.getElem?_range hi]
    show some (t[(a.length + i) % t.length]?.getD 0) = q[i]?
    rw [Nat.mod_eq_of_lt (by omega), ← e, List.append_assoc, List.getElem?_append_right (by omega), List.getElem?_append_left (by omega), show a.length + i - a.length = i by omega]
    exact (get_some hi).symm
  · rw [List.getElem?_eq_none (by rw [lround_length]; omega), List.getElem?_eq_none (by omega)]

/-- the plain test -/
structure Expl (ws pieces : List Tx) (grain : Nat) (C : Tx) : Prop where
  ne : C ≠ []
  win : ∀ p, p < C.length → lround C p grain ∈ ws
  has : ∀ q ∈ pieces, OnC C q

/-- FIRST LAW: a closed walk's text explains, and lacks the word -/
theorem lack_ok {ws pieces : List Tx} {w t : Tx} {grain : Nat} {s : Sta} (hne : ∀ x ∈ ws, x ≠ []) (hg : s.1.length + 1 = grain) (hm : s.2 < w.length) (ht : t ≠ []) (hr : rd ws w s t = some s)
    (hp : ∀ q ∈ pieces, q ≠ [] ∧ q <:+: t) : Expl ws pieces grain t ∧ ¬ OnC t w := by
  have hk := rd_rep hr
  refine ⟨⟨ht, fun p _ => ?_, fun q hq => onC_of_infix (hp q hq).1 (hp q hq).2⟩, ?_⟩
  · obtain ⟨k, hi⟩ := lround_rep ht p grain
    obtain ⟨_, _, _, _, h5, _⟩ := rd_ok hne (g := s.1) hm _ _ _ rfl (hk k)
    exact h5 _ (by rw [lround_length, hg]) (hi.trans (List.suffix_append _ _).isInfix)
  · rintro ⟨p, _, e⟩
    obtain ⟨k, hi⟩ := lround_rep ht p w.length
    rw [e] at hi
    obtain ⟨a, b, eab⟩ := hi
    obtain ⟨_, _, _, _, _, h6⟩ := rd_ok hne (g := s.1) hm _ _ _ rfl (hk k)
    obtain ⟨M, k1, k2⟩ := h6 (a ++ w) b eab.symm
    have := k1.most w.length (Nat.le_refl _) (by rw [List.take_length]; exact ((List.suffix_append a w).trans (List.suffix_append _ _)))
    omega

/-! ### a circle without the word gives a level in which all pieces are read -/
section
variable (C w : Tx) (grain : Nat)
def cat (i : Nat) : Nat := C[i % C.length]?.getD 0
def gr (i : Nat) : Tx := (List.range (grain - 1)).map fun j => cat C (i + j)
def mt : Nat → Nat
  | 0 => 0
  | i + 1 => adv w (mt i) (cat C (i + (grain - 1)))
def sat (i : Nat) : Sta := (gr C grain i, mt C w grain i)
def red (i : Nat) : Tx := (List.range i).map fun j => cat C (j + (grain - 1))
end
theorem cat_add (C : Tx) (i j : Nat) : C[(i % C.length + j) % C.length]?.getD 0 = cat C (i + j) := by
  unfold cat
  rw [Nat.mod_add_mod]
theorem lround_cat (C : Tx) (i n : Nat) : lround C (i % C.length) n = (List.range n).map fun j => cat C (i + j) := by
  unfold lround
  exact List.map_congr_left fun j _ => cat_add C i j
theorem gr_snoc (C : Tx) {grain : Nat} (hg : 1 ≤ grain) (i : Nat) : gr C grain i ++ [cat C (i + (grain - 1))] = lround C (i % C.length) grain := by
  rw [lround_cat]
  unfold gr
  obtain ⟨n, e⟩ : ∃ n, grain = n + 1 := ⟨grain - 1, by omega⟩
  subst e
  rw [List.range_succ, List.map_append]
  rfl
theorem gr_next (C : Tx) {grain : Nat} (hg : 1 ≤ grain) (i : Nat) : (gr C grain i ++ [cat C (i + (grain - 1))]).drop 1 = gr C grain (i + 1) := by
  have e := gr_snoc C hg i
  rw [e, lround_cat]
  unfold gr
  rw [← List.map_drop]
  apply List.ext_getElem?
  intro j
  rw [List.getElem?_map, List.getElem?_map, List.getElem?_drop]
  by_cases hj : j < grain - 1
  · rw [List.getElem?_range (by omega : 1 + j < grain), List.getElem?_range hj]
    show some (cat C (i + (1 + j))) = some (cat C (i + 1 + j))
    rw [Nat.add_assoc]
  · rw [List.getElem?_eq_none (by simp; omega), List.getElem?_eq_none (by simp; omega)]
    rfl
theorem kmp_at (C w : Tx) (grain : Nat) : ∀ i, Kmp w 0 (red C grain i) (mt C w grain i)
  | 0 => .zero (Nat.zero_le _)
  | i + 1 => by
    have h := (kmp_at C w grain i).next (cat C (i + (grain - 1)))
    have e : red C grain (i + 1) = red C grain i ++ [cat C (i + (grain - 1))] := by
      unfold red
      rw [List.range_succ, List.map_append]
      rfl
    rw [e]
    exact h
theorem mt_lt {C w : Tx} {grain : Nat} (hC : C ≠ []) (hw : ¬ OnC C w) (i : Nat) : mt C w grain i < w.length := by
  have k := kmp_at C w grain i
  have hl : 0 < C.length := List.length_pos_iff.mpr hC
  refine Nat.lt_of_le_of_ne k.le fun e => hw ?_
  have h := k.mine
  rw [e, List.take_length, List.take_zero, List.nil_append] at h
  have hle := h.length_le
  have hri : (red C grain i).length = i := by simp [red]
  rw [hri] at hle
  refine ⟨(i - w.length + (grain - 1)) % C.length, Nat.mod_lt _ hl, ?_⟩
  rw [lround_cat]
  have e2 := List.suffix_iff_eq_drop.mp h
  rw [hri] at e2
  have e3 : ((List.range w.length).map fun j => cat C (i - w.length + (grain - 1) + j)) = (red C grain i).drop (i - w.length) := by
    apply List.ext_getElem?
    intro j
    rw [List.getElem?_map, List.getElem?_drop]
    unfold red
    rw [List.getElem?_map]
    by_cases hj : j < w.length
    · rw [List.getElem?_range hj, List.getElem?_range (by omega : i - w.length + j < i)]
      show some (cat C (i - w.length + (grain - 1) + j)) = some (cat C (i - w.length + j + (grain - 1)))
      congr 2
      omega
    · rw [List.getElem?_eq_none (by simp; omega), List.getElem?_eq_none (by simp; omega)]
      rfl
  rw [e3, ← e2]
theorem way_sat {ws : List Tx} {C w : Tx} {grain : Nat} (hne : ∀ x ∈ ws, x ≠ []) (hg : 1 ≤ grain) (hC : C ≠ []) (hwin : ∀ p, p < C.length → lround C p grain ∈ ws) (hw : ¬ OnC C w) (i : Nat) :
    way ws w (sat C w grain i) (cat C (i + (grain - 1))) = some (sat C w grain (i + 1)) := by
  have hl : 0 < C.length := List.length_pos_iff.mpr hC
  unfold way sat
  have h1 : cat C (i + (grain - 1)) ∈ foll ws (gr C grain i) := (foll_iff hne).mpr (by rw [gr_snoc C hg]; exact hwin _ (Nat.mod_lt _ hl))
  have h2 : ¬ adv w (mt C w grain i) (cat C (i + (grain - 1))) = w.length := Nat.ne_of_lt (mt_lt hC hw (i + 1))
  rw [if_pos h1, if_neg h2, gr_next C hg]
  rfl
/-- numbers that do not fall and stay below a bound come to rest -/
theorem rests (f : Nat → Nat) (many : Nat) (hlt : ∀ i, f i < many) (hup : ∀ i, f i ≤ f (i + 1)) : ∃ i0, ∀ i, i0 ≤ i → f i = f i0 := by
  have up : ∀ i d, f i ≤ f (i + d) := by
    intro i d
    induction d with
    | zero => exact Nat.le_refl _
    | succ d ih => exact Nat.le_trans ih (hup (i + d))
  have main : ∀ n i, many - f i ≤ n → ∃ i0, ∀ i, i0 ≤ i → f i = f i0 := by
    intro n
    induction n with
    | zero => intro i h; have := hlt i; omega
    | succ n ih =>
      intro i h
      by_cases hs : ∃ j, i ≤ j ∧ f j ≠ f i
      · obtain ⟨j, hj, ne⟩ := hs
        have := up i (j - i)
        rw [show i + (j - i) = j by omega] at this
        have := hlt j
        exact ih j (by omega)
      · exact ⟨i, fun j hj => Classical.byContradiction fun ne => hs ⟨j, hj, ne⟩⟩
  exact main _ 0 (Nat.le_refl _)
theorem rin_sat {ws : List Tx} {C w : Tx} {grain : Nat} {G : Sta → Bool} (hne : ∀ x ∈ ws, x ≠ []) (hg : 1 ≤ grain) (hC : C ≠ []) (hwin : ∀ p, p < C.length → lround C p grain ∈ ws) (hw : ¬ OnC C w) {i0 : Nat}
    (hG : ∀ i, i0 ≤ i → G (sat C w grain i) = true) : ∀ (q : Tx) (i : Nat), i0 ≤ i → (∀ k, k < q.length → q[k]? = some (cat C (i + (grain - 1) + k))) → rin ws w G (some (sat C w grain i)) q = true
  | [], i, hi, _ => hG i hi
  | c :: q, i, hi, h => by
    show (G (sat C w grain i) && rin ws w G (way ws w (sat C w grain i) c) q) = true
    have e : c = cat C (i + (grain - 1)) := by
      have := h 0 (by simp)
      exact Option.some.inj this
    subst e
    rw [way_sat hne hg hC hwin hw, hG i hi, Bool.true_and]
    refine rin_sat hne hg hC hwin hw hG q (i + 1) (by omega) fun k hk => ?_
    have := h (k + 1) (by simp; omega)
    rw [List.getElem?_cons_succ] at this
    rw [this]
    congr 2
    omega
/-- SECOND LAW: where the numbers never fall along the ways, and each level has a piece that can't be read in it, the word is on each circle that passes the test -/
theorem always_ok {ws pieces : List Tx} {w C : Tx} {grain many : Nat} {N : Sta → Option Nat} (hne : ∀ x ∈ ws, x ≠ []) (hg : 1 ≤ grain) 
    (hall : ∀ g m, (∃ x ∈ ws, x.dropLast = g) → m < w.length → ∃ n, N (g, m) = some n) (hlt : ∀ s n, N s = some n → n < many)
    (hmono : ∀ s c s' n n', N s = some n → N s' = some n' → way ws w s c = some s' → n ≤ n')
    (hgap : ∀ n, n < many → ∃ q ∈ pieces, ∀ s, N s = some n → rin ws w (fun z => decide (N z = some n)) (some s) q = false)
    (E : Expl ws pieces grain C) : OnC C w := by
  refine Classical.byContradiction fun hw => ?_
  have hC := E.ne
  have hl : 0 < C.length := List.length_pos_iff.mpr hC
  have hN : ∀ i, ∃ n, N (sat C w grain i) = some n := fun i => by
    refine hall _ _ ⟨_, E.win _ (Nat.mod_lt i hl), ?_⟩ (mt_lt hC hw i)
    rw [← gr_snoc C hg, List.dropLast_concat]
  let f : Nat → Nat := fun i => (N (sat C w grain i)).getD 0
  have hf : ∀ i, N (sat C w grain i) = some (f i) := fun i => by
    obtain ⟨n, h⟩ := hN i
    show N (sat C w grain i) = some ((N (sat C w grain i)).getD 0)
    rw [h]
    rfl
  obtain ⟨i0, hi0⟩ := rests f many (fun i => hlt _ _ (hf i)) (fun i => hmono _ _ _ _ _ (hf i) (hf (i + 1)) (way_sat hne hg hC E.win hw i))
  obtain ⟨q, hq, hno⟩ := hgap (f i0) (hlt _ _ (hf i0))
  obtain ⟨p, hp, ep⟩ := E.has q hq
  have hi : i0 ≤ p + C.length * (i0 + grain) - (grain - 1) := by
    have : i0 + grain ≤ C.length * (i0 + grain) := Nat.le_mul_of_pos_left _ hl
    omega
  have hsum : p + C.length * (i0 + grain) - (grain - 1) + (grain - 1) = p + C.length * (i0 + grain) := by
    have : i0 + grain ≤ C.length * (i0 + grain) := Nat.le_mul_of_pos_left _ hl
    omega
  have yes := rin_sat (G := fun z => decide (N z = some (f i0))) hne hg hC E.win hw (i0 := i0) (fun i h => by
    show decide (N (sat C w grain i) = some (f i0)) = true
    rw [hf i, hi0 i h]
    exact decide_eq_true rfl) q (p + C.length * (i0 + grain) - (grain - 1)) hi fun k hk => by
      rw [hsum]
      have e : (lround C p q.length)[k]? = some (cat C (p + k)) := by
        unfold lround
        rw [List.getElem?_map, List.getElem?_range hk]
        rfl
      rw [ep] at e
      rw [e]
      unfold cat
      congr 2
      rw [show p + C.length * (i0 + grain) + k = p + k + C.length * (i0 + grain) by omega, Nat.add_mul_mod_self_left]
  rw [hno _ (by rw [hf, hi0 _ hi])] at yes
  cases yes
end Ts

/-! TkBase -/
set_option maxRecDepth 100000
set_option maxHeartbeats 2000000
namespace Tk
open PySem PySem.Spec PyProof.Rows L2 Ts TL

/-! ### texts as lists -/
def tS (l : Tx) : Str := ⟨l.toArray⟩
abbrev vT (l : Tx) : V := .str (tS l)
theorem tS_len (l : Tx) : (tS l).length = l.length := by show l.toArray.size = l.length; simp
theorem tS_inj {a b : Tx} (h : tS a = tS b) : a = b := by
  have := congrArg (fun z : Str => z.cps.toList) h
  simpa [tS] using this
theorem tS_app (a b : Tx) : tS a ++ tS b = tS (a ++ b) := by
  apply ext_tl
  rw [tl_append]
  simp [tl, tS]
theorem vT_eq (a b : Tx) : decide (vT a = vT b) = decide (a = b) := by
  by_cases h : a = b
  · subst h; simp
  · rw [decide_eq_false h, decide_eq_false]
    intro e
    injection e with e
    exact h (tS_inj e)
theorem tS_of (x : Str) : ∃ l, x = tS l := ⟨x.cps.toList, by cases x; simp [tS]⟩
theorem mapT_inj : ∀ {a b : List Tx}, a.map vT = b.map vT → a = b
  | [], [], _ => rfl
  | x :: a, y :: b, h => by
    rw [List.map_cons, List.map_cons] at h
    injection h with h1 h2
    injection h1 with h1
    rw [tS_inj h1, mapT_inj h2]
  | [], _ :: _, h => by simp at h
  | _ :: _, [], h => by simp at h
theorem sz_of {n : Nat} (h : n ≤ 1000000) : n ≤ sizeLine := Nat.le_trans h (by rw [sizeLine_eq]; decide)
theorem sz_lt {n : Nat} (h : n ≤ 1000000) : n < sizeLine := Nat.lt_of_le_of_lt h (by rw [sizeLine_eq]; decide)

/-! ### rules on lists of signs -/
section
variable {X : Cx}
theorem OpR.imp {f : Value → Value → Sem Value} {r r' : R2} (h : OpR X f r) (i : ∀ x y H Q, r' x y H Q → r x y H Q) : OpR X f r' := fun pins s σ H x y v u Q I rx ry q => h pins s σ H x y v u Q I rx ry (i x y H Q q)
abbrev rAddI : R2 := rI0 fun i j => .int (i + j)
abbrev rSubI : R2 := rI0 fun i j => .int (i - j)
abbrev rMulI : R2 := rI CMul fun i j => .int (i * j)
abbrev rModI : R2 := rI (fun _ j => 0 < j) fun i j => .int (i % j)
abbrev rDivI : R2 := rI CDiv fun i j => .int (i / j)
abbrev rPowI : R2 := rI CPow fun i j => .int (i ^ j.toNat)
abbrev rLtI : R2 := rI0 fun i j => .bl (decide (i < j))
abbrev rLeI : R2 := rI0 fun i j => .bl (decide (i ≤ j))
abbrev rGtI : R2 := rI0 fun i j => .bl (decide (j < i))
abbrev rGeI : R2 := rI0 fun i j => .bl (decide (j ≤ i))
abbrev uNegI : V → Hp → VK → Prop := rU fun i => .int (-i)
/-- a + b, texts -/
def rAddX : R2 := fun x y H Q => ∃ a b : Tx, x = vT a ∧ y = vT b ∧ a.length + b.length ≤ sizeLine ∧ Q (vT (a ++ b)) H
theorem op_addX : OpR X (binaryOp .Add) rAddX := OpR.imp op_add_str fun x y H Q ⟨a, b, h1, h2, h3, q⟩ => ⟨tS a, tS b, h1, h2, by rw [tS_len, tS_len]; exact h3, by rw [tS_app]; exact q⟩
/-- t[i], a sign -/
def rIxX : R2 := fun x y H Q => ∃ (z : Tx) (i : Int) (c : Nat), x = vT z ∧ y = .int i ∧ z.length ≤ sizeLine ∧ atI z i = some c ∧ Q (vT [c]) H
theorem ix_strX : IxR X rIxX := by
  intro value slice pins s σ H x y v u Q I rx ry h hs
  obtain ⟨z, i, c, h1, h2, h3, h4, q⟩ := h
  refine ix_str value slice pins s σ H x y v u Q I rx ry ?_ hs
  exact ⟨tS z, i, c, h1, h2, by rw [tS_len]; exact h3, by show atI (z.toArray).toList i = some c; simpa using h4, q⟩
/-- t[lo:hi] -/
def cutL (z : Tx) (lo hi : Option Int) : Tx := (z.drop (HT.sIx z.length 0 lo)).take (HT.sIx z.length z.length hi - HT.sIx z.length 0 lo)
theorem cutS_cutL (z : Tx) (lo hi : Option Int) : cutS (tS z) lo hi = tS (cutL z lo hi) := by
  unfold cutS cutL
  rw [tS_len]
  simp [tS]
theorem cutL_length (z : Tx) (lo hi : Option Int) : (cutL z lo hi).length ≤ z.length := by
  unfold cutL
  rw [List.length_take, List.length_drop]
  omega
def rSlX : V → Option Int → Option Int → Hp → VK → Prop := fun x lo hi H Q => ∃ z : Tx, x = vT z ∧ z.length ≤ sizeLine ∧ Q (vT (cutL z lo hi)) H
theorem sl_strX : SlR X rSlX := by
  intro pins s σ H x v vl vu lo hi sl Q I rx hs pl pu h
  obtain ⟨z, h1, h2, q⟩ := h
  exact sl_str pins s σ H x v vl vu lo hi sl Q I rx hs pl pu ⟨tS z, h1, by rw [tS_len]; exact h2, by rw [cutS_cutL]; exact q⟩
/-- a sign not in a text -/
def rNiX : R2 := fun x y H Q => ∃ (c : Nat) (z : Tx), x = vT [c] ∧ y = vT z ∧ Q (.bl (!decide (c ∈ z))) H
theorem op_niX : OpR X (compareOp .NotIn) rNiX := OpR.imp op_notIn_sign fun x y H Q ⟨c, z, h1, h2, q⟩ => ⟨c, tS z, h1, h2, by
  show Q (.bl (!decide (c ∈ (z.toArray).toList))) H
  simpa using q⟩
/-- len of a text -/
def rLenX : List V → Hp → VK → Prop := fun xs H Q => ∃ z : Tx, xs = [vT z] ∧ z.length ≤ sizeLine ∧ Q (.int z.length) H
theorem call_lenX : CallR X (.builtin "len") rLenX := by
  intro pins s σ H xs us Q I r h
  obtain ⟨z, h1, h2, q⟩ := h
  exact call_len_str pins s σ H xs us Q I r ⟨tS z, h1, by rw [tS_len]; exact h2, by rw [tS_len]; exact q⟩
def rLenQ (K : PySem.W.Frag) : List V → Hp → VK → Prop := fun xs H Q => ∃ p ys, xs = [.ref p] ∧ (SqL K H p ys ∨ SqT K H p ys) ∧ Q (.int ys.length) H
theorem call_lenQ : CallR X (.builtin "len") (rLenQ X.K) := call_len_seq
def rMinI : List V → Hp → VK → Prop := fun xs H Q => ∃ i j, xs = [.int i, .int j] ∧ Q (.int (if j < i then j else i)) H
def rMaxI : List V → Hp → VK → Prop := fun xs H Q => ∃ i j, xs = [.int i, .int j] ∧ Q (.int (if j > i then j else i)) H
def rAbsI : List V → Hp → VK → Prop := fun xs H Q => ∃ i, xs = [.int i] ∧ Q (.int (if i < 0 then -i else i)) H
def rIntI : List V → Hp → VK → Prop := fun xs H Q => ∃ i, xs = [.int i] ∧ Q (.int i) H
theorem call_minI (hc : X.calm = true) : CallR X (.builtin "min") rMinI := call_min2 hc
theorem call_maxI (hc : X.calm = true) : CallR X (.builtin "max") rMaxI := call_max2 hc
theorem call_absI : CallR X (.builtin "abs") rAbsI := call_abs
theorem call_intI : CallR X (.type "int") rIntI := fun pins s σ H xs us Q I r h => call_int1 pins s σ H xs us Q I r (.inl h)
def rListQ (K : PySem.W.Frag) : List V → Hp → VK → Prop := fun xs H Q => ∃ p ys, xs = [.ref p] ∧ (SqL K H p ys ∨ SqT K H p ys) ∧ ∀ l, H l = none → Q (.ref l) (upd H l (.lst ys))
theorem call_listQ : CallR X (.type "list") (rListQ X.K) := call_list_of
/-- tuple(a list) -/
def rTupQ (K : PySem.W.Frag) : List V → Hp → VK → Prop := fun xs H Q => ∃ p ys, xs = [.ref p] ∧ SqL K H p ys ∧ ∀ l, H l = none → Q (.ref l) (upd H l (.tup ys))
theorem call_tupQ : CallR X (.type "tuple") (rTupQ X.K) := fun pins s σ H xs us Q I r ⟨p, ys, h1, h2, q⟩ => call_tuple_of pins s σ H xs us Q I r ⟨p, ys, h1, .inl ⟨h2, q⟩⟩
/-- ''.join(a list) -/
theorem joinL_nil : ∀ ps : List (List Nat), joinL [] ps = ps.flatten
  | [] => rfl
  | [p] => by simp [joinL]
  | p :: q :: r => by
    show p ++ ([] ++ joinL [] (q :: r)) = _
    rw [List.nil_append, joinL_nil (q :: r)]
    rfl
theorem join_flat (ys : List Tx) : Txt.join (tS []) (ys.map tS) = tS ys.flatten := by
  apply ext_tl
  rw [join_eq, tl_join]
  have e : (ys.map tS).map tl = ys := by
    rw [List.map_map]
    conv => rhs; rw [← List.map_id ys]
    exact List.map_congr_left fun l _ => by simp [tl, tS]
  rw [e]
  show joinL [] ys = tl (tS ys.flatten)
  rw [joinL_nil]
  simp [tl, tS]
def rJoinX (K : PySem.W.Frag) : V → List V → Hp → VK → Prop := fun x xs H Q => ∃ p, ∃ ys : List Tx, x = .str (Str.ofString "") ∧ xs = [.ref p] ∧ SqL K H p (ys.map vT) ∧ ys.flatten.length ≤ 1000000 ∧ Q (vT ys.flatten) H
theorem mt_joinX : MtR X "str.join" (rJoinX X.K) := by
  intro pins s σ H x xs v us Q I rx rs h
  obtain ⟨p, ys, h1, h2, h3, h4, q⟩ := h
  refine mt_join pins s σ H x xs v us Q I rx rs ⟨tS [], p, ys.map tS, h1, h2, .inl ?_, ?_, ?_⟩
  · rw [List.map_map]; exact h3
  · have e : ((ys.map tS).map (·.length)).sum = ys.flatten.length := by
      rw [List.map_map, List.length_flatten]
      congr 1
    rw [e, tS_len]
    show ys.flatten.length + (ys.map tS).length * 0 ≤ 16777216
    rw [Nat.mul_zero]
    exact Nat.le_trans h4 (by decide)
  · rw [join_flat]; exact q
/-- sorted(a list of texts), any length -/
def rSortX (K : PySem.W.Frag) : List V → Hp → VK → Prop := fun vs H Q => ∃ (a : Addr) (xs : List Tx), vs = [V.ref a] ∧ SqL K H a (xs.map vT) ∧ xs.length ≤ 1000000 ∧
  ∀ (ys : List Tx) (p : Addr), ys.Perm xs → H p = none → Q (.ref p) (upd H p (.lst (ys.map vT)))
theorem cr_sortX : CallR X (.builtin "sorted") (rSortX X.K) := by
  intro pins s σ H vs us Q I r h
  obtain ⟨a, xs, rfl, hs, h64, q⟩ := h
  obtain ⟨its, rv, hl, _⟩ := I.list hs
  rw [Vals.ref1 r]
  have hlen0 := rv.length
  rw [List.length_map] at hlen0
  have rv2 : Vals ((xs.map tS).map V.str) its := by rw [List.map_map]; exact rv
  refine PyProof.Rows.sorted_strsAny hl.isList rv2.strs (by rw [← hlen0]; exact sz_of h64) fun out ys h1 h2 h3 => ?_
  obtain ⟨ep, he'⟩ := PyProof.Rows.sortedAll_at s.heap its out
  obtain ⟨zs, ez, hz⟩ : ∃ zs : List Tx, ys = zs.map tS ∧ zs.Perm xs := by
    have e : ys = (ys.map fun y => y.cps.toList).map tS := by
      rw [List.map_map]
      conv => lhs; rw [← List.map_id ys]
      exact List.map_congr_left fun y _ => by cases y; simp [tS]
    refine ⟨ys.map fun y => y.cps.toList, e, ?_⟩
    have p2 := h2.map (fun y : Str => y.cps.toList)
    rw [List.map_map] at p2
    have e2 : xs.map ((fun y : Str => y.cps.toList) ∘ tS) = xs := by
      conv => rhs; rw [← List.map_id xs]
      exact List.map_congr_left fun l _ => by simp [tS]
    rw [e2] at p2
    exact p2
  subst ez
  have h1' : Vals (zs.map vT) out.toList := by
    have := vals_of_strs h1
    rw [List.map_map] at this
    exact this
  have hlen : (zs.map vT).length ≤ sizeLine := by rw [List.length_map, hz.length_eq]; exact sz_of h64
  exact ⟨.ref _, upd H (s.heap.objs.size + 1) (.lst (zs.map vT)), I.laid (t' := s.toks) (fun _ _ => PyProof.Rows.sortedAll_old) (Nat.le_succ _) ⟨hlen, out.toList, ep, h1', he'⟩, rfl, q zs _ hz (I.hok.fresh (Nat.le_succ _))⟩
def rAnyB (K : PySem.W.Frag) : List V → Hp → VK → Prop := fun vs H Q => ∃ (a : Addr) (bs : List Bool), vs = [V.ref a] ∧ SqL K H a (bs.map V.bl) ∧ Q (.bl (bs.any id)) H
def rAllB (K : PySem.W.Frag) : List V → Hp → VK → Prop := fun vs H Q => ∃ (a : Addr) (bs : List Bool), vs = [V.ref a] ∧ SqL K H a (bs.map V.bl) ∧ Q (.bl (bs.all id)) H
theorem cr_anyB (hc : X.calm = true) : CallR X (.builtin "any") (rAnyB X.K) := cr_any hc
theorem cr_allB (hc : X.calm = true) : CallR X (.builtin "all") (rAllB X.K) := cr_all hc
abbrev rApp : V → List V → Hp → VK → Prop := fun x vs H Q => ∃ l xs y, x = .ref l ∧ vs = [y] ∧ H l = some (.lst xs) ∧ xs.length < sizeLine ∧ Q .non (upd H l (.lst (xs ++ [y])))
end

/-! ### a def, as its callers know it -/
structure Cal (P : Program) (w : World) (K : PySem.W.Frag) (mg : Str → Option Value) (base : Heap) (x : Str) (k : Nat) (ps : List Str) (sp : Sp) : Prop where
  ex : ∃ (f : Addr) (fd : FuncData), FnOk P w K mg base CX0 k f fd ps sp ∧ mg x = some (.ref f) ∧ PySem.W.keepIn K (.ref f) = true ∧ Binds K fd ps []
section
variable {X : Cx} {x : Str} {k : Nat} {ps : List Str} {sp : Sp} {p pos : Pos} {e : Expr} {es : List Expr} {t : TA}
theorem pe_cal (C : Cal X.prog X.w X.K X.mg X.base x k ps sp) (hr : Room k X.A) (hg : Gl X x) (ha : PA X (e :: es) t) (hdb : (x == ("__debug__" : Str)) = false := by decide)
    (he : starEach (e :: es) X.env = (false, eval e X.env) :: starEach es X.env := by rfl) (hpl : (backTo pos (starEach es X.env)).any (·.1) = false := by rfl) :
    PE X (.Call (.Name x p) (e :: es) [] pos) (tCall sp [] E0 t) := by
  obtain ⟨f, fd, F, hm, hk, hb⟩ := C.ex
  exact pe_call F hr hg hm hk hb .nil pass0 ha hdb he hpl
theorem pe_cal0 (C : Cal X.prog X.w X.K X.mg X.base x k ps sp) (hr : Room k X.A) (hg : Gl X x) (hdb : (x == ("__debug__" : Str)) = false := by decide) :
    PE X (.Call (.Name x p) [] [] pos) (tCall sp [] E0 tNil) := by
  obtain ⟨f, fd, F, hm, hk, hb⟩ := C.ex
  exact pe_call0 F hr hg hm hk hb .nil pass0 hdb
end

/-! ### heaps -/
theorem same_new {H : Hp} {p : Addr} {o : HO} (h : H p = none) : Same H (upd H p o) := fun b x e => by
  rw [upd_ne (ne_of_none e h)]
  exact e
theorem same_mut {H H' : Hp} {p : Addr} {o : HO} (s : Same H H') (h : H p = none) : Same H (upd H' p o) := fun b x e => by
  rw [upd_ne (ne_of_none e h)]
  exact s b x e
theorem same_rd {H H' : Hp} {a : Addr} {u : HO} (s : Same H H') (h : Rd H a u) : Rd H' a u := by
  rcases h with h | ⟨o, h⟩
  · exact .inl (s _ _ h)
  · exact .inr ⟨o, s _ _ h⟩
theorem same_tup {K : PySem.W.Frag} {H H' : Hp} {a : Addr} {xs : List V} (s : Same H H') (h : SqT K H a xs) : SqT K H' a xs := by
  rcases h with h | h
  · exact .inl (same_rd s h)
  · exact .inr h
/-- lists of one length, each pair related -/
def All2 {α β : Type} (R : α → β → Prop) (xs : List α) (ys : List β) : Prop := xs.length = ys.length ∧ ∀ (i : Nat) (x : α) (y : β), xs[i]? = some x → ys[i]? = some y → R x y
theorem All2.nil {α β : Type} {R : α → β → Prop} : All2 R [] [] := ⟨rfl, fun i x y h => by simp at h⟩
theorem All2.mono {α β : Type} {R S : α → β → Prop} {xs : List α} {ys : List β} (h : All2 R xs ys) (f : ∀ x y, R x y → S x y) : All2 S xs ys := ⟨h.1, fun i x y hx hy => f x y (h.2 i x y hx hy)⟩
theorem All2.snoc {α β : Type} {R : α → β → Prop} {xs : List α} {ys : List β} {x : α} {y : β} (h : All2 R xs ys) (r : R x y) : All2 R (xs ++ [x]) (ys ++ [y]) := by
  refine ⟨by simp [h.1], fun i u v hu hv => ?_⟩
  by_cases hi : i < xs.length
  · rw [List.getElem?_append_left hi] at hu
    rw [List.getElem?_append_left (by rw [← h.1]; exact hi)] at hv
    exact h.2 i u v hu hv
  · rw [List.getElem?_append_right (by omega)] at hu
    rw [List.getElem?_append_right (by rw [← h.1]; omega), ← h.1] at hv
    have e : i - xs.length = 0 := by
      have := (List.getElem?_eq_some_iff.mp hu).1
      simp at this
      omega
    rw [e] at hu hv
    cases hu
    cases hv
    exact r
theorem All2.init {α β : Type} {R : α → β → Prop} {xs : List α} {ys : List β} {x : α} {y : β} (h : All2 R (xs ++ [x]) (ys ++ [y])) : All2 R xs ys ∧ R x y := by
  have hl : xs.length = ys.length := by have := h.1; simp at this; exact this
  refine ⟨⟨hl, fun i u v hu hv => ?_⟩, h.2 xs.length x y (by simp) (by rw [hl]; simp)⟩
  have h1 := (List.getElem?_eq_some_iff.mp hu).1
  have h2 := (List.getElem?_eq_some_iff.mp hv).1
  exact h.2 i u v (by rw [List.getElem?_append_left h1]; exact hu) (by rw [List.getElem?_append_left h2]; exact hv)
theorem All2.get {α β : Type} {R : α → β → Prop} {xs : List α} {ys : List β} (h : All2 R xs ys) {i : Nat} {y : β} (hy : ys[i]? = some y) : ∃ x, xs[i]? = some x ∧ R x y := by
  have hi : i < xs.length := by rw [h.1]; exact (List.getElem?_eq_some_iff.mp hy).1
  exact ⟨xs[i], List.getElem?_eq_getElem hi, h.2 i _ _ (List.getElem?_eq_getElem hi) hy⟩
theorem All2.get' {α β : Type} {R : α → β → Prop} {xs : List α} {ys : List β} (h : All2 R xs ys) {i : Nat} {x : α} (hx : xs[i]? = some x) : ∃ y, ys[i]? = some y ∧ R x y := by
  have hi : i < ys.length := by rw [← h.1]; exact (List.getElem?_eq_some_iff.mp hx).1
  exact ⟨ys[i], List.getElem?_eq_getElem hi, h.2 i _ _ hx (List.getElem?_eq_getElem hi)⟩

/-! ### states, and dicts by states -/
def kS (s : Sta) : List Key := [.inr (tS s.1), .inl (s.2 : Int)]
theorem kS_map (s : Sta) : (kS s).map kV = [vT s.1, .int (s.2 : Int)] := rfl
theorem kS_inj {s t : Sta} (h : kS s = kS t) : s = t := by
  unfold kS at h
  injection h with h1 h2
  injection h2 with h2 _
  injection h1 with h1
  injection h2 with h2
  exact Prod.ext (tS_inj h1) (by omega)
def IsSt (H : Hp) (v : V) (s : Sta) : Prop := ∃ a, v = .ref a ∧ H a = some (.tup [vT s.1, .int (s.2 : Int)])
theorem IsSt.same {H H' : Hp} {v : V} {s : Sta} (h : IsSt H v s) (e : Same H H') : IsSt H' v s := let ⟨a, h1, h2⟩ := h; ⟨a, h1, e _ _ h2⟩
theorem IsSt.inj {H : Hp} {v : V} {s t : Sta} (h : IsSt H v s) (g : IsSt H v t) : s = t := by
  obtain ⟨a, h1, h2⟩ := h
  obtain ⟨b, g1, g2⟩ := g
  rw [h1] at g1
  cases g1
  rw [h2] at g2
  have e := HO.tup.inj (Option.some.inj g2)
  injection e with e1 e2
  injection e2 with e2 _
  injection e1 with e1
  injection e2 with e2
  exact Prod.ext (tS_inj e1) (by omega)
def OptSt (H : Hp) (v : V) : Option Sta → Prop
  | none => v = .non
  | some s => IsSt H v s
theorem OptSt.same {H H' : Hp} {v : V} {o : Option Sta} (h : OptSt H v o) (e : Same H H') : OptSt H' v o := by
  cases o with
  | none => exact h
  | some s => exact IsSt.same h e
/-- a dict by states, in the order of D -/
def dOf (D : List Sta) (f : Sta → V) : List (List Key × V) := D.map fun s => (kS s, f s)
theorem dOf_len (D : List Sta) (f : Sta → V) : (dOf D f).length = D.length := by simp [dOf]
theorem valV_dOf (f : Sta → V) (s : Sta) : ∀ D : List Sta, valV (dOf D f) (kS s) = if s ∈ D then some (f s) else none
  | [] => rfl
  | a :: D => by
    show valV ((kS a, f a) :: dOf D f) (kS s) = _
    by_cases e : a = s
    · subst e
      rw [valV_pos rfl, if_pos (by simp)]
    · rw [valV_neg (fun h => e (kS_inj h)), valV_dOf f s D]
      by_cases m : s ∈ D
      · rw [if_pos m, if_pos (by simp [m])]
      · rw [if_neg m, if_neg (by simp [m]; exact fun h => e h.symm)]
theorem dOf_congr {D : List Sta} {f g : Sta → V} (h : ∀ s ∈ D, f s = g s) : dOf D f = dOf D g := List.map_congr_left fun s hs => by rw [h s hs]
theorem dOf_put {D : List Sta} {f : Sta → V} {s : Sta} (v : V) (h : s ∉ D) : putK (dOf D f) (kS s) v = dOf (D ++ [s]) (fun x => if x = s then v else f x) := by
  rw [putK_new v (by rw [valV_dOf, if_neg h])]
  unfold dOf
  rw [List.map_append]
  congr 1
  · refine List.map_congr_left fun x hx => ?_
    show (kS x, f x) = (kS x, if x = s then v else f x)
    rw [if_neg (fun e : x = s => h (e ▸ hx))]
  · simp
theorem dOf_putc {D : List Sta} {v : V} {s : Sta} (h : s ∉ D) : putK (dOf D fun _ => v) (kS s) v = dOf (D ++ [s]) fun _ => v := by
  rw [dOf_put v h]
  exact dOf_congr fun x _ => by split <;> rfl
theorem dOf_get {D : List Sta} {f : Sta → V} {i : Nat} {k : List Key} {v : V} (h : (dOf D f)[i]? = some (k, v)) : ∃ s, D[i]? = some s ∧ k = kS s ∧ v = f s := by
  unfold dOf at h
  rw [List.getElem?_map] at h
  cases e : D[i]? with
  | none => rw [e] at h; cases h
  | some s =>
    rw [e] at h
    have := Option.some.inj h
    injection this with h1 h2
    exact ⟨s, rfl, h1.symm, h2.symm⟩
/-- a look-up by a state, a store -/
theorem dget {H : Hp} {a : Addr} {D : List Sta} {f : Sta → V} {v : V} {s : Sta} (h : Rd H a (.dT (dOf D f))) (hv : IsSt H v s) : DGet H a v (if s ∈ D then some (f s) else none) := by
  obtain ⟨b, rfl, hb⟩ := hv
  refine .inr ⟨dOf D f, kS s, b, h, rfl, hb, ?_⟩
  rw [valV_dOf]
theorem dget_in {H : Hp} {a : Addr} {D : List Sta} {f : Sta → V} {v : V} {s : Sta} (h : Rd H a (.dT (dOf D f))) (hv : IsSt H v s) (m : s ∈ D) : DGet H a v (some (f s)) := by
  have := dget h hv
  rw [if_pos m] at this
  exact this
theorem dput {H : Hp} {a : Addr} {D : List Sta} {f : Sta → V} {v : V} {s : Sta} (u : V) (h : H a = some (.dT (dOf D f))) (hv : IsSt H v s) (m : s ∉ D) (hz : D.length ≤ 1000000) :
    DPut H a v u (upd H a (.dT (dOf (D ++ [s]) (fun x => if x = s then u else f x)))) := by
  obtain ⟨b, rfl, hb⟩ := hv
  rw [← dOf_put u m]
  exact DPut.t h hb (by rw [dOf_len]; exact sz_lt hz)
theorem dputc {H : Hp} {a : Addr} {D : List Sta} {v : V} {s : Sta} {u : V} (h : H a = some (.dT (dOf D fun _ => u))) (hv : IsSt H v s) (m : s ∉ D) (hz : D.length ≤ 1000000) :
    DPut H a v u (upd H a (.dT (dOf (D ++ [s]) fun _ => u))) := by
  obtain ⟨b, rfl, hb⟩ := hv
  rw [← dOf_putc m]
  exact DPut.t h hb (by rw [dOf_len]; exact sz_lt hz)
end Tk

/-! TkRules -/
set_option maxRecDepth 100000
set_option maxHeartbeats 2000000
namespace Tk
open PySem PySem.Spec PyProof.Rows L2 Ts TL

/-! ### {e: v}, the key a tuple of ints and texts -/
def tDisp1 (tk tv : TE) : TE := fun σ H Q => ∀ p, H p = none → tk σ (upd H p (.dT [])) fun x H1 => tv σ H1 fun y H2 => H2 p = some (.dT []) ∧ ∃ (b : Addr) (ks : List Key), x = .ref b ∧ H2 b = some (.tup (ks.map kV)) ∧ Q (.ref p) (upd H2 p (.dT [(ks, y)]))
theorem pe_disp1 {X : Cx} {pos : Pos} {k v : Expr} {tk tv : TE} (hu : X.A.units < cLine) (hk : PE X k tk) (hv : PE X v tv) : PE X (.Dict [some k] [v] pos) (tDisp1 tk tv) := by
  refine ⟨fun pins s σ H Q I q => ?_⟩
  have hn := I.hok.fresh (Nat.le_refl s.heap.objs.size)
  have I1 := I.laid (a := s.heap.objs.size) (o := .dT []) (h' := s.heap.push { cls := .type "dict", data := .dict #[] }) (t' := s.toks) (fun _ _ q => Heap.get?_push_of_some _ q) (Nat.le_refl _) (dt_empty s.heap I.big)
  rw [arm_eval_Dict, zip_pairTrees [some k] [v] X.env pos rfl rfl, dictDisplay_pairs (pairTrees [some k] [v] X.env pos) (by intro h; cases h) (by show 1 < 17; decide)]
  refine wpAny_bind (wpAny_standAt (wpAny_bind (wpAny_subDictH (knd := tupleKind (mixKind X.prog X.w)) (Q := fun d s' => wpAny (model X.prog X.w) X.A (pure (Value.ref d)) (EP X pins σ Q) X.xe s') hu (by show 1 ≤ 15; decide) ?_)))
  refine pairTrees_cons_walk (thn (hk.run pins _ σ _ _ I1 (q _ hn)) fun kv s1 ⟨x, H1, J1, rx, q1⟩ => thn (hv.run pins s1 σ H1 _ J1 q1) fun vv s2 ⟨y, H2, J2, ry, q2⟩ => pairTrees_nil_walk ?_)
  obtain ⟨e, b, ks, ex, hb, q3⟩ := q2
  subst ex
  cases (show kv = Value.ref b from rx)
  obtain ⟨z, hd, xs0, r0, dd⟩ := dt_of J2.hok e
  cases r0
  refine ⟨[(ks, b, vv)], ⟨rfl, rfl, key_of J2.hok hb, True.intro⟩, dd, fun h' tk dk hs => wpAny_pure ⟨.ref s.heap.objs.size, upd H2 s.heap.objs.size (.dT [(ks, y)]), ?_, rfl, q3⟩⟩
  obtain ⟨o, es, ep', ho, h2, h3, h4, h5, h6⟩ := dk
  refine d_write J2 (by rw [e]; exact True.intro) hs ⟨o, ho⟩ ⟨by show 1 ≤ sizeLine; rw [sizeLine_eq]; decide, hd, [(ks, b, vv)], .cons ⟨rfl, ?_, ry⟩ .nil, o, es, ep', ho, h2, h3, h4, h6⟩
  show (upd H2 s.heap.objs.size (.dT [(ks, y)])) b = some (.tup (ks.map kV))
  rw [upd_ne (ne_of hb e (fun z => nomatch z))]
  exact hb

/-! ### sorted(d), the keys states: an arrangement of them -/
def encS (s : Sta) : PyData := .tuple [.str (tS s.1), .int (s.2 : Int)]
theorem alike_encS (s t : Sta) : PySem.W.alike (encS s) (encS t) = true := by simp [encS, PySem.W.alike, PySem.W.alikeAll]
def rSortD : List V → Hp → VK → Prop := fun vs H Q => ∃ (a : Addr) (D : List Sta) (f : Sta → V), vs = [V.ref a] ∧ Rd H a (.dT (dOf D f)) ∧ D.length ≤ 1000000 ∧
  ∀ (xs : List V) (D' : List Sta) (p : Addr), D'.Perm D → All2 (IsSt H) xs D' → H p = none → Q (.ref p) (upd H p (.lst xs))
theorem each_of {R : Value → Sta → Prop} : ∀ {vs : List Value} {D : List Sta}, vs.length = D.length → (∀ (i : Nat) (v : Value) (s : Sta), vs[i]? = some v → D[i]? = some s → R v s) → PySem.W.EachIs R vs D
  | [], [], _, _ => .nil
  | v :: vs, s :: D, hl, h => .cons (h 0 v s rfl rfl) (each_of (by simpa using hl) fun i v s h1 h2 => h (i + 1) v s (by simpa using h1) (by simpa using h2))
  | [], _ :: _, hl, _ => by simp at hl
  | _ :: _, [], hl, _ => by simp at hl
theorem of_each {H : Hp} : ∀ {vs : List Value} {D : List Sta}, PySem.W.EachIs (fun v s => ∃ q, v = Value.ref q ∧ H q = some (.tup [vT s.1, .int (s.2 : Int)])) vs D → ∃ xs : List V, Vals xs vs ∧ All2 (IsSt H) xs D
  | _, _, .nil => ⟨[], .nil, All2.nil⟩
  | _, _, .cons (b := b) ⟨q, e, hq⟩ t => by
    obtain ⟨xs, h1, h2⟩ := of_each t
    refine ⟨.ref q :: xs, .cons e h1, by simp [h2.1], fun i x y hx hy => ?_⟩
    cases i with
    | zero =>
      cases hx
      cases hy
      exact ⟨q, rfl, hq⟩
    | succ i => exact h2.2 i x y (by simpa using hx) (by simpa using hy)
theorem cr_sortD {X : Cx} (hcalm : X.calm = true) (hu : X.A.units + 64 < cLine) : CallR X (.builtin "sorted") rSortD := by
  intro pins s σ H vs us Q I r h
  obtain ⟨a, D, f, rfl, hd, hlen, q⟩ := h
  obtain ⟨u, eu, rx⟩ := vals1 r
  subst eu
  cases rx
  obtain ⟨z, lo, xs0, rel, o, es, ep, ho, hx, hdt, he, _⟩ := (show ObjOk X.prog X.w H s.heap a (.dT (dOf D f)) from hd.ok I.hok)
  have hsz : es.size = D.length := by
    have h1 : es.size = xs0.length := by rw [← Array.length_toList, he, List.length_map]
    have h2 := Paired.length rel
    rw [dOf_len] at h2
    omega
  have hraw : s.heap.DictRaw a es ep := ⟨o, ho, hx, hdt⟩
  refine Calls.call_function_entry PyProof.Rows.kind_sorted PyProof.Rows.plain_sorted PyProof.Rows.entry_sorted (PyProof.Rows.args_sorted1 _) ?_
  unfold Builtin.«sorted»
  refine wpAny_bind (m := checkCount "sorted" 1 1 _) (wpAny_pure ?_)
  refine wpAny_bind (PySem.W.kdu_collect (A := X.A.in1) (KdlSrc.rawDict (d := a) (es := es) (ep := ep) lo) (I.ok.hd hcalm) hraw (by rw [hsz]; exact sz_of hlen) fun h' tk acc hk hacc => ?_)
  have hal : acc.toList.length = D.length := by rw [Array.length_toList, hacc.1, hsz]
  have I1 : Inv X pins σ H { s with heap := h', toks := tk } := I.kept hk
  have hE : PySem.W.EachIs (fun v (s : Sta) => ∃ q, v = Value.ref q ∧ H q = some (.tup [vT s.1, .int (s.2 : Int)])) acc.toList D := each_of hal fun i v t hv ht => by
    obtain ⟨hi, ev⟩ := hacc.2 i v (by rw [← Array.getElem?_toList]; exact hv)
    have g : (dOf D f)[i]? = some (kS t, f t) := by unfold dOf; rw [List.getElem?_map, ht]; rfl
    obtain ⟨b, hb, e1, e2, _⟩ := paired_get rel g
    have he2 : es[i]? = some (entryOfKey (tupleKind (mixKind X.prog X.w)) b) := by
      have := congrArg (fun l : List DictEntry => l[i]?) he
      rw [← Array.getElem?_toList]
      show es.toList[i]? = _
      rw [he, List.getElem?_map, hb]
      rfl
    have he3 : es[i] = entryOfKey (tupleKind (mixKind X.prog X.w)) b := by
      rw [Array.getElem?_eq_getElem hi] at he2
      exact Option.some.inj he2
    refine ⟨b.2.1, ?_, ?_⟩
    · rw [ev, he3]; rfl
    · rw [e2]; rfl
  have I2 : ∀ (b : Addr) (ob : Obj), h'.get? b = some ob → (h'.push (seqObj "list" acc.toList.toArray 0)).get? b = some ob := fun b ob e => Heap.get?_push_of_some _ e
  refine wpAny_bind (wpAny_newList ?_ (by rw [hal]; exact sz_of hlen))
  have hoL : (h'.push (seqObj "list" acc.toList.toArray 0)).get? h'.objs.size = some (seqObj "list" acc.toList.toArray 0) := Heap.get?_push_size _ rfl
  show wpAny _ _ _ _ _ { s with heap := h'.push (seqObj "list" acc.toList.toArray 0), toks := tk }
  have hR : PySem.W.EachIs (fun v (b : Sta) => ∃ as, Reads (h'.push (seqObj "list" acc.toList.toArray 0)) v (encS b) as ∧ h'.objs.size ∉ as) acc.toList D := hE.mono fun v t ⟨q', ev, hq⟩ => by
    obtain ⟨_, its, rv, o', h1, h2, n, h3⟩ := (show ObjOk X.prog X.w H h' q' (.tup [vT t.1, .int (t.2 : Int)]) from I1.hok q' _ hq)
    obtain ⟨u1, u2, e12, r1, r2⟩ := rv.two
    obtain ⟨t1, e1⟩ := r1
    obtain ⟨t2, e2⟩ := r2
    subst ev e12 e1 e2
    exact ⟨[] ++ ([] ++ []), .tuple (I2 _ _ h1) h2 h3 (.cons (.str _ _) (.cons (.int _ _) .nil)), by simp⟩
  have hdep : ∀ b : Sta, (encS b).depth ≤ 1 := fun b => by simp [encS, PyData.depth, PyData.depthAll]
  refine wpAny_bind (wpAny_holding (PySem.W.list_sort_data (enc := encS) (bs := D) (s := { s with heap := h'.push (seqObj "list" acc.toList.toArray 0), toks := tk }) hoL hE hR (PySem.W.AllAlike.of alike_encS)
    (PySem.W.Sortable.tuples fun b => ⟨_, _, rfl⟩) (sz_of hlen) (fun b _ => ?_) fun out hol hout => ?_))
  · have := hdep b
    have hA : X.A.in1.units = X.A.units + 1 := rfl
    rw [hA]
    omega
  · obtain ⟨xs, rv, ha2⟩ := of_each hout
    have hp : (D.mergeSort (PySem.W.dataLe false encS)).Perm D := List.mergeSort_perm _ _
    obtain ⟨e', he'⟩ := PyProof.Rows.sortedHeap_at (vs := acc.toList) (out := out.toArray) hoL
    have hl2 : xs.length ≤ sizeLine := by rw [ha2.1, hp.length_eq]; exact sz_of hlen
    refine wpAny_pure ⟨_, rfl, .ref h'.objs.size, upd H h'.objs.size (.lst xs), I1.laid (t' := tk) (fun b u e => ?_) (Nat.le_refl _)
      (show ObjOk X.prog X.w _ _ _ (.lst xs) from ⟨hl2, out, e', rv, he'⟩), rfl, q xs _ _ hp ha2 (I1.hok.fresh (Nat.le_refl _))⟩
    have hb : b < h'.objs.size := Heap.lt_size e
    rw [PyProof.Rows.sortedHeap_old (Nat.ne_of_lt hb) (by rw [size_push']; exact Nat.lt_succ_of_lt hb)]
    exact Heap.get?_push_of_some _ e
end Tk

/-! TkProm -/
set_option maxRecDepth 100000
set_option maxHeartbeats 2000000
namespace Tk
open PySem PySem.Spec PyProof.Rows L2 Ts TL
/-! The promises of the defs. -/
abbrev Fg := PySem.W.Frag
abbrev z_circle : V := .str (Str.ofString "circle")
def TxT (K : Fg) (H : Hp) (v : V) (ws : List Tx) : Prop := ∃ a, v = .ref a ∧ SqT K H a (ws.map vT)
theorem TxT.same {K : Fg} {H H' : Hp} {v : V} {ws : List Tx} (h : TxT K H v ws) (e : Same H H') : TxT K H' v ws := let ⟨a, h1, h2⟩ := h; ⟨a, h1, same_tup e h2⟩
def IsWin (ps : List Tx) (g : Nat) (x : Tx) : Prop := ∃ p ∈ ps, ∃ i, i + g ≤ p.length ∧ x = (p.drop i).take g
structure Shards (ps : List Tx) (g : Nat) : Prop where
  g1 : 1 ≤ g
  g2 : g ≤ 3
  ne : ps ≠ []
  few : ps.length ≤ 8
  len : ∀ p ∈ ps, g ≤ p.length ∧ p.length ≤ 12
structure Wins (ps : List Tx) (g : Nat) (ws : List Tx) : Prop where
  mem : ∀ x, x ∈ ws ↔ IsWin ps g x
  few : ws.length ≤ 100
structure WsOk (ws : List Tx) : Prop where
  few : ws.length ≤ 100
  len : ∀ x ∈ ws, 1 ≤ x.length ∧ x.length ≤ 12
theorem Wins.ok {ps : List Tx} {g : Nat} {ws : List Tx} (h : Wins ps g ws) (s : Shards ps g) : WsOk ws := ⟨h.few, fun x hx => by
  obtain ⟨p, hp, i, hi, e⟩ := (h.mem x).mp hx
  have hl : x.length = g := by rw [e, List.length_take, List.length_drop]; omega
  have := s.g1
  have := s.g2
  omega⟩
theorem WsOk.ne {ws : List Tx} (h : WsOk ws) : ∀ x ∈ ws, x ≠ [] := fun x hx e => by
  have := (h.len x hx).1
  rw [e] at this
  cases this
def IsGram (ws : List Tx) (g : Tx) : Prop := ∃ x ∈ ws, g = x.dropLast ∨ g = x.drop 1
structure Grams (ws gs : List Tx) : Prop where
  mem : ∀ g, g ∈ gs ↔ IsGram ws g
  nd : gs.Nodup
  few : gs.length ≤ 200
structure Nodes (ws : List Tx) (w : Tx) (D : List Sta) : Prop where
  nd : D.Nodup
  mem : ∀ s : Sta, s ∈ D ↔ IsGram ws s.1 ∧ s.2 < w.length
  few : D.length ≤ 200 * w.length
/-- a pair of a letter and a state -/
def IsLs (H : Hp) (v : V) (p : Nat × Sta) : Prop := ∃ a u, v = .ref a ∧ H a = some (.tup [vT [p.1], u]) ∧ IsSt H u p.2
theorem IsLs.same {H H' : Hp} {v : V} {p : Nat × Sta} (h : IsLs H v p) (e : Same H H') : IsLs H' v p := let ⟨a, u, h1, h2, h3⟩ := h; ⟨a, u, h1, e _ _ h2, h3.same e⟩
abbrev Eg (W : Sta → List (Nat × Sta)) : Sta → List Sta := fun x => (W x).map (·.2)
/-- the dict of ways at aw -/
structure Graph (H : Hp) (aw : Addr) (D : List Sta) (W : Sta → List (Nat × Sta)) : Prop where
  at_ : ∃ L : Sta → Addr, Rd H aw (.dT (dOf D fun s => .ref (L s))) ∧ ∀ s ∈ D, ∃ xs, H (L s) = some (.lst xs) ∧ All2 (IsLs H) xs (W s)
  nd : D.Nodup
  few : D.length ≤ 2000
  deg : ∀ s ∈ D, (W s).length ≤ 100
  closed : ∀ s ∈ D, ∀ t ∈ Eg W s, t ∈ D
  short : ∀ s ∈ D, s.1.length ≤ 12
theorem Graph.same {H H' : Hp} {aw : Addr} {D : List Sta} {W : Sta → List (Nat × Sta)} (h : Graph H aw D W) (e : Same H H') : Graph H' aw D W :=
  ⟨let ⟨L, h1, h2⟩ := h.at_; ⟨L, same_rd e h1, fun s hs => let ⟨xs, h3, h4⟩ := h2 s hs; ⟨xs, e _ _ h3, h4.mono fun _ _ r => r.same e⟩⟩, h.nd, h.few, h.deg, h.closed, h.short⟩
def ExplP (ps : List Tx) (g : Nat) (C : Tx) : Prop := C ≠ [] ∧ (∀ p, p < C.length → IsWin ps g (lround C p g)) ∧ ∀ q ∈ ps, OnC C q
/-- what an answer is worth -/
def Verdict (ps : List Tx) (g : Nat) (w : Tx) (x y : V) : Prop :=
  (x = .str (Str.ofString "always") ∧ ∀ C, ExplP ps g C → OnC C w) ∨ (x = .str (Str.ofString "lacking") ∧ ∃ t : Tx, y = vT t ∧ t.length ≤ 100000 ∧ ExplP ps g t ∧ ¬ OnC t w)

def sp_check_shards (K : Fg) : Sp := fun vs H Q _ => ∃ (v : V) (ps : List Tx) (g : Nat), vs = [v, .int (g : Int)] ∧ TxT K H v ps ∧ Shards ps g ∧ Q .non H
def sp_check_shape (_ : Fg) : Sp := fun vs H Q _ => vs = [z_circle] ∧ Q .non H
def sp_window_list (K : Fg) : Sp := fun vs H Q _ => ∃ (v : V) (ps : List Tx) (g : Nat), vs = [v, .int (g : Int)] ∧ TxT K H v ps ∧ Shards ps g ∧
  ∀ (ws : List Tx) (a : Addr) (H' : Hp), Same H H' → H' a = some (.tup (ws.map vT)) → Wins ps g ws → Q (.ref a) H'
def sp_gram_list (K : Fg) : Sp := fun vs H Q _ => ∃ (v : V) (ws : List Tx), vs = [v] ∧ TxT K H v ws ∧ WsOk ws ∧
  ∀ (gs : List Tx) (a : Addr) (H' : Hp), Same H H' → H' a = some (.tup (gs.map vT)) → Grams ws gs → Q (.ref a) H'
def sp_following (K : Fg) : Sp := fun vs H Q _ => ∃ (v : V) (ws : List Tx) (g : Tx), vs = [v, vT g] ∧ TxT K H v ws ∧ WsOk ws ∧ ∀ H', Same H H' → Q (vT (foll ws g)) H'
def sp_advance (_ : Fg) : Sp := fun vs H Q _ => ∃ (w : Tx) (m c : Nat), vs = [vT w, .int (m : Int), vT [c]] ∧ w.length ≤ 100 ∧ Q (.int (adv w m c : Nat)) H
def sp_check_word (_ : Fg) : Sp := fun vs H Q _ => ∃ (w : Tx), vs = [vT w] ∧ 1 ≤ w.length ∧ w.length ≤ 60 ∧ Q .non H
def sp_state_list (K : Fg) : Sp := fun vs H Q _ => ∃ (v : V) (ws : List Tx) (w : Tx), vs = [v, vT w] ∧ TxT K H v ws ∧ WsOk ws ∧ w.length ≤ 100 ∧
  ∀ (D : List Sta) (xs : List V) (a : Addr) (H' : Hp), Same H H' → H' a = some (.tup xs) → All2 (IsSt H') xs D → Nodes ws w D → Q (.ref a) H'
def sp_way (K : Fg) : Sp := fun vs H Q _ => ∃ (v : V) (ws : List Tx) (w : Tx) (u : V) (s : Sta) (c : Nat), vs = [v, vT w, u, vT [c]] ∧ TxT K H v ws ∧ WsOk ws ∧ w.length ≤ 100 ∧ IsSt H u s ∧ s.1.length ≤ 100 ∧
  ∀ (r : V) (H' : Hp), Same H H' → OptSt H' r (Ts.way ws w s c) → Q r H'
def sp_ways_from (K : Fg) : Sp := fun vs H Q _ => ∃ (v : V) (ws : List Tx) (w : Tx) (u : V) (s : Sta), vs = [v, vT w, u] ∧ TxT K H v ws ∧ WsOk ws ∧ w.length ≤ 100 ∧ IsSt H u s ∧ s.1.length ≤ 100 ∧
  ∀ (xs : List V) (a : Addr) (H' : Hp), Same H H' → H a = none → H' a = some (.lst xs) → All2 (IsLs H') xs (Ts.ways ws w s) → Q (.ref a) H'
def sp_read_within (K : Fg) : Sp := fun vs H Q _ => ∃ (v : V) (ws : List Tx) (w q : Tx) (d : Addr) (D : List Sta) (f : Sta → V) (u : V) (s : Sta), vs = [v, vT w, vT q, .ref d, u] ∧ TxT K H v ws ∧ WsOk ws ∧ w.length ≤ 100 ∧
  Rd H d (.dT (dOf D f)) ∧ IsSt H u s ∧ s.1.length ≤ 100 ∧ ∀ H', Same H H' → Q (.bl (rin ws w (fun z => decide (z ∈ D)) (some s) q)) H'
def sp_can_read (K : Fg) : Sp := fun vs H Q _ => ∃ (v : V) (ws : List Tx) (w q : Tx) (d : Addr) (D : List Sta) (f : Sta → V), vs = [v, vT w, vT q, .ref d] ∧ TxT K H v ws ∧ WsOk ws ∧ w.length ≤ 100 ∧
  H d = some (.dT (dOf D f)) ∧ D.length ≤ 2000 ∧ (∀ s ∈ D, s.1.length ≤ 100) ∧ ∀ H', Same H H' → Q (.bl (D.any fun s => rin ws w (fun z => decide (z ∈ D)) (some s) q)) H'
def sp_finished_from (_ : Fg) : Sp := fun vs H Q _ => ∃ (aw : Addr) (u : V) (as ao : Addr) (D : List Sta) (W : Sta → List (Nat × Sta)) (s0 : Sta) (S O : List Sta) (xo : List V) (H0 : Hp), vs = [.ref aw, u, .ref as, .ref ao] ∧
  Graph H0 aw D W ∧ Same H0 H ∧ H0 as = none ∧ H0 ao = none ∧ IsSt H u s0 ∧ s0 ∈ D ∧ s0 ∉ S ∧ H as = some (.dT (dOf S fun _ => .bl true)) ∧ H ao = some (.lst xo) ∧ All2 (IsSt H) xo O ∧ Dfs (Eg W) S O [] ∧ (∀ x ∈ S, x ∈ D) ∧
  ∀ (S' O' : List Sta) (xo' : List V) (H' : Hp), (∀ b o, b ≠ as → b ≠ ao → H b = some o → H' b = some o) → H' as = some (.dT (dOf S' fun _ => .bl true)) → H' ao = some (.lst xo') → All2 (IsSt H') xo' O' →
    Dfs (Eg W) S' O' [] → s0 ∈ S' → (∀ x ∈ S, x ∈ S') → (∀ x ∈ S', x ∈ D) → Q .non H'
/-- the dict of ways back at ab -/
def Back (H : Hp) (ab : Addr) (D : List Sta) (W : Sta → List (Nat × Sta)) : Prop := ∃ B : Sta → Addr, Rd H ab (.dT (dOf D fun s => .ref (B s))) ∧
  ∀ s ∈ D, ∃ xs ys, H (B s) = some (.lst xs) ∧ All2 (IsSt H) xs ys ∧ ∀ y, y ∈ ys ↔ y ∈ D ∧ s ∈ Eg W y
theorem Back.same {H H' : Hp} {ab : Addr} {D : List Sta} {W : Sta → List (Nat × Sta)} (h : Back H ab D W) (e : Same H H') : Back H' ab D W :=
  let ⟨B, h1, h2⟩ := h
  ⟨B, same_rd e h1, fun s hs => let ⟨xs, ys, h3, h4, h5⟩ := h2 s hs; ⟨xs, ys, e _ _ h3, h4.mono fun _ _ r => r.same e, h5⟩⟩
def sp_turned_around (_ : Fg) : Sp := fun vs H Q _ => ∃ (aw : Addr) (D : List Sta) (W : Sta → List (Nat × Sta)), vs = [.ref aw] ∧ Graph H aw D W ∧ (∃ kvs, H aw = some (.dT kvs)) ∧
  ∀ (ab : Addr) (H' : Hp), Same H H' → Back H' ab D W → Q (.ref ab) H'
def sp_components_of (_ : Fg) : Sp := fun vs H Q _ => ∃ (aw : Addr) (D : List Sta) (W : Sta → List (Nat × Sta)), vs = [.ref aw] ∧ Graph H aw D W ∧ (∃ kvs, H aw = some (.dT kvs)) ∧
  ∀ (r an : Addr) (many : Nat) (D' : List Sta) (nu : Sta → Nat) (H' : Hp), Same H H' → H' r = some (.tup [.ref an, .int (many : Int)]) → H' an = some (.dT (dOf D' fun s => .int (nu s : Nat))) → D'.Nodup → many ≤ 2000 →
    Comps (Eg W) D (fun s => if s ∈ D' then some (nu s) else none) many → Q (.ref r) H'
def sp_grouped (_ : Fg) : Sp := fun vs H Q _ => ∃ (an : Addr) (many : Nat) (D : List Sta) (nu : Sta → Nat), vs = [.ref an, .int (many : Int)] ∧ H an = some (.dT (dOf D fun s => .int (nu s : Nat))) ∧ (∀ s ∈ D, nu s < many) ∧ D.Nodup ∧ D.length ≤ 2000 ∧ many ≤ 2000 ∧
  ∀ (a : Addr) (gs : List V) (H' : Hp), Same H H' → H' a = some (.lst gs) → gs.length = many →
    (∀ (n : Nat) (v : V), gs[n]? = some v → ∃ g, v = .ref g ∧ H' g = some (.dT (dOf (D.filter fun s => decide (nu s = n)) fun _ => .bl true))) → Q (.ref a) H'
def sp_path_to (_ : Fg) : Sp := fun vs H Q _ => ∃ (aw as : Addr) (u : V) (ag : Addr) (D : List Sta) (W : Sta → List (Nat × Sta)) (G Go : List Sta) (f f2 : Sta → V) (s : Sta), vs = [.ref aw, .ref as, u, .ref ag] ∧ Graph H aw D W ∧
  Rd H as (.dT (dOf G f)) ∧ Rd H ag (.dT (dOf Go f2)) ∧ IsSt H u s ∧ s ∈ G ∧ (∀ x ∈ G, x ∈ D) ∧ G.Nodup ∧ (∃ x t, x ∈ Go ∧ Lw W G s t x) ∧
  ∀ (r : Addr) (t : Tx) (v : V) (s' : Sta) (H' : Hp), Same H H' → H' r = some (.tup [vT t, v]) → IsSt H' v s' → Lw W G s t s' → s' ∈ Go → t.length ≤ 2000 → Q (.ref r) H'
def sp_circle_within (K : Fg) : Sp := fun vs H Q _ => ∃ (v : V) (ws : List Tx) (w : Tx) (vp : V) (ps : List Tx) (g : Nat) (aw as : Addr) (D G : List Sta), vs = [v, vT w, vp, .ref aw, .ref as] ∧ TxT K H v ws ∧ WsOk ws ∧ w.length ≤ 100 ∧ TxT K H vp ps ∧ Shards ps g ∧
  Graph H aw D (Ts.ways ws w) ∧ H as = some (.dT (dOf G fun _ => .bl true)) ∧ (∀ x ∈ G, x ∈ D) ∧ G.Nodup ∧ (∀ x ∈ G, ∀ y ∈ G, ∃ t, Lw (Ts.ways ws w) G x t y) ∧ (∀ q ∈ ps, ∃ s ∈ G, rin ws w (fun z => decide (z ∈ G)) (some s) q = true) ∧
  ∀ (t : Tx) (H' : Hp), Same H H' → (∃ s ∈ G, rd ws w s t = some s) → (∀ q ∈ ps, q <:+: t) → t.length ≤ 100000 → Q (vT t) H'
def sp_circle_decision (K : Fg) : Sp := fun vs H Q _ => ∃ (vp : V) (ps : List Tx) (v : V) (ws : List Tx) (w : Tx) (g : Nat), vs = [vp, v, vT w] ∧ TxT K H vp ps ∧ TxT K H v ws ∧ Shards ps g ∧ Wins ps g ws ∧ 1 ≤ w.length ∧ w.length ≤ 8 ∧
  ∀ (r : Addr) (x y : V) (H' : Hp), Same H H' → H' r = some (.tup [x, y]) → Verdict ps g w x y → Q (.ref r) H'
def sp_decided (K : Fg) : Sp := fun vs H Q _ => ∃ (vp : V) (ps : List Tx) (w : Tx) (g : Nat), vs = [vp, .int (g : Int), vT w, z_circle] ∧ TxT K H vp ps ∧ Shards ps g ∧ 1 ≤ w.length ∧ w.length ≤ 8 ∧
  ∀ (r : Addr) (x y : V) (H' : Hp), Same H H' → H' r = some (.tup [x, y]) → Verdict ps g w x y → Q (.ref r) H'
def sp_check_question (K : Fg) : Sp := fun vs H Q _ => ∃ (vp : V) (ps : List Tx) (g : Nat), vs = [vp, .int (g : Int), z_circle] ∧ TxT K H vp ps ∧ Shards ps g ∧ Q .non H
def sp_decide (K : Fg) : Sp := sp_decided K
def sp_example (K : Fg) : Sp := fun vs H Q _ => ∃ (vp : V) (ps : List Tx) (g : Nat), vs = [vp, .int (g : Int), z_circle] ∧ TxT K H vp ps ∧ Shards ps g ∧
  ∀ (r : V) (H' : Hp), Same H H' → (r = .non ∨ ∃ t : Tx, r = vT t ∧ t.length ≤ 100000) → Q r H'

/-! ### the law's own defs -/
/-- the drawing object at d -/
def DOk (H : Hp) (d l : Addr) : Prop := ∃ (p v s : Int) (ns : List Int), H d = some (.lst [.ref l, .int p, .int v, .int s]) ∧ l ≠ d ∧ H l = some (.lst (ns.map V.int)) ∧ ns.length ≤ 1000 ∧ 0 ≤ p ∧ 0 ≤ v ∧ 0 ≤ s
/-- all but d is kept -/
def But (d : Addr) (H H' : Hp) : Prop := ∀ b o, b ≠ d → H b = some o → H' b = some o
def sp_law_begin (K : Fg) : Sp := fun vs H Q _ => ∃ (a : Addr) (ns : List Int), vs = [.ref a] ∧ SqL K H a (ns.map V.int) ∧ ns.length ≤ 63 ∧ ∀ (d dl : Addr) (H' : Hp), Same H H' → H d = none → DOk H' d dl → Q (.ref d) H'
def sp_law_take (_ : Fg) : Sp := fun vs H Q _ => ∃ (d dl : Addr) (n : Nat), vs = [.ref d, .int (n : Int)] ∧ DOk H d dl ∧ 1 ≤ n ∧ n ≤ 1000000 ∧ ∀ (r : Nat) (H' : Hp), But d H H' → DOk H' d dl → r < n → Q (.int (r : Int)) H'
def sp_law_letters (_ : Fg) : Sp := fun vs H Q _ => vs = [] ∧ ∀ l : Tx, l.length = 89 → Q (vT l) H
def sp_law_signs (_ : Fg) : Sp := fun vs H Q _ => ∃ (d dl : Addr), vs = [.ref d] ∧ DOk H d dl ∧ ∀ (l : Tx) (H' : Hp), But d H H' → DOk H' d dl → 1 ≤ l.length → l.length ≤ 10 → Q (vT l) H'
def sp_law_text (_ : Fg) : Sp := fun vs H Q _ => ∃ (d dl : Addr) (sg : Tx) (n : Nat), vs = [.ref d, vT sg, .int (n : Int)] ∧ DOk H d dl ∧ 1 ≤ sg.length ∧ sg.length ≤ 10 ∧ n ≤ 100 ∧ ∀ (l : Tx) (H' : Hp), But d H H' → DOk H' d dl → l.length = n → Q (vT l) H'
def sp_law_rich (_ : Fg) : Sp := fun vs H Q _ => ∃ (d dl : Addr) (sg : Tx) (n : Nat), vs = [.ref d, vT sg, .int (n : Int)] ∧ DOk H d dl ∧ 1 ≤ sg.length ∧ sg.length ≤ 10 ∧ n ≤ 100 ∧ ∀ (l : Tx) (H' : Hp), But d H H' → DOk H' d dl → l.length = n → Q (vT l) H'
def sp_law_round (_ : Fg) : Sp := fun vs H Q _ => ∃ (C : Tx) (p n : Nat), vs = [vT C, .int (p : Int), .int (n : Int)] ∧ C ≠ [] ∧ C.length ≤ 100000 ∧ n ≤ 100000 ∧ ∀ H', Same H H' → Q (vT (lround C p n)) H'
def sp_law_on_circle (_ : Fg) : Sp := fun vs H Q _ => ∃ (C w : Tx), vs = [vT C, vT w] ∧ C.length ≤ 100000 ∧ w.length ≤ 100000 ∧ ∀ (b : Bool) (H' : Hp), Same H H' → (b = true ↔ OnC C w) → Q (.bl b) H'
def sp_law_windows (K : Fg) : Sp := fun vs H Q _ => ∃ (v : V) (ps : List Tx) (g : Nat), vs = [v, .int (g : Int)] ∧ TxT K H v ps ∧ Shards ps g ∧
  ∀ (ws : List Tx) (a : Addr) (H' : Hp), Same H H' → H' a = some (.lst (ws.map vT)) → Wins ps g ws → Q (.ref a) H'
def sp_law_explains (K : Fg) : Sp := fun vs H Q _ => ∃ (v : V) (ps : List Tx) (g : Nat) (C : Tx), vs = [v, .int (g : Int), vT C, z_circle] ∧ TxT K H v ps ∧ Shards ps g ∧ C.length ≤ 100000 ∧ ∀ (b : Bool) (H' : Hp), Same H H' → (b = true ↔ ExplP ps g C) → Q (.bl b) H'
def sp_law_cut (_ : Fg) : Sp := fun vs H Q _ => ∃ (d dl : Addr) (C : Tx) (g : Nat), vs = [.ref d, vT C, .int (g : Int), z_circle, .int 8] ∧ DOk H d dl ∧ 1 ≤ C.length ∧ C.length ≤ 20 ∧ 1 ≤ g ∧ g ≤ 3 ∧
  ∀ (a : Addr) (ps : List Tx) (H' : Hp), But d H H' → DOk H' d dl → H' a = some (.tup (ps.map vT)) → Shards ps g → Q (.ref a) H'
def sp_law_shards (_ : Fg) : Sp := fun vs H Q _ => ∃ (d dl : Addr), vs = [.ref d, z_circle] ∧ DOk H d dl ∧
  ∀ (r a : Addr) (ps : List Tx) (g : Nat) (C sg : Tx) (H' : Hp), But d H H' → DOk H' d dl → H' r = some (.tup [.ref a, .int (g : Int), vT C, vT sg]) → H' a = some (.tup (ps.map vT)) → Shards ps g → 1 ≤ C.length → C.length ≤ 20 → 1 ≤ sg.length → sg.length ≤ 10 → Q (.ref r) H'
def sp_law_word (K : Fg) : Sp := fun vs H Q _ => ∃ (d dl : Addr) (v : V) (ps : List Tx) (g : Nat) (C sg : Tx), vs = [.ref d, v, vT C, vT sg, .int 7] ∧ DOk H d dl ∧ TxT K H v ps ∧ Shards ps g ∧ 1 ≤ C.length ∧ C.length ≤ 20 ∧ 1 ≤ sg.length ∧ sg.length ≤ 10 ∧
  ∀ (w : Tx) (H' : Hp), But d H H' → DOk H' d dl → 1 ≤ w.length → w.length ≤ 8 → Q (vT w) H'
def sp_law_walk (K : Fg) : Sp := fun vs H Q _ => ∃ (d dl : Addr) (v : V) (ps : List Tx) (g : Nat) (st : Tx) (n : Nat), vs = [.ref d, v, .int (g : Int), vT st, .int (n : Int)] ∧ DOk H d dl ∧ TxT K H v ps ∧ Shards ps g ∧ st.length ≤ 1000 ∧ n ≤ 20 ∧
  ∀ (l : Tx) (H' : Hp), But d H H' → DOk H' d dl → l.length ≤ st.length + n → Q (vT l) H'
def sp_law_joined (K : Fg) : Sp := fun vs H Q _ => ∃ (d dl : Addr) (v : V) (ps : List Tx) (g : Nat), vs = [.ref d, v, .int (g : Int)] ∧ DOk H d dl ∧ TxT K H v ps ∧ Shards ps g ∧
  ∀ (l : Tx) (H' : Hp), But d H H' → DOk H' d dl → l.length ≤ 500 → Q (vT l) H'
def sp_law_closed (K : Fg) : Sp := fun vs H Q _ => ∃ (d dl : Addr) (v : V) (ps : List Tx) (g : Nat) (st : Tx), vs = [.ref d, v, .int (g : Int), vT st] ∧ DOk H d dl ∧ TxT K H v ps ∧ Shards ps g ∧ st.length ≤ 1000 ∧
  ∀ (l : Tx) (H' : Hp), But d H H' → DOk H' d dl → l.length ≤ 2000 → Q (vT l) H'
def sp_law (K : Fg) : Sp := fun vs H Q _ => ∃ (a : Addr) (ns : List Int), vs = [.ref a] ∧ SqL K H a (ns.map V.int) ∧ ns.length ≤ 63 ∧ ∀ H', Q (.bl true) H'
end Tk

/-! TkT -/
set_option maxRecDepth 100000
/-! The readings of the defs, printed by gen.py. -/
namespace Tk
open PySem PySem.Spec PyProof.Rows L2 Ts TL
abbrev n_finished_from : List Str := ["ways", "start", "seen", "order", "stack", "top", "other"]
def t_finished_from (K : Fg) : TS := (tSeq (sDPut (tVar 2) (tVar 1) (tC (.bl true)))
  (tSeq (tAsg (tLst (tCons (tLst (tCons (tVar 1) (tCons (tC (.int 0)) tNil))) tNil)) (gName 4))
  (tWhile (tTest (tOp rGtI (tCB (rLenQ K) (tCons (tVar 4) tNil)) (tC (.int 0))))
  (tSeq (tAsg (tOp (rIxL K) (tVar 4) (tUn uNegI (tC (.int 1)))) (gName 5))
  (tIfS (tTest (tOp rLtI (tOp (rIxL K) (tVar 5) (tC (.int 1))) (tCB (rLenQ K) (tCons (tDGet (tVar 0) (tOp (rIxL K) (tVar 5) (tC (.int 0)))) tNil))))
  (tSeq (tAsg (tOp (rIxT K) (tOp (rIxL K) (tDGet (tVar 0) (tOp (rIxL K) (tVar 5) (tC (.int 0)))) (tOp (rIxL K) (tVar 5) (tC (.int 1)))) (tC (.int 1))) (gName 6))
  (tSeq (tAsg (tOp rAddI (tOp (rIxL K) (tVar 5) (tC (.int 1))) (tC (.int 1))) (gSub (tVar 5) (tC (.int 1)) rSetL))
  (tIfS (tB (tDNotIn (tVar 6) (tVar 2)))
  (tSeq (sDPut (tVar 2) (tVar 6) (tC (.bl true)))
  (tDrop (tBM K "list" rAppend (tVar 4) (tCons (tLst (tCons (tVar 6) (tCons (tC (.int 0)) tNil))) tNil))))
  tNext)))
  (tSeq (tDrop (tBM K "list" rAppend (tVar 3) (tCons (tOp (rIxL K) (tVar 5) (tC (.int 0))) tNil)))
  (tDrop (tBM0 K "list" rPop (tVar 4)))))))))
abbrev n_turned_around : List Str := ["ways", "back", "state", "letter", "other"]
def t_turned_around (K : Fg) : TS := (tSeq (tAsg tDNewT (gName 1))
  (tSeq (tLock (tFor (iKeys (tVar 0)) (gName 2)
  (sDPut (tVar 1) (tVar 2) (tLst tNil))))
  (tSeq (tLock (tFor (iKeys (tVar 0)) (gName 2)
  (tFor (iList K (tDGet (tVar 0) (tVar 2))) (gTup K 2 (gCons (gName 3) (gCons (gName 4) gNil)))
  (tDrop (tBM K "list" rAppend (tDGet (tVar 1) (tVar 4)) (tCons (tVar 2) tNil))))))
  (tRet (tVar 1)))))
abbrev n_components_of : List Str := ["ways", "order", "seen", "state", "back", "numbers", "many", "start", "stack", "other"]
def t_components_of (K : Fg) : TS := (tSeq (tAsg (tLst tNil) (gName 1))
  (tSeq (tAsg tDNewT (gName 2))
  (tSeq (tLock (tFor (iKeys (tVar 0)) (gName 3)
  (tIfS (tB (tDNotIn (tVar 3) (tVar 2)))
  (tDrop (tCall (sp_finished_from K) [] E0 (tCons (tVar 0) (tCons (tVar 3) (tCons (tVar 2) (tCons (tVar 1) tNil))))))
  tNext)))
  (tSeq (tAsg (tCall (sp_turned_around K) [] E0 (tCons (tVar 0) tNil)) (gName 4))
  (tSeq (tAsg tDNewT (gName 5))
  (tSeq (tAsg (tC (.int 0)) (gName 6))
  (tSeq (tFor (iRev K (tCons (tVar 1) tNil)) (gName 7)
  (tIfS (tB (tDNotIn (tVar 7) (tVar 5)))
  (tSeq (sDPut (tVar 5) (tVar 7) (tVar 6))
  (tSeq (tAsg (tLst (tCons (tVar 7) tNil)) (gName 8))
  (tSeq (tWhile (tTest (tOp rGtI (tCB (rLenQ K) (tCons (tVar 8) tNil)) (tC (.int 0))))
  (tFor (iList K (tDGet (tVar 4) (tBM0 K "list" rPop (tVar 8)))) (gName 9)
  (tIfS (tB (tDNotIn (tVar 9) (tVar 5)))
  (tSeq (sDPut (tVar 5) (tVar 9) (tVar 6))
  (tDrop (tBM K "list" rAppend (tVar 8) (tCons (tVar 9) tNil))))
  tNext)))
  (tAsg (tOp rAddI (tVar 6) (tC (.int 1))) (gName 6)))))
  tNext))
  (tRet (tTup (tCons (tVar 5) (tCons (tVar 6) tNil)))))))))))
abbrev n_check_shards : List Str := ["pieces", "grain", "piece"]
def t_check_shards (K : Fg) : TS := (tSeq (tIfS (tOr (tTest (tOp rLtI (tVar 1) (tC (.int 1)))) (tTest (tOp rGtI (tVar 1) (tC (.int 12)))))
  tNever
  tNext)
  (tSeq (tIfS (tTest (tOp rEq (tCB (rLenQ K) (tCons (tVar 0) tNil)) (tC (.int 0))))
  tNever
  tNext)
  (tSeq (tIfS (tTest (tOp rGtI (tCB (rLenQ K) (tCons (tVar 0) tNil)) (tC (.int 40))))
  tNever
  tNext)
  (tFor (iTup K (tVar 0)) (gName 2)
  (tSeq (tIfS (tTest (tOp rLtI (tCB rLenX (tCons (tVar 2) tNil)) (tVar 1)))
  tNever
  tNext)
  (tIfS (tTest (tOp rGtI (tCB rLenX (tCons (tVar 2) tNil)) (tC (.int 60))))
  tNever
  tNext))))))
abbrev n_check_shape : List Str := ["shape"]
def t_check_shape (K : Fg) : TS := (tIfS (tAnd (tTest (tOp rNe (tVar 0) (tC (.str (Str.ofString "circle"))))) (tTest (tOp rNe (tVar 0) (tC (.str (Str.ofString "line"))))))
  tNever
  tNext)
abbrev n_window_list : List Str := ["pieces", "grain", "found", "piece", "p"]
def t_window_list (K : Fg) : TS := (tSeq (tAsg (tLst tNil) (gName 2))
  (tSeq (tFor (iTup K (tVar 0)) (gName 3)
  (tFor (iRng1 (tCons (tOp rAddI (tOp rSubI (tCB rLenX (tCons (tVar 3) tNil)) (tVar 1)) (tC (.int 1))) tNil)) (gName 4)
  (tIfS (tTest (tOp (rIn K true) (tSl rSlX (tVar 3) (tPart (tVar 4)) (tPart (tOp rAddI (tVar 4) (tVar 1)))) (tVar 2)))
  (tDrop (tBM K "list" rAppend (tVar 2) (tCons (tSl rSlX (tVar 3) (tPart (tVar 4)) (tPart (tOp rAddI (tVar 4) (tVar 1)))) tNil)))
  tNext)))
  (tRet (tCB (rTupQ K) (tCons (tCB (rSortX K) (tCons (tVar 2) tNil)) tNil)))))
abbrev n_gram_list : List Str := ["windows", "found", "window", "gram"]
def t_gram_list (K : Fg) : TS := (tSeq (tAsg (tLst tNil) (gName 1))
  (tSeq (tFor (iTup K (tVar 0)) (gName 2)
  (tFor (iTup K (tTup (tCons (tSl rSlX (tVar 2) tNoPart (tPart (tUn uNegI (tC (.int 1))))) (tCons (tSl rSlX (tVar 2) (tPart (tC (.int 1))) tNoPart) tNil)))) (gName 3)
  (tIfS (tTest (tOp (rIn K true) (tVar 3) (tVar 1)))
  (tDrop (tBM K "list" rAppend (tVar 1) (tCons (tVar 3) tNil)))
  tNext)))
  (tRet (tCB (rTupQ K) (tCons (tCB (rSortX K) (tCons (tVar 1) tNil)) tNil)))))
abbrev n_following : List Str := ["windows", "gram", "window"]
def t_following (K : Fg) : TS := (tRet (tM1 (rJoinX K) (tC (.str (Str.ofString ""))) (tLc (iTup K (tVar 0)) (gName 2) (tTest (tOp rEq (tSl rSlX (tVar 2) tNoPart (tPart (tUn uNegI (tC (.int 1))))) (tVar 1))) (tOp rIxX (tVar 2) (tUn uNegI (tC (.int 1)))) [2])))
abbrev n_advance : List Str := ["word", "matched", "letter", "read", "k"]
def t_advance (K : Fg) : TS := (tSeq (tAsg (tOp rAddX (tSl rSlX (tVar 0) tNoPart (tPart (tVar 1))) (tVar 2)) (gName 3))
  (tSeq (tFor (iRng3 (tCons (tCB rMinI (tCons (tCB rLenX (tCons (tVar 3) tNil)) (tCons (tCB rLenX (tCons (tVar 0) tNil)) tNil))) (tCons (tC (.int 0)) (tCons (tUn uNegI (tC (.int 1))) tNil)))) (gName 4)
  (tIfS (tTest (tOp rEq (tSl rSlX (tVar 3) (tPart (tOp rSubI (tCB rLenX (tCons (tVar 3) tNil)) (tVar 4))) tNoPart) (tSl rSlX (tVar 0) tNoPart (tPart (tVar 4)))))
  (tRet (tVar 4))
  tNext))
  (tRet (tC (.int 0)))))
abbrev n_check_word : List Str := ["word"]
def t_check_word (K : Fg) : TS := (tSeq (tIfS (tTest (tOp rEq (tVar 0) (tC (.str (Str.ofString "")))))
  tNever
  tNext)
  (tIfS (tTest (tOp rGtI (tCB rLenX (tCons (tVar 0) tNil)) (tC (.int 60))))
  tNever
  tNext))
abbrev n_state_list : List Str := ["windows", "word", "states", "gram", "matched"]
def t_state_list (K : Fg) : TS := (tSeq (tAsg (tLst tNil) (gName 2))
  (tSeq (tFor (iTup K (tCall (sp_gram_list K) [] E0 (tCons (tVar 0) tNil))) (gName 3)
  (tFor (iRng1 (tCons (tCB rLenX (tCons (tVar 1) tNil)) tNil)) (gName 4)
  (tDrop (tBM K "list" rAppend (tVar 2) (tCons (tTup (tCons (tVar 3) (tCons (tVar 4) tNil))) tNil)))))
  (tRet (tCB (rTupQ K) (tCons (tVar 2) tNil)))))
abbrev n_way : List Str := ["windows", "word", "state", "letter", "gram", "matched", "fresh"]
def t_way (K : Fg) : TS := (tSeq (tAsg (tVar 2) (gTup K 2 (gCons (gName 4) (gCons (gName 5) gNil))))
  (tSeq (tIfS (tOr (tTest (tOp rEq (tVar 3) (tC (.str (Str.ofString ""))))) (tTest (tOp rNiX (tVar 3) (tCall (sp_following K) [] E0 (tCons (tVar 0) (tCons (tVar 4) tNil))))))
  (tRet (tC .non))
  tNext)
  (tSeq (tAsg (tCall (sp_advance K) [] E0 (tCons (tVar 1) (tCons (tVar 5) (tCons (tVar 3) tNil)))) (gName 6))
  (tSeq (tIfS (tTest (tOp rEq (tVar 6) (tCB rLenX (tCons (tVar 1) tNil))))
  (tRet (tC .non))
  tNext)
  (tRet (tTup (tCons (tSl rSlX (tOp rAddX (tVar 4) (tVar 3)) (tPart (tC (.int 1))) tNoPart) (tCons (tVar 6) tNil))))))))
abbrev n_ways_from : List Str := ["windows", "word", "state", "found", "letter", "other"]
def t_ways_from (K : Fg) : TS := (tSeq (tAsg (tLst tNil) (gName 3))
  (tSeq (tFor (iStr (tCall (sp_following K) [] E0 (tCons (tVar 0) (tCons (tOp (rIxT K) (tVar 2) (tC (.int 0))) tNil)))) (gName 4)
  (tSeq (tAsg (tCall (sp_way K) [] E0 (tCons (tVar 0) (tCons (tVar 1) (tCons (tVar 2) (tCons (tVar 4) tNil))))) (gName 5))
  (tIfS (tB (tNotN (tVar 5)))
  (tDrop (tBM K "list" rAppend (tVar 3) (tCons (tTup (tCons (tVar 4) (tCons (tVar 5) tNil))) tNil)))
  tNext)))
  (tRet (tVar 3))))
abbrev n_read_within : List Str := ["windows", "word", "piece", "states", "state", "letter"]
def t_read_within (K : Fg) : TS := (tSeq (tFor (iStr (tVar 2)) (gName 5)
  (tSeq (tIfS (tOr (tB (tIsN (tVar 4))) (tB (tDNotIn (tVar 4) (tVar 3))))
  (tRet (tC (.bl false)))
  tNext)
  (tAsg (tCall (sp_way K) [] E0 (tCons (tVar 0) (tCons (tVar 1) (tCons (tVar 4) (tCons (tVar 5) tNil))))) (gName 4))))
  (tRet (tAndV (tNotN (tVar 4)) (tDIn (tVar 4) (tVar 3)))))
abbrev n_can_read : List Str := ["windows", "word", "piece", "states", "state"]
def t_can_read (K : Fg) : TS := (tRet (tCB (rAnyB K) (tCons (tLockE (tLc (iKeys (tVar 3)) (gName 4) tYes (tCall (sp_read_within K) [] E0 (tCons (tVar 0) (tCons (tVar 1) (tCons (tVar 2) (tCons (tVar 3) (tCons (tVar 4) tNil)))))) [4])) tNil)))
abbrev n_path_to : List Str := ["ways", "states", "start", "goals", "seen", "order", "at", "state", "letter", "other"]
def t_path_to (K : Fg) : TS := (tSeq (tAsg (tDisp1 (tVar 2) (tC (.str (Str.ofString "")))) (gName 4))
  (tSeq (tAsg (tLst (tCons (tVar 2) tNil)) (gName 5))
  (tSeq (tAsg (tC (.int 0)) (gName 6))
  (tSeq (tWhile (tTest (tOp rLtI (tVar 6) (tCB (rLenQ K) (tCons (tVar 5) tNil))))
  (tSeq (tAsg (tOp (rIxL K) (tVar 5) (tVar 6)) (gName 7))
  (tSeq (tIfS (tB (tDIn (tVar 7) (tVar 3)))
  (tRet (tTup (tCons (tDGet (tVar 4) (tVar 7)) (tCons (tVar 7) tNil))))
  tNext)
  (tSeq (tFor (iList K (tDGet (tVar 0) (tVar 7))) (gTup K 2 (gCons (gName 8) (gCons (gName 9) gNil)))
  (tIfS (tAnd (tB (tDIn (tVar 9) (tVar 1))) (tB (tDNotIn (tVar 9) (tVar 4))))
  (tSeq (sDPut (tVar 4) (tVar 9) (tOp rAddX (tDGet (tVar 4) (tVar 7)) (tVar 8)))
  (tDrop (tBM K "list" rAppend (tVar 5) (tCons (tVar 9) tNil))))
  tNext))
  (tAsg (tOp rAddI (tVar 6) (tC (.int 1))) (gName 6))))))
  (tRet (tC .non))))))
abbrev n_circle_within : List Str := ["windows", "word", "pieces", "ways", "states", "start", "text", "state", "piece", "goals", "other", "letters", "letter"]
def t_circle_within (K : Fg) : TS := (tSeq (tAsg (tOp (rIxL K) (tCB rSortD (tCons (tVar 4) tNil)) (tC (.int 0))) (gName 5))
  (tSeq (tAsg (tC (.str (Str.ofString ""))) (gName 6))
  (tSeq (tAsg (tVar 5) (gName 7))
  (tSeq (tFor (iTup K (tVar 2)) (gName 8)
  (tSeq (tAsg tDNewT (gName 9))
  (tSeq (tLock (tFor (iKeys (tVar 4)) (gName 10)
  (tIfS (tB (tCall (sp_read_within K) [] E0 (tCons (tVar 0) (tCons (tVar 1) (tCons (tVar 8) (tCons (tVar 4) (tCons (tVar 10) tNil)))))))
  (sDPut (tVar 9) (tVar 10) (tC (.bl true)))
  tNext)))
  (tSeq (tAsg (tCall (sp_path_to K) [] E0 (tCons (tVar 3) (tCons (tVar 4) (tCons (tVar 7) (tCons (tVar 9) tNil))))) (gTup K 2 (gCons (gName 11) (gCons (gName 7) gNil))))
  (tSeq (tAsg (tOp rAddX (tOp rAddX (tVar 6) (tVar 11)) (tVar 8)) (gName 6))
  (tFor (iStr (tVar 8)) (gName 12)
  (tAsg (tCall (sp_way K) [] E0 (tCons (tVar 0) (tCons (tVar 1) (tCons (tVar 7) (tCons (tVar 12) tNil))))) (gName 7))))))))
  (tSeq (tAsg (tCall (sp_path_to K) [] E0 (tCons (tVar 3) (tCons (tVar 4) (tCons (tVar 7) (tCons (tDisp1 (tVar 5) (tC (.bl true))) tNil))))) (gTup K 2 (gCons (gName 11) (gCons (gName 7) gNil))))
  (tRet (tOp rAddX (tVar 6) (tVar 11))))))))
abbrev n_grouped : List Str := ["numbers", "many", "groups", "state", "k"]
def t_grouped (K : Fg) : TS := (tSeq (tAsg (tLc (iRng1 (tCons (tVar 1) tNil)) (gName 4) tYes tDNewT [4]) (gName 2))
  (tSeq (tLock (tFor (iKeys (tVar 0)) (gName 3)
  (sDPut (tOp (rIxL K) (tVar 2) (tDGet (tVar 0) (tVar 3))) (tVar 3) (tC (.bl true)))))
  (tRet (tVar 2))))
abbrev n_circle_decision : List Str := ["pieces", "windows", "word", "ways", "state", "numbers", "many", "groups", "gaps", "level", "missing", "levels", "k", "gram", "matched"]
def t_circle_decision (K : Fg) : TS := (tSeq (tAsg tDNewT (gName 3))
  (tSeq (tFor (iTup K (tCall (sp_state_list K) [] E0 (tCons (tVar 1) (tCons (tVar 2) tNil)))) (gName 4)
  (sDPut (tVar 3) (tVar 4) (tCall (sp_ways_from K) [] E0 (tCons (tVar 1) (tCons (tVar 2) (tCons (tVar 4) tNil))))))
  (tSeq (tAsg (tCall (sp_components_of K) [] E0 (tCons (tVar 3) tNil)) (gTup K 2 (gCons (gName 5) (gCons (gName 6) gNil))))
  (tSeq (tAsg (tCall (sp_grouped K) [] E0 (tCons (tVar 5) (tCons (tVar 6) tNil))) (gName 7))
  (tSeq (tAsg (tLst tNil) (gName 8))
  (tSeq (tFor (iRng1 (tCons (tVar 6) tNil)) (gName 9)
  (tSeq (tAsg (tLc (iRng1 (tCons (tCB (rLenQ K) (tCons (tVar 0) tNil)) tNil)) (gName 12) (tNot (tB (tCall (sp_can_read K) [] E0 (tCons (tVar 1) (tCons (tVar 2) (tCons (tOp (rIxT K) (tVar 0) (tVar 12)) (tCons (tOp (rIxL K) (tVar 7) (tVar 9)) tNil))))))) (tVar 12) [12]) (gName 10))
  (tSeq (tIfS (tTest (tOp rEq (tCB (rLenQ K) (tCons (tVar 10) tNil)) (tC (.int 0))))
  (tRet (tTup (tCons (tC (.str (Str.ofString "lacking"))) (tCons (tCall (sp_circle_within K) [] E0 (tCons (tVar 1) (tCons (tVar 2) (tCons (tVar 0) (tCons (tVar 3) (tCons (tOp (rIxL K) (tVar 7) (tVar 9)) tNil)))))) tNil))))
  tNext)
  (tDrop (tBM K "list" rAppend (tVar 8) (tCons (tTup (tCons (tVar 9) (tCons (tOp (rIxL K) (tVar 10) (tC (.int 0))) tNil))) tNil))))))
  (tSeq (tAsg (tCB (rTupQ K) (tCons (tLc (iTup K (tCall (sp_state_list K) [] E0 (tCons (tVar 1) (tCons (tVar 2) tNil)))) (gTup K 2 (gCons (gName 13) (gCons (gName 14) gNil))) tYes (tTup (tCons (tVar 13) (tCons (tVar 14) (tCons (tDGet (tVar 5) (tTup (tCons (tVar 13) (tCons (tVar 14) tNil)))) tNil)))) [13, 14]) tNil)) (gName 11))
  (tRet (tTup (tCons (tC (.str (Str.ofString "always"))) (tCons (tTup (tCons (tVar 11) (tCons (tCB (rTupQ K) (tCons (tVar 8) tNil)) tNil))) tNil)))))))))))
abbrev n_decided : List Str := ["pieces", "grain", "word", "shape", "windows"]
def t_decided (K : Fg) : TS := (tSeq (tAsg (tCall (sp_window_list K) [] E0 (tCons (tVar 0) (tCons (tVar 1) tNil))) (gName 4))
  (tSeq (tIfS (tTest (tOp rEq (tVar 3) (tC (.str (Str.ofString "circle")))))
  (tRet (tCall (sp_circle_decision K) [] E0 (tCons (tVar 0) (tCons (tVar 4) (tCons (tVar 2) tNil)))))
  tNext)
  tNever))
abbrev n_check_question : List Str := ["pieces", "grain", "shape"]
def t_check_question (K : Fg) : TS := (tSeq (tDrop (tCall (sp_check_shards K) [] E0 (tCons (tVar 0) (tCons (tVar 1) tNil))))
  (tDrop (tCall (sp_check_shape K) [] E0 (tCons (tVar 2) tNil))))
abbrev n_decide : List Str := ["pieces", "grain", "word", "shape"]
def t_decide (K : Fg) : TS := (tSeq (tDrop (tCall (sp_check_question K) [] E0 (tCons (tVar 0) (tCons (tVar 1) (tCons (tVar 3) tNil)))))
  (tSeq (tDrop (tCall (sp_check_word K) [] E0 (tCons (tVar 2) tNil)))
  (tSeq (tIfS (tTest (tOp rEq (tVar 3) (tC (.str (Str.ofString "line")))))
  tNever
  tNext)
  (tRet (tCall (sp_decided K) [] E0 (tCons (tVar 0) (tCons (tVar 1) (tCons (tVar 2) (tCons (tVar 3) tNil)))))))))
abbrev n_example : List Str := ["pieces", "grain", "shape", "answer", "found"]
def t_example (K : Fg) : TS := (tSeq (tDrop (tCall (sp_check_question K) [] E0 (tCons (tVar 0) (tCons (tVar 1) (tCons (tVar 2) tNil)))))
  (tSeq (tIfS (tTest (tOp rEq (tVar 2) (tC (.str (Str.ofString "line")))))
  tNever
  tNext)
  (tSeq (tAsg (tCall (sp_decided K) [] E0 (tCons (tVar 0) (tCons (tVar 1) (tCons (tC (.str (Str.ofString " "))) (tCons (tVar 2) tNil))))) (gTup K 2 (gCons (gName 3) (gCons (gName 4) gNil))))
  (tSeq (tIfS (tTest (tOp rEq (tVar 3) (tC (.str (Str.ofString "lacking")))))
  (tRet (tVar 4))
  tNext)
  (tRet (tC .non))))))
abbrev n_law_begin : List Str := ["_law_script", "_law_seed", "_law_cell"]
def t_law_begin (K : Fg) : TS := (tSeq (tAsg (tC (.int 1)) (gName 1))
  (tSeq (tFor (iList K (tVar 0)) (gName 2)
  (tAsg (tOp rModI (tOp rAddI (tOp rAddI (tOp rMulI (tVar 1) (tC (.int 69621))) (tOp rModI (tCB rIntI (tCons (tVar 2) tNil)) (tC (.int 2147483629)))) (tC (.int 7))) (tC (.int 2147483647))) (gName 1)))
  (tRet (tLst (tCons (tCB (rListQ K) (tCons (tVar 0) tNil)) (tCons (tC (.int 0)) (tCons (tC (.int 0)) (tCons (tVar 1) tNil))))))))
abbrev n_law_take : List Str := ["_law_d", "_law_many", "_law_small", "_law_digit"]
def t_law_take (K : Fg) : TS := (tSeq (tIfS (tAnd (tTest (tOp rEq (tOp (rIxL K) (tVar 0) (tC (.int 2))) (tC (.int 0)))) (tTest (tOp rLtI (tOp (rIxL K) (tVar 0) (tC (.int 1))) (tCB (rLenQ K) (tCons (tOp (rIxL K) (tVar 0) (tC (.int 0))) tNil)))))
  (tSeq (tAsg (tCB rAbsI (tCons (tCB rIntI (tCons (tOp (rIxL K) (tOp (rIxL K) (tVar 0) (tC (.int 0))) (tOp (rIxL K) (tVar 0) (tC (.int 1)))) tNil)) tNil)) (gSub (tVar 0) (tC (.int 2)) rSetL))
  (tSeq (tAsg (tOp rAddI (tOp (rIxL K) (tVar 0) (tC (.int 1))) (tC (.int 1))) (gSub (tVar 0) (tC (.int 1)) rSetL))
  (tIfS (tTest (tOp rLtI (tOp (rIxL K) (tVar 0) (tC (.int 2))) (tOp rPowI (tC (.int 10)) (tC (.int 18)))))
  (tSeq (tAsg (tCB rIntI (tCons (tOp (rIxL K) (tVar 0) (tC (.int 2))) tNil)) (gName 2))
  (tSeq (tAsg (tC (.int 0)) (gSub (tVar 0) (tC (.int 2)) rSetL))
  (tRet (tOp rModI (tVar 2) (tVar 1)))))
  tNext)))
  tNext)
  (tSeq (tIfS (tTest (tOp rGtI (tOp (rIxL K) (tVar 0) (tC (.int 2))) (tC (.int 0))))
  (tSeq (tAsg (tOp rModI (tCB rIntI (tCons (tOp (rIxL K) (tVar 0) (tC (.int 2))) tNil)) (tVar 1)) (gName 3))
  (tSeq (tAsg (tOp rDivI (tCB rIntI (tCons (tOp (rIxL K) (tVar 0) (tC (.int 2))) tNil)) (tVar 1)) (gSub (tVar 0) (tC (.int 2)) rSetL))
  (tRet (tVar 3))))
  tNext)
  (tSeq (tAsg (tOp rModI (tCB rIntI (tCons (tOp rAddI (tOp rMulI (tOp (rIxL K) (tVar 0) (tC (.int 3))) (tC (.int 48271))) (tC (.int 11))) tNil)) (tC (.int 2147483647))) (gSub (tVar 0) (tC (.int 3)) rSetL))
  (tRet (tOp rModI (tCB rIntI (tCons (tOp rDivI (tOp (rIxL K) (tVar 0) (tC (.int 3))) (tC (.int 3))) tNil)) (tVar 1))))))
abbrev n_law_letters : List Str := []
def t_law_letters (K : Fg) : TS := (tRet (tC (.str (Str.ofString "!#$&()*+,-./0123456789:;<=>?@ABCDEFGHIJKLMNOPQRSTUVWXYZ[]^_abcdefghijklmnopqrstuvwxyz{|}~"))))
abbrev n_law_signs : List Str := ["_law_d", "_law_menu", "_law_signs_here", "_law_at"]
def t_law_signs (K : Fg) : TS := (tSeq (tAsg (tTup (tCons (tC (.str (Str.ofString "ab"))) (tCons (tC (.str (Str.ofString "abc"))) (tCons (tC (.str (Str.ofString "ba"))) (tCons (tC (.str (Str.ofString "zy0"))) (tCons (tC (.str (Str.ofString "+A"))) (tCons (tC (.str (Str.ofString "abcd"))) tNil))))))) (gName 1))
  (tSeq (tAsg (tOp (rIxT K) (tVar 1) (tCall (sp_law_take K) [] E0 (tCons (tVar 0) (tCons (tC (.int 6)) tNil)))) (gName 2))
  (tSeq (tIfS (tTest (tOp rEq (tCall (sp_law_take K) [] E0 (tCons (tVar 0) (tCons (tC (.int 4)) tNil))) (tC (.int 1))))
  (tSeq (tAsg (tCall (sp_law_take K) [] E0 (tCons (tVar 0) (tCons (tC (.int 80)) tNil))) (gName 3))
  (tAsg (tSl rSlX (tCall (sp_law_letters K) [] E0 tNil) (tPart (tVar 3)) (tPart (tOp rAddI (tOp rAddI (tVar 3) (tC (.int 1))) (tCall (sp_law_take K) [] E0 (tCons (tVar 0) (tCons (tC (.int 5)) tNil)))))) (gName 2)))
  tNext)
  (tRet (tVar 2)))))
abbrev n_law_text : List Str := ["_law_d", "_law_signs_here", "_law_size", "_law_k"]
def t_law_text (K : Fg) : TS := (tRet (tM1 (rJoinX K) (tC (.str (Str.ofString ""))) (tLc (iRng1 (tCons (tVar 2) tNil)) (gName 3) tYes (tOp rIxX (tVar 1) (tCall (sp_law_take K) [] E0 (tCons (tVar 0) (tCons (tCB rLenX (tCons (tVar 1) tNil)) tNil)))) [3])))
abbrev n_law_rich : List Str := ["_law_d", "_law_signs_here", "_law_size", "_law_text_here", "_law_menu", "_law_at"]
def t_law_rich (K : Fg) : TS := (tSeq (tAsg (tCall (sp_law_text K) [] E0 (tCons (tVar 0) (tCons (tVar 1) (tCons (tOp rAddI (tC (.int 1)) (tCall (sp_law_take K) [] E0 (tCons (tVar 0) (tCons (tC (.int 4)) tNil)))) tNil)))) (gName 3))
  (tSeq (tWhile (tTest (tOp rLtI (tCB rLenX (tCons (tVar 3) tNil)) (tVar 2)))
  (tSeq (tAsg (tCall (sp_law_take K) [] E0 (tCons (tVar 0) (tCons (tC (.int 3)) tNil))) (gName 4))
  (tIfS (tTest (tOp rEq (tVar 4) (tC (.int 0))))
  (tAsg (tOp rAddX (tVar 3) (tVar 3)) (gName 3))
  (tIfS (tTest (tOp rEq (tVar 4) (tC (.int 1))))
  (tSeq (tAsg (tCall (sp_law_take K) [] E0 (tCons (tVar 0) (tCons (tCB rLenX (tCons (tVar 3) tNil)) tNil))) (gName 5))
  (tAsg (tOp rAddX (tVar 3) (tSl rSlX (tVar 3) (tPart (tVar 5)) (tPart (tOp rAddI (tVar 5) (tC (.int 3)))))) (gName 3)))
  (tAsg (tOp rAddX (tVar 3) (tOp rIxX (tVar 1) (tCall (sp_law_take K) [] E0 (tCons (tVar 0) (tCons (tCB rLenX (tCons (tVar 1) tNil)) tNil))))) (gName 3))))))
  (tRet (tSl rSlX (tVar 3) tNoPart (tPart (tVar 2))))))
abbrev n_law_round : List Str := ["_law_circle", "_law_start", "_law_count", "_law_k"]
def t_law_round (K : Fg) : TS := (tRet (tM1 (rJoinX K) (tC (.str (Str.ofString ""))) (tLc (iRng1 (tCons (tVar 2) tNil)) (gName 3) tYes (tOp rIxX (tVar 0) (tOp rModI (tCB rIntI (tCons (tOp rAddI (tVar 1) (tVar 3)) tNil)) (tCB rLenX (tCons (tVar 0) tNil)))) [3])))
abbrev n_law_on_circle : List Str := ["_law_circle", "_law_word_here", "_law_p"]
def t_law_on_circle (K : Fg) : TS := (tRet (tOp rGtI (tCB (rLenQ K) (tCons (tLc (iRng1 (tCons (tCB rLenX (tCons (tVar 0) tNil)) tNil)) (gName 2) (tTest (tOp rEq (tCall (sp_law_round K) [] E0 (tCons (tVar 0) (tCons (tVar 2) (tCons (tCB rLenX (tCons (tVar 1) tNil)) tNil)))) (tVar 1))) (tVar 2) [2]) tNil)) (tC (.int 0))))
abbrev n_law_windows : List Str := ["_law_pieces", "_law_grain", "_law_found", "_law_piece", "_law_p"]
def t_law_windows (K : Fg) : TS := (tSeq (tAsg (tLst tNil) (gName 2))
  (tSeq (tFor (iTup K (tVar 0)) (gName 3)
  (tFor (iRng1 (tCons (tOp rAddI (tOp rSubI (tCB rLenX (tCons (tVar 3) tNil)) (tVar 1)) (tC (.int 1))) tNil)) (gName 4)
  (tIfS (tTest (tOp (rIn K true) (tSl rSlX (tVar 3) (tPart (tVar 4)) (tPart (tOp rAddI (tVar 4) (tVar 1)))) (tVar 2)))
  (tDrop (tBM K "list" rAppend (tVar 2) (tCons (tSl rSlX (tVar 3) (tPart (tVar 4)) (tPart (tOp rAddI (tVar 4) (tVar 1)))) tNil)))
  tNext)))
  (tRet (tCB (rSortX K) (tCons (tVar 2) tNil)))))
abbrev n_law_explains : List Str := ["_law_pieces", "_law_grain", "_law_text_here", "_law_shape", "_law_windows_here", "_law_piece", "_law_p"]
def t_law_explains (K : Fg) : TS := (tSeq (tAsg (tCall (sp_law_windows K) [] E0 (tCons (tVar 0) (tCons (tVar 1) tNil))) (gName 4))
  (tSeq (tIfS (tTest (tOp rEq (tVar 3) (tC (.str (Str.ofString "circle")))))
  (tSeq (tIfS (tOr (tTest (tOp rEq (tVar 2) (tC (.str (Str.ofString ""))))) (tNot (tB (tCB (rAllB K) (tCons (tLc (iRng1 (tCons (tCB rLenX (tCons (tVar 2) tNil)) tNil)) (gName 6) tYes (tOp (rIn K false) (tCall (sp_law_round K) [] E0 (tCons (tVar 2) (tCons (tVar 6) (tCons (tVar 1) tNil)))) (tVar 4)) [6]) tNil)))))
  (tRet (tC (.bl false)))
  tNext)
  (tRet (tCB (rAllB K) (tCons (tLc (iTup K (tVar 0)) (gName 5) tYes (tCall (sp_law_on_circle K) [] E0 (tCons (tVar 2) (tCons (tVar 5) tNil))) [5]) tNil))))
  tNext)
  (tSeq tNever
  tNever)))
abbrev n_law_cut : List Str := ["_law_d", "_law_text_here", "_law_grain", "_law_shape", "_law_many", "_law_pieces", "_law_step", "_law_at", "_law_size", "_law_order"]
def t_law_cut (K : Fg) : TS := (tSeq (tAsg (tLst tNil) (gName 5))
  (tSeq (tIfS (tTest (tOp rEq (tVar 3) (tC (.str (Str.ofString "circle")))))
  (tSeq (tAsg (tOp rAddI (tC (.int 1)) (tCall (sp_law_take K) [] E0 (tCons (tVar 0) (tCons (tC (.int 3)) tNil)))) (gName 6))
  (tSeq (tAsg (tC (.int 0)) (gName 7))
  (tWhile (tTest (tOp rLtI (tVar 7) (tCB rLenX (tCons (tVar 1) tNil))))
  (tSeq (tAsg (tOp rAddI (tOp rAddI (tOp rSubI (tVar 2) (tC (.int 1))) (tVar 6)) (tCall (sp_law_take K) [] E0 (tCons (tVar 0) (tCons (tC (.int 3)) tNil)))) (gName 8))
  (tSeq (tDrop (tBM K "list" rAppend (tVar 5) (tCons (tCall (sp_law_round K) [] E0 (tCons (tVar 1) (tCons (tVar 7) (tCons (tCB rMinI (tCons (tC (.int 60)) (tCons (tCB rMaxI (tCons (tVar 2) (tCons (tVar 8) tNil))) tNil))) tNil)))) tNil)))
  (tAsg (tOp rAddI (tVar 7) (tVar 6)) (gName 7)))))))
  tNever)
  (tSeq (tIfS (tTest (tOp rEq (tCB (rLenQ K) (tCons (tVar 5) tNil)) (tC (.int 0))))
  (tDrop (tBM K "list" rAppend (tVar 5) (tCons (tCall (sp_law_round K) [] E0 (tCons (tVar 1) (tCons (tC (.int 0)) (tCons (tVar 2) tNil)))) tNil)))
  tNext)
  (tSeq (tAsg (tCall (sp_law_take K) [] E0 (tCons (tVar 0) (tCons (tCB (rLenQ K) (tCons (tVar 5) tNil)) tNil))) (gName 9))
  (tRet (tCB (rTupQ K) (tCons (tSl (rSlL K) (tOp rCat (tSl (rSlL K) (tVar 5) (tPart (tVar 9)) tNoPart) (tSl (rSlL K) (tVar 5) tNoPart (tPart (tVar 9)))) tNoPart (tPart (tVar 4))) tNil)))))))
abbrev n_law_shards : List Str := ["_law_d", "_law_shape", "_law_signs_here", "_law_grain", "_law_text_here", "_law_pieces"]
def t_law_shards (K : Fg) : TS := (tSeq (tAsg (tCall (sp_law_signs K) [] E0 (tCons (tVar 0) tNil)) (gName 2))
  (tSeq (tAsg (tOp rAddI (tC (.int 1)) (tCall (sp_law_take K) [] E0 (tCons (tVar 0) (tCons (tC (.int 3)) tNil)))) (gName 3))
  (tSeq (tAsg (tCall (sp_law_rich K) [] E0 (tCons (tVar 0) (tCons (tVar 2) (tCons (tOp rAddI (tVar 3) (tCall (sp_law_take K) [] E0 (tCons (tVar 0) (tCons (tC (.int 7)) tNil)))) tNil)))) (gName 4))
  (tSeq (tAsg (tCall (sp_law_cut K) [] E0 (tCons (tVar 0) (tCons (tVar 4) (tCons (tVar 3) (tCons (tVar 1) (tCons (tC (.int 8)) tNil)))))) (gName 5))
  (tSeq (tIfS (tTest (tOp rEq (tCall (sp_law_take K) [] E0 (tCons (tVar 0) (tCons (tC (.int 4)) tNil))) (tC (.int 1))))
  (tAsg (tOp (rCatT K) (tVar 5) (tTup (tCons (tCall (sp_law_text K) [] E0 (tCons (tVar 0) (tCons (tVar 2) (tCons (tOp rAddI (tVar 3) (tCall (sp_law_take K) [] E0 (tCons (tVar 0) (tCons (tC (.int 3)) tNil)))) tNil)))) tNil))) (gName 5))
  tNext)
  (tRet (tTup (tCons (tSl (rSlA K) (tVar 5) tNoPart (tPart (tC (.int 8)))) (tCons (tVar 3) (tCons (tVar 4) (tCons (tVar 2) tNil)))))))))))
abbrev n_law_word : List Str := ["_law_d", "_law_pieces", "_law_text_here", "_law_signs_here", "_law_most", "_law_menu", "_law_size", "_law_piece", "_law_at"]
def t_law_word (K : Fg) : TS := (tSeq (tAsg (tCall (sp_law_take K) [] E0 (tCons (tVar 0) (tCons (tC (.int 5)) tNil))) (gName 5))
  (tSeq (tAsg (tOp rAddI (tC (.int 1)) (tCall (sp_law_take K) [] E0 (tCons (tVar 0) (tCons (tVar 4) tNil)))) (gName 6))
  (tSeq (tIfS (tTest (tOp rEq (tVar 5) (tC (.int 0))))
  (tRet (tCall (sp_law_text K) [] E0 (tCons (tVar 0) (tCons (tVar 3) (tCons (tVar 6) tNil)))))
  tNext)
  (tSeq (tIfS (tTest (tOp rEq (tVar 5) (tC (.int 1))))
  (tSeq (tAsg (tOp (rIxT K) (tVar 1) (tCall (sp_law_take K) [] E0 (tCons (tVar 0) (tCons (tCB (rLenQ K) (tCons (tVar 1) tNil)) tNil)))) (gName 7))
  (tSeq (tAsg (tCall (sp_law_take K) [] E0 (tCons (tVar 0) (tCons (tCB rLenX (tCons (tVar 7) tNil)) tNil))) (gName 8))
  (tRet (tSl rSlX (tVar 7) (tPart (tVar 8)) (tPart (tOp rAddI (tVar 8) (tVar 6)))))))
  tNext)
  (tSeq (tIfS (tTest (tOp rEq (tVar 5) (tC (.int 2))))
  (tRet (tOp rAddX (tCall (sp_law_round K) [] E0 (tCons (tVar 2) (tCons (tCall (sp_law_take K) [] E0 (tCons (tVar 0) (tCons (tCB rLenX (tCons (tVar 2) tNil)) tNil))) (tCons (tVar 6) tNil)))) (tCall (sp_law_text K) [] E0 (tCons (tVar 0) (tCons (tVar 3) (tCons (tC (.int 1)) tNil))))))
  tNext)
  (tRet (tCall (sp_law_round K) [] E0 (tCons (tVar 2) (tCons (tCall (sp_law_take K) [] E0 (tCons (tVar 0) (tCons (tCB rLenX (tCons (tVar 2) tNil)) tNil))) (tCons (tVar 6) tNil))))))))))
abbrev n_law_walk : List Str := ["_law_d", "_law_pieces", "_law_grain", "_law_start", "_law_size", "_law_windows_here", "_law_text_here", "_law_k", "_law_gram", "_law_signs_here", "_law_window"]
def t_law_walk (K : Fg) : TS := (tSeq (tAsg (tCall (sp_law_windows K) [] E0 (tCons (tVar 1) (tCons (tVar 2) tNil))) (gName 5))
  (tSeq (tAsg (tVar 3) (gName 6))
  (tSeq (tFor (iRng1 (tCons (tVar 4) tNil)) (gName 7)
  (tSeq (tAsg (tIf (tTest (tOp rGtI (tVar 2) (tC (.int 1)))) (tSl rSlX (tVar 6) (tPart (tOp rAddI (tOp rSubI (tCB rLenX (tCons (tVar 6) tNil)) (tVar 2)) (tC (.int 1)))) tNoPart) (tC (.str (Str.ofString "")))) (gName 8))
  (tSeq (tAsg (tLc (iList K (tVar 5)) (gName 10) (tTest (tOp rEq (tSl rSlX (tVar 10) tNoPart (tPart (tUn uNegI (tC (.int 1))))) (tVar 8))) (tOp rIxX (tVar 10) (tUn uNegI (tC (.int 1)))) [10]) (gName 9))
  (tIfS (tTest (tOp rGtI (tCB (rLenQ K) (tCons (tVar 9) tNil)) (tC (.int 0))))
  (tAsg (tOp rAddX (tVar 6) (tOp (rIxL K) (tVar 9) (tCall (sp_law_take K) [] E0 (tCons (tVar 0) (tCons (tCB (rLenQ K) (tCons (tVar 9) tNil)) tNil))))) (gName 6))
  tNext))))
  (tRet (tVar 6)))))
abbrev n_law_joined : List Str := ["_law_d", "_law_pieces", "_law_grain", "_law_order", "_law_left", "_law_k", "_law_at", "_law_text_here", "_law_piece", "_law_n", "_law_found"]
def t_law_joined (K : Fg) : TS := (tSeq (tAsg (tLst tNil) (gName 3))
  (tSeq (tAsg (tCB (rListQ K) (tCons (tVar 1) tNil)) (gName 4))
  (tSeq (tFor (iRng1 (tCons (tCB (rLenQ K) (tCons (tVar 1) tNil)) tNil)) (gName 5)
  (tSeq (tAsg (tCall (sp_law_take K) [] E0 (tCons (tVar 0) (tCons (tCB (rLenQ K) (tCons (tVar 4) tNil)) tNil))) (gName 6))
  (tSeq (tDrop (tBM K "list" rAppend (tVar 3) (tCons (tOp (rIxL K) (tVar 4) (tVar 6)) tNil)))
  (tAsg (tOp rCat (tSl (rSlL K) (tVar 4) tNoPart (tPart (tVar 6))) (tSl (rSlL K) (tVar 4) (tPart (tOp rAddI (tVar 6) (tC (.int 1)))) tNoPart)) (gName 4)))))
  (tSeq (tAsg (tOp (rIxL K) (tVar 3) (tC (.int 0))) (gName 7))
  (tSeq (tFor (iList K (tSl (rSlL K) (tVar 3) (tPart (tC (.int 1))) tNoPart)) (gName 8)
  (tSeq (tAsg (tCall (sp_law_walk K) [] E0 (tCons (tVar 0) (tCons (tVar 1) (tCons (tVar 2) (tCons (tVar 7) (tCons (tCall (sp_law_take K) [] E0 (tCons (tVar 0) (tCons (tC (.int 4)) tNil))) tNil)))))) (gName 7))
  (tSeq (tAsg (tCB rMinI (tCons (tCB rLenX (tCons (tVar 7) tNil)) (tCons (tOp rSubI (tCB rLenX (tCons (tVar 8) tNil)) (tC (.int 1))) tNil))) (gName 9))
  (tSeq (tAsg (tLc (iRng1 (tCons (tOp rAddI (tVar 9) (tC (.int 1))) tNil)) (gName 5) (tTest (tOp rEq (tSl rSlX (tVar 7) (tPart (tOp rSubI (tCB rLenX (tCons (tVar 7) tNil)) (tVar 5))) tNoPart) (tSl rSlX (tVar 8) tNoPart (tPart (tVar 5))))) (tVar 5) [5]) (gName 10))
  (tAsg (tOp rAddX (tVar 7) (tSl rSlX (tVar 8) (tPart (tOp (rIxL K) (tVar 10) (tUn uNegI (tC (.int 1))))) tNoPart)) (gName 7))))))
  (tRet (tVar 7)))))))
abbrev n_law_closed : List Str := ["_law_d", "_law_pieces", "_law_grain", "_law_start", "_law_text_here", "_law_ends", "_law_n"]
def t_law_closed (K : Fg) : TS := (tSeq (tAsg (tCall (sp_law_walk K) [] E0 (tCons (tVar 0) (tCons (tVar 1) (tCons (tVar 2) (tCons (tVar 3) (tCons (tC (.int 14)) tNil)))))) (gName 4))
  (tSeq (tAsg (tLc (iRng2 (tCons (tC (.int 1)) (tCons (tCB rLenX (tCons (tVar 4) tNil)) tNil))) (gName 6) (tAnd (tTest (tOp rEq (tSl rSlX (tVar 4) (tPart (tVar 6)) (tPart (tOp rSubI (tOp rAddI (tVar 6) (tVar 2)) (tC (.int 1))))) (tSl rSlX (tVar 4) tNoPart (tPart (tOp rSubI (tVar 2) (tC (.int 1))))))) (tTest (tOp rLeI (tOp rSubI (tOp rAddI (tVar 6) (tVar 2)) (tC (.int 1))) (tCB rLenX (tCons (tVar 4) tNil))))) (tVar 6) [6]) (gName 5))
  (tRet (tIf (tTest (tOp rGtI (tCB (rLenQ K) (tCons (tVar 5) tNil)) (tC (.int 0)))) (tSl rSlX (tVar 4) tNoPart (tPart (tOp (rIxL K) (tVar 5) (tOp rSubI (tUn uNegI (tC (.int 1))) (tCall (sp_law_take K) [] E0 (tCons (tVar 0) (tCons (tCB (rLenQ K) (tCons (tVar 5) tNil)) tNil))))))) (tVar 4)))))
abbrev n_law : List Str := ["_law_script", "_law_d", "_law_pieces", "_law_grain", "_law_text_here", "_law_signs_here", "_law_word_here", "_law_answer", "_law_told", "_law_circles", "_law_k", "_law_found", "_law_circle"]
def t_law (K : Fg) : TS := (tSeq (tAsg (tCall (sp_law_begin K) [] E0 (tCons (tVar 0) tNil)) (gName 1))
  (tSeq (tAsg (tCall (sp_law_shards K) [] E0 (tCons (tVar 1) (tCons (tC (.str (Str.ofString "circle"))) tNil))) (gTup K 4 (gCons (gName 2) (gCons (gName 3) (gCons (gName 4) (gCons (gName 5) gNil))))))
  (tSeq (tAsg (tCall (sp_law_word K) [] E0 (tCons (tVar 1) (tCons (tVar 2) (tCons (tVar 4) (tCons (tVar 5) (tCons (tC (.int 7)) tNil)))))) (gName 6))
  (tSeq (tAsg (tCall (sp_decide K) [] E0 (tCons (tVar 2) (tCons (tVar 3) (tCons (tVar 6) (tCons (tC (.str (Str.ofString "circle"))) tNil))))) (gTup K 2 (gCons (gName 7) (gCons (gName 8) gNil))))
  (tSeq (tIfS (tTest (tOp rEq (tVar 7) (tC (.str (Str.ofString "lacking")))))
  (tRet (tAndV (tCall (sp_law_explains K) [] E0 (tCons (tVar 2) (tCons (tVar 3) (tCons (tVar 8) (tCons (tC (.str (Str.ofString "circle"))) tNil))))) (tNotV (tCall (sp_law_on_circle K) [] E0 (tCons (tVar 8) (tCons (tVar 6) tNil))))))
  tNext)
  (tSeq (tIfS (tTest (tOp rNe (tVar 7) (tC (.str (Str.ofString "always")))))
  (tRet (tC (.bl false)))
  tNext)
  (tSeq (tAsg (tLst (tCons (tVar 4) (tCons (tOp rAddX (tVar 4) (tVar 4)) (tCons (tCall (sp_law_joined K) [] E0 (tCons (tVar 1) (tCons (tVar 2) (tCons (tVar 3) tNil)))) (tCons (tCall (sp_law_text K) [] E0 (tCons (tVar 1) (tCons (tVar 5) (tCons (tOp rAddI (tC (.int 1)) (tCall (sp_law_take K) [] E0 (tCons (tVar 1) (tCons (tC (.int 6)) tNil)))) tNil)))) tNil))))) (gName 9))
  (tSeq (tFor (iRng1 (tCons (tC (.int 4)) tNil)) (gName 10)
  (tDrop (tBM K "list" rAppend (tVar 9) (tCons (tCall (sp_law_closed K) [] E0 (tCons (tVar 1) (tCons (tVar 2) (tCons (tVar 3) (tCons (tOp (rIxT K) (tVar 2) (tCall (sp_law_take K) [] E0 (tCons (tVar 1) (tCons (tCB (rLenQ K) (tCons (tVar 2) tNil)) tNil)))) tNil))))) tNil))))
  (tSeq (tDrop (tBM K "list" rAppend (tVar 9) (tCons (tCall (sp_law_closed K) [] E0 (tCons (tVar 1) (tCons (tVar 2) (tCons (tVar 3) (tCons (tOp (rIxL K) (tVar 9) (tC (.int 2))) tNil))))) tNil)))
  (tSeq (tAsg (tCall (sp_example K) [] E0 (tCons (tVar 2) (tCons (tVar 3) (tCons (tC (.str (Str.ofString "circle"))) tNil)))) (gName 11))
  (tSeq (tIfS (tB (tNotN (tVar 11)))
  (tDrop (tBM K "list" rAppend (tVar 9) (tCons (tVar 11) tNil)))
  tNext)
  (tSeq (tFor (iList K (tVar 9)) (gName 12)
  (tIfS (tAnd (tB (tCall (sp_law_explains K) [] E0 (tCons (tVar 2) (tCons (tVar 3) (tCons (tVar 12) (tCons (tC (.str (Str.ofString "circle"))) tNil)))))) (tNot (tB (tCall (sp_law_on_circle K) [] E0 (tCons (tVar 12) (tCons (tVar 6) tNil))))))
  (tRet (tC (.bl false)))
  tNext))
  (tRet (tC (.bl true)))))))))))))))
end Tk

/-! TkH -/
set_option maxRecDepth 100000
set_option maxHeartbeats 2000000
namespace Tk
open PySem PySem.Spec PyProof.Rows L2 Ts TL
/-! Helpers for the readings. -/
theorem if_no {c : Bool} {A B : Prop} (h : c = false) (x : B) : if c = true then A else B := by
  rw [h]; exact iteF x
theorem if_yes {c : Bool} {A B : Prop} (h : c = true) (x : A) : if c = true then A else B := by
  rw [h]; exact iteT x
theorem if_by {c : Bool} {A B : Prop} (x : c = true → A) (y : c = false → B) : if c = true then A else B := by
  cases c with
  | true => exact iteT (x rfl)
  | false => exact iteF (y rfl)

/-! ### slices -/
theorem sIx_m1 (n : Nat) : HT.sIx n n (some (-1)) = n - 1 := by
  show (if (-1 : Int) < 0 then ((-1 : Int) + (n : Int)).toNat else min (-1 : Int).toNat n) = n - 1
  rw [if_pos (by decide)]
  omega
theorem cutL_to (z : Tx) (k : Nat) : cutL z none (some (k : Int)) = z.take k := by
  unfold cutL
  rw [HT.sIx_none, HT.sIx_nat, List.drop_zero, Nat.sub_zero]
  by_cases h : k ≤ z.length
  · rw [Nat.min_eq_left h]
  · rw [Nat.min_eq_right (by omega), List.take_length, List.take_of_length_le (by omega)]
theorem cutL_from (z : Tx) (k : Nat) : cutL z (some (k : Int)) none = z.drop k := by
  unfold cutL
  rw [HT.sIx_none, HT.sIx_nat]
  by_cases h : k ≤ z.length
  · rw [Nat.min_eq_left h, List.take_of_length_le (by rw [List.length_drop]; omega)]
  · rw [Nat.min_eq_right (by omega), List.drop_length, List.drop_of_length_le (by omega)]
    simp
theorem cutL_init (z : Tx) : cutL z none (some (-1)) = z.dropLast := by
  unfold cutL
  rw [HT.sIx_none, sIx_m1, List.drop_zero, Nat.sub_zero, List.dropLast_eq_take]
theorem cutL_mid (z : Tx) (k n : Nat) (h : k + n ≤ z.length) : cutL z (some (k : Int)) (some ((k : Int) + (n : Int))) = (z.drop k).take n := by
  unfold cutL
  have e : ((k : Int) + (n : Int)) = ((k + n : Nat) : Int) := by omega
  rw [e, HT.sIx_nat, HT.sIx_nat, Nat.min_eq_left h, Nat.min_eq_left (show k ≤ z.length by omega)]
  congr 1
  omega
theorem cutV_to (z : List V) (k : Nat) : cutV z none (some (k : Int)) = z.take k := by
  unfold cutV
  rw [HT.sIx_none, HT.sIx_nat, List.drop_zero, Nat.sub_zero]
  by_cases h : k ≤ z.length
  · rw [Nat.min_eq_left h]
  · rw [Nat.min_eq_right (by omega), List.take_length, List.take_of_length_le (by omega)]
theorem cutV_from (z : List V) (k : Nat) : cutV z (some (k : Int)) none = z.drop k := by
  unfold cutV
  rw [HT.sIx_none, HT.sIx_nat]
  by_cases h : k ≤ z.length
  · rw [Nat.min_eq_left h, List.take_of_length_le (by rw [List.length_drop]; omega)]
  · rw [Nat.min_eq_right (by omega), List.drop_length, List.drop_of_length_le (by omega)]
    simp
theorem atI_m1 {α : Type} (xs : List α) (h : xs ≠ []) : atI xs (-1) = some (xs.getLast h) := by
  have e := List.dropLast_concat_getLast h
  conv => lhs; rw [← e]
  exact atI_last _ _

theorem tk_snoc {A : Type} {l : List A} {i : Nat} {x : A} (h : l[i]? = some x) : l.take (i + 1) = l.take i ++ [x] := by
  rw [List.take_add_one, h]; rfl

/-! ### in, not in -/
theorem flat_T (l : List Tx) : (l.map vT).all flatV = true := by
  rw [List.all_map]
  exact List.all_eq_true.mpr fun _ _ => rfl
theorem inV_T (x : Tx) : ∀ l : List Tx, inV (vT x) (l.map vT) = decide (x ∈ l)
  | [] => rfl
  | y :: l => by
    show (eqV (vT y) (vT x) || inV (vT x) (l.map vT)) = _
    rw [inV_T x l]
    show ((tS y == tS x) || _) = _
    by_cases e : y = x
    · subst e; simp
    · have h1 : (tS y == tS x) = false := beq_eq_false_iff_ne.mpr fun q => e (tS_inj q)
      rw [h1, Bool.false_or]
      have h2 : (x ∈ y :: l) ↔ x ∈ l := by
        rw [List.mem_cons]
        exact ⟨fun q => q.resolve_left fun z => e z.symm, .inr⟩
      simp only [h2]

/-! ### what a lock keeps -/
theorem rd_lock {H : Hp} {d a : Addr} {u t : HO} {o : Obj} (h : H d = some u) (mu : Mut (some u)) (r : Rd H a t) : Rd (upd H d (.frz o u)) a t := by
  by_cases e : a = d
  · subst e
    rcases r with r | ⟨o', r⟩
    · rw [h] at r; cases r
      exact .inr ⟨o, upd_same⟩
    · rw [h] at r; cases r
      exact mu.elim
  · rcases r with r | ⟨o', r⟩
    · exact .inl (by rw [upd_ne e]; exact r)
    · exact .inr ⟨o', by rw [upd_ne e]; exact r⟩
theorem sqT_lock {K : Fg} {H : Hp} {d a : Addr} {u : HO} {xs : List V} {o : Obj} (h : H d = some u) (mu : Mut (some u)) (r : SqT K H a xs) : SqT K (upd H d (.frz o u)) a xs := by
  rcases r with r | r
  · exact .inl (rd_lock h mu r)
  · exact .inr r
theorem at_lock {H : Hp} {d a : Addr} {u t : HO} {o : Obj} (h : H d = some u) (r : H a = some t) (ne : t ≠ u) : (upd H d (.frz o u)) a = some t := by
  rw [upd_ne (ne_of r h ne)]
  exact r
theorem isSt_lock {H : Hp} {d : Addr} {u : HO} {v : V} {s : Sta} {o : Obj} (h : H d = some u) (mu : Mut (some u)) (r : IsSt H v s) : IsSt (upd H d (.frz o u)) v s := by
  obtain ⟨a, e, r⟩ := r
  refine ⟨a, e, at_lock h r fun z => ?_⟩
  rw [← z] at mu
  exact mu
theorem isLs_lock {H : Hp} {d : Addr} {u : HO} {v : V} {p : Nat × Sta} {o : Obj} (h : H d = some u) (mu : Mut (some u)) (r : IsLs H v p) : IsLs (upd H d (.frz o u)) v p := by
  obtain ⟨a, z, e, r, q⟩ := r
  refine ⟨a, z, e, at_lock h r fun z => ?_, isSt_lock h mu q⟩
  rw [← z] at mu
  exact mu
theorem same_unlock {H H' : Hp} {d : Addr} {u x : HO} (h : H d = some u) (e : Same (upd H d x) H') : Same H (upd H' d u) := fun b o q => by
  by_cases hb : b = d
  · subst hb
    rw [h] at q; cases q
    exact upd_same
  · rw [upd_ne hb]
    exact e b o (by rw [upd_ne hb]; exact q)
theorem graph_lock {H : Hp} {d aw : Addr} {kvs : List (List Key × V)} {D : List Sta} {W : Sta → List (Nat × Sta)} {o : Obj} (h : H d = some (.dT kvs)) (g : Graph H aw D W) : Graph (upd H d (.frz o (.dT kvs))) aw D W := by
  refine ⟨?_, g.nd, g.few, g.deg, g.closed, g.short⟩
  obtain ⟨L, h1, h2⟩ := g.at_
  refine ⟨L, rd_lock h True.intro h1, fun s hs => ?_⟩
  obtain ⟨xs, h3, h4⟩ := h2 s hs
  exact ⟨xs, at_lock h h3 (by intro z; cases z), h4.mono fun _ _ r => isLs_lock h True.intro r⟩

/-! ### loops -/
section
variable {K : Fg} {g : TG} {tb : TS} {D : Ends} {σ : L2.St} {H : Hp}
theorem for_str {z : Tx} (Pv : Nat → L2.St → Hp → Prop) (h0 : Pv 0 σ H)
    (hs : ∀ i c σ H, z[i]? = some c → Pv i σ H → g (vT [c]) σ H fun σ2 H2 => tb { D with nx := Pv (i + 1), ct := Pv (i + 1), bk := D.nx } σ2 H2) (hd : ∀ σ H, Pv z.length σ H → D.nx σ H) :
    ∃ W : Nat → Nat → L2.St → Hp → Prop, (∃ m, W 0 m σ H) ∧ ∀ i m σ H, W i m σ H →
      ((Its (tS z)).stop i H ∧ D.nx σ H) ∨ ((Its (tS z)).go i H ∧ ∃ N : L2.St → Hp → Prop, (∀ σ' H', N σ' H' → ∃ m', m' < m ∧ W (i + 1) m' σ' H') ∧ ∀ x H', (Its (tS z)).yld i H x H' → g x σ H' fun σ2 H2 => tb { D with nx := N, ct := N, bk := D.nx } σ2 H2) := by
  have hsz : (tS z).cps.size = z.length := by show z.toArray.size = z.length; simp
  refine ⟨fun i m σ H => m = z.length - i ∧ i ≤ z.length ∧ Pv i σ H, ⟨z.length, by simp, Nat.zero_le _, h0⟩, ?_⟩
  rintro i m σ H ⟨rfl, hi, p⟩
  by_cases hlt : i < z.length
  · refine .inr ⟨by show i < (tS z).cps.size; rw [hsz]; exact hlt, Pv (i + 1), fun σ' H' p' => ⟨z.length - (i + 1), by omega, rfl, hlt, p'⟩, fun x H' y => ?_⟩
    obtain ⟨e, c, hc, ex⟩ := y
    subst e
    have hc' : z[i]? = some c := by
      have : z.toArray[i]? = some c := hc
      simpa using this
    rw [ex]
    exact hs i c σ _ hc' p
  · have e : i = z.length := by omega
    subst e
    exact .inl ⟨by show (tS z).cps.size ≤ z.length; rw [hsz]; exact Nat.le_refl _, hd σ H p⟩
/-- over the keys of a locked dict -/
theorem for_keys {d : Addr} {o : Obj} {S : List Sta} {f : Sta → V} (Pv : Nat → L2.St → Hp → Prop) (h0 : Pv 0 σ H) (hl : ∀ i σ H, Pv i σ H → H d = some (.frz o (.dT (dOf S f))))
    (hs : ∀ i s v σ H, S[i]? = some s → IsSt H v s → Pv i σ H → g v σ H fun σ2 H2 => tb { D with nx := Pv (i + 1), ct := Pv (i + 1), bk := D.nx } σ2 H2) (hd : ∀ σ H, Pv S.length σ H → D.nx σ H) :
    ∃ W : Nat → Nat → L2.St → Hp → Prop, (∃ m, W 0 m σ H) ∧ ∀ i m σ H, W i m σ H →
      ((Itkt d o (dOf S f)).stop i H ∧ D.nx σ H) ∨ ((Itkt d o (dOf S f)).go i H ∧ ∃ N : L2.St → Hp → Prop, (∀ σ' H', N σ' H' → ∃ m', m' < m ∧ W (i + 1) m' σ' H') ∧ ∀ x H', (Itkt d o (dOf S f)).yld i H x H' → g x σ H' fun σ2 H2 => tb { D with nx := N, ct := N, bk := D.nx } σ2 H2) := by
  refine ⟨fun i m σ H => m = S.length - i ∧ i ≤ S.length ∧ Pv i σ H, ⟨S.length, by simp, Nat.zero_le _, h0⟩, ?_⟩
  rintro i m σ H ⟨rfl, hi, p⟩
  have q := hl i σ H p
  by_cases hlt : i < S.length
  · refine .inr ⟨⟨q, by rw [dOf_len]; exact hlt⟩, Pv (i + 1), fun σ' H' p' => ⟨S.length - (i + 1), by omega, rfl, hlt, p'⟩, fun x H' y => ?_⟩
    obtain ⟨e, k, v, b, h1, h2, h3⟩ := y
    subst e
    obtain ⟨s, hs1, hk, _⟩ := dOf_get h1
    subst hk
    exact hs i s x σ _ hs1 ⟨b, h2, h3⟩ p
  · have e : i = S.length := by omega
    subst e
    exact .inl ⟨⟨q, by rw [dOf_len]; exact Nat.le_refl _⟩, hd σ H p⟩
/-- for x in d, d a dict of ours (it is locked meanwhile) -/
theorem s_forD {i : Nat} {d : Addr} {S : List Sta} {f : Sta → V} (hσ : σ[i]? = some (some (.ref d))) (hd0 : H d = some (.dT (dOf S f))) (Pv : Nat → L2.St → Hp → Prop)
    (h0 : ∀ o, Pv 0 σ (upd H d (.frz o (.dT (dOf S f)))))
    (hs : ∀ o i s v σ' H', S[i]? = some s → IsSt H' v s → H' d = some (.frz o (.dT (dOf S f))) → Pv i σ' H' → ∀ (rt : VK) (bk : L2.St → Hp → Prop), g v σ' H' fun σ2 H2 =>
      tb ⟨fun σ3 H3 => H3 d = some (.frz o (.dT (dOf S f))) ∧ Pv (i + 1) σ3 H3, rt, bk, fun σ3 H3 => H3 d = some (.frz o (.dT (dOf S f))) ∧ Pv (i + 1) σ3 H3⟩ σ2 H2)
    (hd : ∀ o σ' H', H' d = some (.frz o (.dT (dOf S f))) → Pv S.length σ' H' → D.nx σ' (upd H' d (.dT (dOf S f)))) : tLock (tFor (iKeys (tVar i)) g tb) D σ H := by
  refine ⟨d, _, hd0, True.intro, fun o => ?_⟩
  refine ⟨_, hσ, d, o, rfl, .inr ⟨_, upd_same, ?_⟩⟩
  exact for_keys (fun i σ' H' => H' d = some (.frz o (.dT (dOf S f))) ∧ Pv i σ' H') ⟨upd_same, h0 o⟩ (fun i σ' H' p => p.1) (fun i s v σ' H' h1 h2 p => hs o i s v σ' H' h1 h2 p.1 p.2 _ _) fun σ' H' p => ⟨p.1, hd o σ' H' p.1 p.2⟩
theorem for_rev {a : Addr} {xs : List V} (Pv : Nat → L2.St → Hp → Prop) (h0 : Pv 0 σ H) (hl : ∀ i σ H, i ≤ xs.length → Pv i σ H → SqL K H a xs)
    (hs : ∀ i x σ H, i < xs.length → xs[xs.length - 1 - i]? = some x → Pv i σ H → g x σ H fun σ2 H2 => tb { D with nx := Pv (i + 1), ct := Pv (i + 1), bk := D.nx } σ2 H2) (hd : ∀ σ H, Pv xs.length σ H → D.nx σ H) :
    ∃ W : Nat → Nat → L2.St → Hp → Prop, (∃ m, W 0 m σ H) ∧ ∀ i m σ H, W i m σ H →
      ((Itv K a xs.length).stop i H ∧ D.nx σ H) ∨ ((Itv K a xs.length).go i H ∧ ∃ N : L2.St → Hp → Prop, (∀ σ' H', N σ' H' → ∃ m', m' < m ∧ W (i + 1) m' σ' H') ∧ ∀ x H', (Itv K a xs.length).yld i H x H' → g x σ H' fun σ2 H2 => tb { D with nx := N, ct := N, bk := D.nx } σ2 H2) := by
  refine ⟨fun i m σ H => m = xs.length - i ∧ i ≤ xs.length ∧ Pv i σ H, ⟨xs.length, by simp, Nat.zero_le _, h0⟩, ?_⟩
  rintro i m σ H ⟨rfl, hi, p⟩
  have q := hl i σ H hi p
  by_cases hlt : i < xs.length
  · have hx : xs[xs.length - 1 - i]? = some xs[xs.length - 1 - i] := List.getElem?_eq_getElem (by omega)
    refine .inr ⟨⟨hlt, xs, _, q, hx⟩, Pv (i + 1), fun σ' H' p' => ⟨xs.length - (i + 1), by omega, rfl, hlt, p'⟩, fun x H' y => ?_⟩
    obtain ⟨e, y⟩ := y
    subst e
    exact hs i x σ _ hlt (y xs q) p
  · have e : i = xs.length := by omega
    subst e
    exact .inl ⟨Nat.le_refl _, hd σ H p⟩
end
/-- the keys of a locked dict, in a comprehension -/
theorem lc_keys {g : TG} {tt : TT} {te : TE} {vs : List Nat} {σ : L2.St} {H1 : Hp} {Dl d : Addr} {o : Obj} {S : List Sta} {f : Sta → V} {Qd : Hp → Prop} (Pv : Nat → Hp → Prop) (h0 : Pv 0 (upd H1 Dl (.lst []))) (hl : ∀ i H, Pv i H → H d = some (.frz o (.dT (dOf S f))))
    (hs : ∀ i s v H, S[i]? = some s → IsSt H v s → Pv i H → g v (wipe σ vs) H fun σ2 H2 => wipe σ2 vs = wipe σ vs ∧ tt σ2 H2 fun b H3 =>
      if b = true then te σ2 H3 fun y H4 => ∃ acc, H4 Dl = some (.lst acc) ∧ acc.length < sizeLine ∧ Pv (i + 1) (upd H4 Dl (.lst (acc ++ [y]))) else Pv (i + 1) H3) (hd : ∀ H, Pv S.length H → Qd H) :
    ∃ W : Nat → Nat → Hp → Prop, (∃ m, W 0 m (upd H1 Dl (.lst []))) ∧ ∀ i m H, W i m H →
      ((Itkt d o (dOf S f)).stop i H ∧ Qd H) ∨ ((Itkt d o (dOf S f)).go i H ∧ ∃ Nx : Hp → Prop, (∀ H', Nx H' → ∃ m', m' < m ∧ W (i + 1) m' H') ∧ ∀ x H', (Itkt d o (dOf S f)).yld i H x H' → g x (wipe σ vs) H' fun σ2 H2 => wipe σ2 vs = wipe σ vs ∧ tt σ2 H2 fun b H3 =>
        if b = true then te σ2 H3 fun y H4 => ∃ acc, H4 Dl = some (.lst acc) ∧ acc.length < sizeLine ∧ Nx (upd H4 Dl (.lst (acc ++ [y]))) else Nx H3) := by
  refine ⟨fun i m H => m = S.length - i ∧ i ≤ S.length ∧ Pv i H, ⟨S.length, by simp, Nat.zero_le _, h0⟩, ?_⟩
  rintro i m H ⟨rfl, hi, p⟩
  have q := hl i H p
  by_cases hlt : i < S.length
  · refine .inr ⟨⟨q, by rw [dOf_len]; exact hlt⟩, Pv (i + 1), fun H' p' => ⟨S.length - (i + 1), by omega, rfl, hlt, p'⟩, fun x H' y => ?_⟩
    obtain ⟨e, k, v, b, h1, h2, h3⟩ := y
    subst e
    obtain ⟨s, hs1, hk, _⟩ := dOf_get h1
    subst hk
    exact hs i s x _ hs1 ⟨b, h2, h3⟩ p
  · have e : i = S.length := by omega
    subst e
    exact .inl ⟨⟨q, by rw [dOf_len]; exact Nat.le_refl _⟩, hd H p⟩
end Tk

/-! TkP1 -/
set_option maxRecDepth 100000
set_option maxHeartbeats 2000000
namespace Tk
open PySem PySem.Spec PyProof.Rows L2 Ts TL
section
variable {K : Fg}
theorem pure_check_shards (vs : List V) (H : Hp) (Q : VK) (E : XK) (h : sp_check_shards K vs H Q E) : t_check_shards K { nx := fun _ H' => Q .non H', rt := Q } (start n_check_shards vs) H := by
  obtain ⟨v, ps, g, rfl, ⟨a, rfl, hT⟩, hS, q⟩ := h
  have g1 := hS.g1
  have g2 := hS.g2
  have hne := hS.ne
  have hfew := hS.few
  have hlen : (ps.map vT).length = ps.length := List.length_map _
  have hpos : 0 < ps.length := List.length_pos_iff.mpr hne
  refine ⟨_, rfl, _, _, rfl, rfl, _, rfl, ?_⟩
  refine if_no (decide_eq_false (by omega)) ?_
  refine ⟨_, rfl, _, _, rfl, rfl, _, rfl, ?_⟩
  refine if_no (decide_eq_false (by omega)) ?_
  refine ⟨_, rfl, a, _, rfl, .inr hT, rfl, _, rfl, ?_⟩
  refine if_no (decide_eq_false (fun e => by injection e with e; omega)) ?_
  refine ⟨_, rfl, a, _, rfl, .inr hT, _, _, rfl, rfl, _, rfl, ?_⟩
  refine if_no (decide_eq_false (by omega)) ?_
  refine ⟨_, rfl, a, rfl, ⟨_, hT⟩, for_tup (K := K) (a := a) (xs := ps.map vT) (fun i σ H' => H' = H ∧ ∃ x, σ = [some (.ref a), some (.int (g : Int)), x]) ⟨rfl, none, rfl⟩ (fun i σ H' _ ⟨e, _⟩ => by rw [e]; exact hT) ?_ ?_⟩
  · rintro i x σ H' hi ⟨rfl, y, rfl⟩
    rw [List.getElem?_map] at hi
    obtain ⟨p, hp, rfl⟩ := Option.map_eq_some_iff.mp hi
    obtain ⟨l1, l2⟩ := hS.len p (List.mem_of_getElem? hp)
    refine ⟨_, rfl, p, rfl, sz_of (by omega), _, rfl, _, _, rfl, rfl, _, rfl, ?_⟩
    refine if_no (decide_eq_false (by omega)) ?_
    refine ⟨_, rfl, p, rfl, sz_of (by omega), _, _, rfl, rfl, _, rfl, ?_⟩
    refine if_no (decide_eq_false (by omega)) ?_
    exact ⟨rfl, _, rfl⟩
  · rintro σ H' ⟨rfl, _⟩
    exact q
theorem pure_check_shape (vs : List V) (H : Hp) (Q : VK) (E : XK) (h : sp_check_shape K vs H Q E) : t_check_shape K { nx := fun _ H' => Q .non H', rt := Q } (start n_check_shape vs) H := by
  obtain ⟨rfl, q⟩ := h
  refine ⟨_, rfl, rfl, _, rfl, ?_⟩
  refine if_no (by decide +kernel) ?_
  exact q
theorem pure_check_word (vs : List V) (H : Hp) (Q : VK) (E : XK) (h : sp_check_word K vs H Q E) : t_check_word K { nx := fun _ H' => Q .non H', rt := Q } (start n_check_word vs) H := by
  obtain ⟨w, rfl, h1, h2, q⟩ := h
  refine ⟨_, rfl, rfl, _, rfl, ?_⟩
  refine if_no ?_ ?_
  · show decide (vT w = vT []) = false
    rw [vT_eq]
    exact decide_eq_false (fun e => by rw [e] at h1; cases h1)
  refine ⟨_, rfl, w, rfl, sz_of (by omega), _, _, rfl, rfl, _, rfl, ?_⟩
  refine if_no (decide_eq_false (by omega)) ?_
  exact q
theorem pure_check_question (vs : List V) (H : Hp) (Q : VK) (E : XK) (h : sp_check_question K vs H Q E) : t_check_question K { nx := fun _ H' => Q .non H', rt := Q } (start n_check_question vs) H := by
  obtain ⟨v, ps, g, rfl, hT, hS, q⟩ := h
  exact ⟨_, rfl, _, rfl, _, _, _, rfl, hT, hS, _, rfl, rfl, q⟩
/-! ### the windows -/
abbrev t_winfor (K : Fg) : TS := (tFor (iTup K (tVar 0)) (gName 3)
  (tFor (iRng1 (tCons (tOp rAddI (tOp rSubI (tCB rLenX (tCons (tVar 3) tNil)) (tVar 1)) (tC (.int 1))) tNil)) (gName 4)
  (tIfS (tTest (tOp (rIn K true) (tSl rSlX (tVar 3) (tPart (tVar 4)) (tPart (tOp rAddI (tVar 4) (tVar 1)))) (tVar 2)))
  (tDrop (tBM K "list" rAppend (tVar 2) (tCons (tSl rSlX (tVar 3) (tPart (tVar 4)) (tPart (tOp rAddI (tVar 4) (tVar 1)))) tNil)))
  tNext)))
theorem win_loop {D : Ends} {a l : Addr} {ps : List Tx} {g : Nat} {H : Hp} (hT : SqT K H a (ps.map vT)) (hS : Shards ps g) (hl : H l = none)
    (k : ∀ (fl : List Tx) (σ : L2.St) (H' : Hp), σ[2]? = some (some (.ref l)) → Same H H' → H' l = some (.lst (fl.map vT)) → Wins ps g fl → D.nx σ H') :
    t_winfor K D [some (.ref a), some (.int (g : Int)), some (.ref l), none, none] (upd H l (.lst [])) := by
  have g1 := hS.g1
  have g2 := hS.g2
  refine ⟨_, rfl, a, rfl, ⟨_, same_tup (same_new hl) hT⟩, for_tup (K := K) (a := a) (xs := ps.map vT) (fun i σ H' => ∃ (fl : List Tx) (y3 y4 : Option V), σ = [some (.ref a), some (.int (g : Int)), some (.ref l), y3, y4] ∧ Same H H' ∧
      H' l = some (.lst (fl.map vT)) ∧ fl.length ≤ 12 * i ∧ ∀ x, x ∈ fl ↔ ∃ j p, j < i ∧ ps[j]? = some p ∧ ∃ m, m + g ≤ p.length ∧ x = (p.drop m).take g)
    ⟨[], none, none, rfl, same_new hl, upd_same, Nat.zero_le _, fun x => ⟨fun h => by simp at h, fun ⟨j, p, hj, _⟩ => by omega⟩⟩
    (fun i σ H' _ ⟨_, _, _, _, e, _⟩ => same_tup e hT) ?_ ?_⟩
  · rintro i x σ H1 hi ⟨fl, y3, y4, rfl, s1, hL, hn, hm⟩
    rw [List.getElem?_map] at hi
    obtain ⟨p, hp, rfl⟩ := Option.map_eq_some_iff.mp hi
    obtain ⟨l1, l2⟩ := hS.len p (List.mem_of_getElem? hp)
    have hilt : i < 8 := Nat.lt_of_lt_of_le (List.getElem?_eq_some_iff.mp hp).1 hS.few
    refine ⟨_, rfl, p, rfl, sz_of (by omega), _, rfl, _, _, rfl, rfl, _, _, rfl, rfl, _, rfl, by omega, by omega, ?_⟩
    refine for_range (lo := 0) (n := ((p.length : Int) - (g : Int) + 1).toNat) (fun j σ H' => ∃ (fl' : List Tx) (y4 : Option V), σ = [some (.ref a), some (.int (g : Int)), some (.ref l), some (vT p), y4] ∧ Same H H' ∧
      H' l = some (.lst (fl'.map vT)) ∧ fl'.length ≤ 12 * i + j ∧ ∀ x, x ∈ fl' ↔ x ∈ fl ∨ ∃ m, m < j ∧ x = (p.drop m).take g)
      ⟨fl, y4, rfl, s1, hL, by omega, fun x => ⟨.inl, fun h => h.elim id fun ⟨m, hm, _⟩ => by omega⟩⟩ ?_ ?_
    · rintro j σ H2 hj ⟨fl', y4, rfl, s2, hL2, hn2, hm2⟩
      have ej : j + g ≤ p.length := by omega
      have e0 : (0 : Int) + (j : Int) = (j : Int) := by omega
      have ec : cutL p (some ((0 : Int) + (j : Int))) (some ((0 : Int) + (j : Int) + (g : Int))) = (p.drop j).take g := by rw [e0]; exact cutL_mid p j g ej
      refine ⟨_, rfl, _, rfl, _, rfl, _, rfl, _, rfl, _, _, rfl, rfl, _, rfl, p, rfl, sz_of (by omega), ?_⟩
      rw [ec]
      refine ⟨_, rfl, l, _, rfl, .inl (SqL.of hL2), rfl, flat_T _, _, rfl, ?_⟩
      rw [inV_T]
      refine if_by (fun hno => ?_) (fun hyes => ?_)
      · have hno' : (p.drop j).take g ∉ fl' := by simpa using hno
        refine ⟨_, rfl, .inl ⟨rfl, _, SqL.of hL2⟩, _, rfl, _, rfl, _, rfl, _, rfl, _, rfl, _, _, rfl, rfl, _, rfl, p, rfl, sz_of (by omega), ?_⟩
        rw [ec]
        refine ⟨l, _, _, rfl, rfl, hL2, by rw [List.length_map]; exact sz_lt (by omega), fl' ++ [(p.drop j).take g], _, rfl, same_mut s2 hl, ?_, ?_, ?_⟩
        · rw [upd_same, List.map_append]; rfl
        · rw [List.length_append, List.length_singleton]; omega
        · intro x
          rw [List.mem_append, List.mem_singleton, hm2]
          constructor
          · rintro ((h | ⟨m, h1, h2⟩) | h)
            · exact .inl h
            · exact .inr ⟨m, by omega, h2⟩
            · exact .inr ⟨j, by omega, h⟩
          · rintro (h | ⟨m, h1, h2⟩)
            · exact .inl (.inl h)
            · by_cases e : m = j
              · subst e; exact .inr h2
              · exact .inl (.inr ⟨m, by omega, h2⟩)
      · have hyes' : (p.drop j).take g ∈ fl' := by simpa using hyes
        refine ⟨fl', _, rfl, s2, hL2, by omega, fun x => ?_⟩
        rw [hm2]
        constructor
        · rintro (h | ⟨m, h1, h2⟩)
          · exact .inl h
          · exact .inr ⟨m, by omega, h2⟩
        · rintro (h | ⟨m, h1, h2⟩)
          · exact .inl h
          · by_cases e : m = j
            · subst e
              rw [h2]
              exact (hm2 _).mp hyes'
            · exact .inr ⟨m, by omega, h2⟩
    · rintro σ H2 ⟨fl', y4, rfl, s2, hL2, hn2, hm2⟩
      refine ⟨fl', _, y4, rfl, s2, hL2, by omega, fun x => ?_⟩
      rw [hm2, hm]
      constructor
      · rintro (⟨j, q, h1, h2, h3⟩ | ⟨m, h1, h2⟩)
        · exact ⟨j, q, by omega, h2, h3⟩
        · exact ⟨i, p, by omega, hp, m, by omega, h2⟩
      · rintro ⟨j, q, h1, h2, m, h3, h4⟩
        by_cases e : j = i
        · subst e
          rw [hp] at h2
          cases h2
          exact .inr ⟨m, by omega, h4⟩
        · exact .inl ⟨j, q, by omega, h2, m, h3, h4⟩
  · rintro σ H1 ⟨fl, y3, y4, rfl, s1, hL, hn, hm⟩
    rw [List.length_map] at hn
    have hf := hS.few
    refine k fl _ H1 rfl s1 hL ⟨fun x => ?_, by rw [List.length_map] at *; omega⟩
    rw [hm]
    constructor
    · rintro ⟨j, p, _, hp, m, h1, h2⟩
      exact ⟨p, List.mem_of_getElem? hp, m, h1, h2⟩
    · rintro ⟨p, hp, m, h1, h2⟩
      obtain ⟨j, hj, e⟩ := List.getElem_of_mem hp
      exact ⟨j, p, by rw [List.length_map]; exact hj, List.getElem?_eq_some_iff.mpr ⟨hj, e⟩, m, h1, h2⟩
theorem wins_perm {ps : List Tx} {g : Nat} {a b : List Tx} (h : Wins ps g a) (p : b.Perm a) : Wins ps g b := ⟨fun x => by rw [p.mem_iff]; exact h.mem x, by rw [p.length_eq]; exact h.few⟩
theorem pure_window_list (vs : List V) (H : Hp) (Q : VK) (E : XK) (h : sp_window_list K vs H Q E) : t_window_list K { nx := fun _ H' => Q .non H', rt := Q } (start n_window_list vs) H := by
  obtain ⟨v, ps, g, rfl, ⟨a, rfl, hT⟩, hS, q⟩ := h
  refine ⟨Nat.zero_le _, fun l hl => ?_⟩
  refine win_loop hT hS hl fun fl σ H' hσ s1 hL hW => ?_
  refine ⟨_, hσ, l, fl, rfl, SqL.of hL, Nat.le_trans hW.few (by decide), fun ys p hp hn => ?_⟩
  refine ⟨p, _, rfl, SqL.of upd_same, fun z hz => ?_⟩
  exact q ys z _ ((s1.trans (same_new hn)).trans (same_new hz)) upd_same (wins_perm hW hp)
theorem pure_law_windows (vs : List V) (H : Hp) (Q : VK) (E : XK) (h : sp_law_windows K vs H Q E) : t_law_windows K { nx := fun _ H' => Q .non H', rt := Q } (start n_law_windows vs) H := by
  obtain ⟨v, ps, g, rfl, ⟨a, rfl, hT⟩, hS, q⟩ := h
  refine ⟨Nat.zero_le _, fun l hl => ?_⟩
  refine win_loop hT hS hl fun fl σ H' hσ s1 hL hW => ?_
  refine ⟨_, hσ, l, fl, rfl, SqL.of hL, Nat.le_trans hW.few (by decide), fun ys p hp hn => ?_⟩
  exact q ys p _ (s1.trans (same_new hn)) upd_same (wins_perm hW hp)
end
end Tk

/-! TkP2 -/
set_option maxRecDepth 100000
set_option maxHeartbeats 2000000
namespace Tk
open PySem PySem.Spec PyProof.Rows L2 Ts TL
section
variable {K : Fg}
theorem z_empty : (V.str (Str.ofString "")) = vT [] := rfl
theorem pure_gram_list (vs : List V) (H : Hp) (Q : VK) (E : XK) (h : sp_gram_list K vs H Q E) : t_gram_list K { nx := fun _ H' => Q .non H', rt := Q } (start n_gram_list vs) H := by
  obtain ⟨v, ws, rfl, ⟨a, rfl, hT⟩, hW, q⟩ := h
  refine ⟨Nat.zero_le _, fun l hl => ?_⟩
  refine ⟨_, rfl, a, rfl, ⟨_, same_tup (same_new hl) hT⟩, for_tup (K := K) (a := a) (xs := ws.map vT) (fun i σ H' => ∃ (fl : List Tx) (y2 y3 : Option V), σ = [some (.ref a), some (.ref l), y2, y3] ∧ Same H H' ∧
      H' l = some (.lst (fl.map vT)) ∧ fl.length ≤ 2 * i ∧ fl.Nodup ∧ ∀ g, g ∈ fl ↔ ∃ x ∈ ws.take i, g = x.dropLast ∨ g = x.drop 1)
    ⟨[], none, none, rfl, same_new hl, upd_same, Nat.zero_le _, List.nodup_nil, fun g => by simp⟩
    (fun i σ H' _ ⟨_, _, _, _, e, _⟩ => same_tup e hT) ?_ ?_⟩
  · rintro i x σ H1 hi ⟨fl, y2, y3, rfl, s1, hL, hn, hd, hm⟩
    rw [List.getElem?_map] at hi
    obtain ⟨x, hx, rfl⟩ := Option.map_eq_some_iff.mp hi
    obtain ⟨l1, l2⟩ := hW.len x (List.mem_of_getElem? hx)
    have hi1 : i < ws.length := (List.getElem?_eq_some_iff.mp hx).1
    have hfew := hW.few
    refine ⟨_, rfl, _, rfl, _, rfl, x, rfl, sz_of (by omega), ?_⟩
    rw [cutL_init]
    refine ⟨_, rfl, _, rfl, x, rfl, sz_of (by omega), ?_⟩
    rw [show cutL x (some 1) none = x.drop 1 from cutL_from x 1]
    refine ⟨by show 2 ≤ sizeLine; rw [sizeLine_eq]; decide, fun p hp => ?_⟩
    have s2 : Same H (upd H1 p (.tup [vT x.dropLast, vT (x.drop 1)])) := s1.trans (same_new hp)
    have npl : l ≠ p := ne_of_none hL hp
    refine ⟨p, rfl, ⟨_, SqT.of upd_same⟩, for_tup (K := K) (a := p) (xs := [vT x.dropLast, vT (x.drop 1)]) (fun j σ H' => ∃ (fl' : List Tx) (y3 : Option V), σ = [some (.ref a), some (.ref l), some (vT x), y3] ∧ Same H H' ∧
      H' p = some (.tup [vT x.dropLast, vT (x.drop 1)]) ∧ H' l = some (.lst (fl'.map vT)) ∧ fl'.length ≤ 2 * i + j ∧ fl'.Nodup ∧ ∀ g, g ∈ fl' ↔ g ∈ fl ∨ ∃ m, m < j ∧ [x.dropLast, x.drop 1][m]? = some g)
      ⟨fl, y3, rfl, s2, upd_same, by rw [upd_ne npl]; exact hL, by omega, hd, fun g => ⟨.inl, fun h => h.elim id fun ⟨m, hm, _⟩ => by omega⟩⟩
      (fun j σ H' _ ⟨_, _, _, _, e, _⟩ => SqT.of e) ?_ ?_⟩
    · rintro j y σ H2 hj ⟨fl', y3, rfl, s3, hP, hL2, hn2, hd2, hm2⟩
      obtain ⟨g, hg, rfl⟩ : ∃ g, [x.dropLast, x.drop 1][j]? = some g ∧ y = vT g := by
        rcases j with _ | _ | j
        · exact ⟨_, rfl, (Option.some.inj hj).symm⟩
        · exact ⟨_, rfl, (Option.some.inj hj).symm⟩
        · simp at hj
      have hj2 : j < 2 := (List.getElem?_eq_some_iff.mp hg).1
      refine ⟨_, rfl, _, rfl, l, _, rfl, .inl (SqL.of hL2), rfl, flat_T _, _, rfl, ?_⟩
      rw [inV_T]
      refine if_by (fun hno => ?_) (fun hyes => ?_)
      · have hno' : g ∉ fl' := by simpa using hno
        refine ⟨_, rfl, .inl ⟨rfl, _, SqL.of hL2⟩, _, rfl, l, _, _, rfl, rfl, hL2, by rw [List.length_map]; exact sz_lt (by omega), fl' ++ [g], _, rfl, ?_, ?_, ?_, ?_, ?_, ?_⟩
        · exact same_mut s3 hl
        · rw [upd_ne npl.symm]; exact hP
        · rw [upd_same, List.map_append]; rfl
        · rw [List.length_append, List.length_singleton]; omega
        · rw [List.nodup_append]
          refine ⟨hd2, by simp, ?_⟩
          intro a' ha' b hb e
          rw [List.mem_singleton] at hb
          subst hb; subst e
          exact hno' ha'
        · intro z
          rw [List.mem_append, List.mem_singleton, hm2]
          constructor
          · rintro ((h | ⟨m, h1, h2⟩) | h)
            · exact .inl h
            · exact .inr ⟨m, by omega, h2⟩
            · exact .inr ⟨j, by omega, by rw [h]; exact hg⟩
          · rintro (h | ⟨m, h1, h2⟩)
            · exact .inl (.inl h)
            · by_cases e : m = j
              · subst e
                rw [hg] at h2
                exact .inr (Option.some.inj h2).symm
              · exact .inl (.inr ⟨m, by omega, h2⟩)
      · have hyes' : g ∈ fl' := by simpa using hyes
        refine ⟨fl', _, rfl, s3, hP, hL2, by omega, hd2, fun z => ?_⟩
        rw [hm2]
        constructor
        · rintro (h | ⟨m, h1, h2⟩)
          · exact .inl h
          · exact .inr ⟨m, by omega, h2⟩
        · rintro (h | ⟨m, h1, h2⟩)
          · exact .inl h
          · by_cases e : m = j
            · subst e
              rw [hg] at h2
              cases h2
              exact (hm2 _).mp hyes'
            · exact .inr ⟨m, by omega, h2⟩
    · rintro σ H2 ⟨fl', y3, rfl, s3, hP, hL2, hn2, hd2, hm2⟩
      have hn2' : fl'.length ≤ 2 * i + 2 := hn2
      refine ⟨fl', _, _, rfl, s3, hL2, by omega, hd2, fun g => ?_⟩
      rw [hm2, hm, tk_snoc hx]
      constructor
      · rintro (⟨y, h1, h2⟩ | ⟨m, h1, h2⟩)
        · exact ⟨y, List.mem_append.mpr (.inl h1), h2⟩
        · refine ⟨x, by simp, ?_⟩
          rcases m with _ | _ | m
          · exact .inl (Option.some.inj h2).symm
          · exact .inr (Option.some.inj h2).symm
          · simp at h2
      · rintro ⟨y, h1, h2⟩
        rcases List.mem_append.mp h1 with h1 | h1
        · exact .inl ⟨y, h1, h2⟩
        · rw [List.mem_singleton] at h1
          subst h1
          rcases h2 with h2 | h2
          · exact .inr ⟨0, by show 0 < 2; omega, by rw [h2]; rfl⟩
          · exact .inr ⟨1, by show 1 < 2; omega, by rw [h2]; rfl⟩
  · rintro σ H1 ⟨fl, y2, y3, rfl, s1, hL, hn, hd, hm⟩
    rw [List.length_map] at hn hm
    rw [List.take_length] at hm
    have hf := hW.few
    refine ⟨_, rfl, l, fl, rfl, SqL.of hL, by omega, fun ys p hp hpn => ?_⟩
    refine ⟨p, _, rfl, SqL.of upd_same, fun z hz => ?_⟩
    exact q ys z _ ((s1.trans (same_new hpn)).trans (same_new hz)) upd_same ⟨fun g => by rw [hp.mem_iff]; exact hm g, hp.nodup_iff.mpr hd, by rw [hp.length_eq]; omega⟩
theorem flat_single {A B : Type} (f : A → B) : ∀ l : List A, (l.map fun x => [f x]).flatten = l.map f
  | [] => rfl
  | x :: l => by
    show [f x] ++ (l.map fun x => [f x]).flatten = _
    rw [flat_single f l]
    rfl
theorem pure_following (vs : List V) (H : Hp) (Q : VK) (E : XK) (h : sp_following K vs H Q E) : t_following K { nx := fun _ H' => Q .non H', rt := Q } (start n_following vs) H := by
  obtain ⟨v, ws, g, rfl, ⟨a, rfl, hT⟩, hW, q⟩ := h
  have hfew := hW.few
  refine ⟨⟨_, rfl⟩, _, rfl, a, rfl, ⟨_, hT⟩, fun Dl hD => lc_tup (K := K) (a := a) (xs := ws.map vT) (fun i H' => Same H H' ∧ H' Dl = some (.lst ((((ws.take i).filter fun x => decide (x.dropLast = g)).map fun x => [x.getLast?.getD 0]).map vT)))
    ⟨same_new hD, by rw [upd_same]; rfl⟩ (fun i H' _ p => same_tup p.1 hT) ?_ ?_⟩
  · rintro i x H1 hi ⟨s1, hL⟩
    rw [List.getElem?_map] at hi
    obtain ⟨x, hx, rfl⟩ := Option.map_eq_some_iff.mp hi
    obtain ⟨l1, l2⟩ := hW.len x (List.mem_of_getElem? hx)
    have hne : x ≠ [] := fun e => by rw [e] at l1; cases l1
    refine ⟨rfl, _, rfl, _, rfl, _, rfl, x, rfl, sz_of (by omega), ?_⟩
    rw [cutL_init]
    refine ⟨_, rfl, rfl, _, rfl, ?_⟩
    rw [vT_eq]
    have et : (ws.take (i + 1)).filter (fun x => decide (x.dropLast = g)) = (ws.take i).filter (fun x => decide (x.dropLast = g)) ++ if x.dropLast = g then [x] else [] := by
      rw [tk_snoc hx, List.filter_append]
      by_cases e : x.dropLast = g
      · rw [List.filter_cons, if_pos (decide_eq_true e), if_pos e]; rfl
      · rw [List.filter_cons, if_neg (by rw [decide_eq_false e]; simp), if_neg e]; rfl
    refine if_by (fun hyes => ?_) (fun hno => ?_)
    · have e := of_decide_eq_true hyes
      refine ⟨_, rfl, _, rfl, x, _, x.getLast hne, rfl, rfl, sz_of (by omega), atI_m1 x hne, ?_⟩
      refine ⟨_, hL, ?_, same_mut s1 hD, ?_⟩
      · rw [List.length_map, List.length_map]
        have h1 := List.length_filter_le (fun x => decide (x.dropLast = g)) (ws.take i)
        rw [List.length_take] at h1
        exact sz_lt (by omega)
      · have e3 : x.getLast?.getD 0 = x.getLast hne := by rw [List.getLast?_eq_some_getLast hne]; rfl
        rw [upd_same, et, if_pos e, List.map_append, List.map_append, ← e3]
        rfl
    · have e := of_decide_eq_false hno
      refine ⟨s1, ?_⟩
      rw [et, if_neg e, List.append_nil]
      exact hL
  · rintro H1 ⟨s1, hL⟩
    rw [List.length_map, List.take_length] at hL
    refine ⟨Dl, _, rfl, rfl, SqL.of hL, ?_, ?_⟩
    · rw [flat_single, List.length_map]
      have h1 := List.length_filter_le (fun x => decide (x.dropLast = g)) ws
      omega
    · rw [flat_single]
      exact q H1 s1
end
end Tk

/-! TkP3 -/
set_option maxRecDepth 100000
set_option maxHeartbeats 2000000
namespace Tk
open PySem PySem.Spec PyProof.Rows L2 Ts TL
section
variable {K : Fg}
theorem pure_advance (vs : List V) (H : Hp) (Q : VK) (E : XK) (h : sp_advance K vs H Q E) : t_advance K { nx := fun _ H' => Q .non H', rt := Q } (start n_advance vs) H := by
  obtain ⟨w, m, c, rfl, hw, q⟩ := h
  refine ⟨_, rfl, _, rfl, _, rfl, w, rfl, sz_of (by omega), ?_⟩
  rw [cutL_to]
  have hlt : (w.take m).length ≤ 100 := by rw [List.length_take]; omega
  refine ⟨_, rfl, w.take m, [c], rfl, rfl, sz_of (by rw [List.length_singleton]; omega), ?_⟩
  generalize hr : w.take m ++ [c] = r
  have hrl : r.length ≤ 101 := by rw [← hr, List.length_append, List.length_singleton]; omega
  have hadv : adv w m c = best r w (min r.length w.length) := by unfold adv; rw [hr]
  refine ⟨_, rfl, r, rfl, sz_of (by omega), _, rfl, w, rfl, sz_of (by omega), _, _, rfl, _, rfl, ?_⟩
  have emin : (if (w.length : Int) < (r.length : Int) then (w.length : Int) else (r.length : Int)) = ((min r.length w.length : Nat) : Int) := by
    split <;> omega
  rw [emin]
  refine ⟨_, _, _, _, rfl, RgC.neg (by omega) (by omega) (by omega) (by omega), ?_⟩
  refine for_rangeC (lo := ((min r.length w.length : Nat) : Int)) (c := -1) (n := (((min r.length w.length : Nat) : Int) - 0).toNat) (fun i σ H' => H' = H ∧ (∃ y, σ = [some (vT w), some (.int (m : Int)), some (vT [c]), some (vT r), y]) ∧
    best r w (min r.length w.length) = best r w (min r.length w.length - i)) ⟨rfl, ⟨none, rfl⟩, rfl⟩ ?_ ?_
  · rintro i σ H1 hi ⟨rfl, ⟨y, rfl⟩, hb⟩
    have hik : i < min r.length w.length := by omega
    have ek : ((min r.length w.length : Nat) : Int) + (i : Int) * -1 = ((min r.length w.length - i : Nat) : Int) := by omega
    rw [ek]
    have e2 : (r.length : Int) - ((min r.length w.length - i : Nat) : Int) = ((r.length - (min r.length w.length - i) : Nat) : Int) := by omega
    refine ⟨_, rfl, _, rfl, r, rfl, sz_of (by omega), _, rfl, _, _, rfl, rfl, _, rfl, r, rfl, sz_of (by omega), ?_⟩
    rw [e2, cutL_from]
    refine ⟨_, rfl, _, rfl, _, rfl, w, rfl, sz_of (by omega), ?_⟩
    rw [cutL_to]
    refine ⟨rfl, _, rfl, ?_⟩
    rw [vT_eq]
    obtain ⟨k, hk⟩ : ∃ k, min r.length w.length - i = k + 1 := ⟨min r.length w.length - i - 1, by omega⟩
    refine if_by (fun hyes => ?_) (fun hno => ?_)
    · have e := of_decide_eq_true hyes
      refine ⟨_, rfl, ?_⟩
      have : adv w m c = min r.length w.length - i := by
        rw [hadv, hb, hk]
        unfold best
        rw [hk] at e
        rw [if_pos e]
      rw [← this]
      exact q
    · have e := of_decide_eq_false hno
      refine ⟨rfl, ⟨_, rfl⟩, ?_⟩
      rw [hb, hk]
      rw [hk] at e
      conv => lhs; unfold best
      rw [if_neg e]
      congr 1
      omega
  · rintro σ H1 ⟨rfl, ⟨y, rfl⟩, hb⟩
    have e0 : adv w m c = 0 := by
      rw [hadv, hb]
      have : min r.length w.length - (((min r.length w.length : Nat) : Int) - 0).toNat = 0 := by omega
      rw [this]
      rfl
    rw [e0] at q
    exact q
theorem prod_len (n : Nat) : ∀ gs : List Tx, (gs.flatMap fun g => (List.range n).map fun m => ((g, m) : Sta)).length = gs.length * n
  | [] => by simp
  | g :: gs => by
    rw [List.flatMap_cons, List.length_append, prod_len n gs, List.length_map, List.length_range, List.length_cons, Nat.succ_mul]
    omega
theorem prod_nodup (n : Nat) : ∀ {gs : List Tx}, gs.Nodup → (gs.flatMap fun g => (List.range n).map fun m => ((g, m) : Sta)).Nodup
  | [], _ => by simp
  | g :: gs, h => by
    obtain ⟨h1, h2⟩ := List.nodup_cons.mp h
    rw [List.flatMap_cons, List.nodup_append]
    refine ⟨?_, prod_nodup n h2, ?_⟩
    · exact List.Pairwise.map _ (fun a b (hab : a ≠ b) e => hab (Prod.ext_iff.mp e).2) List.nodup_range
    · intro a ha b hb e
      obtain ⟨m, _, rfl⟩ := List.mem_map.mp ha
      obtain ⟨g', hg', hb'⟩ := List.mem_flatMap.mp hb
      obtain ⟨m', _, rfl⟩ := List.mem_map.mp hb'
      have e1 : g = g' := (Prod.ext_iff.mp e).1
      exact h1 (by rw [e1]; exact hg')
theorem pure_state_list (vs : List V) (H : Hp) (Q : VK) (E : XK) (h : sp_state_list K vs H Q E) : t_state_list K { nx := fun _ H' => Q .non H', rt := Q } (start n_state_list vs) H := by
  obtain ⟨v, ws, w, rfl, ⟨a, rfl, hT⟩, hW, hw, q⟩ := h
  refine ⟨Nat.zero_le _, fun l hl => ?_⟩
  refine ⟨_, rfl, _, ws, rfl, ⟨a, rfl, same_tup (same_new hl) hT⟩, hW, fun gs b H1 s1 hb hG => ?_⟩
  have hlb : l ≠ b := by
    intro e
    rw [← e, s1 l _ upd_same] at hb
    cases hb
  have sH : Same H H1 := fun x o e => s1 x o (by rw [upd_ne (ne_of_none e hl)]; exact e)
  have hG2 := hG.few
  refine ⟨b, rfl, ⟨_, SqT.of hb⟩, for_tup (K := K) (a := b) (xs := gs.map vT) (fun i σ H' => ∃ (xs : List V) (y3 y4 : Option V), σ = [some (.ref a), some (vT w), some (.ref l), y3, y4] ∧ Same H H' ∧ H' b = some (.tup (gs.map vT)) ∧
      H' l = some (.lst xs) ∧ All2 (IsSt H') xs ((gs.take i).flatMap fun g => (List.range w.length).map fun m => ((g, m) : Sta)) ∧ xs.length ≤ 100 * i)
    ⟨[], none, none, rfl, sH, hb, s1 l _ upd_same, All2.nil, Nat.zero_le _⟩
    (fun i σ H' _ ⟨_, _, _, _, _, e, _⟩ => SqT.of e) ?_ ?_⟩
  · rintro i x σ H2 hi ⟨xs, y3, y4, rfl, s2, hb2, hL, ha, hn⟩
    rw [List.getElem?_map] at hi
    obtain ⟨g, hg, rfl⟩ := Option.map_eq_some_iff.mp hi
    have hi1 : i < gs.length := (List.getElem?_eq_some_iff.mp hg).1
    refine ⟨_, rfl, w, rfl, sz_of (by omega), _, rfl, by omega, by omega, ?_⟩
    refine for_range (lo := 0) (n := (w.length : Int).toNat) (fun j σ H' => ∃ (xs' : List V) (y4 : Option V), σ = [some (.ref a), some (vT w), some (.ref l), some (vT g), y4] ∧ Same H H' ∧ H' b = some (.tup (gs.map vT)) ∧
      H' l = some (.lst xs') ∧ All2 (IsSt H') xs' (((gs.take i).flatMap fun g => (List.range w.length).map fun m => ((g, m) : Sta)) ++ (List.range j).map fun m => ((g, m) : Sta)) ∧ xs'.length ≤ 100 * i + j)
      ⟨xs, y4, rfl, s2, hb2, hL, by simpa using ha, by omega⟩ ?_ ?_
    · rintro j σ H3 hj ⟨xs', y4, rfl, s3, hb3, hL3, ha3, hn3⟩
      refine ⟨_, rfl, .inl ⟨rfl, _, SqL.of hL3⟩, _, rfl, _, rfl, by show 2 ≤ sizeLine; rw [sizeLine_eq]; decide, fun p hp => ?_⟩
      have nlp : l ≠ p := ne_of_none hL3 hp
      have nbp : b ≠ p := ne_of_none hb3 hp
      refine ⟨l, xs', _, rfl, rfl, by rw [upd_ne nlp]; exact hL3, sz_lt (by omega), xs' ++ [.ref p], _, rfl, ?_, ?_, ?_, ?_, ?_⟩
      · exact same_mut (s3.trans (same_new hp)) hl
      · rw [upd_ne hlb.symm, upd_ne nbp]; exact hb3
      · exact upd_same
      · rw [List.range_succ, List.map_append, ← List.append_assoc]
        have keep : ∀ (z : V) (s : Sta), IsSt H3 z s → IsSt (upd (upd H3 p (.tup [vT g, .int ((0 : Int) + (j : Int))])) l (.lst (xs' ++ [.ref p]))) z s := fun z s ⟨c, e, hc⟩ => ⟨c, e, by
          rw [upd_ne (ne_of hc hL3 (by intro z; cases z)), upd_ne (ne_of_none hc hp)]; exact hc⟩
        refine (ha3.mono keep).snoc ⟨p, rfl, ?_⟩
        rw [upd_ne nlp.symm, upd_same]
        show some (HO.tup [vT g, V.int ((0 : Int) + (j : Int))]) = some (HO.tup [vT g, V.int (j : Int)])
        rw [Int.zero_add]
      · rw [List.length_append, List.length_singleton]; omega
    · rintro σ H3 ⟨xs', y4, rfl, s3, hb3, hL3, ha3, hn3⟩
      refine ⟨xs', _, _, rfl, s3, hb3, hL3, ?_, by omega⟩
      rw [tk_snoc hg, List.flatMap_append]
      have e : ((w.length : Int).toNat) = w.length := by omega
      rw [e] at ha3
      simpa using ha3
  · rintro σ H2 ⟨xs, y3, y4, rfl, s2, hb2, hL, ha, hn⟩
    rw [List.length_map] at ha hn
    rw [List.take_length] at ha
    refine ⟨_, rfl, l, xs, rfl, SqL.of hL, fun z hz => ?_⟩
    refine q _ xs z _ (s2.trans (same_new hz)) upd_same (ha.mono fun _ _ r => r.same (same_new hz)) ⟨?_, fun s => ?_, ?_⟩
    · exact prod_nodup _ hG.nd
    · rw [List.mem_flatMap]
      constructor
      · rintro ⟨g, hg, h2⟩
        obtain ⟨m, hm, rfl⟩ := List.mem_map.mp h2
        exact ⟨(hG.mem g).mp hg, List.mem_range.mp hm⟩
      · rintro ⟨h1, h2⟩
        exact ⟨s.1, (hG.mem s.1).mpr h1, List.mem_map.mpr ⟨s.2, List.mem_range.mpr h2, rfl⟩⟩
    · rw [prod_len]
      exact Nat.mul_le_mul_right _ hG2
theorem TxT.lock {K : Fg} {H : Hp} {d : Addr} {u : HO} {v : V} {ws : List Tx} {o : Obj} (h : H d = some u) (mu : Mut (some u)) (r : TxT K H v ws) : TxT K (upd H d (.frz o u)) v ws := let ⟨a, e, r⟩ := r; ⟨a, e, sqT_lock h mu r⟩
theorem pure_way (vs : List V) (H : Hp) (Q : VK) (E : XK) (h : sp_way K vs H Q E) : t_way K { nx := fun _ H' => Q .non H', rt := Q } (start n_way vs) H := by
  obtain ⟨v, ws, w, u, ⟨g, m⟩, c, rfl, hT, hW, hw, ⟨b, rfl, hb⟩, hg, q⟩ := h
  have hg : g.length ≤ 100 := hg
  refine ⟨_, rfl, b, _, rfl, SqT.of hb, rfl, _, _, rfl, _, _, rfl, rfl, ?_⟩
  refine ⟨_, rfl, rfl, _, rfl, ?_⟩
  refine if_no (vT_eq [c] []) ?_
  refine ⟨_, rfl, _, rfl, _, rfl, v, ws, g, rfl, hT, hW, fun H1 s1 => ?_⟩
  refine ⟨c, foll ws g, rfl, rfl, _, rfl, ?_⟩
  refine if_by (fun hno => ?_) (fun hyes => ?_)
  · have hno' : c ∉ foll ws g := by simpa using hno
    refine q .non H1 s1 ?_
    unfold Ts.way
    rw [if_neg hno']
    rfl
  have hyes' : c ∈ foll ws g := by simpa using hyes
  refine ⟨_, rfl, _, rfl, _, rfl, w, m, c, rfl, hw, ?_⟩
  refine ⟨_, rfl, _, rfl, w, rfl, sz_of (by omega), rfl, _, rfl, ?_⟩
  refine if_by (fun hyes => ?_) (fun hno => ?_)
  · have e : adv w m c = w.length := by
      have e1 := of_decide_eq_true hyes
      injection e1 with e1
      omega
    refine q .non H1 s1 ?_
    unfold Ts.way
    rw [if_pos hyes', if_pos e]
    rfl
  · have e : ¬ adv w m c = w.length := fun z => of_decide_eq_false hno (by rw [z])
    refine ⟨_, rfl, _, rfl, g, [c], rfl, rfl, sz_of (by rw [List.length_singleton]; omega), _, rfl, _, rfl, sz_of (by rw [List.length_append, List.length_singleton]; omega), ?_⟩
    rw [show cutL (g ++ [c]) (some 1) none = (g ++ [c]).drop 1 from cutL_from _ 1]
    refine ⟨_, rfl, by show 2 ≤ sizeLine; rw [sizeLine_eq]; decide, fun p hp => ?_⟩
    refine q _ _ (s1.trans (same_new hp)) ?_
    unfold Ts.way
    rw [if_pos hyes', if_neg e]
    exact ⟨p, rfl, upd_same⟩
theorem way_len {ws : List Tx} {w : Tx} {s s' : Sta} {c : Nat} (h : Ts.way ws w s c = some s') : s'.1.length = s.1.length ∧ c ∈ foll ws s.1 := by
  unfold Ts.way at h
  split at h
  · rename_i hc
    split at h
    · cases h
    · cases h
      exact ⟨by simp, hc⟩
  · cases h
theorem foll_len (ws : List Tx) (g : Tx) : (foll ws g).length ≤ ws.length := by
  unfold foll
  rw [List.length_map]
  exact List.length_filter_le _ _
theorem ways_take {ws : List Tx} {w : Tx} {s : Sta} {i c : Nat} (h : (foll ws s.1)[i]? = some c) : ((foll ws s.1).take (i + 1)).filterMap (fun c => (Ts.way ws w s c).map fun s' => (c, s')) =
    ((foll ws s.1).take i).filterMap (fun c => (Ts.way ws w s c).map fun s' => (c, s')) ++ (match Ts.way ws w s c with | none => [] | some s' => [(c, s')]) := by
  rw [tk_snoc h, List.filterMap_append]
  congr 1
  cases e : Ts.way ws w s c with
  | none => simp [e]
  | some s' => simp [e]
theorem OptSt.none_iff {H : Hp} {v : V} {o : Option Sta} (h : OptSt H v o) : (decide (v = V.non)) = o.isNone := by
  cases o with
  | none => rw [show v = V.non from h]; rfl
  | some s =>
    obtain ⟨a, e, _⟩ := (show IsSt H v s from h)
    rw [e]; rfl
theorem pure_ways_from (vs : List V) (H : Hp) (Q : VK) (E : XK) (h : sp_ways_from K vs H Q E) : t_ways_from K { nx := fun _ H' => Q .non H', rt := Q } (start n_ways_from vs) H := by
  obtain ⟨v, ws, w, u, s, rfl, hT, hW, hw, hu, hg, q⟩ := h
  obtain ⟨b, rfl, hb⟩ := id hu
  refine ⟨Nat.zero_le _, fun l hl => ?_⟩
  have s0 : Same H (upd H l (.lst [])) := same_new hl
  refine ⟨_, rfl, _, rfl, b, _, 0, _, rfl, rfl, SqT.of (s0 _ _ hb), rfl, v, ws, s.1, rfl, hT.same s0, hW, fun H1 s1 => ?_⟩
  have hfl := foll_len ws s.1
  have hfew := hW.few
  refine ⟨_, rfl, for_str (z := foll ws s.1) (fun i σ H' => ∃ (xs : List V) (y4 y5 : Option V), σ = [some v, some (vT w), some (.ref b), some (.ref l), y4, y5] ∧ Same H H' ∧ H' l = some (.lst xs) ∧ xs.length ≤ i ∧
      All2 (IsLs H') xs (((foll ws s.1).take i).filterMap fun c => (Ts.way ws w s c).map fun s' => (c, s')))
    ⟨[], none, none, rfl, s0.trans s1, s1 l _ upd_same, Nat.zero_le _, All2.nil⟩ ?_ ?_⟩
  · rintro i c σ H2 hi ⟨xs, y4, y5, rfl, s2, hL, hn, ha⟩
    have hi1 : i < (foll ws s.1).length := (List.getElem?_eq_some_iff.mp hi).1
    refine ⟨_, rfl, _, rfl, _, rfl, _, rfl, v, ws, w, _, s, c, rfl, hT.same s2, hW, hw, hu.same s2, hg, fun r H3 s3 hr => ?_⟩
    have hL3 := s3 _ _ hL
    refine ⟨_, rfl, _, rfl, ?_⟩
    rw [hr.none_iff]
    cases e : Ts.way ws w s c with
    | none =>
      rw [e] at hr
      refine if_no rfl ?_
      refine ⟨xs, _, _, rfl, s2.trans s3, hL3, by omega, ?_⟩
      rw [ways_take hi, e, List.append_nil]
      exact ha.mono fun _ _ z => z.same s3
    | some s' =>
      rw [e] at hr
      refine if_yes rfl ?_
      refine ⟨_, rfl, .inl ⟨rfl, _, SqL.of hL3⟩, _, rfl, _, rfl, by show 2 ≤ sizeLine; rw [sizeLine_eq]; decide, fun p hp => ?_⟩
      have nlp : l ≠ p := ne_of_none hL3 hp
      refine ⟨l, xs, _, rfl, rfl, by rw [upd_ne nlp]; exact hL3, sz_lt (by omega), xs ++ [.ref p], _, _, rfl, same_mut ((s2.trans s3).trans (same_new hp)) hl, upd_same, by rw [List.length_append, List.length_singleton]; omega, ?_⟩
      rw [ways_take hi, e]
      have keepT : ∀ (x : Addr) (ys : List V), H3 x = some (.tup ys) → (upd (upd H3 p (.tup [vT [c], r])) l (.lst (xs ++ [.ref p]))) x = some (.tup ys) := fun x ys hx => by
        rw [upd_ne (ne_of hx hL3 (by intro z; cases z)), upd_ne (ne_of_none hx hp)]; exact hx
      have keepS : ∀ {z : V} {t : Sta}, IsSt H3 z t → IsSt (upd (upd H3 p (.tup [vT [c], r])) l (.lst (xs ++ [.ref p]))) z t := fun ⟨x, e1, e2⟩ => ⟨x, e1, keepT _ _ e2⟩
      have keepL : ∀ (z : V) (t : Nat × Sta), IsLs H3 z t → IsLs (upd (upd H3 p (.tup [vT [c], r])) l (.lst (xs ++ [.ref p]))) z t := fun z t ⟨x, y, e1, e2, e3⟩ => ⟨x, y, e1, keepT _ _ e2, keepS e3⟩
      refine ((ha.mono fun _ _ z => z.same s3).mono keepL).snoc ⟨p, r, rfl, ?_, keepS hr⟩
      rw [upd_ne nlp.symm, upd_same]
  · rintro σ H2 ⟨xs, y4, y5, rfl, s2, hL, hn, ha⟩
    rw [List.take_length] at ha
    exact ⟨_, rfl, q xs l H2 s2 hl hL ha⟩
theorem rin_none (ws : List Tx) (w : Tx) (G : Sta → Bool) (p : Tx) : rin ws w G none p = false := by cases p <;> rfl
theorem pure_read_within (vs : List V) (H : Hp) (Q : VK) (E : XK) (h : sp_read_within K vs H Q E) : t_read_within K { nx := fun _ H' => Q .non H', rt := Q } (start n_read_within vs) H := by
  obtain ⟨v, ws, w, p, d, D, f, u, s, rfl, hT, hW, hw, hd, hu, hg, q⟩ := h
  have ret : ∀ {H1 : Hp} {b : Bool}, Same H H1 → rin ws w (fun z => decide (z ∈ D)) (some s) p = b → Q (.bl b) H1 := fun {H1 b} s1 e => e ▸ q H1 s1
  refine ⟨_, rfl, tS p, rfl, for_str (z := p) (fun i σ H' => ∃ (z : V) (y5 : Option V) (o : Option Sta), σ = [some v, some (vT w), some (vT p), some (.ref d), some z, y5] ∧ Same H H' ∧ OptSt H' z o ∧ (∀ t, o = some t → t.1.length ≤ 100) ∧
      rin ws w (fun z => decide (z ∈ D)) (some s) p = rin ws w (fun z => decide (z ∈ D)) o (p.drop i))
    ⟨u, none, some s, rfl, Same.refl H, hu, fun t e => by cases e; exact hg, rfl⟩ ?_ ?_⟩
  · rintro i c σ H1 hi ⟨z, y5, o, rfl, s1, hz, ho, hr⟩
    have hi1 : i < p.length := (List.getElem?_eq_some_iff.mp hi).1
    have edrop : p.drop i = c :: p.drop (i + 1) := by
      rw [List.drop_eq_getElem_cons hi1]
      congr 1
      rw [List.getElem?_eq_getElem hi1] at hi
      exact Option.some.inj hi
    refine ⟨_, rfl, _, rfl, ?_⟩
    rw [hz.none_iff]
    cases o with
    | none =>
      refine if_yes rfl ?_
      refine iteT ?_
      exact ret s1 (by rw [hr]; exact rin_none _ _ _ _)
    | some t =>
      refine if_no rfl ?_
      have ht : IsSt H1 z t := hz
      refine ⟨_, rfl, _, rfl, d, _, rfl, dget (same_rd s1 hd) ht, _, rfl, ?_⟩
      by_cases hm : t ∈ D
      · rw [if_pos hm]
        refine if_no rfl ?_
        refine ⟨_, rfl, _, rfl, _, rfl, _, rfl, v, ws, w, z, t, c, rfl, hT.same s1, hW, hw, ht, ho t rfl, fun r H2 s2 hr2 => ?_⟩
        refine ⟨r, _, _, rfl, s1.trans s2, hr2, fun t' e => ?_, ?_⟩
        · rw [(way_len e).1]
          exact ho t rfl
        · rw [hr, edrop]
          show (decide (t ∈ D) && _) = _
          rw [decide_eq_true hm, Bool.true_and]
      · rw [if_neg hm]
        refine if_yes rfl ?_
        refine ret s1 ?_
        rw [hr, edrop]
        show (decide (t ∈ D) && _) = false
        rw [decide_eq_false hm, Bool.false_and]
  · rintro σ H1 ⟨z, y5, o, rfl, s1, hz, ho, hr⟩
    rw [List.drop_length] at hr
    refine ⟨_, rfl, _, rfl, ?_⟩
    rw [hz.none_iff]
    cases o with
    | none =>
      refine if_no rfl ?_
      exact ret s1 (by rw [hr]; exact rin_none _ _ _ _)
    | some t =>
      refine if_yes rfl ?_
      refine ⟨_, rfl, _, rfl, d, _, rfl, dget (same_rd s1 hd) hz, ?_⟩
      refine ret s1 ?_
      rw [hr]
      show decide (t ∈ D) = _
      by_cases hm : t ∈ D
      · rw [if_pos hm, decide_eq_true hm]; rfl
      · rw [if_neg hm, decide_eq_false hm]; rfl
theorem pure_can_read (vs : List V) (H : Hp) (Q : VK) (E : XK) (h : sp_can_read K vs H Q E) : t_can_read K { nx := fun _ H' => Q .non H', rt := Q } (start n_can_read vs) H := by
  obtain ⟨v, ws, w, p, d, D, f, rfl, hT, hW, hw, hd, hn, hg, q⟩ := h
  refine ⟨d, _, hd, True.intro, fun o => ?_⟩
  have rdd : ∀ {H1 : Hp}, Same (upd H d (.frz o (.dT (dOf D f)))) H1 → H1 d = some (.frz o (.dT (dOf D f))) := fun s => s _ _ upd_same
  refine ⟨_, rfl, d, o, rfl, .inr ⟨_, upd_same, fun Dl hD => lc_keys (d := d) (o := o) (S := D) (f := f) (fun i H' => Same (upd H d (.frz o (.dT (dOf D f)))) H' ∧ H' Dl = some (.lst (((D.take i).map fun s => rin ws w (fun z => decide (z ∈ D)) (some s) p).map V.bl)))
    ⟨same_new hD, by rw [upd_same]; rfl⟩ (fun i H' h => rdd h.1) ?_ ?_⟩⟩
  · rintro i s x H1 hi hx ⟨s1, hL⟩
    refine ⟨rfl, ?_⟩
    refine ⟨_, rfl, _, rfl, _, rfl, _, rfl, _, rfl, v, ws, w, p, d, D, f, x, s, rfl, (hT.lock hd True.intro).same s1, hW, hw, .inr ⟨o, rdd s1⟩, hx, hg s (List.mem_of_getElem? hi), fun H2 s2 => ?_⟩
    refine ⟨_, s2 _ _ hL, ?_, same_mut (s1.trans s2) hD, ?_⟩
    · rw [List.length_map, List.length_map, List.length_take]
      exact sz_lt (by omega)
    · rw [upd_same, tk_snoc hi, List.map_append, List.map_append]
      rfl
  · rintro H1 ⟨s1, hL⟩
    rw [List.take_length] at hL
    refine ⟨rdd s1, Dl, _, rfl, SqL.of (by rw [upd_ne]; exact hL; intro e; rw [e, rdd s1] at hL; cases hL), ?_⟩
    rw [List.any_map]
    exact q _ (same_unlock hd s1)
end
end Tk

/-! TkP4 -/
set_option maxRecDepth 100000
set_option maxHeartbeats 2000000
namespace Tk
open PySem PySem.Spec PyProof.Rows L2 Ts TL
section
variable {K : Fg}
/-! ### finished_from -/
theorem isSt_upd {H : Hp} {x : Addr} {o : HO} {v : V} {s : Sta} (h : IsSt H v s) (hx : ∀ ys, H x ≠ some (.tup ys)) : IsSt (upd H x o) v s := by
  obtain ⟨a, e, ha⟩ := h
  exact ⟨a, e, by rw [upd_ne (fun z => hx _ (by rw [← z]; exact ha))]; exact ha⟩
theorem not_tup {H : Hp} {x : Addr} {o : HO} (h : H x = some o) (ho : ∀ ys, o ≠ .tup ys) : ∀ ys, H x ≠ some (.tup ys) := fun ys e => by
  rw [h] at e
  exact ho ys (Option.some.inj e)
theorem none_tup {H : Hp} {x : Addr} (h : H x = none) : ∀ ys, H x ≠ some (.tup ys) := fun ys e => by
  rw [h] at e
  cases e
/-- the stack's cells -/
def StkOk (H H' : Hp) (ast : Addr) (r : Addr) (p : Sta × Nat) : Prop := H r = none ∧ r ≠ ast ∧ ∃ v, H' r = some (.lst [v, .int (p.2 : Int)]) ∧ IsSt H' v p.1
structure FF (W : Sta → List (Nat × Sta)) (D S : List Sta) (s0 : Sta) (H : Hp) (aw as ao ast : Addr) (u : V) (m : Nat) (σ : L2.St) (H' : Hp) : Prop where
  ex : ∃ (S' O' : List Sta) (xo' : List V) (stk : List (Sta × Nat)) (refs : List Addr) (y5 y6 : Option V), σ = [some (.ref aw), some u, some (.ref as), some (.ref ao), some (.ref ast), y5, y6] ∧
    (∀ b o, b ≠ as → b ≠ ao → H b = some o → H' b = some o) ∧ H' as = some (.dT (dOf S' fun _ => .bl true)) ∧ H' ao = some (.lst xo') ∧ All2 (IsSt H') xo' O' ∧ H' ast = some (.lst (refs.map V.ref)) ∧
    All2 (StkOk H H' ast) refs stk ∧ refs.Nodup ∧ Dfs (Eg W) S' O' stk ∧ s0 ∈ S' ∧ (∀ x ∈ S, x ∈ S') ∧ (∀ x ∈ S', x ∈ D) ∧ m = wAll (Eg W) D S' stk
theorem nodup_le {A : Type} [DecidableEq A] : ∀ {a b : List A}, a.Nodup → (∀ x ∈ a, x ∈ b) → a.length ≤ b.length
  | [], _, _, _ => Nat.zero_le _
  | x :: a, b, hn, hs => by
    obtain ⟨h1, h2⟩ := List.nodup_cons.mp hn
    have hx : x ∈ b := hs x (by simp)
    have := nodup_le (b := b.erase x) h2 fun y hy => (List.mem_erase_of_ne (fun e : y = x => h1 (e ▸ hy))).mpr (hs y (List.mem_cons_of_mem _ hy))
    rw [List.length_erase_of_mem hx] at this
    have := List.length_pos_of_mem hx
    rw [List.length_cons]
    omega
theorem pure_finished_from (vs : List V) (H : Hp) (Q : VK) (E : XK) (h : sp_finished_from K vs H Q E) : t_finished_from K { nx := fun _ H' => Q .non H', rt := Q } (start n_finished_from vs) H := by
  obtain ⟨aw, u, as, ao, D, W, s0, S, O, xo, H0, rfl, hG, h0, has0, hao0, hu, hs0, hnS, hS, hO, hxo, hD, hSD, q⟩ := h
  obtain ⟨L, hrd, hL⟩ := hG.at_
  have naso : as ≠ ao := ne_of hS hO (by intro z; cases z)
  have hfew := hG.few
  have lenS : ∀ {S' : List Sta} {O' : List Sta} {stk : List (Sta × Nat)}, Dfs (Eg W) S' O' stk → (∀ x ∈ S', x ∈ D) → S'.length ≤ 2000 := fun d hs => Nat.le_trans (nodup_le d.sd hs) hfew
  refine ⟨_, rfl, _, rfl, as, _, rfl, dputc hS hu hnS (by have := lenS hD hSD; omega), ?_⟩
  have ntS : ∀ ys, H as ≠ some (.tup ys) := not_tup hS (by intro ys z; cases z)
  refine ⟨_, rfl, by show 2 ≤ sizeLine; rw [sizeLine_eq]; decide, fun r hr => ?_⟩
  refine ⟨by show 1 ≤ sizeLine; rw [sizeLine_eq]; decide, fun ast hast => ?_⟩
  -- what is new
  have hrH : H r = none := by
    cases e : H r with
    | none => rfl
    | some o =>
      by_cases z : r = as
      · rw [z, upd_same] at hr; cases hr
      · rw [upd_ne z, e] at hr; cases hr
  have nras : r ≠ as := fun z => by rw [z, hS] at hrH; cases hrH
  have nrao : r ≠ ao := fun z => by rw [z, hO] at hrH; cases hrH
  have nast : ast ≠ r := fun z => by rw [z, upd_same] at hast; cases hast
  have hast1 : (upd H as (.dT (dOf (S ++ [s0]) fun _ => .bl true))) ast = none := by rw [upd_ne nast] at hast; exact hast
  have nastas : ast ≠ as := fun z => by rw [z, upd_same] at hast1; cases hast1
  have hastH : H ast = none := by rw [upd_ne nastas] at hast1; exact hast1
  have nastao : ast ≠ ao := fun z => by rw [z, hO] at hastH; cases hastH
  -- the loop
  refine ⟨FF W D S s0 H aw as ao ast u, ⟨_, ⟨S ++ [s0], O, xo, [(s0, 0)], [r], none, none, rfl, fun b o n1 n2 e => ?_, ?_, ?_, ?_, ?_, ?_, by simp, hD.start hnS, by simp, fun x hx => by simp [hx], fun x hx => ?_, rfl⟩⟩, ?_⟩
  · rw [upd_ne (ne_of_none e hastH), upd_ne (ne_of_none e hrH), upd_ne n1]
    exact e
  · rw [upd_ne nastas.symm, upd_ne nras.symm, upd_same]
  · rw [upd_ne nastao.symm, upd_ne nrao.symm, upd_ne naso.symm]
    exact hO
  · exact hxo.mono fun _ _ z => isSt_upd (isSt_upd (isSt_upd z ntS) (none_tup hr)) (none_tup hast)
  · exact upd_same
  · refine ⟨rfl, fun i x y hx hy => ?_⟩
    cases i with
    | zero =>
      cases hx; cases hy
      refine ⟨hrH, nast.symm, u, ?_, isSt_upd (isSt_upd (isSt_upd hu ntS) (none_tup hr)) (none_tup hast)⟩
      rw [upd_ne nast.symm, upd_same]
      rfl
    | succ i => simp at hx
  · rcases List.mem_append.mp hx with z | z
    · exact hSD x z
    · rw [List.mem_singleton.mp z]; exact hs0
  -- a turn
  rintro m σ H1 ⟨S', O', xo', stk, refs, y5, y6, rfl, fr, hS1, hO1, hxo1, hst, hcl, hnd, hD1, hs1, hSS, hSD1, rfl⟩
  have sH : Same H0 H1 := fun b o e => fr b o (ne_of_none e has0) (ne_of_none e hao0) (h0 b o e)
  have hll := hcl.1
  refine ⟨_, rfl, ast, _, rfl, .inl (SqL.of hst), _, _, rfl, rfl, _, rfl, ?_⟩
  refine if_by (fun hyes => ?_) (fun hno => ?_)
  · have hpos : 0 < refs.length := by
      have := of_decide_eq_true hyes
      rw [List.length_map] at this
      omega
    obtain ⟨rr, r1, er⟩ : ∃ rr r1, refs = rr ++ [r1] := ⟨refs.dropLast, refs.getLast (List.length_pos_iff.mp hpos), (List.dropLast_concat_getLast _).symm⟩
    obtain ⟨rest, ⟨s, n⟩, es⟩ : ∃ rest p, stk = rest ++ [p] := ⟨stk.dropLast, stk.getLast (List.length_pos_iff.mp (by omega)), (List.dropLast_concat_getLast _).symm⟩
    subst er; subst es
    obtain ⟨hcl', hr0, hrast, v, hr1, hv⟩ := hcl.init
    have hsD : s ∈ D := hSD1 s ((hD1.mem s).mpr (.inr (by simp)))
    obtain ⟨xs, hxs, hxa⟩ := hL s hsD
    have hxs1 : H1 (L s) = some (.lst xs) := sH _ _ hxs
    have hgs : ∀ {H2 : Hp}, Same H0 H2 → IsSt H2 v s → DGet H2 aw v (some (.ref (L s))) := fun s2 h2 => dget_in (f := fun s => .ref (L s)) (same_rd s2 hrd) h2 hsD
    have nr1as : r1 ≠ as := fun z => by rw [z, hS] at hr0; cases hr0
    have nr1ao : r1 ≠ ao := fun z => by rw [z, hO] at hr0; cases hr0
    have hr00 : H0 r1 = none := Same.free h0 hr0
    have hastH0 : H0 ast = none := Same.free h0 hastH
    have hidx := hD1.idx (s, n) (by simp)
    have hdeg : xs.length = (Eg W s).length := by rw [hxa.1]; simp [Eg]
    refine ⟨fun σ' H' => ∃ m', m' < wAll (Eg W) D S' (rest ++ [(s, n)]) ∧ FF W D S s0 H aw as ao ast u m' σ' H', fun _ _ z => z, ?_⟩
    refine ⟨_, rfl, _, rfl, ast, _, -1, .ref r1, rfl, rfl, SqL.of hst, by rw [List.map_append]; exact atI_last _ _, ?_⟩
    refine ⟨_, rfl, r1, _, 1, .int (n : Int), rfl, rfl, SqL.of hr1, rfl, _, rfl, _, rfl, r1, _, 0, v, rfl, rfl, SqL.of hr1, rfl, aw, _, rfl, hgs sH hv, L s, xs, rfl, .inl (SqL.of hxs1), _, _, rfl, rfl, _, rfl, ?_⟩
    refine if_by (fun hlt => ?_) (fun hge => ?_)
    · have hn : n < xs.length := by have := of_decide_eq_true hlt; omega
      obtain ⟨⟨c, t⟩, hct, ⟨p, z, e1, hp, hz⟩⟩ := hxa.get' (List.getElem?_eq_getElem hn)
      have htE : (Eg W s)[n]? = some t := by
        show ((W s).map (·.2))[n]? = some t
        rw [List.getElem?_map, hct]
        rfl
      have htD : t ∈ D := hG.closed s hsD t (List.mem_of_getElem? htE)
      have hz1 : IsSt H1 z t := hz.same sH
      refine ⟨_, rfl, _, rfl, r1, _, 0, v, rfl, rfl, SqL.of hr1, rfl, aw, _, rfl, hgs sH hv, _, rfl, r1, _, 1, .int (n : Int), rfl, rfl, SqL.of hr1, rfl, L s, xs, (n : Int), xs[n], rfl, rfl, SqL.of hxs1, atI_nat (List.getElem?_eq_getElem hn),
        p, _, 1, z, e1, rfl, SqT.of (sH _ _ hp), rfl, ?_⟩
      refine ⟨_, rfl, r1, _, 1, .int (n : Int), rfl, rfl, SqL.of hr1, rfl, _, _, rfl, rfl, _, rfl, r1, _, 1, 1, rfl, rfl, hr1, rfl, ?_⟩
      have H2e : ([v, V.int (n : Int)].set 1 (V.int ((n : Int) + 1))) = [v, V.int ((n + 1 : Nat) : Int)] := by
        show [v, V.int ((n : Int) + 1)] = [v, V.int ((n + 1 : Nat) : Int)]
        congr 3
      rw [H2e]
      have nt1 : ∀ ys, H1 r1 ≠ some (.tup ys) := not_tup hr1 (by intro ys z; cases z)
      have hS2 : (upd H1 r1 (.lst [v, V.int ((n + 1 : Nat) : Int)])) as = some (.dT (dOf S' fun _ => .bl true)) := by rw [upd_ne nr1as.symm]; exact hS1
      have hO2 : (upd H1 r1 (.lst [v, V.int ((n + 1 : Nat) : Int)])) ao = some (.lst xo') := by rw [upd_ne nr1ao.symm]; exact hO1
      have hst2 : (upd H1 r1 (.lst [v, V.int ((n + 1 : Nat) : Int)])) ast = some (.lst ((rr ++ [r1]).map V.ref)) := by rw [upd_ne hrast.symm]; exact hst
      have fr2 : ∀ b o, b ≠ as → b ≠ ao → H b = some o → (upd H1 r1 (.lst [v, V.int ((n + 1 : Nat) : Int)])) b = some o := fun b o n1 n2 e => by rw [upd_ne (ne_of_none e hr0)]; exact fr b o n1 n2 e
      have hr1nd : r1 ∉ rr := fun m => by
        have := (List.nodup_append.mp hnd).2.2 r1 m r1 (by simp)
        exact this rfl
      have cells : All2 (StkOk H (upd H1 r1 (.lst [v, V.int ((n + 1 : Nat) : Int)])) ast) (rr ++ [r1]) (rest ++ [(s, n + 1)]) := by
        refine All2.snoc ⟨hcl'.1, fun i x y hx hy => ?_⟩ ⟨hr0, hrast, v, upd_same, isSt_upd hv nt1⟩
        obtain ⟨k1, k2, w, k3, k4⟩ := hcl'.2 i x y hx hy
        have nx : x ≠ r1 := fun z => hr1nd (z ▸ List.mem_of_getElem? hx)
        exact ⟨k1, k2, w, by rw [upd_ne nx]; exact k3, isSt_upd k4 nt1⟩
      have hz2 : IsSt (upd H1 r1 (.lst [v, V.int ((n + 1 : Nat) : Int)])) z t := isSt_upd hz1 nt1
      have hxo2 : All2 (IsSt (upd H1 r1 (.lst [v, V.int ((n + 1 : Nat) : Int)]))) xo' O' := hxo1.mono fun _ _ w => isSt_upd w nt1
      refine ⟨_, rfl, _, rfl, as, _, rfl, dget (.inl hS2) hz2, _, rfl, ?_⟩
      by_cases hm : t ∈ S'
      · rw [if_pos hm]
        refine if_no rfl ?_
        exact ⟨_, wAll_skip htE, ⟨S', O', xo', _, rr ++ [r1], _, _, rfl, fr2, hS2, hO2, hxo2, hst2, cells, hnd, hD1.skip htE hm, hs1, hSS, hSD1, rfl⟩⟩
      · rw [if_neg hm]
        refine if_yes rfl ?_
        generalize hH2 : upd H1 r1 (.lst [v, V.int ((n + 1 : Nat) : Int)]) = H2 at *
        have ntS2 : ∀ ys, H2 as ≠ some (.tup ys) := not_tup hS2 (by intro ys z; cases z)
        refine ⟨_, rfl, _, rfl, as, _, rfl, dputc hS2 hz2 hm (by have := lenS hD1 hSD1; omega), ?_⟩
        have hst3 : (upd H2 as (.dT (dOf (S' ++ [t]) fun _ => .bl true))) ast = some (.lst ((rr ++ [r1]).map V.ref)) := by rw [upd_ne nastas]; exact hst2
        refine ⟨_, rfl, .inl ⟨rfl, _, SqL.of hst3⟩, _, rfl, by show 2 ≤ sizeLine; rw [sizeLine_eq]; decide, fun r2 hr2 => ?_⟩
        have nr2as : r2 ≠ as := fun z => by rw [z, upd_same] at hr2; cases hr2
        have hr2' : H2 r2 = none := by rw [upd_ne nr2as] at hr2; exact hr2
        have nr2ao : r2 ≠ ao := fun z => by rw [z, hO2] at hr2'; cases hr2'
        have nr2ast : r2 ≠ ast := fun z => by rw [z, hst2] at hr2'; cases hr2'
        have hr2H : H r2 = none := by
          cases e : H r2 with
          | none => rfl
          | some o => rw [fr2 r2 o nr2as nr2ao e] at hr2'; cases hr2'
        have nt3 : ∀ ys, (upd H2 as (.dT (dOf (S' ++ [t]) fun _ => .bl true))) r2 ≠ some (.tup ys) := none_tup hr2
        have hst4 : (upd (upd H2 as (.dT (dOf (S' ++ [t]) fun _ => .bl true))) r2 (.lst [z, .int 0])) ast = some (.lst ((rr ++ [r1]).map V.ref)) := by rw [upd_ne nr2ast.symm]; exact hst3
        have nt4 : ∀ ys, (upd (upd H2 as (.dT (dOf (S' ++ [t]) fun _ => .bl true))) r2 (.lst [z, .int 0])) ast ≠ some (.tup ys) := not_tup hst4 (by intro ys z; cases z)
        have up : ∀ {x : V} {y : Sta}, IsSt H2 x y → IsSt (upd (upd (upd H2 as (.dT (dOf (S' ++ [t]) fun _ => .bl true))) r2 (.lst [z, .int 0])) ast (.lst ((rr ++ [r1]).map V.ref ++ [.ref r2]))) x y := fun k => isSt_upd (isSt_upd (isSt_upd k ntS2) nt3) nt4
        have hsl : (rest ++ [(s, n + 1)]).length ≤ S'.length := by
          have h1 := nodup_le (a := (rest ++ [(s, n)]).map (·.1)) (b := S') ((List.nodup_append.mp hD1.nd).2.1) fun x hx => (hD1.mem x).mpr (.inr hx)
          rw [List.length_map] at h1
          simpa using h1
        refine ⟨ast, _, _, rfl, rfl, hst4, by rw [List.length_map, cells.1]; have := lenS hD1 hSD1; exact sz_lt (by omega), ?_⟩
        refine ⟨_, wAll_push htE hm htD, ⟨S' ++ [t], O', xo', _, rr ++ [r1] ++ [r2], _, _, rfl, fun b o n1 n2 e => ?_, ?_, ?_, ?_, ?_, ?_, ?_, hD1.push htE hm, by simp [hs1], fun x hx => by simp [hSS x hx], fun x hx => ?_, rfl⟩⟩
        · rw [upd_ne (ne_of_none e hastH), upd_ne (ne_of_none e hr2H), upd_ne n1]
          exact fr2 b o n1 n2 e
        · rw [upd_ne nastas.symm, upd_ne nr2as.symm, upd_same]
        · rw [upd_ne nastao.symm, upd_ne nr2ao.symm, upd_ne naso.symm]
          exact hO2
        · exact hxo2.mono fun _ _ k => up k
        · rw [upd_same, List.map_append (l₁ := rr ++ [r1])]
          rfl
        · refine All2.snoc (cells.mono fun x y ⟨k1, k2, w, k3, k4⟩ => ?_) ⟨hr2H, nr2ast, z, ?_, up hz2⟩
          · refine ⟨k1, k2, w, ?_, up k4⟩
            rw [upd_ne k2, upd_ne (ne_of_none k3 hr2'), upd_ne (fun e => by rw [e, hS2] at k3; cases k3)]
            exact k3
          · rw [upd_ne nr2ast, upd_same]
            rfl
        · rw [List.nodup_append]
          refine ⟨hnd, by simp, ?_⟩
          intro a ha b hb e
          rw [List.mem_singleton] at hb
          subst hb; subst e
          obtain ⟨i, hi, ei⟩ := List.getElem_of_mem ha
          obtain ⟨y, hy, k1, k2, w, k3, k4⟩ := cells.get' (List.getElem?_eq_some_iff.mpr ⟨hi, ei⟩)
          rw [hr2'] at k3
          cases k3
        · rcases List.mem_append.mp hx with k | k
          · exact hSD1 x k
          · rw [List.mem_singleton.mp k]; exact htD
    · have hn : (Eg W s).length ≤ n := by
        have := of_decide_eq_false hge
        omega
      have hn2 : n ≤ (Eg W s).length := hidx.1
      have ntO : ∀ ys, H1 ao ≠ some (.tup ys) := not_tup hO1 (by intro ys z; cases z)
      have hOl : xo'.length ≤ 2000 := by
        rw [hxo1.1]
        exact Nat.le_trans (nodup_le (List.nodup_append.mp hD1.nd).1 fun x hx => hSD1 x ((hD1.mem x).mpr (.inl hx))) hfew
      refine ⟨_, rfl, .inl ⟨rfl, _, SqL.of hO1⟩, _, rfl, r1, _, 0, v, rfl, rfl, SqL.of hr1, rfl, ao, _, _, rfl, rfl, hO1, sz_lt (by omega), ?_⟩
      have hst2 : (upd H1 ao (.lst (xo' ++ [v]))) ast = some (.lst ((rr ++ [r1]).map V.ref)) := by rw [upd_ne nastao]; exact hst
      have nt2 : ∀ ys, (upd H1 ao (.lst (xo' ++ [v]))) ast ≠ some (.tup ys) := not_tup hst2 (by intro ys z; cases z)
      have up : ∀ {x : V} {y : Sta}, IsSt H1 x y → IsSt (upd (upd H1 ao (.lst (xo' ++ [v]))) ast (.lst ((rr ++ [r1]).map V.ref).dropLast)) x y := fun k => isSt_upd (isSt_upd k ntO) nt2
      refine ⟨_, rfl, .inl ⟨rfl, _, SqL.of hst2⟩, ast, _, .ref r1, rfl, rfl, hst2, ?_, ?_⟩
      · rw [List.map_append, List.length_append, List.length_map]
        show (rr.map V.ref ++ [V.ref r1])[rr.length + 1 - 1]? = some (V.ref r1)
        rw [Nat.add_sub_cancel, List.getElem?_append_right (by rw [List.length_map]; exact Nat.le_refl _), List.length_map, Nat.sub_self]
        rfl
      · refine ⟨_, wAll_pop hn2, ⟨S', O' ++ [s], xo' ++ [v], _, rr, _, _, rfl, fun b o n1 n2 e => ?_, ?_, ?_, ?_, ?_, ?_, (List.nodup_append.mp hnd).1, hD1.pop hn, hs1, hSS, hSD1, rfl⟩⟩
        · rw [upd_ne (ne_of_none e hastH), upd_ne n2]
          exact fr b o n1 n2 e
        · rw [upd_ne nastas.symm, upd_ne naso]
          exact hS1
        · rw [upd_ne nastao.symm, upd_same]
        · exact (hxo1.mono fun _ _ k => up k).snoc (up hv)
        · rw [upd_same, List.map_append]
          show some (HO.lst (rr.map V.ref ++ [V.ref r1]).dropLast) = _
          rw [List.dropLast_concat]
        · refine hcl'.mono fun x y ⟨k1, k2, w, k3, k4⟩ => ⟨k1, k2, w, ?_, up k4⟩
          rw [upd_ne k2, upd_ne (fun e => by rw [e, hO] at k1; cases k1)]
          exact k3
  · have hl0 : refs.length = 0 := by
      have := of_decide_eq_false hno
      rw [List.length_map] at this
      omega
    have e1 : stk = [] := List.length_eq_zero_iff.mp (by omega)
    subst e1
    exact q S' O' xo' H1 fr hS1 hO1 hxo1 hD1 hs1 hSS hSD1
end
end Tk

/-! TkP5 -/
set_option maxRecDepth 100000
set_option maxHeartbeats 2000000
namespace Tk
open PySem PySem.Spec PyProof.Rows L2 Ts TL
section
variable {K : Fg}
theorem same_of_but {d : Addr} {H H' : Hp} {x : HO} (b : But d H H') (e : H' d = some x) : Same (upd H d x) H' := fun a o h => by
  by_cases z : a = d
  · subst z
    rw [upd_same] at h
    rw [e]; exact h
  · rw [upd_ne z] at h
    exact b a o z h
theorem but_unlock {d : Addr} {H H' : Hp} {u : HO} (b : But d H H') (e : H d = some u) : Same H (upd H' d u) := fun a o h => by
  by_cases z : a = d
  · subst z
    rw [e] at h; cases h
    exact upd_same
  · rw [upd_ne z]
    exact b a o z h
theorem but_lock {d : Addr} {H : Hp} {x : HO} : But d H (upd H d x) := fun a o z h => by rw [upd_ne z]; exact h
theorem but_same {d : Addr} {H H' H2 : Hp} (b : But d H H') (s : Same H' H2) : But d H H2 := fun a o z h => s _ _ (b a o z h)
theorem but_mut {d x : Addr} {H H' : Hp} {o : HO} (b : But d H H') (h : H x = none) : But d H (upd H' x o) := fun a q z e => by
  rw [upd_ne (ne_of_none e h)]; exact b a q z e
theorem but_trans {d : Addr} {H H' H2 : Hp} (a : But d H H') (b : But d H' H2) : But d H H2 := fun x o z h => b x o z (a x o z h)
theorem graph_dT {H : Hp} {aw : Addr} {D : List Sta} {W : Sta → List (Nat × Sta)} (g : Graph H aw D W) (h : ∃ kvs, H aw = some (.dT kvs)) :
    ∃ L : Sta → Addr, H aw = some (.dT (dOf D fun s => .ref (L s))) ∧ ∀ s ∈ D, ∃ xs, H (L s) = some (.lst xs) ∧ All2 (IsLs H) xs (W s) := by
  obtain ⟨L, h1, h2⟩ := g.at_
  refine ⟨L, ?_, h2⟩
  rcases h1 with h1 | ⟨o, h1⟩
  · exact h1
  · obtain ⟨kvs, h⟩ := h
    rw [h] at h1
    cases h1
theorem mem_take_get {A : Type} {l : List A} {i : Nat} {x : A} (h : x ∈ l.take i) : ∃ j, j < i ∧ l[j]? = some x := by
  obtain ⟨j, hj, e⟩ := List.getElem_of_mem h
  rw [List.length_take] at hj
  refine ⟨j, by omega, ?_⟩
  have := List.getElem?_eq_some_iff.mpr ⟨by rw [List.length_take]; omega, e⟩
  rw [List.getElem?_take_of_lt (by omega)] at this
  exact this
theorem not_mem_take {A : Type} {l : List A} {i : Nat} {x : A} (hn : l.Nodup) (h : l[i]? = some x) : x ∉ l.take i := fun m => by
  obtain ⟨j, hj, e⟩ := mem_take_get m
  obtain ⟨h1, e1⟩ := List.getElem?_eq_some_iff.mp h
  obtain ⟨h2, e2⟩ := List.getElem?_eq_some_iff.mp e
  have := (List.getElem_inj hn).mp (e1.trans e2.symm)
  omega
theorem pure_turned_around (vs : List V) (H : Hp) (Q : VK) (E : XK) (h : sp_turned_around K vs H Q E) : t_turned_around K { nx := fun _ H' => Q .non H', rt := Q } (start n_turned_around vs) H := by
  obtain ⟨aw, D, W, rfl, hG, hdT, q⟩ := h
  obtain ⟨L, haw, hL⟩ := graph_dT hG hdT
  have hfew := hG.few
  intro ab hab
  have naw : aw ≠ ab := ne_of_none haw hab
  have haw1 : (upd H ab (.dT [])) aw = some (.dT (dOf D fun s => .ref (L s))) := by rw [upd_ne naw]; exact haw
  refine s_forD (σ := [some (.ref aw), some (.ref ab), none, none, none]) rfl haw1 (fun i σ H' => ∃ (B : Sta → Addr) (y2 : Option V), σ = [some (.ref aw), some (.ref ab), y2, none, none] ∧ But aw H H' ∧
    H' ab = some (.dT (dOf (D.take i) fun s => .ref (B s))) ∧ (∀ s ∈ D.take i, H (B s) = none ∧ B s ≠ ab ∧ H' (B s) = some (.lst [])) ∧ ∀ s ∈ D.take i, ∀ t ∈ D.take i, B s = B t → s = t)
    (fun o => ⟨fun _ => 0, none, rfl, ?_, ?_, by simp, by simp⟩) ?_ ?_
  · intro b x z e
    rw [upd_ne z, upd_ne (ne_of_none e hab)]
    exact e
  · rw [upd_ne naw.symm, upd_same]
    rfl
  · rintro o i s v σ H1 hi hv hfz ⟨B, y2, rfl, hb, hab1, hB, inj⟩ rt bk
    refine ⟨Nat.zero_le _, fun l hl => ?_⟩
    have hl0 : H l = none := by
      cases e : H l with
      | none => rfl
      | some x =>
        by_cases z : l = aw
        · rw [z, hfz] at hl; cases hl
        · rw [hb l x z e] at hl; cases hl
    have nlab : l ≠ ab := fun z => by rw [z, hab1] at hl; cases hl
    have nlaw : l ≠ aw := fun z => by rw [z, hfz] at hl; cases hl
    have hns := not_mem_take hG.nd hi
    have hab2 : (upd H1 l (.lst [])) ab = some (.dT (dOf (D.take i) fun s => .ref (B s))) := by rw [upd_ne nlab.symm]; exact hab1
    refine ⟨_, rfl, _, rfl, ab, _, rfl, dput (.ref l) hab2 (hv.same (same_new hl)) hns (by rw [List.length_take]; omega), ?_, fun x => if x = s then l else B x, _, rfl, ?_, ?_, ?_, ?_⟩
    · rw [upd_ne naw, upd_ne nlaw.symm]; exact hfz
    · exact but_mut (but_mut hb hl0) hab
    · rw [upd_same, tk_snoc hi]
      congr 2
      exact dOf_congr fun x _ => by
        by_cases e : x = s
        · dsimp only; rw [if_pos e, if_pos e]
        · dsimp only; rw [if_neg e, if_neg e]
    · intro x hx
      rw [tk_snoc hi] at hx
      rcases List.mem_append.mp hx with hx | hx
      · have e : x ≠ s := fun z => hns (z ▸ hx)
        obtain ⟨k1, k2, k3⟩ := hB x hx
        dsimp only
        rw [if_neg e]
        refine ⟨k1, k2, ?_⟩
        rw [upd_ne k2, upd_ne (ne_of_none k3 hl)]
        exact k3
      · rw [List.mem_singleton] at hx
        dsimp only
        rw [if_pos hx]
        exact ⟨hl0, nlab, by rw [upd_ne nlab, upd_same]⟩
    · intro x hx y hy e
      rw [tk_snoc hi] at hx hy
      dsimp only at e
      have old : ∀ z, z ∈ D.take i → z ≠ s ∧ B z ≠ l := fun z hz => ⟨fun w => hns (w ▸ hz), fun w => by
        have := (hB z hz).2.2
        rw [w, hl] at this; cases this⟩
      rcases List.mem_append.mp hx with hx | hx <;> rcases List.mem_append.mp hy with hy | hy
      · rw [if_neg (old x hx).1, if_neg (old y hy).1] at e
        exact inj x hx y hy e
      · rw [List.mem_singleton] at hy
        rw [if_neg (old x hx).1, if_pos hy] at e
        exact absurd e (old x hx).2
      · rw [List.mem_singleton] at hx
        rw [if_pos hx, if_neg (old y hy).1] at e
        exact absurd e.symm (old y hy).2
      · rw [List.mem_singleton] at hx hy
        rw [hx, hy]
  · rintro o σ H1 hfz ⟨B, y2, rfl, hb, hab1, hB, inj⟩
    rw [List.take_length] at hab1 hB inj
    have sH2 : Same H (upd H1 aw (.dT (dOf D fun s => .ref (L s)))) := but_unlock hb haw
    generalize hH2 : upd H1 aw (.dT (dOf D fun s => .ref (L s))) = H2 at sH2
    have haw2 : H2 aw = some (.dT (dOf D fun s => .ref (L s))) := by rw [← hH2]; exact upd_same
    have hab2 : H2 ab = some (.dT (dOf D fun s => .ref (B s))) := by rw [← hH2, upd_ne naw.symm]; exact hab1
    have nBaw : ∀ s ∈ D, B s ≠ aw := fun s hs z => by
      have := (hB s hs).2.2
      rw [z, hfz] at this; cases this
    have hB2 : ∀ s ∈ D, H2 (B s) = some (.lst []) := fun s hs => by
      rw [← hH2, upd_ne (nBaw s hs)]
      exact (hB s hs).2.2
    refine s_forD (d := aw) rfl haw2 (fun i σ H' => ∃ (xs : Sta → List V) (ys : Sta → List Sta) (y2 y3 y4 : Option V), σ = [some (.ref aw), some (.ref ab), y2, y3, y4] ∧ But aw H H' ∧
      H' ab = some (.dT (dOf D fun s => .ref (B s))) ∧ ∀ s ∈ D, H' (B s) = some (.lst (xs s)) ∧ All2 (IsSt H') (xs s) (ys s) ∧ (ys s).length ≤ 100 * i ∧ ∀ y, y ∈ ys s ↔ y ∈ D.take i ∧ s ∈ Eg W y)
      (fun o => ⟨fun _ => [], fun _ => [], y2, none, none, rfl, ?_, ?_, fun s hs => ⟨?_, All2.nil, Nat.zero_le _, fun y => by simp⟩⟩) ?_ ?_
    · intro b x z e
      rw [upd_ne z]
      exact sH2 b x e
    · rw [upd_ne naw.symm]; exact hab2
    · rw [upd_ne (nBaw s hs)]; exact hB2 s hs
    · rintro o i s v σ H3 hi hv hfz3 ⟨xs, ys, y2, y3, y4, rfl, hb3, hab3, hX⟩ rt bk
      have hsD : s ∈ D := List.mem_of_getElem? hi
      have hi1 : i < D.length := (List.getElem?_eq_some_iff.mp hi).1
      obtain ⟨ls, hls, hla⟩ := hL s hsD
      have nLaw : L s ≠ aw := fun z => by rw [z, haw] at hls; cases hls
      have nBL : ∀ t ∈ D, B t ≠ L s := fun t ht z => by
        have := (hB t ht).1
        rw [z, hls] at this; cases this
      have hls3 : H3 (L s) = some (.lst ls) := hb3 _ _ nLaw hls
      refine ⟨_, rfl, _, rfl, aw, _, rfl, dget_in (f := fun s => .ref (L s)) (.inr ⟨o, hfz3⟩) hv hsD, L s, rfl, ⟨ls, SqL.of hls3⟩, ?_⟩
      refine for_list (K := K) (a := L s) (xs := ls) (fun j σ H' => ∃ (xs' : Sta → List V) (ys' : Sta → List Sta) (y3 y4 : Option V), σ = [some (.ref aw), some (.ref ab), some v, y3, y4] ∧ But aw H H' ∧ H' aw = some (.frz o (.dT (dOf D fun s => .ref (L s)))) ∧ IsSt H' v s ∧
        H' ab = some (.dT (dOf D fun s => .ref (B s))) ∧ ∀ t ∈ D, H' (B t) = some (.lst (xs' t)) ∧ All2 (IsSt H') (xs' t) (ys' t) ∧ (ys' t).length ≤ 100 * i + j ∧ ∀ y, y ∈ ys' t ↔ (y ∈ D.take i ∧ t ∈ Eg W y) ∨ (y = s ∧ t ∈ (Eg W s).take j))
        ⟨xs, ys, y3, y4, rfl, hb3, hfz3, hv, hab3, fun t ht => ⟨(hX t ht).1, (hX t ht).2.1, (hX t ht).2.2.1, fun y => by rw [(hX t ht).2.2.2]; simp⟩⟩
        (fun j σ H' _ ⟨_, _, _, _, _, hb', _⟩ => SqL.of (hb' _ _ nLaw hls)) ?_ ?_
      · rintro j x σ H4 hj ⟨xs', ys', y3, y4, rfl, hb4, hfz4, hv4, hab4, hX4⟩
        have hjl : j < ls.length := (List.getElem?_eq_some_iff.mp hj).1
        have hdeg := hG.deg s hsD
        have hlen := hla.1
        obtain ⟨⟨c, t⟩, hct, ⟨p, z, rfl, hp, hz⟩⟩ := hla.get' hj
        have htE : (Eg W s)[j]? = some t := by
          show ((W s).map (·.2))[j]? = some t
          rw [List.getElem?_map, hct]
          rfl
        have htD : t ∈ D := hG.closed s hsD t (List.mem_of_getElem? htE)
        have npaw : p ≠ aw := fun w => by rw [w, haw] at hp; cases hp
        have hz4 : IsSt H4 z t := by
          obtain ⟨a', e1, e2⟩ := hz
          exact ⟨a', e1, hb4 _ _ (fun w => by rw [w, haw] at e2; cases e2) e2⟩
        obtain ⟨k1, k2, k3, k4⟩ := hX4 t htD
        refine ⟨p, _, rfl, SqT.of (hb4 _ _ npaw hp), rfl, _, _, rfl, _, _, rfl, rfl, ?_⟩
        have ntB : ∀ ys0, H4 (B t) ≠ some (.tup ys0) := not_tup k1 (by intro ys0 w; cases w)
        refine ⟨_, rfl, _, rfl, ab, _, rfl, dget_in (f := fun s => .ref (B s)) (.inl hab4) hz4 htD, .inl ⟨rfl, _, SqL.of k1⟩, _, rfl, B t, _, _, rfl, rfl, k1, by rw [k2.1]; exact sz_lt (by omega), ?_⟩
        refine ⟨fun u => if u = t then xs' u ++ [v] else xs' u, fun u => if u = t then ys' u ++ [s] else ys' u, _, _, rfl, ?_, ?_, isSt_upd hv4 ntB, ?_, fun u hu => ?_⟩
        · exact but_mut hb4 (hB t htD).1
        · rw [upd_ne (nBaw t htD).symm]; exact hfz4
        · rw [upd_ne (hB t htD).2.1.symm]; exact hab4
        · obtain ⟨m1, m2, m3, m4⟩ := hX4 u hu
          by_cases e : u = t
          · subst e
            dsimp only
            rw [if_pos rfl, if_pos rfl]
            refine ⟨upd_same, (m2.mono fun _ _ w => isSt_upd w ntB).snoc (isSt_upd hv4 ntB), by rw [List.length_append, List.length_singleton]; omega, fun y => ?_⟩
            rw [List.mem_append, List.mem_singleton, m4, tk_snoc htE, List.mem_append, List.mem_singleton]
            constructor
            · rintro ((w | ⟨w1, w2⟩) | w)
              · exact .inl w
              · exact .inr ⟨w1, .inl w2⟩
              · exact .inr ⟨w, .inr rfl⟩
            · rintro (w | ⟨w1, w2 | _⟩)
              · exact .inl (.inl w)
              · exact .inl (.inr ⟨w1, w2⟩)
              · exact .inr w1
          · dsimp only
            rw [if_neg e, if_neg e]
            have nB : B u ≠ B t := fun w => e (inj u hu t htD w)
            refine ⟨by rw [upd_ne nB]; exact m1, m2.mono fun _ _ w => isSt_upd w ntB, by omega, fun y => ?_⟩
            rw [m4, tk_snoc htE, List.mem_append, List.mem_singleton]
            constructor
            · rintro (w | ⟨w1, w2⟩)
              · exact .inl w
              · exact .inr ⟨w1, .inl w2⟩
            · rintro (w | ⟨w1, w2 | w2⟩)
              · exact .inl w
              · exact .inr ⟨w1, w2⟩
              · exact absurd w2 e
      · rintro σ H4 ⟨xs', ys', y3, y4, rfl, hb4, hfz4, hv4, hab4, hX4⟩
        refine ⟨hfz4, xs', ys', _, _, _, rfl, hb4, hab4, fun t ht => ?_⟩
        obtain ⟨m1, m2, m3, m4⟩ := hX4 t ht
        have hdeg := hG.deg s hsD
        have hlen := hla.1
        refine ⟨m1, m2, by omega, fun y => ?_⟩
        rw [m4, tk_snoc hi, List.mem_append, List.mem_singleton]
        have el : (Eg W s).take ls.length = Eg W s := List.take_of_length_le (by show ((W s).map (·.2)).length ≤ _; rw [List.length_map, hlen]; exact Nat.le_refl _)
        rw [el]
        constructor
        · rintro (⟨w1, w2⟩ | ⟨w1, w2⟩)
          · exact ⟨.inl w1, w2⟩
          · exact ⟨.inr w1, by rw [w1]; exact w2⟩
        · rintro ⟨w1 | w1, w2⟩
          · exact .inl ⟨w1, w2⟩
          · exact .inr ⟨w1, by rw [← w1]; exact w2⟩
    · rintro o σ H3 hfz3 ⟨xs, ys, y2, y3, y4, rfl, hb3, hab3, hX⟩
      refine ⟨_, rfl, q ab _ (but_unlock hb3 haw) ⟨B, .inl (by rw [upd_ne naw.symm]; exact hab3), fun s hs => ?_⟩⟩
      obtain ⟨m1, m2, m3, m4⟩ := hX s hs
      rw [List.take_length] at m4
      refine ⟨xs s, ys s, by rw [upd_ne (nBaw s hs)]; exact m1, m2.mono fun _ _ w => isSt_upd w (not_tup hfz3 (by intro ys0 w; cases w)), m4⟩
end
end Tk

/-! TkP6 -/
set_option maxRecDepth 100000
set_option maxHeartbeats 2000000
namespace Tk
open PySem PySem.Spec PyProof.Rows L2 Ts TL
section
variable {K : Fg}
/-! ### components_of -/
def nOf (D : List Sta) (nu : Sta → Nat) : Sta → Option Nat := fun x => if x ∈ D then some (nu x) else none
theorem nOf_put {D : List Sta} {nu : Sta → Nat} {s : Sta} {m : Nat} (x : Sta) : nOf (D ++ [s]) (fun y => if y = s then m else nu y) x = if x = s then some m else nOf D nu x := by
  unfold nOf
  by_cases e : x = s
  · rw [if_pos (by simp [e]), if_pos e]
    dsimp only
    rw [if_pos e]
  · dsimp only
    rw [if_neg e, if_neg e]
    by_cases h : x ∈ D
    · rw [if_pos (by simp [h]), if_pos h]
    · rw [if_neg (by simp [h, e]), if_neg h]
theorem nOf_none {D : List Sta} {nu : Sta → Nat} {x : Sta} : nOf D nu x = none ↔ x ∉ D := by
  unfold nOf
  by_cases h : x ∈ D
  · rw [if_pos h]; simp [h]
  · rw [if_neg h]; simp [h]
theorem dOf_nu {D : List Sta} {nu : Sta → Nat} {s : Sta} {m : Nat} : dOf (D ++ [s]) (fun x => if x = s then V.int (m : Int) else V.int (nu x : Nat)) = dOf (D ++ [s]) (fun x => V.int ((if x = s then m else nu x : Nat) : Int)) :=
  dOf_congr fun x _ => by split <;> rfl
abbrev t_round (K : Fg) : TS := (tWhile (tTest (tOp rGtI (tCB (rLenQ K) (tCons (tVar 8) tNil)) (tC (.int 0))))
  (tFor (iList K (tDGet (tVar 4) (tBM0 K "list" rPop (tVar 8)))) (gName 9)
  (tIfS (tB (tDNotIn (tVar 9) (tVar 5)))
  (tSeq (sDPut (tVar 5) (tVar 9) (tVar 6))
  (tDrop (tBM K "list" rAppend (tVar 8) (tCons (tVar 9) tNil))))
  tNext)))
structure RW (W : Sta → List (Nat × Sta)) (D O : List Sta) (N0 : Sta → Option Nat) (many : Nat) (s : Sta) (H3 : Hp) (v0 v1 v2 v3 : Option V) (ab an ast : Addr) (v7 : V) (m : Nat) (σ : L2.St) (H' : Hp) : Prop where
  ex : ∃ (D2 : List Sta) (nu2 : Sta → Nat) (T : List Sta) (xt : List V) (y9 : Option V), σ = [v0, v1, v2, v3, some (.ref ab), some (.ref an), some (.int (many : Int)), some v7, some (.ref ast), y9] ∧ Same H3 H' ∧
    H' an = some (.dT (dOf D2 fun x => .int (nu2 x : Nat))) ∧ D2.Nodup ∧ (∀ x ∈ D2, x ∈ D) ∧ H' ast = some (.lst xt) ∧ All2 (IsSt H') xt T ∧ Rnd (Eg W) O N0 many s (nOf D2 nu2) T ∧ m = 2 * (D.length - D2.length) + T.length ∧ m ≤ 5000
theorem round_loop {W : Sta → List (Nat × Sta)} {D O : List Sta} {N0 : Sta → Option Nat} {many : Nat} {s : Sta} {H3 : Hp} {v0 v1 v2 v3 : Option V} {ab an ast : Addr} {v7 : V} {De : Ends} {m0 : Nat} {σ : L2.St} {H : Hp}
    (hD : D.length ≤ 2000) (hB : Back H3 ab D W) (hOD : ∀ x, x ∈ O ↔ x ∈ D) (hlt : ∀ x n, N0 x = some n → n < many) (han : H3 an = none) (hast : H3 ast = none)
    (w0 : RW W D O N0 many s H3 v0 v1 v2 v3 ab an ast v7 m0 σ H)
    (k : ∀ m σ' H', RW W D O N0 many s H3 v0 v1 v2 v3 ab an ast v7 m σ' H' → (∃ (D2 : List Sta) (nu2 : Sta → Nat) (y9 : Option V), σ' = [v0, v1, v2, v3, some (.ref ab), some (.ref an), some (.int (many : Int)), some v7, some (.ref ast), y9] ∧ Same H3 H' ∧
      H' an = some (.dT (dOf D2 fun x => .int (nu2 x : Nat))) ∧ D2.Nodup ∧ (∀ x ∈ D2, x ∈ D) ∧ Rnd (Eg W) O N0 many s (nOf D2 nu2) []) → De.nx σ' H') : t_round K De σ H := by
  obtain ⟨B, hBr, hBs⟩ := hB
  refine ⟨RW W D O N0 many s H3 v0 v1 v2 v3 ab an ast v7, ⟨m0, w0⟩, ?_⟩
  intro m σ1 H1 hw
  obtain ⟨D2, nu2, T, xt, y9, rfl, s1, hn1, hnd, hsub, ht1, hxt, hR, em, hm⟩ := id hw
  have hl := hxt.1
  refine ⟨_, rfl, ast, _, rfl, .inl (SqL.of ht1), _, _, rfl, rfl, _, rfl, ?_⟩
  refine if_by (fun hyes => ?_) (fun hno => ?_)
  · have hpos : 0 < xt.length := by have := of_decide_eq_true hyes; omega
    obtain ⟨xr, x, ex⟩ : ∃ xr x, xt = xr ++ [x] := ⟨xt.dropLast, xt.getLast (List.length_pos_iff.mp hpos), (List.dropLast_concat_getLast _).symm⟩
    obtain ⟨Tr, t, et⟩ : ∃ Tr t, T = Tr ++ [t] := ⟨T.dropLast, T.getLast (List.length_pos_iff.mp (by omega)), (List.dropLast_concat_getLast _).symm⟩
    subst ex; subst et
    obtain ⟨hxr, hxv⟩ := hxt.init
    have htN := hR.stk t (by simp)
    have htD2 : t ∈ D2 := by
      cases e : decide (t ∈ D2) with
      | true => exact of_decide_eq_true e
      | false =>
        have q : nOf D2 nu2 t = none := nOf_none.mpr (of_decide_eq_false e)
        rw [q] at htN; cases htN
    have htD := hsub t htD2
    obtain ⟨bs, ys, hbs, hba, hby⟩ := hBs t htD
    have ntst : ∀ ys0, H1 ast ≠ some (.tup ys0) := not_tup ht1 (by intro ys0 z; cases z)
    have nast_an : an ≠ ast := ne_of hn1 ht1 (by intro z; cases z)
    have eT : (Tr ++ [t]).length = Tr.length + 1 := by simp
    refine ⟨fun σ' H' => ∃ m', m' < m ∧ RW W D O N0 many s H3 v0 v1 v2 v3 ab an ast v7 m' σ' H', fun _ _ z => z, ?_⟩
    refine ⟨_, rfl, _, rfl, .inl ⟨rfl, _, SqL.of ht1⟩, ast, _, x, rfl, rfl, ht1, ?_, ?_⟩
    · rw [List.length_append, List.length_singleton, Nat.add_sub_cancel, List.getElem?_append_right (Nat.le_refl _), Nat.sub_self]
      rfl
    rw [List.dropLast_concat]
    have s2 : Same H3 (upd H1 ast (.lst xr)) := same_mut s1 hast
    have hx2 : IsSt (upd H1 ast (.lst xr)) x t := isSt_upd hxv ntst
    have hbs2 : (upd H1 ast (.lst xr)) (B t) = some (.lst bs) := s2 _ _ hbs
    refine ⟨ab, _, rfl, dget_in (f := fun s => .ref (B s)) (same_rd s2 hBr) hx2 htD, B t, rfl, ⟨bs, SqL.of hbs2⟩, ?_⟩
    refine for_list (K := K) (a := B t) (xs := bs) (fun j σ H' => ∃ (D2 : List Sta) (nu2 : Sta → Nat) (T : List Sta) (xt : List V) (y9 : Option V), σ = [v0, v1, v2, v3, some (.ref ab), some (.ref an), some (.int (many : Int)), some v7, some (.ref ast), y9] ∧ Same H3 H' ∧
      H' an = some (.dT (dOf D2 fun x => .int (nu2 x : Nat))) ∧ D2.Nodup ∧ (∀ x ∈ D2, x ∈ D) ∧ H' ast = some (.lst xt) ∧ All2 (IsSt H') xt T ∧ Inn (Eg W) O N0 many s t (nOf D2 nu2) T (ys.take j) ∧ 2 * (D.length - D2.length) + T.length < m)
      ⟨D2, nu2, Tr, xr, y9, rfl, s2, by rw [upd_ne nast_an]; exact hn1, hnd, hsub, upd_same, hxr.mono fun _ _ z => isSt_upd z ntst, by rw [List.take_zero]; exact hR.pop, by omega⟩
      (fun j σ H' _ ⟨_, _, _, _, _, _, s', _⟩ => SqL.of (s' _ _ hbs)) ?_ ?_
    · rintro j z σ H4 hj ⟨D4, nu4, T4, xt4, y9, rfl, s4, hn4, hnd4, hsub4, ht4, hxt4, hI, hmm⟩
      obtain ⟨y, hy, hz⟩ := hba.get' hj
      have hz4 : IsSt H4 z y := hz.same s4
      have hyD := ((hby y).mp (List.mem_of_getElem? hy)).1
      have hyE := ((hby y).mp (List.mem_of_getElem? hy)).2
      refine ⟨_, rfl, _, rfl, an, _, rfl, dget (.inl hn4) hz4, _, rfl, ?_⟩
      by_cases hm4 : y ∈ D4
      · rw [if_pos hm4]
        refine if_no rfl ?_
        refine ⟨D4, nu4, T4, xt4, _, rfl, s4, hn4, hnd4, hsub4, ht4, hxt4, ?_, hmm⟩
        rw [tk_snoc hy]
        exact hI.skip fun e => nOf_none.mp e hm4
      · rw [if_neg hm4]
        refine if_yes rfl ?_
        have hlen4 : D4.length ≤ 2000 := Nat.le_trans (nodup_le hnd4 hsub4) hD
        have hlen5 : (D4 ++ [y]).length ≤ D.length := nodup_le (by
          rw [List.nodup_append]
          refine ⟨hnd4, by simp, ?_⟩
          intro a ha b hb e
          rw [List.mem_singleton] at hb
          subst hb; subst e
          exact hm4 ha) (fun x hx => by
          rcases List.mem_append.mp hx with k | k
          · exact hsub4 x k
          · rw [List.mem_singleton.mp k]; exact hyD)
        rw [List.length_append, List.length_singleton] at hlen5
        refine ⟨_, rfl, _, rfl, _, rfl, an, _, rfl, dput _ hn4 hz4 hm4 (by omega), ?_⟩
        rw [dOf_nu]
        have nt4 : ∀ ys0, H4 an ≠ some (.tup ys0) := not_tup hn4 (by intro ys0 z; cases z)
        have ht5 : ∀ o, (upd H4 an o) ast = some (.lst xt4) := fun o => by rw [upd_ne nast_an.symm]; exact ht4
        refine ⟨_, rfl, .inl ⟨rfl, _, SqL.of (ht5 _)⟩, _, rfl, ast, _, _, rfl, rfl, ht5 _, by rw [hxt4.1]; exact sz_lt (by omega), ?_⟩
        have nt5 : ∀ o ys0, (upd H4 an o) ast ≠ some (.tup ys0) := fun o => not_tup (ht5 o) (by intro ys0 z; cases z)
        refine ⟨D4 ++ [y], fun x => if x = y then many else nu4 x, T4 ++ [y], xt4 ++ [z], _, rfl, same_mut (same_mut s4 han) hast, by rw [upd_ne nast_an, upd_same], ?_, ?_, upd_same, ?_, ?_, ?_⟩
        · rw [List.nodup_append]
          refine ⟨hnd4, by simp, ?_⟩
          intro a ha b hb e
          rw [List.mem_singleton] at hb
          subst hb; subst e
          exact hm4 ha
        · intro x hx
          rcases List.mem_append.mp hx with k | k
          · exact hsub4 x k
          · rw [List.mem_singleton.mp k]; exact hyD
        · exact (hxt4.mono fun _ _ w => isSt_upd (isSt_upd w nt4) (nt5 _)).snoc (isSt_upd (isSt_upd hz4 nt4) (nt5 _))
        · rw [tk_snoc hy]
          exact hI.take (nOf_none.mpr hm4) hyE ((hOD y).mpr hyD) hlt fun x => nOf_put x
        · simp only [List.length_append, List.length_singleton]
          omega
    · rintro σ H4 ⟨D4, nu4, T4, xt4, y9, rfl, s4, hn4, hnd4, hsub4, ht4, hxt4, hI, hmm⟩
      rw [hba.1, List.take_length] at hI
      exact ⟨_, hmm, ⟨D4, nu4, T4, xt4, _, rfl, s4, hn4, hnd4, hsub4, ht4, hxt4, hI.done fun y h1 h2 => (hby y).mpr ⟨(hOD y).mp h2, h1⟩, rfl, by omega⟩⟩
  · have hl0 : xt.length = 0 := by have := of_decide_eq_false hno; omega
    have e1 : T = [] := List.length_eq_zero_iff.mp (by omega)
    subst e1
    exact k m _ H1 hw ⟨D2, nu2, y9, rfl, s1, hn1, hnd, hsub, hR⟩
theorem drop_cons {A : Type} {l : List A} {n i : Nat} {x : A} (hn : l.length = n) (hi : i < n) (h : l[n - 1 - i]? = some x) : l = l.take (n - 1 - i) ++ x :: l.drop (n - i) ∧ l.drop (n - (i + 1)) = x :: l.drop (n - i) := by
  obtain ⟨h1, h2⟩ := List.getElem?_eq_some_iff.mp h
  have e1 : n - (i + 1) = n - 1 - i := by omega
  have e2 : n - 1 - i + 1 = n - i := by omega
  have e3 := List.drop_eq_getElem_cons h1
  rw [h2, e2] at e3
  refine ⟨?_, by rw [e1]; exact e3⟩
  conv => lhs; rw [← List.take_append_drop (n - 1 - i) l]
  rw [e3]
theorem pure_components_of (vs : List V) (H : Hp) (Q : VK) (E : XK) (h : sp_components_of K vs H Q E) : t_components_of K { nx := fun _ H' => Q .non H', rt := Q } (start n_components_of vs) H := by
  obtain ⟨aw, D, W, rfl, hG, hdT, q⟩ := h
  obtain ⟨L, haw, hL⟩ := graph_dT hG hdT
  have hfew := hG.few
  refine ⟨Nat.zero_le _, fun ao hao => ?_⟩
  intro as has
  have nao_as : ao ≠ as := fun z => by rw [← z, upd_same] at has; cases has
  have has0 : H as = none := by rw [upd_ne nao_as.symm] at has; exact has
  have naw_ao : aw ≠ ao := ne_of_none haw hao
  have naw_as : aw ≠ as := ne_of_none haw has0
  have haw1 : (upd (upd H ao (.lst [])) as (.dT [])) aw = some (.dT (dOf D fun s => .ref (L s))) := by rw [upd_ne naw_as, upd_ne naw_ao]; exact haw
  refine s_forD (d := aw) rfl haw1 (fun i σ H' => ∃ (S O : List Sta) (xo : List V) (y3 : Option V), σ = [some (.ref aw), some (.ref ao), some (.ref as), y3, none, none, none, none, none, none] ∧ But aw H H' ∧
    H' as = some (.dT (dOf S fun _ => .bl true)) ∧ H' ao = some (.lst xo) ∧ All2 (IsSt H') xo O ∧ Dfs (Eg W) S O [] ∧ (∀ x ∈ S, x ∈ D) ∧ ∀ x ∈ D.take i, x ∈ S)
    (fun o => ⟨[], [], [], none, rfl, ?_, ?_, ?_, All2.nil, Dfs.empty _, by simp, by simp⟩) ?_ ?_
  · intro b x z e
    rw [upd_ne z, upd_ne (ne_of_none e has0), upd_ne (ne_of_none e hao)]
    exact e
  · rw [upd_ne naw_as.symm, upd_same]
    rfl
  · rw [upd_ne naw_ao.symm, upd_ne nao_as, upd_same]
  · rintro o i s v σ H1 hi hv hfz ⟨S, O, xo, y3, rfl, hb, hS, hO, hxo, hD, hSD, hdone⟩ rt bk
    have hsD : s ∈ D := List.mem_of_getElem? hi
    refine ⟨_, rfl, _, rfl, as, _, rfl, dget (.inl hS) hv, _, rfl, ?_⟩
    by_cases hm : s ∈ S
    · rw [if_pos hm]
      refine if_no rfl ?_
      refine ⟨hfz, S, O, xo, _, rfl, hb, hS, hO, hxo, hD, hSD, fun x hx => ?_⟩
      rw [tk_snoc hi] at hx
      rcases List.mem_append.mp hx with k | k
      · exact hdone x k
      · rw [List.mem_singleton.mp k]; exact hm
    · rw [if_neg hm]
      refine if_yes rfl ?_
      refine ⟨_, rfl, _, rfl, _, rfl, _, rfl, aw, v, as, ao, D, W, s, S, O, xo, upd H aw (.frz o (.dT (dOf D fun s => .ref (L s)))), rfl, graph_lock haw hG, same_of_but hb hfz, by rw [upd_ne naw_as.symm]; exact has0, by rw [upd_ne naw_ao.symm]; exact hao,
        hv, hsD, hm, hS, hO, hxo, hD, hSD, fun S' O' xo' H2 fr hS2 hO2 hxo2 hD2 hs2 hSS hSD2 => ?_⟩
      refine ⟨fr _ _ naw_as naw_ao hfz, S', O', xo', _, rfl, fun b x z e => fr b x (ne_of_none e has0) (ne_of_none e hao) (hb b x z e), hS2, hO2, hxo2, hD2, hSD2, fun x hx => ?_⟩
      rw [tk_snoc hi] at hx
      rcases List.mem_append.mp hx with k | k
      · exact hSS x (hdone x k)
      · rw [List.mem_singleton.mp k]; exact hs2
  · rintro o σ H1 hfz ⟨S, O, xo, y3, rfl, hb, hS, hO, hxo, hD, hSD, hdone⟩
    rw [List.take_length] at hdone
    have sH2 : Same H (upd H1 aw (.dT (dOf D fun s => .ref (L s)))) := but_unlock hb haw
    have hOD : ∀ x, x ∈ O ↔ x ∈ D := fun x => ⟨fun m => hSD x ((hD.mem x).mpr (.inl m)), fun m => by
      rcases (hD.mem x).mp (hdone x m) with k | k
      · exact k
      · simp at k⟩
    have hOnd : O.Nodup := by have := hD.nd; simpa using this
    have hOlen : O.length ≤ 2000 := Nat.le_trans (nodup_le hOnd fun x hx => (hOD x).mp hx) hfew
    have hO2 : (upd H1 aw (.dT (dOf D fun s => .ref (L s)))) ao = some (.lst xo) := by rw [upd_ne naw_ao.symm]; exact hO
    have hxo2 : All2 (IsSt (upd H1 aw (.dT (dOf D fun s => .ref (L s))))) xo O := hxo.mono fun _ _ z => isSt_upd z (not_tup hfz (by intro ys0 w; cases w))
    generalize hH2 : upd H1 aw (.dT (dOf D fun s => .ref (L s))) = H2 at sH2 hO2 hxo2 ⊢
    have haw2 : H2 aw = some (.dT (dOf D fun s => .ref (L s))) := by rw [← hH2]; exact upd_same
    refine ⟨_, rfl, aw, D, W, rfl, hG.same sH2, ⟨_, haw2⟩, fun ab H3 s3 hBk => ?_⟩
    intro an han
    have hO3 := s3 _ _ hO2
    have hxo3 : All2 (IsSt H3) xo O := hxo2.mono fun _ _ z => z.same s3
    have lxo : xo.length = O.length := hxo3.1
    -- the rounds
    refine ⟨_, rfl, ao, xo, rfl, SqL.of ((same_new han) _ _ hO3), for_rev (K := K) (a := ao) (xs := xo) (fun i σ H' => ∃ (D2 : List Sta) (nu2 : Sta → Nat) (many : Nat) (y7 y8 y9 : Option V),
      σ = [some (.ref aw), some (.ref ao), some (.ref as), y3, some (.ref ab), some (.ref an), some (.int (many : Int)), y7, y8, y9] ∧ Same H3 H' ∧ H' an = some (.dT (dOf D2 fun x => .int (nu2 x : Nat))) ∧ D2.Nodup ∧ (∀ x ∈ D2, x ∈ D) ∧
      Kos (Eg W) O (nOf D2 nu2) many (O.drop (xo.length - i)) ∧ many ≤ i)
      ⟨[], fun _ => 0, 0, none, none, none, rfl, same_new han, upd_same, List.nodup_nil, by simp, ?_, Nat.le_refl _⟩
      (fun i σ H' _ ⟨_, _, _, _, _, _, _, s', _⟩ => SqL.of (s' _ _ hO3)) ?_ ?_⟩
    · rw [Nat.sub_zero, lxo, List.drop_length]
      exact Kos.zero _ _ fun x => nOf_none.mpr (by simp)
    · rintro i x σ H4 hi hx ⟨D4, nu4, many, y7, y8, y9, rfl, s4, hn4, hnd4, hsub4, hK, hmi⟩
      obtain ⟨s, hs, hxs⟩ := hxo3.get' hx
      have hx4 : IsSt H4 x s := hxs.same s4
      have hsO : s ∈ O := List.mem_of_getElem? hs
      have hsD := (hOD s).mp hsO
      obtain ⟨eO, eD⟩ := drop_cons lxo.symm hi hs
      refine ⟨_, rfl, _, rfl, an, _, rfl, dget (.inl hn4) hx4, _, rfl, ?_⟩
      by_cases hm : s ∈ D4
      · rw [if_pos hm]
        refine if_no rfl ?_
        refine ⟨D4, nu4, many, _, _, _, rfl, s4, hn4, hnd4, hsub4, ?_, by omega⟩
        rw [eD]
        exact hK.skip fun e => nOf_none.mp e hm
      · rw [if_neg hm]
        refine if_yes rfl ?_
        have hlen4 : D4.length ≤ 2000 := Nat.le_trans (nodup_le hnd4 hsub4) hfew
        refine ⟨_, rfl, _, rfl, _, rfl, an, _, rfl, dput _ hn4 hx4 hm (by omega), ?_⟩
        rw [dOf_nu]
        refine ⟨_, rfl, by show 1 ≤ sizeLine; rw [sizeLine_eq]; decide, fun ast hast => ?_⟩
        have nast_an : ast ≠ an := fun z => by rw [z, upd_same] at hast; cases hast
        have hast4 : H4 ast = none := by rw [upd_ne nast_an] at hast; exact hast
        have hast3 : H3 ast = none := Same.free s4 hast4
        have nt4 : ∀ ys0, H4 an ≠ some (.tup ys0) := not_tup hn4 (by intro ys0 z; cases z)
        have hnd5 : (D4 ++ [s]).Nodup := by
          rw [List.nodup_append]
          refine ⟨hnd4, by simp, ?_⟩
          intro a ha b hb e
          rw [List.mem_singleton] at hb
          subst hb; subst e
          exact hm ha
        have hsub5 : ∀ x ∈ D4 ++ [s], x ∈ D := fun x hx => by
          rcases List.mem_append.mp hx with k | k
          · exact hsub4 x k
          · rw [List.mem_singleton.mp k]; exact hsD
        refine round_loop (W := W) (D := D) (O := O) (N0 := nOf D4 nu4) (s := s) (H3 := H3) (m0 := 2 * (D.length - (D4 ++ [s]).length) + 1) (De := _) hfew hBk hOD (fun x n e => (hK.lt x n e).1) han hast3
          ⟨D4 ++ [s], fun x => if x = s then many else nu4 x, [s], [x], y9, rfl, same_mut (same_mut s4 han) hast3, by rw [upd_ne nast_an.symm, upd_same], hnd5, hsub5, upd_same, ?_, ?_, rfl, by omega⟩ ?_
        · refine ⟨rfl, fun i' u t hu ht => ?_⟩
          cases i' with
          | zero =>
            cases hu; cases ht
            exact isSt_upd (isSt_upd hx4 nt4) (none_tup hast)
          | succ i' => simp at hu
        · exact Rnd.start hK (nOf_none.mpr hm) hsO fun x => nOf_put x
        · rintro m σ' H5 _ ⟨D6, nu6, y9', rfl, s6, hn6, hnd6, hsub6, hR⟩
          refine ⟨_, rfl, _, _, rfl, rfl, ?_⟩
          refine ⟨D6, nu6, many + 1, _, _, _, rfl, s6, hn6, hnd6, hsub6, ?_, by omega⟩
          rw [eD]
          exact Rnd.finish hOnd hD.ord eO hK (nOf_none.mpr hm) hR
    · rintro σ H4 ⟨D4, nu4, many, y7, y8, y9, rfl, s4, hn4, hnd4, hsub4, hK, hmi⟩
      rw [Nat.sub_self, List.drop_zero] at hK
      refine ⟨_, rfl, _, rfl, by show 2 ≤ sizeLine; rw [sizeLine_eq]; decide, fun r hr => ?_⟩
      refine q r an many D4 nu4 _ (((sH2.trans s3).trans s4).trans (same_new hr)) upd_same ((same_new hr) _ _ hn4) hnd4 (by omega) ?_
      exact hK.comps hOD
end
end Tk

/-! TkP7 -/
set_option maxRecDepth 100000
set_option maxHeartbeats 2000000
namespace Tk
open PySem PySem.Spec PyProof.Rows L2 Ts TL
section
variable {K : Fg}
theorem filter_snoc {A : Type} {l : List A} {i : Nat} {x : A} (p : A → Bool) (h : l[i]? = some x) : (l.take (i + 1)).filter p = (l.take i).filter p ++ if p x = true then [x] else [] := by
  rw [tk_snoc h, List.filter_append]
  congr 1
  rw [List.filter_cons]
  split <;> rfl
theorem pure_grouped (vs : List V) (H : Hp) (Q : VK) (E : XK) (h : sp_grouped K vs H Q E) : t_grouped K { nx := fun _ H' => Q .non H', rt := Q } (start n_grouped vs) H := by
  obtain ⟨an, many, D, nu, rfl, han, hlt, hnd, hfew, hmany, q⟩ := h
  refine ⟨_, rfl, _, rfl, by omega, by omega, fun Dl hD => lc_range (lo := 0) (n := (many : Int).toNat) (fun i H' => ∃ gl : List Addr, gl.length = i ∧ gl.Nodup ∧ Same H H' ∧ H' Dl = some (.lst (gl.map V.ref)) ∧ ∀ g ∈ gl, H g = none ∧ g ≠ Dl ∧ H' g = some (.dT []))
    ⟨[], rfl, List.nodup_nil, same_new hD, upd_same, by simp⟩ ?_ ?_⟩
  · rintro i H1 hi ⟨gl, hl, hgn, s1, hDl, hg⟩
    refine ⟨rfl, ?_⟩
    intro g hgf
    have ngD : Dl ≠ g := ne_of_none hDl hgf
    refine ⟨gl.map V.ref, by rw [upd_ne ngD]; exact hDl, by rw [List.length_map]; exact sz_lt (by omega), gl ++ [g], by rw [List.length_append, hl]; rfl, ?_, same_mut (s1.trans (same_new hgf)) hD, ?_, fun x hx => ?_⟩
    · rw [List.nodup_append]
      refine ⟨hgn, by simp, ?_⟩
      intro a ha b hb e
      rw [List.mem_singleton] at hb
      subst hb; subst e
      rw [(hg a ha).2.2] at hgf
      cases hgf
    · rw [upd_same, List.map_append]
      rfl
    · rcases List.mem_append.mp hx with hx | hx
      · obtain ⟨k1, k2, k3⟩ := hg x hx
        refine ⟨k1, k2, ?_⟩
        rw [upd_ne k2, upd_ne (ne_of_none k3 hgf)]
        exact k3
      · rw [List.mem_singleton] at hx
        subst hx
        refine ⟨Same.free s1 hgf, ngD.symm, ?_⟩
        rw [upd_ne ngD.symm, upd_same]
  · rintro H1 ⟨gl, hl, hgn, s1, hDl, hg⟩
    have hl' : gl.length = many := by omega
    have han1 := s1 _ _ han
    refine s_forD (d := an) rfl han1 (fun i σ H' => ∃ (y3 : Option V), σ = [some (.ref an), some (.int (many : Int)), some (.ref Dl), y3, none] ∧ But an H H' ∧ H' Dl = some (.lst (gl.map V.ref)) ∧
      ∀ n g, gl[n]? = some g → H' g = some (.dT (dOf ((D.take i).filter fun s => decide (nu s = n)) fun _ => .bl true)))
      (fun o => ⟨none, rfl, fun b x z e => (by rw [upd_ne z]; exact s1 _ _ e), ?_, fun n g hng => ?_⟩) ?_ ?_
    · rw [upd_ne (ne_of hDl han1 (by intro z; cases z))]; exact hDl
    · rw [upd_ne]
      · exact (hg g (List.mem_of_getElem? hng)).2.2
      · intro e
        have := (hg g (List.mem_of_getElem? hng)).1
        rw [e, han] at this; cases this
    · rintro o i s v σ H2 hi hv hfz ⟨y3, rfl, hb, hDl2, hg2⟩ rt bk
      have hsD : s ∈ D := List.mem_of_getElem? hi
      have hns := not_mem_take hnd hi
      obtain ⟨g, hng⟩ : ∃ g, gl[nu s]? = some g := ⟨_, List.getElem?_eq_getElem (by rw [hl']; exact hlt s hsD)⟩
      have hgg := hg2 _ _ hng
      have hgan : g ≠ an := fun e => by rw [e, hfz] at hgg; cases hgg
      have hgDl : g ≠ Dl := (hg g (List.mem_of_getElem? hng)).2.1
      have hnf : s ∉ (D.take i).filter fun t => decide (nu t = nu s) := fun m => hns (List.mem_filter.mp m).1
      refine ⟨_, rfl, _, rfl, _, rfl, an, _, rfl, dget_in (f := fun s => .int (nu s : Nat)) (.inr ⟨o, hfz⟩) hv hsD, Dl, _, (nu s : Int), .ref g, rfl, rfl, SqL.of hDl2, atI_nat (by rw [List.getElem?_map, hng]; rfl), _, rfl, g, _, rfl, dputc hgg hv hnf ?_, ?_, _, rfl, ?_, ?_, ?_⟩
      · have := List.length_filter_le (fun t => decide (nu t = nu s)) (D.take i)
        rw [List.length_take] at this
        omega
      · rw [upd_ne hgan.symm]; exact hfz
      · exact but_mut hb (hg g (List.mem_of_getElem? hng)).1
      · rw [upd_ne hgDl.symm]; exact hDl2
      · intro n g' hng'
        rw [filter_snoc _ hi]
        by_cases e : n = nu s
        · subst e
          rw [hng] at hng'
          cases hng'
          rw [upd_same, if_pos (decide_eq_true rfl)]
        · have hne : g' ≠ g := fun w => by
            subst w
            obtain ⟨h1, e1⟩ := List.getElem?_eq_some_iff.mp hng'
            obtain ⟨h2, e2⟩ := List.getElem?_eq_some_iff.mp hng
            exact e ((List.getElem_inj hgn).mp (e1.trans e2.symm))
          rw [upd_ne hne, if_neg (by rw [decide_eq_false (fun w => e w.symm)]; decide), List.append_nil]
          exact hg2 _ _ hng'
    · rintro o σ H2 hfz ⟨y3, rfl, hb, hDl2, hg2⟩
      rw [List.take_length] at hg2
      refine ⟨_, rfl, q Dl _ _ (but_unlock hb han) (by rw [upd_ne (ne_of hDl2 hfz (by intro z; cases z))]; exact hDl2) (by rw [List.length_map]; exact hl') fun n v hv => ?_⟩
      rw [List.getElem?_map] at hv
      obtain ⟨g, hng, rfl⟩ := Option.map_eq_some_iff.mp hv
      have hgg := hg2 n g hng
      exact ⟨g, rfl, by rw [upd_ne (ne_of hgg hfz (by intro z; cases z))]; exact hgg⟩
/-! ### path_to -/
structure PT1 (W : Sta → List (Nat × Sta)) (G Go : List Sta) (s : Sta) (S : List Sta) (tx : Sta → Tx) : Prop where
  nd : S.Nodup
  sub : ∀ x ∈ S, x ∈ G
  me : s ∈ S
  walk : ∀ x ∈ S, Lw W G s (tx x) x ∧ (tx x).length + 1 ≤ S.length
theorem pure_path_to (vs : List V) (H : Hp) (Q : VK) (E : XK) (h : sp_path_to K vs H Q E) : t_path_to K { nx := fun _ H' => Q .non H', rt := Q } (start n_path_to vs) H := by
  obtain ⟨aw, ad, u, ag, D, W, G, Go, f, f2, s, rfl, hG, hrG, hrGo, hu, hsG, hGD, hGnd, ⟨gx, gt, hgx, hgw⟩, q⟩ := h
  obtain ⟨L, haw, hL⟩ := hG.at_
  have hfew := hG.few
  have hGlen : G.length ≤ 2000 := Nat.le_trans (nodup_le hGnd hGD) hfew
  obtain ⟨b, rfl, hb⟩ := id hu
  intro an han
  refine ⟨_, rfl, upd_same, b, kS s, rfl, (same_new han) _ _ hb, ?_⟩
  rw [upd_upd]
  refine ⟨_, rfl, by show 1 ≤ sizeLine; rw [sizeLine_eq]; decide, fun ao hao => ?_⟩
  have nao : ao ≠ an := fun z => by rw [z, upd_same] at hao; cases hao
  have hao0 : H ao = none := by rw [upd_ne nao] at hao; exact hao
  have hu0 : ∀ {H' : Hp}, Same H H' → IsSt H' (.ref b) s := fun e => hu.same e
  refine ⟨fun m σ H' => ∃ (S : List Sta) (tx : Sta → Tx) (xo : List V) (at_ : Nat) (y7 y8 y9 : Option V), σ = [some (.ref aw), some (.ref ad), some (.ref b), some (.ref ag), some (.ref an), some (.ref ao), some (.int (at_ : Int)), y7, y8, y9] ∧ Same H H' ∧
    H' an = some (.dT (dOf S fun x => vT (tx x))) ∧ H' ao = some (.lst xo) ∧ All2 (IsSt H') xo S ∧ PT1 W G Go s S tx ∧ at_ ≤ S.length ∧
    (∀ j x, j < at_ → S[j]? = some x → x ∉ Go ∧ ∀ p ∈ W x, p.2 ∈ G → p.2 ∈ S) ∧ m = G.length + 1 - at_,
    ⟨G.length + 1, [s], fun _ => [], [.ref b], 0, none, none, none, rfl, same_mut (same_new han) hao0, ?_, upd_same, ?_, ?_, Nat.zero_le _, fun j x hj => absurd hj (Nat.not_lt_zero _), rfl⟩, ?_⟩
  · rw [upd_ne nao.symm, upd_same]
    rfl
  · refine ⟨rfl, fun i x y hx hy => ?_⟩
    cases i with
    | zero => cases hx; cases hy; exact hu0 (same_mut (same_new han) hao0)
    | succ i => simp at hx
  · refine ⟨by simp, fun x hx => ?_, by simp, fun x hx => ?_⟩
    · rw [List.mem_singleton.mp hx]; exact hsG
    · rw [List.mem_singleton.mp hx]; exact ⟨.nil hsG, Nat.le_refl _⟩
  · rintro m σ H1 ⟨S, tx, xo, at_, y7, y8, y9, rfl, s1, hn1, ho1, hxo, hP, hat, hdone, rfl⟩
    have hSl : S.length ≤ G.length := nodup_le hP.nd hP.sub
    have lxo := hxo.1
    refine ⟨_, rfl, _, rfl, ao, _, rfl, .inl (SqL.of ho1), _, _, rfl, rfl, _, rfl, ?_⟩
    refine if_by (fun hyes => ?_) (fun hno => ?_)
    · have hlt : at_ < xo.length := by have := of_decide_eq_true hyes; omega
      obtain ⟨x, hx, hv⟩ := hxo.get' (List.getElem?_eq_getElem hlt)
      have hxS : x ∈ S := List.mem_of_getElem? hx
      have hxG := hP.sub x hxS
      have hxD := hGD x hxG
      refine ⟨fun σ' H' => _, fun _ _ z => z, ?_⟩
      refine ⟨_, rfl, _, rfl, ao, _, (at_ : Int), xo[at_], rfl, rfl, SqL.of ho1, atI_nat (List.getElem?_eq_getElem hlt), ?_⟩
      refine ⟨_, rfl, _, rfl, ag, _, rfl, dget (same_rd s1 hrGo) hv, _, rfl, ?_⟩
      by_cases hgo : x ∈ Go
      · rw [if_pos hgo]
        refine if_yes rfl ?_
        refine ⟨_, rfl, _, rfl, an, _, rfl, dget_in (f := fun x => vT (tx x)) (.inl hn1) hv hxS, _, rfl, by show 2 ≤ sizeLine; rw [sizeLine_eq]; decide, fun r hr => ?_⟩
        obtain ⟨w1, w2⟩ := hP.walk x hxS
        exact q r (tx x) xo[at_] x _ (s1.trans (same_new hr)) upd_same (hv.same (same_new hr)) w1 hgo (by omega)
      · rw [if_neg hgo]
        refine if_no rfl ?_
        obtain ⟨ls, hls, hla⟩ := hL x hxD
        have hls1 := s1 _ _ hls
        refine ⟨_, rfl, _, rfl, aw, _, rfl, dget_in (f := fun s => .ref (L s)) (same_rd s1 haw) hv hxD, L x, rfl, ⟨ls, SqL.of hls1⟩, ?_⟩
        refine for_list (K := K) (a := L x) (xs := ls) (fun j σ H' => ∃ (S' : List Sta) (tx' : Sta → Tx) (xo' : List V) (y8 y9 : Option V), σ = [some (.ref aw), some (.ref ad), some (.ref b), some (.ref ag), some (.ref an), some (.ref ao), some (.int (at_ : Int)), some xo[at_], y8, y9] ∧ Same H H' ∧
          H' an = some (.dT (dOf S' fun x => vT (tx' x))) ∧ H' ao = some (.lst xo') ∧ All2 (IsSt H') xo' S' ∧ PT1 W G Go s S' tx' ∧ (∃ R, S' = S ++ R) ∧ IsSt H' xo[at_] x ∧ ∀ p ∈ (W x).take j, p.2 ∈ G → p.2 ∈ S')
          ⟨S, tx, xo, y8, y9, rfl, s1, hn1, ho1, hxo, hP, ⟨[], by simp⟩, hv, by simp⟩ (fun j σ H' _ ⟨_, _, _, _, _, _, s', _⟩ => SqL.of (s' _ _ hls)) ?_ ?_
        · rintro j z σ H2 hj ⟨S', tx', xo', y8, y9, rfl, s2, hn2, ho2, hxo2, hP2, ⟨R, eR⟩, hv2, hd2⟩
          obtain ⟨⟨c, t⟩, hct, ⟨p, zt, rfl, hp, hz⟩⟩ := hla.get' hj
          have hz2 : IsSt H2 zt t := hz.same s2
          have hxS' : x ∈ S' := by rw [eR]; exact List.mem_append.mpr (.inl hxS)
          have hSl2 : S'.length ≤ G.length := nodup_le hP2.nd hP2.sub
          have hmem : (c, t) ∈ W x := List.mem_of_getElem? hct
          refine ⟨p, _, rfl, SqT.of (s2 _ _ hp), rfl, _, _, rfl, _, _, rfl, rfl, ?_⟩
          refine ⟨_, rfl, _, rfl, ad, _, rfl, dget (same_rd s2 hrG) hz2, _, rfl, ?_⟩
          have next : ∀ {S' : List Sta}, (∀ p ∈ (W x).take j, p.2 ∈ G → p.2 ∈ S') → (t ∈ G → t ∈ S') → ∀ p ∈ (W x).take (j + 1), p.2 ∈ G → p.2 ∈ S' := fun h1 h2 p hp hpG => by
            rw [tk_snoc hct] at hp
            rcases List.mem_append.mp hp with k | k
            · exact h1 p k hpG
            · rw [List.mem_singleton] at k
              subst k
              exact h2 hpG
          by_cases htG : t ∈ G
          · rw [if_pos htG]
            refine if_yes rfl ?_
            refine ⟨_, rfl, _, rfl, an, _, rfl, dget (.inl hn2) hz2, _, rfl, ?_⟩
            by_cases htS : t ∈ S'
            · rw [if_pos htS]
              refine if_no rfl ?_
              exact ⟨S', tx', xo', _, _, rfl, s2, hn2, ho2, hxo2, hP2, ⟨R, eR⟩, hv2, next hd2 fun _ => htS⟩
            · rw [if_neg htS]
              refine if_yes rfl ?_
              obtain ⟨w1, w2⟩ := hP2.walk x hxS'
              refine ⟨_, rfl, _, rfl, an, _, rfl, dget_in (f := fun x => vT (tx' x)) (.inl hn2) hv2 hxS', _, rfl, tx' x, [c], rfl, rfl, sz_of (by rw [List.length_singleton]; omega), ?_⟩
              refine ⟨_, rfl, _, rfl, an, _, rfl, dput (vT (tx' x ++ [c])) hn2 hz2 htS (by omega), ?_⟩
              have nan_ao : an ≠ ao := nao.symm
              have ho3 : ∀ o, (upd H2 an o) ao = some (.lst xo') := fun o => by rw [upd_ne nao]; exact ho2
              have nt2 : ∀ ys0, H2 an ≠ some (.tup ys0) := not_tup hn2 (by intro ys0 z; cases z)
              have nt3 : ∀ o ys0, (upd H2 an o) ao ≠ some (.tup ys0) := fun o => not_tup (ho3 o) (by intro ys0 z; cases z)
              refine ⟨_, rfl, .inl ⟨rfl, _, SqL.of (ho3 _)⟩, _, rfl, ao, _, _, rfl, rfl, ho3 _, by rw [hxo2.1]; exact sz_lt (by omega), ?_⟩
              refine ⟨S' ++ [t], fun y => if y = t then tx' x ++ [c] else tx' y, xo' ++ [zt], _, _, rfl, same_mut (same_mut s2 han) hao0, ?_, upd_same, ?_, ?_, ⟨R ++ [t], by rw [eR, List.append_assoc]⟩, isSt_upd (isSt_upd hv2 nt2) (nt3 _), next (fun p hp hpG => List.mem_append.mpr (.inl (hd2 p hp hpG))) fun _ => by simp⟩
              · rw [upd_ne nan_ao, upd_same]
                congr 2
                exact dOf_congr fun y _ => by
                  by_cases e : y = t
                  · dsimp only; rw [if_pos e, if_pos e]
                  · dsimp only; rw [if_neg e, if_neg e]
              · exact (hxo2.mono fun _ _ w => isSt_upd (isSt_upd w nt2) (nt3 _)).snoc (isSt_upd (isSt_upd hz2 nt2) (nt3 _))
              · refine ⟨?_, fun y hy => ?_, List.mem_append.mpr (.inl hP2.me), fun y hy => ?_⟩
                · rw [List.nodup_append]
                  refine ⟨hP2.nd, by simp, ?_⟩
                  intro a ha b' hb' e
                  rw [List.mem_singleton] at hb'
                  subst hb'; subst e
                  exact htS ha
                · rcases List.mem_append.mp hy with k | k
                  · exact hP2.sub y k
                  · rw [List.mem_singleton.mp k]; exact htG
                · rcases List.mem_append.mp hy with k | k
                  · rw [if_neg (fun e : y = t => htS (e ▸ k))]
                    obtain ⟨k1, k2⟩ := hP2.walk y k
                    exact ⟨k1, by rw [List.length_append]; omega⟩
                  · rw [List.mem_singleton] at k
                    subst k
                    rw [if_pos rfl]
                    exact ⟨w1.snoc hmem htG, by rw [List.length_append, List.length_append, List.length_singleton, List.length_singleton]; omega⟩
          · rw [if_neg htG]
            refine if_no rfl ?_
            refine if_no rfl ?_
            exact ⟨S', tx', xo', _, _, rfl, s2, hn2, ho2, hxo2, hP2, ⟨R, eR⟩, hv2, next hd2 fun w => absurd w htG⟩
        · rintro σ H2 ⟨S', tx', xo', y8, y9, rfl, s2, hn2, ho2, hxo2, hP2, ⟨R, eR⟩, hv2, hd2⟩
          rw [hla.1, List.take_length] at hd2
          have hSl2 : S'.length ≤ G.length := nodup_le hP2.nd hP2.sub
          have hl2 : S.length ≤ S'.length := by rw [eR, List.length_append]; omega
          refine ⟨_, rfl, _, _, rfl, rfl, ?_⟩
          refine ⟨G.length + 1 - (at_ + 1), by omega, S', tx', xo', at_ + 1, _, _, _, rfl, s2, hn2, ho2, hxo2, hP2, by omega, fun j y hj hy => ?_, rfl⟩
          have hjS : j < S.length := by omega
          rw [eR, List.getElem?_append_left hjS] at hy
          by_cases e : j = at_
          · subst e
            rw [hx] at hy
            cases hy
            exact ⟨hgo, hd2⟩
          · obtain ⟨k1, k2⟩ := hdone j y (by omega) hy
            exact ⟨k1, fun p hp hpG => by rw [eR]; exact List.mem_append.mpr (.inl (k2 p hp hpG))⟩
    · exfalso
      have hge : at_ = S.length := by have := of_decide_eq_false hno; omega
      have hin : gx ∈ S := hgw.closed (S := S) (fun a ha c t hct ht => by
        obtain ⟨j, hj, e⟩ := List.getElem_of_mem ha
        exact (hdone j a (by omega) (List.getElem?_eq_some_iff.mpr ⟨hj, e⟩)).2 (c, t) hct ht) hP.me
      obtain ⟨j, hj, e⟩ := List.getElem_of_mem hin
      exact (hdone j gx (by omega) (List.getElem?_eq_some_iff.mpr ⟨hj, e⟩)).1 hgx
end
end Tk

/-! TkP8 -/
set_option maxRecDepth 100000
set_option maxHeartbeats 2000000
namespace Tk
open PySem PySem.Spec PyProof.Rows L2 Ts TL
section
variable {K : Fg}
theorem filter_snoc2 {A : Type} {l : List A} {i : Nat} {x : A} (p : A → Bool) (h : l[i]? = some x) : (l.take (i + 1)).filter p = (l.take i).filter p ++ if p x = true then [x] else [] := by
  rw [tk_snoc h, List.filter_append]
  congr 1
  rw [List.filter_cons]
  split <;> rfl
theorem lw_rd {ws : List Tx} {w : Tx} {G : List Sta} {s s' : Sta} {t : Tx} (h : Lw (Ts.ways ws w) G s t s') : rd ws w s t = some s' := by
  induction h with
  | nil _ => rfl
  | @cons x y z c t _ e _ ih =>
    show (Ts.way ws w x c).bind (fun s' => rd ws w s' t) = some z
    rw [mem_ways.mp e]
    exact ih
theorem rin_mem {ws : List Tx} {w : Tx} {G : Sta → Bool} {s : Sta} {p : Tx} (h : rin ws w G (some s) p = true) : G s = true := by
  cases p with
  | nil => exact h
  | cons c p =>
    have h' : (G s && rin ws w G (Ts.way ws w s c) p) = true := h
    rw [Bool.and_eq_true] at h'
    exact h'.1
theorem rin_step {ws : List Tx} {w : Tx} {G : Sta → Bool} {s : Sta} {c : Nat} {p : Tx} (h : rin ws w G (some s) (c :: p) = true) : ∃ s', Ts.way ws w s c = some s' ∧ rin ws w G (some s') p = true := by
  have h' : (G s && rin ws w G (Ts.way ws w s c) p) = true := h
  rw [Bool.and_eq_true] at h'
  cases e : Ts.way ws w s c with
  | none =>
    rw [e, rin_none] at h'
    exact absurd h'.2 (by decide)
  | some s' => exact ⟨s', rfl, by rw [← e]; exact h'.2⟩
theorem drop_get {p : Tx} {i c : Nat} (h : p[i]? = some c) : p.drop i = c :: p.drop (i + 1) := by
  obtain ⟨h1, e⟩ := List.getElem?_eq_some_iff.mp h
  rw [List.drop_eq_getElem_cons h1, e]
theorem pure_circle_within (vs : List V) (H : Hp) (Q : VK) (E : XK) (h : sp_circle_within K vs H Q E) : t_circle_within K { nx := fun _ H' => Q .non H', rt := Q } (start n_circle_within vs) H := by
  obtain ⟨v, ws, w, vp, ps, g, aw, ad, D, G, rfl, hT, hW, hw, ⟨ap, rfl, hP⟩, hS, hG, had, hGD, hGnd, conn, hread, q⟩ := h
  have hfew := hG.few
  have hGlen : G.length ≤ 2000 := Nat.le_trans (nodup_le hGnd hGD) hfew
  have hpne := hS.ne
  have hpfew := hS.few
  have hGne : G ≠ [] := fun e => by
    obtain ⟨p, hp⟩ := List.exists_mem_of_ne_nil _ hpne
    obtain ⟨s, hs, _⟩ := hread p hp
    rw [e] at hs
    cases hs
  -- start = sorted(states)[0]
  refine ⟨_, rfl, ad, G, _, rfl, .inl had, by omega, fun xs D' p hp ha hn => ?_⟩
  have hD'ne : 0 < D'.length := by rw [hp.length_eq]; exact List.length_pos_iff.mpr hGne
  have hxs0 : 0 < xs.length := by rw [ha.1]; exact hD'ne
  obtain ⟨s0, hs0, hv0⟩ := ha.get' (List.getElem?_eq_getElem hxs0)
  have hs0G : s0 ∈ G := hp.mem_iff.mp (List.mem_of_getElem? hs0)
  refine ⟨p, xs, 0, xs[0], rfl, rfl, SqL.of upd_same, atI_nat (j := 0) (List.getElem?_eq_getElem hxs0), ?_⟩
  generalize hv0e : xs[0] = v0 at hv0
  have sp0 : Same H (upd H p (.lst xs)) := same_new hn
  refine ⟨_, rfl, ?_⟩
  -- the pieces
  refine ⟨_, rfl, ap, rfl, ⟨_, same_tup sp0 hP⟩, for_tup (K := K) (a := ap) (xs := ps.map vT) (fun i σ H' => ∃ (t : Tx) (vst : V) (sst : Sta) (y8 y9 y10 y11 y12 : Option V),
    σ = [some v, some (vT w), some (.ref ap), some (.ref aw), some (.ref ad), some v0, some (vT t), some vst, y8, y9, y10, y11, y12] ∧ Same H H' ∧ IsSt H' vst sst ∧ Lw (Ts.ways ws w) G s0 t sst ∧ (∀ q ∈ ps.take i, q <:+: t) ∧ t.length ≤ i * 2012)
    ⟨[], v0, s0, none, none, none, none, none, rfl, sp0, hv0.same sp0, .nil hs0G, by simp, Nat.zero_le _⟩ (fun i σ H' _ ⟨_, _, _, _, _, _, _, _, _, s', _⟩ => same_tup s' hP) ?_ ?_⟩
  · rintro i x σ H1 hi ⟨t, vst, sst, y8, y9, y10, y11, y12, rfl, s1, hst, hlw, hin, htl⟩
    rw [List.getElem?_map] at hi
    obtain ⟨pc, hpc, rfl⟩ := Option.map_eq_some_iff.mp hi
    have hpm : pc ∈ ps := List.mem_of_getElem? hpc
    have hilt : i < ps.length := (List.getElem?_eq_some_iff.mp hpc).1
    obtain ⟨pl1, pl2⟩ := hS.len pc hpm
    have had1 := s1 _ _ had
    intro ag hag
    have nag : ad ≠ ag := ne_of_none had1 hag
    have had2 : (upd H1 ag (.dT [])) ad = some (.dT (dOf G fun _ => .bl true)) := by rw [upd_ne nag]; exact had1
    refine s_forD (d := ad) rfl had2 (fun j σ H' => ∃ (y10 : Option V), σ = [some v, some (vT w), some (.ref ap), some (.ref aw), some (.ref ad), some v0, some (vT t), some vst, some (vT pc), some (.ref ag), y10, y11, y12] ∧ But ad H1 H' ∧
      H' ag = some (.dT (dOf ((G.take j).filter fun s => rin ws w (fun z => decide (z ∈ G)) (some s) pc) fun _ => .bl true)))
      (fun o => ⟨y10, rfl, fun b x z e => (by rw [upd_ne z, upd_ne (ne_of_none e hag)]; exact e), by rw [upd_ne nag.symm, upd_same]; rfl⟩) ?_ ?_
    · rintro o j s z σ H2 hj hz hfz ⟨y10, rfl, hb, hg2⟩ rt bk
      have hsG : s ∈ G := List.mem_of_getElem? hj
      have hsh := hG.short s (hGD s hsG)
      refine ⟨_, rfl, _, rfl, _, rfl, _, rfl, _, rfl, v, ws, w, pc, ad, G, _, z, s, rfl, ((hT.same s1).lock had1 True.intro).same (same_of_but hb hfz), hW, hw, .inr ⟨o, hfz⟩, hz, by omega, fun H3 s3 => ?_⟩
      have hg3 := s3 _ _ hg2
      refine ⟨_, rfl, ?_⟩
      refine if_by (fun hyes => ?_) (fun hno => ?_)
      · have hns : s ∉ (G.take j).filter fun s => rin ws w (fun z => decide (z ∈ G)) (some s) pc := fun m => not_mem_take hGnd hj (List.mem_filter.mp m).1
        refine ⟨_, rfl, _, rfl, ag, _, rfl, dputc hg3 (hz.same s3) hns ?_, ?_, _, rfl, ?_, ?_⟩
        · have := List.length_filter_le (fun s => rin ws w (fun z => decide (z ∈ G)) (some s) pc) (G.take j)
          rw [List.length_take] at this
          omega
        · rw [upd_ne nag]; exact s3 _ _ hfz
        · exact but_mut (but_same hb s3) hag
        · rw [upd_same, filter_snoc2 _ hj, if_pos hyes]
      · refine ⟨s3 _ _ hfz, _, rfl, but_same hb s3, ?_⟩
        rw [filter_snoc2 _ hj, if_neg (by rw [hno]; decide), List.append_nil]
        exact hg3
    · rintro o σ H2 hfz ⟨y10, rfl, hb, hg2⟩
      rw [List.take_length] at hg2
      have s2 : Same H1 (upd H2 ad (.dT (dOf G fun _ => .bl true))) := but_unlock hb had1
      have hg3 : (upd H2 ad (.dT (dOf G fun _ => .bl true))) ag = some (.dT (dOf (G.filter fun s => rin ws w (fun z => decide (z ∈ G)) (some s) pc) fun _ => .bl true)) := by rw [upd_ne nag.symm]; exact hg2
      generalize upd H2 ad (.dT (dOf G fun _ => .bl true)) = H3 at s2 hg3 ⊢
      have s13 := s1.trans s2
      have hsst : sst ∈ G := hlw.last
      obtain ⟨sr, hsr, hrr⟩ := hread pc hpm
      obtain ⟨tr, htr⟩ := conn sst hsst sr hsr
      refine ⟨_, rfl, _, rfl, _, rfl, _, rfl, aw, ad, vst, ag, D, Ts.ways ws w, G, _, _, _, sst, rfl, hG.same s13, .inl (s13 _ _ had), .inl hg3, hst.same s2, hsst, hGD, hGnd, ⟨sr, tr, List.mem_filter.mpr ⟨hsr, hrr⟩, htr⟩, fun r t' v' s' H4 s4 hr hv' hw' hs' ht' => ?_⟩
      refine ⟨r, _, rfl, SqT.of hr, rfl, _, _, rfl, _, _, rfl, rfl, ?_⟩
      have htlen : t.length ≤ 8 * 2012 := Nat.le_trans htl (Nat.mul_le_mul_right _ (by omega))
      refine ⟨_, rfl, _, rfl, t, t', rfl, rfl, sz_of (by omega), _, rfl, t ++ t', pc, rfl, rfl, sz_of (by rw [List.length_append]; omega), ?_⟩
      have hs'r := (List.mem_filter.mp hs').2
      refine ⟨_, rfl, tS pc, rfl, for_str (z := pc) (fun j σ H' => ∃ (z : V) (sj : Sta) (y12 : Option V), σ = [some v, some (vT w), some (.ref ap), some (.ref aw), some (.ref ad), some v0, some (vT (t ++ t' ++ pc)), some z, some (vT pc), some (.ref ag), y10, some (vT t'), y12] ∧ Same H4 H' ∧
        IsSt H' z sj ∧ Lw (Ts.ways ws w) G s' (pc.take j) sj ∧ rin ws w (fun z => decide (z ∈ G)) (some sj) (pc.drop j) = true)
        ⟨v', s', y12, rfl, Same.refl H4, hv', .nil hw'.last, hs'r⟩ ?_ ?_⟩
      · rintro j c σ H5 hj ⟨z, sj, y12, rfl, s5, hz, hlj, hrj⟩
        rw [drop_get hj] at hrj
        obtain ⟨sn, hway, hrn⟩ := rin_step hrj
        have hsjG : sj ∈ G := hlj.last
        have hsh := hG.short sj (hGD sj hsjG)
        refine ⟨_, rfl, _, rfl, _, rfl, _, rfl, v, ws, w, z, sj, c, rfl, hT.same ((s13.trans s4).trans s5), hW, hw, hz, by omega, fun r6 H6 s6 hr6 => ?_⟩
        rw [hway] at hr6
        refine ⟨r6, sn, _, rfl, s5.trans s6, hr6, ?_, hrn⟩
        rw [tk_snoc hj]
        exact hlj.snoc (mem_ways.mpr hway) (of_decide_eq_true (rin_mem hrn))
      · rintro σ H5 ⟨z, sj, y12, rfl, s5, hz, hlj, hrj⟩
        rw [List.take_length] at hlj
        refine ⟨t ++ t' ++ pc, z, sj, _, _, _, _, _, rfl, (s13.trans s4).trans s5, hz, (hlw.trans hw').trans hlj, fun q hq => ?_, ?_⟩
        · rw [tk_snoc hpc] at hq
          rcases List.mem_append.mp hq with k | k
          · rw [List.append_assoc]
            exact (hin q k).trans (List.prefix_append _ _).isInfix
          · rw [List.mem_singleton.mp k]
            exact (List.suffix_append _ _).isInfix
        · rw [List.length_append, List.length_append, Nat.succ_mul]
          omega
  · rintro σ H1 ⟨t, vst, sst, y8, y9, y10, y11, y12, rfl, s1, hst, hlw, hin, htl⟩
    rw [List.length_map] at htl hin
    rw [List.take_length] at hin
    have had1 := s1 _ _ had
    have hsst : sst ∈ G := hlw.last
    obtain ⟨b, hbe, hb⟩ := hv0.same (sp0.trans (Same.refl _))
    obtain ⟨b0, hb0e, hb0⟩ := hv0
    have htlen : t.length ≤ 8 * 2012 := Nat.le_trans htl (Nat.mul_le_mul_right _ (by omega))
    refine ⟨_, rfl, _, rfl, _, rfl, ?_⟩
    intro ag hag
    refine ⟨_, rfl, upd_same, b0, kS s0, hb0e, (same_new hag) _ _ (s1 _ _ hb0), ?_⟩
    rw [upd_upd]
    have s2 : Same H1 (upd H1 ag (.dT [(kS s0, .bl true)])) := same_new hag
    have s12 := s1.trans s2
    obtain ⟨tr, htr⟩ := conn sst hsst s0 hs0G
    refine ⟨aw, ad, vst, ag, D, Ts.ways ws w, G, [s0], _, fun _ => .bl true, sst, rfl, hG.same s12, .inl (s12 _ _ had), .inl (by rw [upd_same]; rfl), hst.same s2, hsst, hGD, hGnd, ⟨s0, tr, by simp, htr⟩, fun r t' v' s' H4 s4 hr hv' hw' hs' ht' => ?_⟩
    refine ⟨r, _, rfl, SqT.of hr, rfl, _, _, rfl, _, _, rfl, rfl, ?_⟩
    refine ⟨_, rfl, _, rfl, t, t', rfl, rfl, sz_of (by omega), ?_⟩
    rw [List.mem_singleton] at hs'
    subst hs'
    refine q (t ++ t') H4 (s12.trans s4) ⟨s', hs0G, lw_rd (hlw.trans hw')⟩ (fun q hq => (hin q hq).trans (List.prefix_append _ _).isInfix) ?_
    rw [List.length_append]
    omega
end
end Tk

/-! TkP9 -/
set_option maxRecDepth 100000
set_option maxHeartbeats 2000000
namespace Tk
open PySem PySem.Spec PyProof.Rows L2 Ts TL
section
variable {K : Fg}
theorem gram_len {ws : List Tx} (hW : WsOk ws) {g : Tx} (h : IsGram ws g) : g.length ≤ 12 := by
  obtain ⟨x, hx, h⟩ := h
  have := (hW.len x hx).2
  rcases h with h | h
  · rw [h, List.length_dropLast]; omega
  · rw [h, List.length_drop]; omega
theorem nodes_closed {ws : List Tx} {w : Tx} {D : List Sta} (hW : WsOk ws) (hD : Nodes ws w D) : ∀ s ∈ D, ∀ t ∈ Eg (Ts.ways ws w) s, t ∈ D := fun s hs t ht => by
  obtain ⟨⟨c, t'⟩, hp, e⟩ := List.mem_map.mp ht
  have e : t' = t := e
  subst e
  have hway := mem_ways.mp hp
  unfold Ts.way at hway
  split at hway
  · rename_i hc
    split at hway
    · cases hway
    · rename_i hne
      cases hway
      have hw := (foll_iff hW.ne).mp hc
      exact (hD.mem _).mpr ⟨⟨_, hw, .inr rfl⟩, Nat.lt_of_le_of_ne (adv_le _ _ _) hne⟩
  · cases hway
theorem explP_iff {ws ps : List Tx} {g : Nat} {C : Tx} (hW : Wins ps g ws) : ExplP ps g C ↔ Expl ws ps g C :=
  ⟨fun ⟨h1, h2, h3⟩ => ⟨h1, fun p hp => (hW.mem _).mpr (h2 p hp), h3⟩, fun h => ⟨h.ne, fun p hp => (hW.mem _).mp (h.win p hp), h.has⟩⟩
theorem win_len {ps : List Tx} {g : Nat} {ws : List Tx} (hW : Wins ps g ws) {x : Tx} (hx : x ∈ ws) : x.length = g := by
  obtain ⟨p, _, i, hi, e⟩ := (hW.mem x).mp hx
  rw [e, List.length_take, List.length_drop]
  omega
/-- what the levels are worth -/
theorem verdict_always {ws ps : List Tx} {g : Nat} {w : Tx} {D : List Sta} {N : Sta → Option Nat} {many : Nat} (hS : Shards ps g) (hW : Wins ps g ws) (hD : Nodes ws w D) (C : Comps (Eg (Ts.ways ws w)) D N many)
    (gap : ∀ n, n < many → ∃ q ∈ ps, ∀ s, N s = some n → rin ws w (fun z => decide (N z = some n)) (some s) q = false) : ∀ T, ExplP ps g T → OnC T w := fun T hT =>
  always_ok (hW.ok hS).ne hS.g1 (fun gr m hx hm => C.all _ ((hD.mem _).mpr ⟨let ⟨x, h1, h2⟩ := hx; ⟨x, h1, .inl h2.symm⟩, hm⟩)) (fun s n h => (C.lt s n h).1)
    (fun s c s' n n' h1 h2 h3 => C.mono s s' n n' h1 h2 (List.mem_map.mpr ⟨(c, s'), mem_ways.mpr h3, rfl⟩)) gap ((explP_iff hW).mp hT)
theorem verdict_lacking {ws ps : List Tx} {g : Nat} {w t : Tx} {D : List Sta} {s : Sta} (hS : Shards ps g) (hW : Wins ps g ws) (hD : Nodes ws w D) (hs : s ∈ D) (hr : rd ws w s t = some s) (hp : ∀ q ∈ ps, q <:+: t) : ExplP ps g t ∧ ¬ OnC t w := by
  obtain ⟨⟨x, hx, hg⟩, hm⟩ := (hD.mem s).mp hs
  have hl := win_len hW hx
  have g1 := hS.g1
  have hqne : ∀ q ∈ ps, q ≠ [] := fun q hq e => by
    have := (hS.len q hq).1
    rw [e] at this
    simp at this
    omega
  obtain ⟨q0, hq0⟩ := List.exists_mem_of_ne_nil _ hS.ne
  have ht : t ≠ [] := fun e => by
    have := hp q0 hq0
    rw [e] at this
    exact hqne q0 hq0 (List.eq_nil_of_infix_nil this)
  have h := lack_ok (ws := ws) (pieces := ps) (w := w) (t := t) (grain := g) (s := s) (hW.ok hS).ne (by
    rcases hg with hg | hg
    · rw [hg, List.length_dropLast]; omega
    · rw [hg, List.length_drop]; omega) hm ht hr fun q hq => ⟨hqne q hq, hp q hq⟩
  exact ⟨(explP_iff hW).mpr h.1, h.2⟩
/-- the pieces that can't be read -/
def missing (n : Nat) (rb : Nat → Bool) : List Nat := (List.range n).filter fun k => !rb k
theorem missing_succ (n : Nat) (rb : Nat → Bool) : missing (n + 1) rb = missing n rb ++ if rb n then [] else [n] := by
  unfold missing
  rw [List.range_succ, List.filter_append]
  congr 1
  rw [List.filter_cons]
  cases rb n <;> rfl
theorem pure_circle_decision (vs : List V) (H : Hp) (Q : VK) (E : XK) (h : sp_circle_decision K vs H Q E) : t_circle_decision K { nx := fun _ H' => Q .non H', rt := Q } (start n_circle_decision vs) H := by
  obtain ⟨vp, ps, v, ws, w, g, rfl, ⟨ap, rfl, hP⟩, hT, hS, hW, hw1, hw8, q⟩ := h
  have hWo := hW.ok hS
  have hpfew := hS.few
  intro aw haw
  have s0 : Same H (upd H aw (.dT [])) := same_new haw
  refine ⟨_, rfl, _, rfl, v, ws, w, rfl, hT.same s0, hWo, by omega, fun D xs a H1 s1 ha hxs hD => ?_⟩
  have hfew : D.length ≤ 2000 := Nat.le_trans hD.few (by omega)
  have lxs := hxs.1
  have sH1 := s0.trans s1
  have naw : a ≠ aw := fun z => by
    have := s1 _ _ (show (upd H aw (.dT [])) aw = some (.dT []) from upd_same)
    rw [← z, ha] at this; cases this
  refine ⟨a, rfl, ⟨_, SqT.of ha⟩, for_tup (K := K) (a := a) (xs := xs) (fun i σ H' => ∃ (L : Sta → Addr) (y4 : Option V), σ = [some (.ref ap), some v, some (vT w), some (.ref aw), y4, none, none, none, none, none, none, none, none, none, none] ∧ Same H H' ∧
    H' a = some (.tup xs) ∧ All2 (IsSt H') xs D ∧ H' aw = some (.dT (dOf (D.take i) fun s => .ref (L s))) ∧ ∀ s ∈ D.take i, ∃ ls, H' (L s) = some (.lst ls) ∧ All2 (IsLs H') ls (Ts.ways ws w s))
    ⟨fun _ => 0, none, rfl, sH1, ha, hxs, by rw [s1 _ _ upd_same]; rfl, by simp⟩ (fun i σ H' _ ⟨_, _, _, _, e, _⟩ => SqT.of e) ?_ ?_⟩
  · rintro i x σ H2 hi ⟨L, y4, rfl, s2, ha2, hxs2, hw2, hL⟩
    obtain ⟨s, hs, hx⟩ := hxs2.get' hi
    have hsD : s ∈ D := List.mem_of_getElem? hs
    have hsl := gram_len hWo ((hD.mem s).mp hsD).1
    refine ⟨_, rfl, _, rfl, _, rfl, v, ws, w, x, s, rfl, hT.same s2, hWo, by omega, hx, by omega, fun ls l H3 s3 hl0 hl3 hla => ?_⟩
    have hw3 := s3 _ _ hw2
    have hns := not_mem_take hD.nd hs
    refine ⟨_, rfl, _, rfl, aw, _, rfl, dput (.ref l) hw3 (hx.same s3) hns (by rw [List.length_take]; omega), ?_⟩
    have nt : ∀ ys0, H3 aw ≠ some (.tup ys0) := not_tup hw3 (by intro ys0 z; cases z)
    have kL : ∀ o (z : V) (p : Nat × Sta), IsLs H3 z p → IsLs (upd H3 aw o) z p := fun o z p ⟨x, u, e1, e2, e3⟩ => ⟨x, u, e1, by rw [upd_ne (fun e => nt _ (by rw [← e]; exact e2))]; exact e2, isSt_upd e3 nt⟩
    refine ⟨fun x => if x = s then l else L x, _, rfl, same_mut (s2.trans s3) haw, by rw [upd_ne naw]; exact s3 _ _ ha2, hxs2.mono fun _ _ z => isSt_upd (z.same s3) nt, ?_, fun x hx => ?_⟩
    · rw [upd_same, tk_snoc hs]
      congr 2
      exact dOf_congr fun x _ => by
        by_cases e : x = s
        · dsimp only; rw [if_pos e, if_pos e]
        · dsimp only; rw [if_neg e, if_neg e]
    · rw [tk_snoc hs] at hx
      dsimp only
      rcases List.mem_append.mp hx with k | k
      · rw [if_neg (fun e : x = s => hns (e ▸ k))]
        obtain ⟨ls', h1, h2⟩ := hL x k
        exact ⟨ls', by rw [upd_ne (ne_of (s3 _ _ h1) hw3 (by intro z; cases z))]; exact s3 _ _ h1, h2.mono fun _ _ z => kL _ _ _ (z.same s3)⟩
      · rw [List.mem_singleton] at k
        subst k
        rw [if_pos rfl]
        exact ⟨ls, by rw [upd_ne (ne_of hl3 hw3 (by intro z; cases z))]; exact hl3, hla.mono fun _ _ z => kL _ _ _ z⟩
  · rintro σ H2 ⟨L, y4, rfl, s2, ha2, hxs2, hw2, hL⟩
    rw [lxs, List.take_length] at hw2 hL
    have hG : Graph H2 aw D (Ts.ways ws w) := ⟨⟨L, .inl hw2, hL⟩, hD.nd, hfew, fun s _ => Nat.le_trans (by unfold Ts.ways; exact List.length_filterMap_le _ _) (Nat.le_trans (foll_len ws s.1) hWo.few), nodes_closed hWo hD, fun s hs => gram_len hWo ((hD.mem s).mp hs).1⟩
    refine ⟨_, rfl, aw, D, Ts.ways ws w, rfl, hG, ⟨_, hw2⟩, fun r an many D' nu H3 s3 hr han hnd' hmany hC => ?_⟩
    refine ⟨r, _, rfl, SqT.of hr, rfl, _, _, rfl, _, _, rfl, rfl, ?_⟩
    have hNin : ∀ {x : Sta}, x ∈ D' → nOf D' nu x = some (nu x) := fun {x} hx => by unfold nOf; rw [if_pos hx]
    have hD'D : ∀ x ∈ D', x ∈ D := fun x hx => (hC.lt x _ (hNin hx)).2
    have hD'len : D'.length ≤ 2000 := Nat.le_trans (nodup_le hnd' hD'D) hfew
    refine ⟨_, rfl, _, rfl, an, many, D', nu, rfl, han, fun s hs => (hC.lt s _ (hNin hs)).1, hnd', hD'len, hmany, fun ag gs H4 s4 hgs hgl hgr => ?_⟩
    have s24 := s2.trans (s3.trans s4)
    refine ⟨Nat.zero_le _, fun agp hagp => ?_⟩
    have s45 : Same H4 (upd H4 agp (.lst [])) := same_new hagp
    -- a level's group
    have grp : ∀ n, n < many → ∃ gd, gs[n]? = some (.ref gd) ∧ H4 gd = some (.dT (dOf (D'.filter fun s => decide (nu s = n)) fun _ => .bl true)) := fun n hn => by
      obtain ⟨gd, e, h⟩ := hgr n _ (List.getElem?_eq_getElem (by rw [hgl]; exact hn))
      exact ⟨gd, by rw [List.getElem?_eq_getElem (by rw [hgl]; exact hn), e], h⟩
    have hmemG : ∀ n (x : Sta), x ∈ (D'.filter fun s => decide (nu s = n)) ↔ nOf D' nu x = some n := fun n x => by
      rw [List.mem_filter, decide_eq_true_eq]
      constructor
      · rintro ⟨h1, h2⟩
        rw [hNin h1, h2]
      · intro h
        by_cases hx : x ∈ D'
        · rw [hNin hx] at h
          exact ⟨hx, Option.some.inj h⟩
        · rw [nOf_none.mpr hx] at h
          cases h
    refine ⟨_, rfl, _, rfl, by omega, by omega, ?_⟩
    refine for_range (lo := 0) (n := (many : Int).toNat) (fun i σ H' => ∃ (xg : List V) (y9 y10 : Option V), σ = [some (.ref ap), some v, some (vT w), some (.ref aw), y4, some (.ref an), some (.int (many : Int)), some (.ref ag), some (.ref agp), y9, y10, none, none, none, none] ∧ Same H4 H' ∧
      H' agp = some (.lst xg) ∧ xg.length ≤ i ∧ ∀ n, n < i → ∃ p ∈ ps, ∀ s, nOf D' nu s = some n → rin ws w (fun z => decide (nOf D' nu z = some n)) (some s) p = false)
      ⟨[], none, none, rfl, s45, upd_same, Nat.zero_le _, fun n hn => absurd hn (Nat.not_lt_zero _)⟩ ?_ ?_
    · rintro i σ H5 hi ⟨xg, y9, y10, rfl, s5, hgp5, hxl, hgap⟩
      have him : i < many := by omega
      obtain ⟨gd, hgd, hgd4⟩ := grp i him
      have hgd5 := s5 _ _ hgd4
      generalize hGl : (D'.filter fun s => decide (nu s = i)) = Gl at hgd4 hgd5
      have hGlm : ∀ x, x ∈ Gl ↔ nOf D' nu x = some i := fun x => by rw [← hGl]; exact hmemG i x
      have hGlD : ∀ x ∈ Gl, x ∈ D := fun x hx => (hC.lt x _ ((hGlm x).mp hx)).2
      have hGlnd : Gl.Nodup := by rw [← hGl]; exact hnd'.filter _
      have hGllen : Gl.length ≤ 2000 := Nat.le_trans (nodup_le hGlnd hGlD) hfew
      have s5H := s24.trans s5
      have hP5 := same_tup s5H hP
      have lps : (ps.map vT).length = ps.length := List.length_map _
      have e0 : (0 : Int) + (i : Int) = (i : Int) := Int.zero_add _
      rw [e0]
      -- missing
      refine ⟨_, rfl, ap, _, rfl, .inr hP5, _, rfl, by omega, by omega, fun Dl hDl => lc_range (lo := 0) (n := ((ps.map vT).length : Int).toNat) (fun j H' => Same H5 H' ∧ H' Dl = some (.lst ((missing j fun k => Gl.any fun s => rin ws w (fun z => decide (z ∈ Gl)) (some s) (ps.getD k [])).map fun (k : Nat) => V.int (k : Int))))
        ⟨same_new hDl, by rw [upd_same]; rfl⟩ ?_ ?_⟩
      · rintro j H6 hj ⟨s6, hL6⟩
        have hjp : j < ps.length := by rw [lps] at hj; omega
        have hpj : (ps.map vT)[j]? = some (vT (ps.getD j [])) := by
          rw [List.getElem?_map, List.getD_eq_getElem?_getD, List.getElem?_eq_getElem hjp]
          rfl
        have ej : (0 : Int) + (j : Int) = (j : Int) := Int.zero_add _
        rw [ej]
        refine ⟨rfl, ?_⟩
        refine ⟨_, rfl, _, rfl, _, rfl, _, rfl, ap, _, (j : Int), _, rfl, rfl, same_tup s6 hP5, atI_nat hpj, _, rfl, _, rfl, ag, _, (i : Int), _, rfl, rfl, SqL.of (s6 _ _ (s5 _ _ hgs)), atI_nat hgd,
          v, ws, w, ps.getD j [], gd, Gl, _, rfl, hT.same (s5H.trans s6), hWo, by omega, s6 _ _ hgd5, hGllen, fun s hs => Nat.le_trans (gram_len hWo ((hD.mem s).mp (hGlD s hs)).1) (by omega), fun H7 s7 => ?_⟩
        refine ⟨_, rfl, ?_⟩
        have hL7 := s7 _ _ hL6
        have ml : ∀ j rb, (missing j rb).length ≤ j := fun j rb => by
          unfold missing
          have := List.length_filter_le (fun k => !rb k) (List.range j)
          rw [List.length_range] at this
          exact this
        refine if_by (fun hyes => ?_) (fun hno => ?_)
        · refine ⟨_, rfl, _, hL7, by rw [List.length_map]; exact sz_lt (by have := ml j fun k => Gl.any fun s => rin ws w (fun z => decide (z ∈ Gl)) (some s) (ps.getD k []); omega), same_mut (s6.trans s7) hDl, ?_⟩
          have hrb : (Gl.any fun s => rin ws w (fun z => decide (z ∈ Gl)) (some s) (ps.getD j [])) = false := by simpa using hyes
          rw [upd_same, missing_succ, hrb, List.map_append]
          rfl
        · refine ⟨s6.trans s7, ?_⟩
          have hrb : (Gl.any fun s => rin ws w (fun z => decide (z ∈ Gl)) (some s) (ps.getD j [])) = true := by simpa using hno
          rw [missing_succ, hrb]
          show H7 Dl = some (HO.lst (List.map _ (_ ++ [])))
          rw [List.append_nil]
          exact hL7
      · rintro H6 ⟨s6, hL6⟩
        have en : ((ps.map vT).length : Int).toNat = ps.length := by rw [lps]; omega
        rw [en] at hL6
        refine ⟨_, rfl, Dl, _, rfl, .inl (SqL.of hL6), rfl, _, rfl, ?_⟩
        refine if_by (fun hyes => ?_) (fun hno => ?_)
        · -- all pieces can be read
          have hm0 : missing ps.length (fun k => Gl.any fun s => rin ws w (fun z => decide (z ∈ Gl)) (some s) (ps.getD k [])) = [] := by
            have e1 := of_decide_eq_true hyes
            injection e1 with e1
            rw [List.length_map] at e1
            exact List.length_eq_zero_iff.mp (by omega)
          have hread : ∀ p ∈ ps, ∃ s ∈ Gl, rin ws w (fun z => decide (z ∈ Gl)) (some s) p = true := fun p hp => by
            obtain ⟨k, hk, e⟩ := List.getElem_of_mem hp
            have hnot : k ∉ missing ps.length (fun k => Gl.any fun s => rin ws w (fun z => decide (z ∈ Gl)) (some s) (ps.getD k [])) := by rw [hm0]; simp
            unfold missing at hnot
            rw [List.mem_filter, List.mem_range] at hnot
            have hb : (Gl.any fun s => rin ws w (fun z => decide (z ∈ Gl)) (some s) (ps.getD k [])) = true := by
              cases hbb : (Gl.any fun s => rin ws w (fun z => decide (z ∈ Gl)) (some s) (ps.getD k [])) with
              | true => rfl
              | false => exact absurd ⟨hk, by dsimp only; rw [hbb]; rfl⟩ hnot
            obtain ⟨s, hs, hr⟩ := List.any_eq_true.mp hb
            have ep : ps.getD k [] = p := by rw [List.getD_eq_getElem?_getD, List.getElem?_eq_getElem hk]; exact e
            rw [ep] at hr
            exact ⟨s, hs, hr⟩
          have hw6 := s6 _ _ (s5 _ _ (s4 _ _ (s3 _ _ hw2)))
          refine ⟨_, rfl, _, rfl, _, rfl, _, rfl, _, rfl, _, rfl, ag, _, (i : Int), _, rfl, rfl, SqL.of (s6 _ _ (s5 _ _ hgs)), atI_nat hgd,
            v, ws, w, .ref ap, ps, g, aw, gd, D, Gl, rfl, hT.same (s5H.trans s6), hWo, by omega, ⟨ap, rfl, same_tup s6 hP5⟩, hS, hG.same (((s3.trans s4).trans s5).trans s6), s6 _ _ hgd5, hGlD, hGlnd,
            fun x hx y hy => hC.walk (W := Ts.ways ws w) hG.closed hGlm hx hy, hread, fun t H7 s7 ht hin htl => ?_⟩
          refine ⟨by show 2 ≤ sizeLine; rw [sizeLine_eq]; decide, fun r' hr' => ?_⟩
          obtain ⟨s, hs, hrd⟩ := ht
          obtain ⟨k1, k2⟩ := verdict_lacking hS hW hD (hGlD s hs) hrd hin
          exact q r' _ _ _ (((s5H.trans s6).trans s7).trans (same_new hr')) upd_same (.inr ⟨rfl, t, rfl, htl, k1, k2⟩)
        · -- a gap
          have hm1 : 0 < (missing ps.length (fun k => Gl.any fun s => rin ws w (fun z => decide (z ∈ Gl)) (some s) (ps.getD k []))).length := by
            refine Nat.pos_of_ne_zero fun e => of_decide_eq_false hno ?_
            rw [List.length_map, e]
            rfl
          have hka : ∀ k ∈ missing ps.length (fun k => Gl.any fun s => rin ws w (fun z => decide (z ∈ Gl)) (some s) (ps.getD k [])), k < ps.length ∧ (Gl.any fun s => rin ws w (fun z => decide (z ∈ Gl)) (some s) (ps.getD k [])) = false := fun k hk => by
            unfold missing at hk
            rw [List.mem_filter, List.mem_range] at hk
            exact ⟨hk.1, by simpa using hk.2⟩
          generalize missing ps.length (fun k => Gl.any fun s => rin ws w (fun z => decide (z ∈ Gl)) (some s) (ps.getD k [])) = mis at hL6 hm1 hka
          have hk0 : mis[0] ∈ mis := List.getElem_mem hm1
          have hgp6 := s6 _ _ hgp5
          refine ⟨_, rfl, .inl ⟨rfl, _, SqL.of hgp6⟩, _, rfl, _, rfl, Dl, _, 0, .int (mis[0] : Nat), rfl, rfl, SqL.of hL6, atI_nat (j := 0) (by rw [List.getElem?_map, List.getElem?_eq_getElem hm1]; rfl), by show 2 ≤ sizeLine; rw [sizeLine_eq]; decide, fun r' hr' => ?_⟩
          have nr' : agp ≠ r' := ne_of_none hgp6 hr'
          refine ⟨agp, xg, _, rfl, rfl, by rw [upd_ne nr']; exact hgp6, sz_lt (by omega), xg ++ [.ref r'], _, _, rfl, same_mut ((s5.trans s6).trans (same_new hr')) hagp, upd_same, by rw [List.length_append, List.length_singleton]; omega, fun n hn => ?_⟩
          by_cases e : n = i
          · subst e
            obtain ⟨hk1, hk2⟩ := hka _ hk0
            generalize mis[0] = kk at hk1 hk2
            refine ⟨ps[kk], List.getElem_mem hk1, fun s hs => ?_⟩
            have hsG := (hGlm s).mpr hs
            have hone := List.any_eq_false.mp hk2 s hsG
            have ep : ps.getD kk [] = ps[kk] := by rw [List.getD_eq_getElem?_getD, List.getElem?_eq_getElem hk1]; rfl
            rw [ep] at hone
            have ef : (fun z => decide (nOf D' nu z = some n)) = fun z => decide (z ∈ Gl) := funext fun z => by
              by_cases hz : z ∈ Gl
              · rw [decide_eq_true hz, decide_eq_true ((hGlm z).mp hz)]
              · rw [decide_eq_false hz, decide_eq_false fun w => hz ((hGlm z).mpr w)]
            rw [ef]
            simpa using hone
          · exact hgap n (by omega)
    · rintro σ H5 ⟨xg, y9, y10, rfl, s5, hgp5, hxl, hgap⟩
      have em : (many : Int).toNat = many := by omega
      rw [em] at hgap hxl
      have s5H := s24.trans s5
      have hver := verdict_always hS hW hD hC hgap
      -- levels
      refine ⟨_, rfl, _, rfl, v, ws, w, rfl, hT.same s5H, hWo, by omega, fun D3 xs3 a3 H6 s6 ha3 hxs3 hD3 => ?_⟩
      have hD3few : D3.length ≤ 2000 := Nat.le_trans hD3.few (by omega)
      refine ⟨a3, rfl, ⟨_, SqT.of ha3⟩, fun Dl hDl => lc_tup (K := K) (a := a3) (xs := xs3) (fun i H' => Same H6 H' ∧ ∃ ls, H' Dl = some (.lst ls) ∧ ls.length ≤ i)
        ⟨same_new hDl, [], upd_same, Nat.zero_le _⟩ (fun i H' _ p => SqT.of (p.1 _ _ ha3)) ?_ ?_⟩
      · rintro i x H7 hi ⟨s7, ls, hls, hll⟩
        obtain ⟨s, hs, hx⟩ := hxs3.get' hi
        have hi3 : i < D3.length := (List.getElem?_eq_some_iff.mp hs).1
        have hsD : s ∈ D := (hD.mem s).mpr ((hD3.mem s).mp (List.mem_of_getElem? hs))
        have hsD' : s ∈ D' := by
          obtain ⟨n, hn⟩ := hC.all s hsD
          by_cases e : s ∈ D'
          · exact e
          · rw [if_neg e] at hn; cases hn
        obtain ⟨b, rfl, hb⟩ := hx.same s7
        refine ⟨b, _, rfl, SqT.of hb, rfl, _, _, rfl, _, _, rfl, rfl, rfl, ?_⟩
        have han7 : H7 an = some (.dT (dOf D' fun s => .int (nu s : Nat))) := s7 _ _ (s6 _ _ (s5 _ _ (s4 _ _ han)))
        refine ⟨_, rfl, _, rfl, _, rfl, _, rfl, _, rfl, by show 2 ≤ sizeLine; rw [sizeLine_eq]; decide, fun p hp => ?_⟩
        refine ⟨an, _, rfl, dget_in (f := fun s => .int (nu s : Nat)) (.inl ((same_new hp) _ _ han7)) (s := s) ⟨p, rfl, upd_same⟩ hsD', by show 3 ≤ sizeLine; rw [sizeLine_eq]; decide, fun p2 hp2 => ?_⟩
        refine ⟨ls, (same_new hp2) _ _ ((same_new hp) _ _ hls), sz_lt (by omega), same_mut ((s7.trans (same_new hp)).trans (same_new hp2)) hDl, ls ++ [.ref p2], upd_same, by rw [List.length_append, List.length_singleton]; omega⟩
      · rintro H7 ⟨s7, ls, hls, hll⟩
        refine ⟨Dl, ls, rfl, SqL.of hls, fun a4 ha4 => ?_⟩
        have s58 : Same H5 (upd H7 a4 (.tup ls)) := (s6.trans s7).trans (same_new ha4)
        refine ⟨_, rfl, _, rfl, agp, xg, rfl, SqL.of (s58 _ _ hgp5), fun a5 ha5 => ?_⟩
        refine ⟨by show 2 ≤ sizeLine; rw [sizeLine_eq]; decide, fun a6 ha6 => ?_⟩
        refine ⟨by show 2 ≤ sizeLine; rw [sizeLine_eq]; decide, fun a7 ha7 => ?_⟩
        exact q a7 _ _ _ ((((s5H.trans s58).trans (same_new ha5)).trans (same_new ha6)).trans (same_new ha7)) upd_same (.inl ⟨rfl, hver⟩)
end
end Tk

/-! TkPA -/
set_option maxRecDepth 100000
set_option maxHeartbeats 2000000
namespace Tk
open PySem PySem.Spec PyProof.Rows L2 Ts TL
section
variable {K : Fg}
theorem pure_decided (vs : List V) (H : Hp) (Q : VK) (E : XK) (h : sp_decided K vs H Q E) : t_decided K { nx := fun _ H' => Q .non H', rt := Q } (start n_decided vs) H := by
  obtain ⟨vp, ps, w, g, rfl, hT, hS, h1, h2, q⟩ := h
  refine ⟨_, rfl, _, rfl, vp, ps, g, rfl, hT, hS, fun ws a H1 s1 ha hW => ?_⟩
  refine ⟨_, rfl, rfl, _, rfl, ?_⟩
  refine if_yes (by decide +kernel) ?_
  exact ⟨_, rfl, _, rfl, _, rfl, vp, ps, .ref a, ws, w, g, rfl, hT.same s1, ⟨a, rfl, SqT.of ha⟩, hS, hW, h1, h2, fun r x y H' s2 hr hv => q r x y H' (s1.trans s2) hr hv⟩
theorem pure_decide (vs : List V) (H : Hp) (Q : VK) (E : XK) (h : sp_decide K vs H Q E) : t_decide K { nx := fun _ H' => Q .non H', rt := Q } (start n_decide vs) H := by
  obtain ⟨vp, ps, w, g, rfl, hT, hS, h1, h2, q⟩ := h
  refine ⟨_, rfl, _, rfl, _, rfl, vp, ps, g, rfl, hT, hS, ?_⟩
  refine ⟨_, rfl, w, rfl, h1, by omega, ?_⟩
  refine ⟨_, rfl, rfl, _, rfl, ?_⟩
  refine if_no (by decide +kernel) ?_
  exact ⟨_, rfl, _, rfl, _, rfl, _, rfl, vp, ps, w, g, rfl, hT, hS, h1, h2, q⟩
theorem pure_example (vs : List V) (H : Hp) (Q : VK) (E : XK) (h : sp_example K vs H Q E) : t_example K { nx := fun _ H' => Q .non H', rt := Q } (start n_example vs) H := by
  obtain ⟨vp, ps, g, rfl, hT, hS, q⟩ := h
  refine ⟨_, rfl, _, rfl, _, rfl, vp, ps, g, rfl, hT, hS, ?_⟩
  refine ⟨_, rfl, rfl, _, rfl, ?_⟩
  refine if_no (by decide +kernel) ?_
  refine ⟨_, rfl, _, rfl, _, rfl, vp, ps, [32], g, rfl, hT, hS, by decide, by decide, fun r x y H1 s1 hr hv => ?_⟩
  refine ⟨r, _, rfl, SqT.of hr, rfl, _, _, rfl, _, _, rfl, rfl, ?_⟩
  rcases hv with ⟨rfl, _⟩ | ⟨rfl, t, rfl, ht, _⟩
  · refine ⟨_, rfl, rfl, _, rfl, ?_⟩
    refine if_no (by decide +kernel) ?_
    exact q _ _ s1 (.inl rfl)
  · refine ⟨_, rfl, rfl, _, rfl, ?_⟩
    refine if_yes (by decide +kernel) ?_
    exact ⟨_, rfl, q _ _ s1 (.inr ⟨t, rfl, ht⟩)⟩

/-! ### the drawing -/
theorem DOk.same {H H' : Hp} {d dl : Addr} (h : DOk H d dl) (s : Same H H') : DOk H' d dl := by
  obtain ⟨p, v, z, ns, h1, h2, h3, h4⟩ := h
  exact ⟨p, v, z, ns, s _ _ h1, h2, s _ _ h3, h4⟩
theorem DOk.ne {H : Hp} {d dl a : Addr} {u : HO} (h : DOk H d dl) (e : Rd H a u) (n : ∀ xs, u ≠ .lst xs) : a ≠ d := fun z => by
  obtain ⟨p, v, y, ns, h1, _⟩ := h
  subst z
  rcases e with e | ⟨o, e⟩
  · rw [h1] at e; exact n _ (Option.some.inj e).symm
  · rw [h1] at e; cases e
theorem Rd.but {H H' : Hp} {d a : Addr} {u : HO} (b : But d H H') (n : a ≠ d) (e : Rd H a u) : Rd H' a u := by
  rcases e with e | ⟨o, e⟩
  · exact .inl (b _ _ n e)
  · exact .inr ⟨o, b _ _ n e⟩
theorem SqT.but {H H' : Hp} {d dl a : Addr} {xs : List V} (h : DOk H d dl) (b : But d H H') (r : SqT K H a xs) : SqT K H' a xs := by
  rcases r with r | r
  · exact .inl (Rd.but b (h.ne r fun _ e => by cases e) r)
  · exact .inr r
theorem TxT.but {H H' : Hp} {d dl : Addr} {v : V} {ws : List Tx} (h : DOk H d dl) (b : But d H H') (r : TxT K H v ws) : TxT K H' v ws := by
  obtain ⟨a, rfl, r⟩ := r
  exact ⟨a, rfl, SqT.but h b r⟩
theorem but_refl {d : Addr} {H : Hp} : But d H H := fun _ _ _ e => e
theorem but_of_same {d : Addr} {H H' : Hp} (s : Same H H') : But d H H' := fun b o _ e => s b o e
/-- the heap, drawn on -/
structure Dr (d dl : Addr) (H H' : Hp) : Prop where
  b : But d H H'
  k : DOk H' d dl
theorem Dr.init {H : Hp} {d dl : Addr} (h : DOk H d dl) : Dr d dl H H := ⟨but_refl, h⟩
theorem Dr.same {H H' H2 : Hp} {d dl : Addr} (h : Dr d dl H H') (s : Same H' H2) : Dr d dl H H2 := ⟨but_same h.b s, h.k.same s⟩
theorem Dr.new {H H' : Hp} {d dl p : Addr} {o : HO} (h : Dr d dl H H') (n : H' p = none) : Dr d dl H (upd H' p o) := h.same (same_new n)
theorem Dr.step {H H' H2 : Hp} {d dl : Addr} (h : Dr d dl H H') (b : But d H' H2) (k : DOk H2 d dl) : Dr d dl H H2 := ⟨but_trans h.b b, k⟩
theorem DOk.fr {H : Hp} {d dl x : Addr} (h : DOk H d dl) (n : H x = none) : x ≠ d ∧ x ≠ dl := by
  obtain ⟨p, v, z, ns, h1, h2, h3, h4⟩ := h
  exact ⟨fun e => (by rw [← e, n] at h1; cases h1), fun e => (by rw [← e, n] at h3; cases h3)⟩
theorem Dr.mut {H H' : Hp} {d dl x : Addr} {o : HO} (h : Dr d dl H H') (h0 : DOk H d dl) (n : H x = none) : Dr d dl H (upd H' x o) := by
  obtain ⟨n1, n2⟩ := h0.fr n
  refine ⟨but_mut h.b n, ?_⟩
  obtain ⟨p, v, z, ns, h1, h2, h3, h4⟩ := h.k
  exact ⟨p, v, z, ns, by rw [upd_ne n1.symm]; exact h1, h2, by rw [upd_ne n2.symm]; exact h3, h4⟩
theorem pure_law_begin (vs : List V) (H : Hp) (Q : VK) (E : XK) (h : sp_law_begin K vs H Q E) : t_law_begin K { nx := fun _ H' => Q .non H', rt := Q } (start n_law_begin vs) H := by
  obtain ⟨a, ns, rfl, hL, hn, q⟩ := h
  refine ⟨_, rfl, a, rfl, ⟨_, hL⟩, for_list (K := K) (a := a) (xs := ns.map V.int) (fun i σ H' => H' = H ∧ ∃ (s : Int) (y : Option V), σ = [some (.ref a), some (.int s), y] ∧ 0 ≤ s ∧ s < 2147483647) ⟨rfl, 1, none, rfl, by decide, by decide⟩ (fun i σ H' _ p => by rw [p.1]; exact hL) ?_ ?_⟩
  · rintro i x σ H1 hi ⟨rfl, s, y, rfl, h1, h2⟩
    rw [List.getElem?_map] at hi
    obtain ⟨c, hc, rfl⟩ := Option.map_eq_some_iff.mp hi
    refine ⟨_, rfl, _, _, rfl, rfl, .inr ⟨by decide, by decide⟩, _, rfl, _, rfl, _, _, rfl, rfl, (show (0 : Int) < 2147483629 by decide), _, _, rfl, rfl, _, _, rfl, rfl, _, _, rfl, rfl, (show (0 : Int) < 2147483647 by decide), rfl, _, _, rfl, ?_, ?_⟩
    · exact Int.emod_nonneg _ (by decide)
    · exact Int.emod_lt_of_pos _ (by decide)
  · rintro σ H1 ⟨rfl, s, y, rfl, h1, h2⟩
    refine ⟨_, rfl, a, _, rfl, .inl hL, fun l hl => ?_⟩
    refine ⟨_, rfl, by show 4 ≤ sizeLine; rw [sizeLine_eq]; decide, fun d hd => ?_⟩
    have nl : l ≠ d := fun e => by rw [← e, upd_same] at hd; cases hd
    refine q d l _ ((same_new hl).trans (same_new hd)) ?_ ⟨0, 0, s, ns, upd_same, nl, by rw [upd_ne nl]; exact upd_same, by omega, by decide, by decide, h1⟩
    rw [upd_ne nl.symm] at hd
    exact hd
/-! ### a draw -/
theorem dok_upd {H : Hp} {d l : Addr} {p v z : Int} {ns : List Int} (nl : l ≠ d) (hl : H l = some (.lst (ns.map V.int))) (hn : ns.length ≤ 1000) (h1 : 0 ≤ p) (h2 : 0 ≤ v) (h3 : 0 ≤ z) : DOk (upd H d (.lst [.ref l, .int p, .int v, .int z])) d l :=
  ⟨p, v, z, ns, upd_same, nl, by rw [upd_ne nl]; exact hl, hn, h1, h2, h3⟩
theorem mod_nat (x : Int) {n : Nat} (h : 1 ≤ n) : ∃ r : Nat, x % (n : Int) = (r : Int) ∧ r < n := by
  have h1 := Int.emod_nonneg x (show (n : Int) ≠ 0 by omega)
  have h2 := Int.emod_lt_of_pos x (show (0 : Int) < n by omega)
  exact ⟨(x % (n : Int)).toNat, by omega, by omega⟩
abbrev t_take2 (K : Fg) : TS := (tSeq (tIfS (tTest (tOp rGtI (tOp (rIxL K) (tVar 0) (tC (.int 2))) (tC (.int 0))))
  (tSeq (tAsg (tOp rModI (tCB rIntI (tCons (tOp (rIxL K) (tVar 0) (tC (.int 2))) tNil)) (tVar 1)) (gName 3))
  (tSeq (tAsg (tOp rDivI (tCB rIntI (tCons (tOp (rIxL K) (tVar 0) (tC (.int 2))) tNil)) (tVar 1)) (gSub (tVar 0) (tC (.int 2)) rSetL))
  (tRet (tVar 3))))
  tNext)
  (tSeq (tAsg (tOp rModI (tCB rIntI (tCons (tOp rAddI (tOp rMulI (tOp (rIxL K) (tVar 0) (tC (.int 3))) (tC (.int 48271))) (tC (.int 11))) tNil)) (tC (.int 2147483647))) (gSub (tVar 0) (tC (.int 3)) rSetL))
  (tRet (tOp rModI (tCB rIntI (tCons (tOp rDivI (tOp (rIxL K) (tVar 0) (tC (.int 3))) (tC (.int 3))) tNil)) (tVar 1)))))
theorem take2 {D : Ends} {d l : Addr} {n : Nat} {H0 H : Hp} {y2 y3 : Option V} (hb : But d H0 H) (h : DOk H d l) (n1 : 1 ≤ n) (n2 : n ≤ 1000000) (q : ∀ (r : Nat) (H' : Hp), But d H0 H' → DOk H' d l → r < n → D.rt (.int (r : Int)) H') :
    t_take2 K D [some (.ref d), some (.int (n : Int)), y2, y3] H := by
  obtain ⟨p, v, z, ns, hd, nl, hl, hn, h1, h2, h3⟩ := h
  refine ⟨_, rfl, d, _, 2, _, rfl, rfl, SqL.of hd, rfl, _, _, rfl, rfl, _, rfl, ?_⟩
  refine if_by (fun hy => ?_) (fun hno => ?_)
  · refine ⟨_, rfl, d, _, 2, _, rfl, rfl, SqL.of hd, rfl, _, rfl, _, rfl, _, _, rfl, rfl, by omega, ?_⟩
    refine ⟨_, rfl, d, _, 2, _, rfl, rfl, SqL.of hd, rfl, _, rfl, _, rfl, _, _, rfl, rfl, ⟨by omega, by omega⟩, _, rfl, d, _, 2, 2, rfl, rfl, hd, rfl, ?_⟩
    refine ⟨_, rfl, ?_⟩
    obtain ⟨r, e, hr⟩ := mod_nat v n1
    show D.rt (.int (v % (n : Int))) _
    rw [e]
    exact q r _ (but_trans hb but_lock) (dok_upd nl hl hn h1 (Int.ediv_nonneg h2 (by omega)) h3) hr
  · refine ⟨_, rfl, d, _, 3, _, rfl, rfl, SqL.of hd, rfl, _, _, rfl, rfl, .inr ⟨by decide, by decide⟩, _, _, rfl, rfl, _, rfl, _, _, rfl, rfl, (show (0 : Int) < 2147483647 by decide), _, rfl, d, _, 3, 3, rfl, rfl, hd, rfl, ?_⟩
    refine ⟨_, rfl, d, _, 3, _, rfl, rfl, SqL.of upd_same, rfl, _, _, rfl, rfl, ⟨by decide, by decide⟩, _, rfl, _, rfl, _, _, rfl, rfl, by omega, ?_⟩
    generalize hx : ((z * 48271 + 11) % 2147483647) = x
    have hx0 : 0 ≤ x := by rw [← hx]; exact Int.emod_nonneg _ (by decide)
    obtain ⟨r, e, hr⟩ := mod_nat (x / 3) n1
    show D.rt (.int (x / 3 % (n : Int))) _
    rw [e]
    exact q r _ (but_trans hb but_lock) (dok_upd nl hl hn h1 h2 (by rw [hx]; exact hx0)) hr
theorem pure_law_take (vs : List V) (H : Hp) (Q : VK) (E : XK) (h : sp_law_take K vs H Q E) : t_law_take K { nx := fun _ H' => Q .non H', rt := Q } (start n_law_take vs) H := by
  obtain ⟨d, l, n, rfl, hD, n1, n2, q⟩ := h
  obtain ⟨p, v, z, ns, hd, nl, hl, hn, h1, h2, h3⟩ := hD
  have hD : DOk H d l := ⟨p, v, z, ns, hd, nl, hl, hn, h1, h2, h3⟩
  refine ⟨_, rfl, d, _, 2, _, rfl, rfl, SqL.of hd, rfl, rfl, _, rfl, ?_⟩
  refine if_by (fun hy => ?_) (fun hno => ?_)
  · refine ⟨_, rfl, d, _, 1, _, rfl, rfl, SqL.of hd, rfl, _, rfl, d, _, 0, _, rfl, rfl, SqL.of hd, rfl, _, _, rfl, .inl (SqL.of hl), _, _, rfl, rfl, _, rfl, ?_⟩
    refine if_by (fun hy2 => ?_) (fun hno2 => ?_)
    · have hlt : p < ((ns.map V.int).length : Int) := of_decide_eq_true hy2
      rw [List.length_map] at hlt
      obtain ⟨j, rfl⟩ : ∃ j : Nat, p = (j : Int) := ⟨p.toNat, by omega⟩
      have hj : j < ns.length := by omega
      refine ⟨_, rfl, d, _, 0, _, rfl, rfl, SqL.of hd, rfl, _, rfl, d, _, 1, _, rfl, rfl, SqL.of hd, rfl, l, _, (j : Int), .int ns[j], rfl, rfl, SqL.of hl, atI_nat (by rw [List.getElem?_map, List.getElem?_eq_getElem hj]; rfl), _, rfl, _, rfl, _, rfl, d, _, 2, 2, rfl, rfl, hd, rfl, ?_⟩
      generalize hc : (if ns[j] < 0 then -ns[j] else ns[j]) = c
      have hc0 : 0 ≤ c := by rw [← hc]; split <;> omega
      refine ⟨_, rfl, d, _, 1, _, rfl, rfl, SqL.of upd_same, rfl, _, _, rfl, rfl, _, rfl, d, _, 1, 1, rfl, rfl, upd_same, rfl, ?_⟩
      have hl2 : (upd (upd H d (.lst ([V.ref l, V.int (j : Int), V.int v, V.int z].set 2 (V.int c)))) d (.lst (([V.ref l, V.int (j : Int), V.int v, V.int z].set 2 (V.int c)).set 1 (V.int ((j : Int) + 1))))) l = some (.lst (ns.map V.int)) := by rw [upd_ne nl, upd_ne nl]; exact hl
      have hd2 : (upd (upd H d (.lst ([V.ref l, V.int (j : Int), V.int v, V.int z].set 2 (V.int c)))) d (.lst (([V.ref l, V.int (j : Int), V.int v, V.int z].set 2 (V.int c)).set 1 (V.int ((j : Int) + 1))))) d = some (.lst [.ref l, .int ((j : Int) + 1), .int c, .int z]) := upd_same
      have hb2 : But d H (upd (upd H d (.lst ([V.ref l, V.int (j : Int), V.int v, V.int z].set 2 (V.int c)))) d (.lst (([V.ref l, V.int (j : Int), V.int v, V.int z].set 2 (V.int c)).set 1 (V.int ((j : Int) + 1))))) := but_trans but_lock but_lock
      generalize (upd (upd H d (.lst ([V.ref l, V.int (j : Int), V.int v, V.int z].set 2 (V.int c)))) d (.lst (([V.ref l, V.int (j : Int), V.int v, V.int z].set 2 (V.int c)).set 1 (V.int ((j : Int) + 1))))) = H2 at hl2 hd2 hb2 ⊢
      refine ⟨_, rfl, d, _, 2, _, rfl, rfl, SqL.of hd2, rfl, _, _, rfl, rfl, ⟨by decide, by decide, by decide⟩, _, _, rfl, rfl, _, rfl, ?_⟩
      refine if_by (fun hy3 => ?_) (fun hno3 => ?_)
      · refine ⟨_, rfl, d, _, 2, _, rfl, rfl, SqL.of hd2, rfl, _, rfl, ?_⟩
        refine ⟨_, rfl, d, _, 2, 2, rfl, rfl, hd2, rfl, ?_⟩
        refine ⟨_, rfl, _, rfl, _, _, rfl, rfl, by omega, ?_⟩
        obtain ⟨r, e, hr⟩ := mod_nat c n1
        show Q (.int (c % (n : Int))) _
        rw [e]
        exact q r _ (but_trans hb2 but_lock) (dok_upd nl hl2 hn (by omega) (by decide) h3) hr
      · exact take2 hb2 ⟨_, _, _, ns, hd2, nl, hl2, hn, by omega, hc0, h3⟩ n1 n2 q
    · exact take2 but_refl hD n1 n2 q
  · exact iteF (take2 but_refl hD n1 n2 q)
theorem pure_law_letters (vs : List V) (H : Hp) (Q : VK) (E : XK) (h : sp_law_letters K vs H Q E) : t_law_letters K { nx := fun _ H' => Q .non H', rt := Q } (start n_law_letters vs) H := by
  obtain ⟨rfl, q⟩ := h
  exact q (Str.ofString "!#$&()*+,-./0123456789:;<=>?@ABCDEFGHIJKLMNOPQRSTUVWXYZ[]^_abcdefghijklmnopqrstuvwxyz{|}~").cps.toList (by decide +kernel)
end
end Tk

/-! TkPB -/
set_option maxRecDepth 100000
set_option maxHeartbeats 2000000
namespace Tk
open PySem PySem.Spec PyProof.Rows L2 Ts TL
section
variable {K : Fg}
theorem menu6 : ∀ r : Nat, r < 6 → ∃ t : Tx, [V.str (Str.ofString "ab"), .str (Str.ofString "abc"), .str (Str.ofString "ba"), .str (Str.ofString "zy0"), .str (Str.ofString "+A"), .str (Str.ofString "abcd")][r]? = some (vT t) ∧ 1 ≤ t.length ∧ t.length ≤ 10 := by
  intro r hr
  rcases r with _ | _ | _ | _ | _ | _ | r
  · exact ⟨[97, 98], rfl, by decide, by decide⟩
  · exact ⟨[97, 98, 99], rfl, by decide, by decide⟩
  · exact ⟨[98, 97], rfl, by decide, by decide⟩
  · exact ⟨[122, 121, 48], rfl, by decide, by decide⟩
  · exact ⟨[43, 65], rfl, by decide, by decide⟩
  · exact ⟨[97, 98, 99, 100], rfl, by decide, by decide⟩
  · omega
theorem mid_len (z : Tx) (k n : Nat) : (cutL z (some (k : Int)) (some ((k : Int) + (n : Int)))).length = min n (z.length - k) := by
  unfold cutL
  have e : ((k : Int) + (n : Int)) = ((k + n : Nat) : Int) := by omega
  rw [e, HT.sIx_nat, HT.sIx_nat, List.length_take, List.length_drop]
  omega
theorem pure_law_signs (vs : List V) (H : Hp) (Q : VK) (E : XK) (h : sp_law_signs K vs H Q E) : t_law_signs K { nx := fun _ H' => Q .non H', rt := Q } (start n_law_signs vs) H := by
  obtain ⟨d, dl, rfl, hD, q⟩ := h
  refine ⟨by show 6 ≤ sizeLine; rw [sizeLine_eq]; decide, fun p hp => ?_⟩
  have R1 := (Dr.init hD).new hp (o := .tup [V.str (Str.ofString "ab"), .str (Str.ofString "abc"), .str (Str.ofString "ba"), .str (Str.ofString "zy0"), .str (Str.ofString "+A"), .str (Str.ofString "abcd")])
  refine ⟨_, rfl, _, rfl, d, dl, 6, rfl, R1.k, by decide, by decide, fun r H2 b2 k2 hr => ?_⟩
  have R2 := R1.step b2 k2
  obtain ⟨t, ht, t1, t2⟩ := menu6 r hr
  refine ⟨p, _, (r : Int), vT t, rfl, rfl, SqT.but R1.k b2 (SqT.of upd_same), atI_nat ht, ?_⟩
  refine ⟨_, rfl, d, dl, 4, rfl, R2.k, by decide, by decide, fun r3 H3 b3 k3 hr3 => ?_⟩
  have R3 := R2.step b3 k3
  refine ⟨rfl, _, rfl, ?_⟩
  refine if_by (fun hy => ?_) (fun hno => ?_)
  · refine ⟨_, rfl, d, dl, 80, rfl, R3.k, by decide, by decide, fun r4 H4 b4 k4 hr4 => ?_⟩
    have R4 := R3.step b4 k4
    refine ⟨rfl, fun l hl => ?_⟩
    refine ⟨_, rfl, _, rfl, _, rfl, _, _, rfl, rfl, _, rfl, d, dl, 5, rfl, R4.k, by decide, by decide, fun r5 H5 b5 k5 hr5 => ?_⟩
    have R5 := R4.step b5 k5
    refine ⟨_, _, rfl, rfl, _, rfl, l, rfl, sz_of (by omega), ?_⟩
    refine ⟨_, rfl, ?_⟩
    have e : ((r4 : Int) + 1 + (r5 : Int)) = ((r4 : Int) + ((1 + r5 : Nat) : Int)) := by omega
    have hlen := mid_len l r4 (1 + r5)
    rw [← e] at hlen
    refine q _ _ R5.b R5.k ?_ ?_
    · show 1 ≤ (cutL l (some (r4 : Int)) (some ((r4 : Int) + 1 + (r5 : Int)))).length
      rw [hlen]; omega
    · show (cutL l (some (r4 : Int)) (some ((r4 : Int) + 1 + (r5 : Int)))).length ≤ 10
      rw [hlen]; omega
  · exact ⟨_, rfl, q t _ R3.b R3.k t1 t2⟩
theorem flat_ones : ∀ l : Tx, (l.map fun c => [c]).flatten = l
  | [] => rfl
  | c :: l => by
    show [c] ++ (l.map fun c => [c]).flatten = _
    rw [flat_ones l]; rfl
theorem pure_law_text (vs : List V) (H : Hp) (Q : VK) (E : XK) (h : sp_law_text K vs H Q E) : t_law_text K { nx := fun _ H' => Q .non H', rt := Q } (start n_law_text vs) H := by
  obtain ⟨d, dl, sg, n, rfl, hD, g1, g2, hn, q⟩ := h
  refine ⟨⟨_, rfl⟩, _, rfl, (n : Int), rfl, by omega, by omega, fun Dl hDl => lc_range (lo := 0) (n := ((n : Int)).toNat) (fun i H' => Dr d dl H H' ∧ ∃ l : Tx, H' Dl = some (.lst ((l.map fun c => [c]).map vT)) ∧ l.length = i)
    ⟨(Dr.init hD).new hDl, [], by rw [upd_same]; rfl, rfl⟩ ?_ ?_⟩
  · rintro i H1 hi ⟨R1, l, hL, hl⟩
    refine ⟨rfl, ?_⟩
    refine ⟨_, rfl, _, rfl, _, rfl, sg, rfl, sz_of (by omega), d, dl, sg.length, rfl, R1.k, g1, by omega, fun r H2 b2 k2 hr => ?_⟩
    have R2 := R1.step b2 k2
    obtain ⟨nd, _⟩ := hD.fr hDl
    refine ⟨sg, (r : Int), sg[r], rfl, rfl, sz_of (by omega), atI_nat (List.getElem?_eq_getElem hr), ?_⟩
    refine ⟨_, b2 _ _ nd hL, by rw [List.length_map, List.length_map]; exact sz_lt (by omega), R2.mut hD hDl, l ++ [sg[r]], ?_, by rw [List.length_append, hl]; rfl⟩
    rw [upd_same, List.map_append, List.map_append]; rfl
  · rintro H1 ⟨R1, l, hL, hl⟩
    have en : ((n : Int)).toNat = n := by omega
    rw [en] at hl
    refine ⟨Dl, l.map fun c => [c], rfl, rfl, SqL.of hL, ?_, ?_⟩
    · rw [flat_ones]; omega
    · rw [flat_ones]; exact q l H1 R1.b R1.k hl
theorem pure_law_rich (vs : List V) (H : Hp) (Q : VK) (E : XK) (h : sp_law_rich K vs H Q E) : t_law_rich K { nx := fun _ H' => Q .non H', rt := Q } (start n_law_rich vs) H := by
  obtain ⟨d, dl, sg, n, rfl, hD, g1, g2, hn, q⟩ := h
  refine ⟨_, rfl, _, rfl, _, rfl, d, dl, 4, rfl, hD, by decide, by decide, fun r H1 b1 k1 hr => ?_⟩
  have R1 := (Dr.init hD).step b1 k1
  refine ⟨_, _, rfl, rfl, ?_⟩
  have e1 : ((1 : Int) + (r : Int)) = ((1 + r : Nat) : Int) := by omega
  dsimp only
  rw [e1]
  refine ⟨d, dl, sg, 1 + r, rfl, R1.k, g1, g2, by omega, fun l H2 b2 k2 hl => ?_⟩
  have R2 := R1.step b2 k2
  refine ⟨fun m σ H' => ∃ (z : Tx) (y4 y5 : Option V), σ = [some (.ref d), some (vT sg), some (.int (n : Int)), some (vT z), y4, y5] ∧ Dr d dl H H' ∧ 1 ≤ z.length ∧ z.length ≤ 1000 ∧ m = n - z.length, ⟨_, l, none, none, rfl, R2, by omega, by omega, rfl⟩, ?_⟩
  rintro m σ H3 ⟨z, y4, y5, rfl, R3, z1, z2, rfl⟩
  refine ⟨_, rfl, z, rfl, sz_of (by omega), _, rfl, _, _, rfl, rfl, _, rfl, ?_⟩
  refine if_by (fun hy => ?_) (fun hno => ?_)
  · have hlt : (z.length : Int) < (n : Int) := of_decide_eq_true hy
    refine ⟨fun σ H' => ∃ (z' : Tx) (y4 y5 : Option V), σ = [some (.ref d), some (vT sg), some (.int (n : Int)), some (vT z'), y4, y5] ∧ Dr d dl H H' ∧ z.length < z'.length ∧ z'.length ≤ 1000, ?_, ?_⟩
    · rintro σ' H' ⟨z', y4, y5, rfl, R', l1, l2⟩
      exact ⟨n - z'.length, by omega, z', y4, y5, rfl, R', by omega, l2, rfl⟩
    refine ⟨_, rfl, d, dl, 3, rfl, R3.k, by decide, by decide, fun r4 H4 b4 k4 hr4 => ?_⟩
    have R4 := R3.step b4 k4
    refine ⟨_, rfl, rfl, _, rfl, ?_⟩
    refine if_by (fun hy => ?_) (fun hno => ?_)
    · exact ⟨_, rfl, _, rfl, z, z, rfl, rfl, sz_of (by omega), z ++ z, _, _, rfl, R4, by rw [List.length_append]; omega, by rw [List.length_append]; omega⟩
    · refine ⟨_, rfl, rfl, _, rfl, ?_⟩
      refine if_by (fun hy2 => ?_) (fun hno2 => ?_)
      · refine ⟨_, rfl, _, rfl, z, rfl, sz_of (by omega), d, dl, z.length, rfl, R4.k, z1, by omega, fun r5 H5 b5 k5 hr5 => ?_⟩
        have R5 := R4.step b5 k5
        refine ⟨_, rfl, _, rfl, _, rfl, _, rfl, _, rfl, _, _, rfl, rfl, _, rfl, z, rfl, sz_of (by omega), ?_⟩
        have hlen : (cutL z (some (r5 : Int)) (some ((r5 : Int) + 3))).length = min 3 (z.length - r5) := mid_len z r5 3
        refine ⟨z, _, rfl, rfl, sz_of (by rw [hlen]; omega), z ++ cutL z (some (r5 : Int)) (some ((r5 : Int) + 3)), _, _, rfl, R5, by rw [List.length_append, hlen]; omega, by rw [List.length_append, hlen]; omega⟩
      · refine ⟨_, rfl, _, rfl, _, rfl, _, rfl, sg, rfl, sz_of (by omega), d, dl, sg.length, rfl, R4.k, g1, by omega, fun r5 H5 b5 k5 hr5 => ?_⟩
        have R5 := R4.step b5 k5
        refine ⟨sg, (r5 : Int), sg[r5], rfl, rfl, sz_of (by omega), atI_nat (List.getElem?_eq_getElem hr5), ?_⟩
        exact ⟨z, [sg[r5]], rfl, rfl, sz_of (by rw [List.length_singleton]; omega), z ++ [sg[r5]], _, _, rfl, R5, by rw [List.length_append, List.length_singleton]; omega, by rw [List.length_append, List.length_singleton]; omega⟩
  · have hge : ¬ (z.length : Int) < (n : Int) := of_decide_eq_false hno
    refine ⟨_, rfl, _, rfl, _, rfl, z, rfl, sz_of (by omega), ?_⟩
    rw [cutL_to]
    exact q _ _ R3.b R3.k (by rw [List.length_take]; omega)
end
end Tk

/-! TkPC -/
set_option maxRecDepth 100000
set_option maxHeartbeats 2000000
namespace Tk
open PySem PySem.Spec PyProof.Rows L2 Ts TL
section
variable {K : Fg}
theorem flat_one2 : ∀ l : Tx, (l.map fun c => [c]).flatten = l
  | [] => rfl
  | c :: l => by
    show [c] ++ (l.map fun c => [c]).flatten = _
    rw [flat_one2 l]; rfl
theorem lround_succ (C : Tx) (p n : Nat) : lround C p (n + 1) = lround C p n ++ [C[(p + n) % C.length]?.getD 0] := by
  unfold lround
  rw [List.range_succ, List.map_append]
  rfl
theorem pure_law_round (vs : List V) (H : Hp) (Q : VK) (E : XK) (h : sp_law_round K vs H Q E) : t_law_round K { nx := fun _ H' => Q .non H', rt := Q } (start n_law_round vs) H := by
  obtain ⟨C, p, n, rfl, hC, hl, hn, q⟩ := h
  have hpos : 0 < C.length := List.length_pos_iff.mpr hC
  refine ⟨⟨_, rfl⟩, _, rfl, (n : Int), rfl, by omega, by omega, fun Dl hDl => lc_range (lo := 0) (n := ((n : Int)).toNat) (fun i H' => Same H H' ∧ H' Dl = some (.lst (((lround C p i).map fun c => [c]).map vT)))
    ⟨same_new hDl, by rw [upd_same]; rfl⟩ ?_ ?_⟩
  · rintro i H1 hi ⟨s1, hL⟩
    have hm : (p + i) % C.length < C.length := Nat.mod_lt _ hpos
    have e : (((p : Int) + ((0 : Int) + (i : Int))) % (C.length : Int)) = (((p + i) % C.length : Nat) : Int) := by
      rw [Int.zero_add, Int.natCast_emod, Int.natCast_add]
    refine ⟨rfl, ?_⟩
    refine ⟨_, rfl, _, rfl, _, rfl, _, _, rfl, rfl, _, rfl, _, rfl, C, rfl, sz_of (by omega), _, _, rfl, rfl, (by omega), C, _, C[(p + i) % C.length], rfl, rfl, sz_of (by omega), ?_, ?_⟩
    · rw [e]; exact atI_nat (List.getElem?_eq_getElem hm)
    refine ⟨_, hL, by rw [List.length_map, List.length_map, lround_length]; exact sz_lt (by omega), same_mut s1 hDl, ?_⟩
    rw [upd_same, lround_succ, List.map_append, List.map_append, List.getElem?_eq_getElem hm]
    rfl
  · rintro H1 ⟨s1, hL⟩
    have en : ((n : Int)).toNat = n := by omega
    rw [en] at hL
    refine ⟨Dl, (lround C p n).map fun c => [c], rfl, rfl, SqL.of hL, ?_, ?_⟩
    · rw [flat_one2, lround_length]; omega
    · rw [flat_one2]; exact q H1 s1
theorem filt_succ (pr : Nat → Bool) (n : Nat) : (List.range (n + 1)).filter pr = (List.range n).filter pr ++ if pr n = true then [n] else [] := by
  rw [List.range_succ, List.filter_append]
  congr 1
  rw [List.filter_cons]
  split <;> rfl
theorem pure_law_on_circle (vs : List V) (H : Hp) (Q : VK) (E : XK) (h : sp_law_on_circle K vs H Q E) : t_law_on_circle K { nx := fun _ H' => Q .non H', rt := Q } (start n_law_on_circle vs) H := by
  obtain ⟨C, w, rfl, hC, hw, q⟩ := h
  refine ⟨_, rfl, C, rfl, sz_of (by omega), (C.length : Int), rfl, by omega, by omega, fun Dl hDl => lc_range (lo := 0) (n := ((C.length : Int)).toNat) (fun i H' => Same H H' ∧ H' Dl = some (.lst (((List.range i).filter fun p => decide (lround C p w.length = w)).map fun (k : Nat) => V.int (k : Int))))
    ⟨same_new hDl, by rw [upd_same]; rfl⟩ ?_ ?_⟩
  · rintro i H1 hi ⟨s1, hL⟩
    have hi2 : i < C.length := by omega
    have hne : C ≠ [] := fun e => by rw [e] at hi2; cases hi2
    rw [Int.zero_add]
    refine ⟨rfl, ?_⟩
    refine ⟨_, rfl, _, rfl, _, rfl, w, rfl, sz_of (by omega), C, i, w.length, rfl, hne, hC, hw, fun H2 s2 => ?_⟩
    refine ⟨_, rfl, rfl, _, rfl, ?_⟩
    rw [vT_eq, filt_succ]
    refine if_by (fun hy => ?_) (fun hno => ?_)
    · refine ⟨_, rfl, _, s2 _ _ hL, ?_, same_mut (s1.trans s2) hDl, ?_⟩
      · rw [List.length_map]
        have h1 := List.length_filter_le (fun p => decide (lround C p w.length = w)) (List.range i)
        rw [List.length_range] at h1
        exact sz_lt (by omega)
      · rw [if_pos hy, upd_same, List.map_append]; rfl
    · refine ⟨s1.trans s2, ?_⟩
      rw [if_neg (by rw [hno]; decide), List.append_nil]
      exact s2 _ _ hL
  · rintro H1 ⟨s1, hL⟩
    have en : ((C.length : Int)).toNat = C.length := by omega
    rw [en] at hL
    refine ⟨Dl, _, rfl, .inl (SqL.of hL), _, _, rfl, rfl, ?_⟩
    refine q _ H1 s1 ?_
    rw [decide_eq_true_iff, List.length_map]
    constructor
    · intro hlt
      obtain ⟨x, hx⟩ := List.exists_mem_of_length_pos (l := (List.range C.length).filter fun p => decide (lround C p w.length = w)) (by omega)
      rw [List.mem_filter, List.mem_range] at hx
      exact ⟨x, hx.1, of_decide_eq_true hx.2⟩
    · rintro ⟨x, h1, h2⟩
      have hx : x ∈ (List.range C.length).filter fun p => decide (lround C p w.length = w) := List.mem_filter.mpr ⟨List.mem_range.mpr h1, decide_eq_true h2⟩
      have := List.length_pos_of_mem hx
      omega
theorem bl_all (bs : List Bool) : bs.all id = true ↔ ∀ b ∈ bs, b = true := by
  rw [List.all_eq_true]; rfl
theorem pure_law_explains (vs : List V) (H : Hp) (Q : VK) (E : XK) (h : sp_law_explains K vs H Q E) : t_law_explains K { nx := fun _ H' => Q .non H', rt := Q } (start n_law_explains vs) H := by
  obtain ⟨v, ps, g, C, rfl, hT, hS, hC, q⟩ := h
  have g2 := hS.g2
  have hpf := hS.few
  refine ⟨_, rfl, _, rfl, v, ps, g, rfl, hT, hS, fun ws a H1 s1 ha hW => ?_⟩
  refine ⟨_, rfl, rfl, _, rfl, ?_⟩
  refine if_yes (by decide +kernel) ?_
  refine ⟨_, rfl, rfl, _, rfl, ?_⟩
  have ez : decide (vT C = V.str (Str.ofString "")) = decide (C = []) := vT_eq C []
  rw [ez]
  refine if_by (fun hy => ?_) (fun hno => ?_)
  · refine iteT ?_
    refine q false H1 s1 ⟨fun e => (by cases e), fun e => absurd (of_decide_eq_true hy) e.1⟩
  · have hne : C ≠ [] := of_decide_eq_false hno
    refine ⟨_, rfl, C, rfl, sz_of (by omega), (C.length : Int), rfl, by omega, by omega, fun Dl hDl => lc_range (lo := 0) (n := ((C.length : Int)).toNat) (fun i H' => Same H1 H' ∧ H' Dl = some (.lst (((List.range i).map fun p => decide (lround C p g ∈ ws)).map V.bl)))
      ⟨same_new hDl, by rw [upd_same]; rfl⟩ ?_ ?_⟩
    · rintro i H2 hi ⟨s2, hL⟩
      rw [Int.zero_add]
      refine ⟨rfl, ?_⟩
      refine ⟨_, rfl, _, rfl, _, rfl, C, i, g, rfl, hne, hC, by omega, fun H3 s3 => ?_⟩
      refine ⟨_, rfl, a, _, rfl, .inl (SqL.of (s3 _ _ (s2 _ _ ha))), rfl, flat_T _, ?_⟩
      refine ⟨_, s3 _ _ hL, by rw [List.length_map, List.length_map, List.length_range]; exact sz_lt (by omega), same_mut (s2.trans s3) hDl, ?_⟩
      rw [upd_same, List.range_succ, List.map_append, List.map_append]
      show some (HO.lst (_ ++ [V.bl (inV (vT (lround C i g)) (ws.map vT))])) = _
      rw [inV_T]
      rfl
    · rintro H2 ⟨s2, hL⟩
      have en : ((C.length : Int)).toNat = C.length := by omega
      rw [en] at hL
      refine ⟨Dl, _, rfl, SqL.of hL, _, rfl, ?_⟩
      have hall : (((List.range C.length).map fun p => decide (lround C p g ∈ ws)).all id = true) ↔ ∀ p, p < C.length → IsWin ps g (lround C p g) := by
        rw [bl_all]
        constructor
        · intro hb p hp
          exact (hW.mem _).mp (of_decide_eq_true (hb _ (List.mem_map.mpr ⟨p, List.mem_range.mpr hp, rfl⟩)))
        · intro hb b hm
          obtain ⟨p, hp, rfl⟩ := List.mem_map.mp hm
          exact decide_eq_true ((hW.mem _).mpr (hb p (List.mem_range.mp hp)))
      refine if_by (fun hy => ?_) (fun hno2 => ?_)
      · refine q false H2 (s1.trans s2) ⟨fun e => (by cases e), fun e => ?_⟩
        have := hall.mpr e.2.1
        rw [this] at hy
        cases hy
      · have hyes : (((List.range C.length).map fun p => decide (lround C p g ∈ ws)).all id = true) := by
          cases hh : ((List.range C.length).map fun p => decide (lround C p g ∈ ws)).all id with
          | true => rfl
          | false => rw [hh] at hno2; cases hno2
        obtain ⟨ap, rfl, hP⟩ := hT
        have hP2 := same_tup (s1.trans s2) hP
        refine ⟨_, rfl, ap, rfl, ⟨_, hP2⟩, fun Dl2 hDl2 => lc_tup (K := K) (a := ap) (xs := ps.map vT) (fun i H' => Same H2 H' ∧ ∃ bs : List Bool, H' Dl2 = some (.lst (bs.map V.bl)) ∧ All2 (fun b p => b = true ↔ OnC C p) bs (ps.take i))
          ⟨same_new hDl2, [], by rw [upd_same]; rfl, All2.nil⟩ (fun i H' _ p => same_tup p.1 hP2) ?_ ?_⟩
        · rintro i x H3 hi ⟨s3, bs, hL3, hA⟩
          rw [List.getElem?_map] at hi
          obtain ⟨p, hp, rfl⟩ := Option.map_eq_some_iff.mp hi
          obtain ⟨l1, l2⟩ := hS.len p (List.mem_of_getElem? hp)
          have hip : i < ps.length := (List.getElem?_eq_some_iff.mp hp).1
          refine ⟨rfl, ?_⟩
          refine ⟨_, rfl, _, rfl, C, p, rfl, hC, by omega, fun b H4 s4 hb => ?_⟩
          refine ⟨_, s4 _ _ hL3, ?_, same_mut (s3.trans s4) hDl2, bs ++ [b], ?_, ?_⟩
          · rw [List.length_map, hA.1, List.length_take]; exact sz_lt (by omega)
          · rw [upd_same, List.map_append]; rfl
          · rw [tk_snoc hp]; exact hA.snoc hb
        · rintro H3 ⟨s3, bs, hL3, hA⟩
          rw [List.length_map, List.take_length] at hA
          refine ⟨Dl2, bs, rfl, SqL.of hL3, ?_⟩
          refine q _ H3 ((s1.trans s2).trans s3) ?_
          rw [bl_all]
          constructor
          · intro hb
            refine ⟨hne, hall.mp hyes, fun p hp => ?_⟩
            obtain ⟨j, hj, e⟩ := List.getElem_of_mem hp
            obtain ⟨b, hb1, hb2⟩ := hA.get (List.getElem?_eq_some_iff.mpr ⟨hj, e⟩)
            exact hb2.mp (hb b (List.mem_of_getElem? hb1))
          · intro he b hb
            obtain ⟨j, hj, e⟩ := List.getElem_of_mem hb
            obtain ⟨p, hp1, hp2⟩ := hA.get' (List.getElem?_eq_some_iff.mpr ⟨hj, e⟩)
            exact hp2.mpr (he.2.2 p (List.mem_of_getElem? hp1))
end
end Tk

/-! TkPD -/
set_option maxRecDepth 100000
set_option maxHeartbeats 2000000
namespace Tk
open PySem PySem.Spec PyProof.Rows L2 Ts TL
section
variable {K : Fg}
theorem eight_le : 8 ≤ sizeLine := by rw [sizeLine_eq]; decide
theorem shards_rot {ps : List Tx} {g r : Nat} (g1 : 1 ≤ g) (g2 : g ≤ 3) (ne : ps ≠ []) (hl : ∀ p ∈ ps, g ≤ p.length ∧ p.length ≤ 12) : Shards ((ps.drop r ++ ps.take r).take 8) g := by
  have hlen : (ps.drop r ++ ps.take r).length = ps.length := by rw [List.length_append, List.length_drop, List.length_take]; omega
  have hp : 0 < ps.length := List.length_pos_iff.mpr ne
  refine ⟨g1, g2, ?_, ?_, ?_⟩
  · refine List.ne_nil_of_length_pos ?_
    rw [List.length_take]; omega
  · rw [List.length_take]; omega
  · intro p hm
    have h1 := List.mem_of_mem_take hm
    rcases List.mem_append.mp h1 with h2 | h2
    · exact hl p (List.mem_of_mem_drop h2)
    · exact hl p (List.mem_of_mem_take h2)
theorem pure_law_cut (vs : List V) (H : Hp) (Q : VK) (E : XK) (h : sp_law_cut K vs H Q E) : t_law_cut K { nx := fun _ H' => Q .non H', rt := Q } (start n_law_cut vs) H := by
  obtain ⟨d, dl, C, g, rfl, hD, C1, C2, g1, g2, q⟩ := h
  have hCne : C ≠ [] := fun e => by rw [e] at C1; cases C1
  refine ⟨Nat.zero_le _, fun l hl => ?_⟩
  have R0 := (Dr.init hD).new hl (o := .lst [])
  obtain ⟨nld, _⟩ := hD.fr hl
  refine ⟨_, rfl, rfl, _, rfl, ?_⟩
  refine if_yes (by decide +kernel) ?_
  refine ⟨_, rfl, d, dl, 3, rfl, R0.k, by decide, by decide, fun r H1 b1 k1 hr => ?_⟩
  have R1 := R0.step b1 k1
  refine ⟨_, _, rfl, rfl, ?_⟩
  obtain ⟨st, hst⟩ : ∃ st : Nat, st = 1 + r := ⟨_, rfl⟩
  have e1 : ((1 : Int) + (r : Int)) = (st : Int) := by omega
  dsimp only
  rw [e1]
  refine ⟨fun m σ H' => ∃ (ps : List Tx) (y8 : Option V), σ = [some (.ref d), some (vT C), some (.int (g : Int)), some z_circle, some (.int 8), some (.ref l), some (.int (st : Int)), some (.int ((st * ps.length : Nat) : Int)), y8, none] ∧ Dr d dl H H' ∧
    H' l = some (.lst (ps.map vT)) ∧ (∀ p ∈ ps, g ≤ p.length ∧ p.length ≤ 12) ∧ st * ps.length ≤ 40 ∧ m = 40 - st * ps.length, ⟨_, [], none, rfl, R1, b1 _ _ nld upd_same, by simp, by simp, rfl⟩, ?_⟩
  rintro m σ H2 ⟨ps, y8, rfl, R2, hL, hps, hle, rfl⟩
  have hmul : ps.length ≤ st * ps.length := Nat.le_mul_of_pos_left _ (by omega)
  refine ⟨_, rfl, _, rfl, C, rfl, sz_of (by omega), _, _, rfl, rfl, _, rfl, ?_⟩
  refine if_by (fun hy => ?_) (fun hno => ?_)
  · have hlt : ((st * ps.length : Nat) : Int) < (C.length : Int) := of_decide_eq_true hy
    refine ⟨fun σ H' => ∃ (ps' : List Tx) (y8 : Option V), ps'.length = ps.length + 1 ∧ σ = [some (.ref d), some (vT C), some (.int (g : Int)), some z_circle, some (.int 8), some (.ref l), some (.int (st : Int)), some (.int ((st * ps'.length : Nat) : Int)), y8, none] ∧ Dr d dl H H' ∧
      H' l = some (.lst (ps'.map vT)) ∧ (∀ p ∈ ps', g ≤ p.length ∧ p.length ≤ 12), ?_, ?_⟩
    · rintro σ' H' ⟨ps', y8, hl', rfl, R', hL', hps'⟩
      have e : st * ps'.length = st * ps.length + st := by rw [hl']; exact Nat.mul_succ _ _
      exact ⟨40 - st * ps'.length, by omega, ps', y8, rfl, R', hL', hps', by omega, rfl⟩
    refine ⟨_, rfl, _, _, rfl, rfl, _, rfl, _, _, rfl, rfl, _, rfl, d, dl, 3, rfl, R2.k, by decide, by decide, fun r3 H3 b3 k3 hr3 => ?_⟩
    have R3 := R2.step b3 k3
    have hL3 := b3 _ _ nld hL
    refine ⟨_, _, rfl, rfl, ?_⟩
    obtain ⟨sz, hsz⟩ : ∃ sz : Nat, sz = (g - 1) + st + r3 := ⟨_, rfl⟩
    have e2 : ((g : Int) - 1 + (st : Int) + (r3 : Int)) = (sz : Int) := by omega
    dsimp only
    rw [e2]
    refine ⟨_, rfl, .inl ⟨rfl, _, SqL.of hL3⟩, _, rfl, _, rfl, _, rfl, _, rfl, _, _, rfl, ?_⟩
    have e3 : (if (sz : Int) > (g : Int) then (sz : Int) else (g : Int)) = (sz : Int) := by split <;> omega
    rw [e3]
    refine ⟨_, _, rfl, ?_⟩
    have e4 : (if (sz : Int) < (60 : Int) then (sz : Int) else (60 : Int)) = (sz : Int) := by split <;> omega
    rw [e4]
    refine ⟨C, st * ps.length, sz, rfl, hCne, by omega, by omega, fun H4 s4 => ?_⟩
    have R4 := R3.same s4
    have hL4 := s4 _ _ hL3
    refine ⟨l, _, _, rfl, rfl, hL4, by rw [List.length_map]; exact sz_lt (by omega), ?_⟩
    refine ⟨_, rfl, _, rfl, _, _, rfl, rfl, ps ++ [lround C (st * ps.length) sz], some (.int (sz : Int)), by rw [List.length_append]; rfl, ?_, R4.mut hD hl, ?_, ?_⟩
    · have e : ((st * ps.length : Nat) : Int) + (st : Int) = ((st * (ps ++ [lround C (st * ps.length) sz]).length : Nat) : Int) := by
        rw [List.length_append, List.length_singleton, Nat.mul_succ]; omega
      rw [← e]
      rfl
    · rw [upd_same, List.map_append]; rfl
    · intro p hp
      rcases List.mem_append.mp hp with hp | hp
      · exact hps p hp
      · rw [List.mem_singleton] at hp
        rw [hp, lround_length]
        omega
  · have hge : ¬ ((st * ps.length : Nat) : Int) < (C.length : Int) := of_decide_eq_false hno
    have hpne : ps ≠ [] := fun e => by
      have e0 : st * ps.length = 0 := by rw [e]; rfl
      omega
    have hpos : 0 < ps.length := List.length_pos_iff.mpr hpne
    refine ⟨_, rfl, l, _, rfl, .inl (SqL.of hL), rfl, _, rfl, ?_⟩
    refine if_no (decide_eq_false fun e => ?_) ?_
    · injection e with e
      rw [List.length_map] at e
      omega
    refine ⟨_, rfl, _, rfl, l, _, rfl, .inl (SqL.of hL), d, dl, (ps.map vT).length, rfl, R2.k, by rw [List.length_map]; omega, by rw [List.length_map]; omega, fun r5 H5 b5 k5 hr5 => ?_⟩
    have R5 := R2.step b5 k5
    have hL5 := b5 _ _ nld hL
    refine ⟨_, rfl, _, rfl, _, rfl, l, _, rfl, SqL.of hL5, fun p1 hp1 => ?_⟩
    have R6 := R5.new hp1 (o := .lst (cutV (ps.map vT) (some (r5 : Int)) none))
    have n1 : l ≠ p1 := ne_of_none hL5 hp1
    refine ⟨_, rfl, _, rfl, _, rfl, l, _, rfl, SqL.of (by rw [upd_ne n1]; exact hL5), fun p2 hp2 => ?_⟩
    have R7 := R6.new hp2 (o := .lst (cutV (ps.map vT) none (some (r5 : Int))))
    have n2 : p1 ≠ p2 := ne_of_none upd_same hp2
    refine ⟨p1, p2, _, _, rfl, rfl, by rw [upd_ne n2]; exact upd_same, upd_same, ?_, fun p3 hp3 => ?_⟩
    · have h1 := cutV_length (ps.map vT) (some (r5 : Int)) none
      have h2 := cutV_length (ps.map vT) none (some (r5 : Int))
      rw [List.length_map] at h1 h2
      exact sz_of (by omega)
    have R8 := R7.new hp3 (o := .lst (cutV (ps.map vT) (some (r5 : Int)) none ++ cutV (ps.map vT) none (some (r5 : Int))))
    refine ⟨_, rfl, _, rfl, p3, _, rfl, SqL.of upd_same, fun p4 hp4 => ?_⟩
    have R9 := R8.new hp4 (o := .lst (cutV (cutV (ps.map vT) (some (r5 : Int)) none ++ cutV (ps.map vT) none (some (r5 : Int))) none (some 8)))
    refine ⟨p4, _, rfl, SqL.of upd_same, fun p5 hp5 => ?_⟩
    have R10 := R9.new hp5 (o := .tup (cutV (cutV (ps.map vT) (some (r5 : Int)) none ++ cutV (ps.map vT) none (some (r5 : Int))) none (some 8)))
    refine q p5 ((ps.drop r5 ++ ps.take r5).take 8) _ R10.b R10.k ?_ (shards_rot g1 g2 hpne hps)
    rw [upd_same, cutV_from, cutV_to, show cutV (List.drop r5 (ps.map vT) ++ List.take r5 (ps.map vT)) none (some 8) = _ from cutV_to _ 8, List.map_take, List.map_append, List.map_drop, List.map_take]
/-! ### the shards -/
theorem shards_tail {D : Ends} {d dl a : Addr} {H H' : Hp} {sg C : Tx} {g : Nat} {ps : List Tx} (R : Dr d dl H H') (ha : H' a = some (.tup (ps.map vT))) (g1 : 1 ≤ g) (g2 : g ≤ 3) (ne : ps ≠ []) (hl : ∀ p ∈ ps, g ≤ p.length ∧ p.length ≤ 12)
    (q : ∀ (r a : Addr) (ps : List Tx) (H2 : Hp), But d H H2 → DOk H2 d dl → H2 r = some (.tup [.ref a, .int (g : Int), vT C, vT sg]) → H2 a = some (.tup (ps.map vT)) → Shards ps g → D.rt (.ref r) H2) :
    (tRet (tTup (tCons (tSl (rSlA K) (tVar 5) tNoPart (tPart (tC (.int 8)))) (tCons (tVar 3) (tCons (tVar 4) (tCons (tVar 2) tNil)))))) D [some (.ref d), some z_circle, some (vT sg), some (.int (g : Int)), some (vT C), some (.ref a)] H' := by
  refine ⟨_, rfl, _, rfl, a, _, rfl, SqT.of ha, fun hw => ?_, fun hw p hp => ?_⟩
  · refine ⟨_, rfl, _, rfl, _, rfl, Nat.le_trans (show 4 ≤ 8 by decide) eight_le, fun r hr => ?_⟩
    have R2 := R.new hr (o := .tup [.ref a, .int (g : Int), vT C, vT sg])
    have hlen : ps.length ≤ 8 := by
      have h1 := hw.2
      rw [List.length_map] at h1
      have h2 : HT.sIx ps.length ps.length (some 8) = min 8 ps.length := HT.sIx_nat _ _ 8
      rw [h2] at h1
      omega
    exact q r a ps _ R2.b R2.k upd_same (by rw [upd_ne (ne_of_none ha hr)]; exact ha) ⟨g1, g2, ne, hlen, hl⟩
  · have R1 := R.new hp (o := .tup (cutV (ps.map vT) none (some 8)))
    refine ⟨_, rfl, _, rfl, _, rfl, Nat.le_trans (show 4 ≤ 8 by decide) eight_le, fun r hr => ?_⟩
    have R2 := R1.new hr (o := .tup [.ref p, .int (g : Int), vT C, vT sg])
    refine q r p (ps.take 8) _ R2.b R2.k upd_same ?_ ⟨g1, g2, ?_, by rw [List.length_take]; omega, fun p hp => hl p (List.mem_of_mem_take hp)⟩
    · rw [upd_ne (ne_of_none upd_same hr), upd_same, show cutV (ps.map vT) none (some 8) = _ from cutV_to _ 8, List.map_take]
    · have hp : 0 < ps.length := List.length_pos_iff.mpr ne
      refine List.ne_nil_of_length_pos ?_
      rw [List.length_take]; omega
theorem pure_law_shards (vs : List V) (H : Hp) (Q : VK) (E : XK) (h : sp_law_shards K vs H Q E) : t_law_shards K { nx := fun _ H' => Q .non H', rt := Q } (start n_law_shards vs) H := by
  obtain ⟨d, dl, rfl, hD, q⟩ := h
  refine ⟨_, rfl, d, dl, rfl, hD, fun sg H1 b1 k1 sg1 sg2 => ?_⟩
  have R1 := (Dr.init hD).step b1 k1
  refine ⟨_, rfl, d, dl, 3, rfl, R1.k, by decide, by decide, fun r H2 b2 k2 hr => ?_⟩
  have R2 := R1.step b2 k2
  refine ⟨_, _, rfl, rfl, ?_⟩
  obtain ⟨g, hg⟩ : ∃ g : Nat, g = 1 + r := ⟨_, rfl⟩
  have e1 : ((1 : Int) + (r : Int)) = (g : Int) := by omega
  dsimp only
  rw [e1]
  refine ⟨_, rfl, _, rfl, _, rfl, _, rfl, d, dl, 7, rfl, R2.k, by decide, by decide, fun r3 H3 b3 k3 hr3 => ?_⟩
  have R3 := R2.step b3 k3
  refine ⟨_, _, rfl, rfl, ?_⟩
  have e2 : ((g : Int) + (r3 : Int)) = ((g + r3 : Nat) : Int) := by omega
  dsimp only
  rw [e2]
  refine ⟨d, dl, sg, g + r3, rfl, R3.k, sg1, sg2, by omega, fun C H4 b4 k4 hC => ?_⟩
  have R4 := R3.step b4 k4
  refine ⟨_, rfl, _, rfl, _, rfl, _, rfl, d, dl, C, g, rfl, R4.k, by omega, by omega, by omega, by omega, fun a ps H5 b5 k5 ha hS => ?_⟩
  have R5 := R4.step b5 k5
  refine ⟨_, rfl, d, dl, 4, rfl, R5.k, by decide, by decide, fun r6 H6 b6 k6 hr6 => ?_⟩
  have R6 := R5.step b6 k6
  have ha6 : H6 a = some (.tup (ps.map vT)) := b6 _ _ (R5.k.ne (.inl ha) fun _ e => by cases e) ha
  have fin : ∀ (r a : Addr) (ps : List Tx) (H2 : Hp), But d H H2 → DOk H2 d dl → H2 r = some (.tup [.ref a, .int (g : Int), vT C, vT sg]) → H2 a = some (.tup (ps.map vT)) → Shards ps g → Q (.ref r) H2 :=
    fun r a ps H2 hb hk h1 h2 h3 => q r a ps g C sg H2 hb hk h1 h2 h3 (by omega) (by omega) sg1 sg2
  refine ⟨rfl, _, rfl, ?_⟩
  refine if_by (fun hy => ?_) (fun hno => ?_)
  · refine ⟨_, rfl, _, rfl, _, rfl, _, rfl, _, rfl, d, dl, 3, rfl, R6.k, by decide, by decide, fun r7 H7 b7 k7 hr7 => ?_⟩
    have R7 := R6.step b7 k7
    have ha7 : H7 a = some (.tup (ps.map vT)) := b7 _ _ (R6.k.ne (.inl ha6) fun _ e => by cases e) ha6
    refine ⟨_, _, rfl, rfl, ?_⟩
    have e3 : ((g : Int) + (r7 : Int)) = ((g + r7 : Nat) : Int) := by omega
    dsimp only
    rw [e3]
    refine ⟨d, dl, sg, g + r7, rfl, R7.k, sg1, sg2, by omega, fun t H8 b8 k8 ht => ?_⟩
    have R8 := R7.step b8 k8
    have ha8 : H8 a = some (.tup (ps.map vT)) := b8 _ _ (R7.k.ne (.inl ha7) fun _ e => by cases e) ha7
    refine ⟨Nat.le_trans (show 1 ≤ 8 by decide) eight_le, fun p hp => ?_⟩
    have R9 := R8.new hp (o := .tup [vT t])
    have ha9 : (upd H8 p (.tup [vT t])) a = some (.tup (ps.map vT)) := by rw [upd_ne (ne_of_none ha8 hp)]; exact ha8
    refine ⟨a, p, _, _, rfl, rfl, SqT.of ha9, SqT.of upd_same, ?_, ?_, (fun e => nomatch e), fun _ p2 hp2 => ?_⟩
    · intro e
      exact hS.ne (List.map_eq_nil_iff.mp e)
    · rw [List.length_map]
      have := hS.few
      exact sz_of (by show ps.length + 1 ≤ 1000000; omega)
    have R10 := R9.new hp2 (o := .tup (ps.map vT ++ [vT t]))
    refine shards_tail (ps := ps ++ [t]) R10 (by rw [upd_same, List.map_append]; rfl) hS.g1 hS.g2 (by simp) ?_ fin
    intro x hx
    rcases List.mem_append.mp hx with hx | hx
    · exact hS.len x hx
    · rw [List.mem_singleton] at hx
      rw [hx]
      omega
  · exact shards_tail R6 ha6 hS.g1 hS.g2 hS.ne hS.len fin
/-! ### the word -/
theorem pure_law_word (vs : List V) (H : Hp) (Q : VK) (E : XK) (h : sp_law_word K vs H Q E) : t_law_word K { nx := fun _ H' => Q .non H', rt := Q } (start n_law_word vs) H := by
  obtain ⟨d, dl, v, ps, g, C, sg, rfl, hD, ⟨ap, rfl, hP⟩, hS, C1, C2, sg1, sg2, q⟩ := h
  have hCne : C ≠ [] := fun e => by rw [e] at C1; cases C1
  have hpf := hS.few
  have hpne : 0 < ps.length := List.length_pos_iff.mpr hS.ne
  refine ⟨_, rfl, d, dl, 5, rfl, hD, by decide, by decide, fun r H1 b1 k1 hr => ?_⟩
  have R1 := (Dr.init hD).step b1 k1
  refine ⟨_, rfl, _, rfl, d, dl, 7, rfl, R1.k, by decide, by decide, fun r2 H2 b2 k2 hr2 => ?_⟩
  have R2 := R1.step b2 k2
  refine ⟨_, _, rfl, rfl, ?_⟩
  obtain ⟨sz, hsz⟩ : ∃ sz : Nat, sz = 1 + r2 := ⟨_, rfl⟩
  have e1 : ((1 : Int) + (r2 : Int)) = (sz : Int) := by omega
  dsimp only
  rw [e1]
  have hP2 : SqT K H2 ap (ps.map vT) := SqT.but hD R2.b hP
  refine ⟨_, rfl, rfl, _, rfl, ?_⟩
  refine if_by (fun hy => ?_) (fun hno => ?_)
  · exact ⟨_, rfl, _, rfl, _, rfl, d, dl, sg, sz, rfl, R2.k, sg1, sg2, by omega, fun w H3 b3 k3 hw => q w H3 (R2.step b3 k3).b k3 (by omega) (by omega)⟩
  refine ⟨_, rfl, rfl, _, rfl, ?_⟩
  refine if_by (fun hy => ?_) (fun hno => ?_)
  · refine ⟨_, rfl, _, rfl, _, rfl, ap, _, rfl, .inr hP2, d, dl, (ps.map vT).length, rfl, R2.k, by rw [List.length_map]; omega, by rw [List.length_map]; omega, fun r3 H3 b3 k3 hr3 => ?_⟩
    have R3 := R2.step b3 k3
    rw [List.length_map] at hr3
    refine ⟨ap, _, (r3 : Int), vT ps[r3], rfl, rfl, SqT.but R2.k b3 hP2, atI_nat (by rw [List.getElem?_map, List.getElem?_eq_getElem hr3]; rfl), ?_⟩
    obtain ⟨l1, l2⟩ := hS.len ps[r3] (List.getElem_mem hr3)
    have g1 := hS.g1
    generalize ps[r3] = pc at l1 l2
    refine ⟨_, rfl, _, rfl, pc, rfl, sz_of (by omega), d, dl, pc.length, rfl, R3.k, by omega, by omega, fun r4 H4 b4 k4 hr4 => ?_⟩
    have R4 := R3.step b4 k4
    refine ⟨_, rfl, _, rfl, _, rfl, _, rfl, _, rfl, _, _, rfl, rfl, _, rfl, pc, rfl, sz_of (by omega), ?_⟩
    have hlen := mid_len pc r4 sz
    exact q _ _ R4.b R4.k (by rw [hlen]; omega) (by rw [hlen]; omega)
  refine ⟨_, rfl, rfl, _, rfl, ?_⟩
  refine if_by (fun hy => ?_) (fun hno => ?_)
  · refine ⟨_, rfl, _, rfl, _, rfl, C, rfl, sz_of (by omega), d, dl, C.length, rfl, R2.k, C1, by omega, fun r3 H3 b3 k3 hr3 => ?_⟩
    have R3 := R2.step b3 k3
    refine ⟨_, rfl, C, r3, sz, rfl, hCne, by omega, by omega, fun H4 s4 => ?_⟩
    have R4 := R3.same s4
    refine ⟨_, rfl, _, rfl, d, dl, sg, 1, rfl, R4.k, sg1, sg2, by decide, fun t H5 b5 k5 ht => ?_⟩
    have R5 := R4.step b5 k5
    refine ⟨lround C r3 sz, t, rfl, rfl, ?_, ?_⟩
    · rw [lround_length]; exact sz_of (by omega)
    · exact q _ _ R5.b R5.k (by rw [List.length_append]; omega) (by rw [List.length_append, lround_length]; omega)
  · refine ⟨_, rfl, _, rfl, _, rfl, C, rfl, sz_of (by omega), d, dl, C.length, rfl, R2.k, C1, by omega, fun r3 H3 b3 k3 hr3 => ?_⟩
    have R3 := R2.step b3 k3
    refine ⟨_, rfl, C, r3, sz, rfl, hCne, by omega, by omega, fun H4 s4 => ?_⟩
    have R4 := R3.same s4
    exact q _ _ R4.b R4.k (by rw [lround_length]; omega) (by rw [lround_length]; omega)
end
end Tk

/-! TkPE -/
set_option maxRecDepth 100000
set_option maxHeartbeats 2000000
namespace Tk
open PySem PySem.Spec PyProof.Rows L2 Ts TL
section
variable {K : Fg}
theorem DOk.neL {H : Hp} {d dl a : Addr} {xs : List V} (h : DOk H d dl) (e : H a = some (.lst xs)) (n : ∀ l ys, xs ≠ .ref l :: ys) : a ≠ d := fun z => by
  obtain ⟨p, v, y, ns, h1, _⟩ := h
  rw [z, h1] at e
  exact n _ _ (HO.lst.inj (Option.some.inj e)).symm
theorem txt_nref (ws : List Tx) : ∀ l ys, ws.map vT ≠ .ref l :: ys := fun l ys e => by
  cases ws with
  | nil => cases e
  | cons x ws =>
    rw [List.map_cons] at e
    injection e with e _
    cases e
theorem int_nref (ws : List Int) : ∀ l ys, ws.map V.int ≠ .ref l :: ys := fun l ys e => by
  cases ws with
  | nil => cases e
  | cons x ws =>
    rw [List.map_cons] at e
    injection e with e _
    cases e
abbrev t_walk_tail (K : Fg) : TS := (tSeq (tAsg (tLc (iList K (tVar 5)) (gName 10) (tTest (tOp rEq (tSl rSlX (tVar 10) tNoPart (tPart (tUn uNegI (tC (.int 1))))) (tVar 8))) (tOp rIxX (tVar 10) (tUn uNegI (tC (.int 1)))) [10]) (gName 9))
  (tIfS (tTest (tOp rGtI (tCB (rLenQ K) (tCons (tVar 9) tNil)) (tC (.int 0))))
  (tAsg (tOp rAddX (tVar 6) (tOp (rIxL K) (tVar 9) (tCall (sp_law_take K) [] E0 (tCons (tVar 0) (tCons (tCB (rLenQ K) (tCons (tVar 9) tNil)) tNil))))) (gName 6))
  tNext))
theorem walk_tail {D : Ends} {d dl a : Addr} {H H1 : Hp} {v1 v2 v3 v4 v7 : Option V} {ws : List Tx} {z gm : Tx} {y9 : Option V} (R : Dr d dl H H1) (ha : H1 a = some (.lst (ws.map vT))) (hW : WsOk ws) (hz : z.length ≤ 10000)
    (q : ∀ (z' : Tx) (y9 : Option V) (H' : Hp), Dr d dl H H' → H' a = some (.lst (ws.map vT)) → z'.length ≤ z.length + 1 → D.nx [some (.ref d), v1, v2, v3, v4, some (.ref a), some (vT z'), v7, some (vT gm), y9, none] H') :
    t_walk_tail K D [some (.ref d), v1, v2, v3, v4, some (.ref a), some (vT z), v7, some (vT gm), y9, none] H1 := by
  have hfew := hW.few
  refine ⟨_, rfl, a, rfl, ⟨_, SqL.of ha⟩, fun Dl hDl => lc_list (K := K) (a := a) (xs := ws.map vT) (fun i H' => Same H1 H' ∧ ∃ cs : Tx, H' Dl = some (.lst ((cs.map fun c => [c]).map vT)) ∧ cs.length ≤ i)
    ⟨same_new hDl, [], by rw [upd_same]; rfl, Nat.zero_le _⟩ (fun i H' _ p => SqL.of (p.1 _ _ ha)) ?_ ?_⟩
  · rintro i x H2 hi ⟨s2, cs, hL, hl⟩
    rw [List.getElem?_map] at hi
    obtain ⟨x, hx, rfl⟩ := Option.map_eq_some_iff.mp hi
    obtain ⟨l1, l2⟩ := hW.len x (List.mem_of_getElem? hx)
    have hne : x ≠ [] := fun e => by rw [e] at l1; cases l1
    have hiw : i < ws.length := (List.getElem?_eq_some_iff.mp hx).1
    refine ⟨rfl, _, rfl, _, rfl, _, rfl, x, rfl, sz_of (by omega), ?_⟩
    refine ⟨_, rfl, rfl, _, rfl, ?_⟩
    refine if_by (fun hyes => ?_) (fun hno => ?_)
    · refine ⟨_, rfl, _, rfl, x, _, x.getLast hne, rfl, rfl, sz_of (by omega), atI_m1 x hne, ?_⟩
      refine ⟨_, hL, by rw [List.length_map, List.length_map]; exact sz_lt (by omega), same_mut s2 hDl, cs ++ [x.getLast hne], ?_, by rw [List.length_append, List.length_singleton]; omega⟩
      rw [upd_same, List.map_append, List.map_append]; rfl
    · exact ⟨s2, cs, hL, by omega⟩
  · rintro H2 ⟨s2, cs, hL, hl⟩
    have R2 := R.same s2
    have ha2 := s2 _ _ ha
    rw [List.length_map] at hl
    refine ⟨_, rfl, Dl, _, rfl, .inl (SqL.of hL), _, _, rfl, rfl, _, rfl, ?_⟩
    refine if_by (fun hyes => ?_) (fun hno => ?_)
    · have hpos : (0 : Int) < (((cs.map fun c => [c]).map vT).length : Int) := of_decide_eq_true hyes
      refine ⟨_, rfl, _, rfl, _, rfl, _, rfl, Dl, _, rfl, .inl (SqL.of hL), d, dl, ((cs.map fun c => [c]).map vT).length, rfl, R2.k, by omega, by rw [List.length_map, List.length_map]; omega, fun r H3 b3 k3 hr => ?_⟩
      have R3 := R2.step b3 k3
      rw [List.length_map, List.length_map] at hr
      have hL3 := b3 _ _ (R2.k.neL hL (txt_nref _)) hL
      have ha3 := b3 _ _ (R2.k.neL ha2 (txt_nref _)) ha2
      refine ⟨Dl, _, (r : Int), vT [cs[r]], rfl, rfl, SqL.of hL3, atI_nat (by rw [List.getElem?_map, List.getElem?_map, List.getElem?_eq_getElem hr]; rfl), ?_⟩
      refine ⟨z, [cs[r]], rfl, rfl, sz_of (by rw [List.length_singleton]; omega), ?_⟩
      exact q _ _ _ R3 ha3 (by rw [List.length_append, List.length_singleton]; omega)
    · exact q _ _ _ R2 ha2 (by omega)
theorem pure_law_walk (vs : List V) (H : Hp) (Q : VK) (E : XK) (h : sp_law_walk K vs H Q E) : t_law_walk K { nx := fun _ H' => Q .non H', rt := Q } (start n_law_walk vs) H := by
  obtain ⟨d, dl, v, ps, g, st, n, rfl, hD, hT, hS, hst, hn, q⟩ := h
  refine ⟨_, rfl, _, rfl, v, ps, g, rfl, hT, hS, fun ws a H1 s1 ha hW => ?_⟩
  have hWo := hW.ok hS
  have R1 := (Dr.init hD).same s1
  refine ⟨_, rfl, ?_⟩
  refine ⟨_, rfl, (n : Int), rfl, by omega, by omega, ?_⟩
  refine for_range (lo := 0) (n := ((n : Int)).toNat) (fun i σ H' => ∃ (z : Tx) (y7 y8 y9 : Option V), σ = [some (.ref d), some v, some (.int (g : Int)), some (vT st), some (.int (n : Int)), some (.ref a), some (vT z), y7, y8, y9, none] ∧ Dr d dl H H' ∧ H' a = some (.lst (ws.map vT)) ∧ z.length ≤ st.length + i)
    ⟨st, none, none, none, rfl, R1, ha, by omega⟩ ?_ ?_
  · rintro i σ H2 hi ⟨z, y7, y8, y9, rfl, R2, ha2, hz⟩
    refine ⟨_, rfl, _, _, rfl, rfl, _, rfl, ?_⟩
    refine if_by (fun hyes => ?_) (fun hno => ?_)
    · refine ⟨_, rfl, _, rfl, z, rfl, sz_of (by omega), _, rfl, _, _, rfl, rfl, _, _, rfl, rfl, _, rfl, z, rfl, sz_of (by omega), ?_⟩
      exact walk_tail R2 ha2 hWo (by omega) fun z' y9 H' R' ha' hz' => ⟨z', _, _, _, rfl, R', ha', by omega⟩
    · exact walk_tail (gm := []) R2 ha2 hWo (by omega) fun z' y9 H' R' ha' hz' => ⟨z', _, _, _, rfl, R', ha', by omega⟩
  · rintro σ H2 ⟨z, y7, y8, y9, rfl, R2, ha2, hz⟩
    exact ⟨_, rfl, q z H2 R2.b R2.k (by omega)⟩
theorem atI_neg {A : Type} {xs : List A} {r : Nat} (h : r < xs.length) : ∃ v, v ∈ xs ∧ atI xs (-1 - (r : Int)) = some v := by
  refine ⟨xs[xs.length - 1 - r], List.getElem_mem _, ?_⟩
  unfold atI ixN
  rw [if_neg (by omega), if_pos (by omega)]
  show xs[((-1 - (r : Int)) + (xs.length : Int)).toNat]? = _
  have e : ((-1 - (r : Int)) + (xs.length : Int)).toNat = xs.length - 1 - r := by omega
  rw [e]
  exact List.getElem?_eq_getElem _
theorem pure_law_closed (vs : List V) (H : Hp) (Q : VK) (E : XK) (h : sp_law_closed K vs H Q E) : t_law_closed K { nx := fun _ H' => Q .non H', rt := Q } (start n_law_closed vs) H := by
  obtain ⟨d, dl, v, ps, g, st, rfl, hD, hT, hS, hst, q⟩ := h
  refine ⟨_, rfl, _, rfl, _, rfl, _, rfl, d, dl, v, ps, g, st, 14, rfl, hD, hT, hS, hst, by decide, fun t H1 b1 k1 ht => ?_⟩
  have R1 := (Dr.init hD).step b1 k1
  refine ⟨_, rfl, t, rfl, sz_of (by omega), 1, (t.length : Int), rfl, ⟨by decide, by decide, by omega, by omega⟩, fun Dl hDl => lc_range (lo := 1) (n := ((t.length : Int) - 1).toNat) (fun i H' => Same H1 H' ∧ ∃ ks : List Int, H' Dl = some (.lst (ks.map V.int)) ∧ ks.length ≤ i)
    ⟨same_new hDl, [], by rw [upd_same]; rfl, Nat.zero_le _⟩ ?_ ?_⟩
  · rintro i H2 hi ⟨s2, ks, hL, hl⟩
    refine ⟨rfl, ?_⟩
    refine ⟨_, rfl, _, rfl, _, rfl, _, rfl, _, rfl, _, _, rfl, rfl, _, _, rfl, rfl, _, rfl, t, rfl, sz_of (by omega), ?_⟩
    refine ⟨_, rfl, _, rfl, _, _, rfl, rfl, _, rfl, t, rfl, sz_of (by omega), rfl, _, rfl, ?_⟩
    refine if_by (fun hyes => ?_) (fun hno => ?_)
    · refine ⟨_, rfl, _, rfl, _, _, rfl, rfl, _, _, rfl, rfl, _, rfl, t, rfl, sz_of (by omega), _, _, rfl, rfl, _, rfl, ?_⟩
      refine if_by (fun hyes => ?_) (fun hno => ?_)
      · refine ⟨_, rfl, _, hL, by rw [List.length_map]; exact sz_lt (by omega), same_mut s2 hDl, ks ++ [(1 : Int) + (i : Int)], ?_, by rw [List.length_append, List.length_singleton]; omega⟩
        rw [upd_same, List.map_append]; rfl
      · exact ⟨s2, ks, hL, by omega⟩
    · exact iteF ⟨s2, ks, hL, by omega⟩
  · rintro H2 ⟨s2, ks, hL, hl⟩
    have R2 := R1.same s2
    refine ⟨_, rfl, Dl, _, rfl, .inl (SqL.of hL), _, _, rfl, rfl, _, rfl, ?_⟩
    refine if_by (fun hyes => ?_) (fun hno => ?_)
    · have hpos : (0 : Int) < ((ks.map V.int).length : Int) := of_decide_eq_true hyes
      refine ⟨_, rfl, _, rfl, _, rfl, _, rfl, _, rfl, Dl, _, rfl, .inl (SqL.of hL), d, dl, (ks.map V.int).length, rfl, R2.k, by omega, by rw [List.length_map]; omega, fun r H3 b3 k3 hr => ?_⟩
      have R3 := R2.step b3 k3
      have hL3 := b3 _ _ (R2.k.neL hL (int_nref _)) hL
      obtain ⟨v', hv', ev⟩ := atI_neg hr
      obtain ⟨kk, _, rfl⟩ := List.mem_map.mp hv'
      refine ⟨_, _, rfl, rfl, Dl, _, _, .int kk, rfl, rfl, SqL.of hL3, ev, _, rfl, t, rfl, sz_of (by omega), ?_⟩
      have := cutL_length t none (some kk)
      exact q _ _ R3.b R3.k (by omega)
    · exact ⟨_, rfl, q _ _ R2.b R2.k (by omega)⟩
end
end Tk

/-! TkPF -/
set_option maxRecDepth 100000
set_option maxHeartbeats 2000000
namespace Tk
open PySem PySem.Spec PyProof.Rows L2 Ts TL
section
variable {K : Fg}
theorem pure_law_joined (vs : List V) (H : Hp) (Q : VK) (E : XK) (h : sp_law_joined K vs H Q E) : t_law_joined K { nx := fun _ H' => Q .non H', rt := Q } (start n_law_joined vs) H := by
  obtain ⟨d, dl, v, ps, g, rfl, hD, ⟨ap, rfl, hP⟩, hS, q⟩ := h
  have hpf := hS.few
  have hppos : 0 < ps.length := List.length_pos_iff.mpr hS.ne
  have lps : (ps.map vT).length = ps.length := List.length_map _
  have g1 := hS.g1
  refine ⟨Nat.zero_le _, fun lo hlo => ?_⟩
  have nlod := (hD.fr hlo).1
  have R0 := (Dr.init hD).new hlo (o := .lst [])
  refine ⟨_, rfl, ap, _, rfl, .inr (SqT.but hD R0.b hP), fun al hal => ?_⟩
  have R1 := R0.new hal (o := .lst (ps.map vT))
  have nal : lo ≠ al := ne_of_none upd_same hal
  refine ⟨_, rfl, ap, _, rfl, .inr (SqT.but hD R1.b hP), _, rfl, by omega, by omega, ?_⟩
  refine for_range (lo := 0) (n := (((ps.map vT).length : Int)).toNat) (fun i σ H' => ∃ (os ls : List Tx) (al : Addr) (y5 y6 : Option V), σ = [some (.ref d), some (.ref ap), some (.int (g : Int)), some (.ref lo), some (.ref al), y5, y6, none, none, none, none] ∧ Dr d dl H H' ∧
      H' lo = some (.lst (os.map vT)) ∧ H' al = some (.lst (ls.map vT)) ∧ al ≠ lo ∧ os.length = i ∧ ls.length + i = ps.length ∧ (∀ x ∈ os, x ∈ ps) ∧ ∀ x ∈ ls, x ∈ ps)
    ⟨[], ps, al, none, none, rfl, R1, by rw [upd_ne nal]; exact upd_same, upd_same, nal.symm, rfl, rfl, by simp, fun x hx => hx⟩ ?_ ?_
  · rintro i σ H2 hi ⟨os, ls, al, y5, y6, rfl, R2, hlo2, hal2, nal, ho, hl, mo, ml⟩
    rw [lps] at hi
    refine ⟨_, rfl, _, rfl, al, _, rfl, .inl (SqL.of hal2), d, dl, (ls.map vT).length, rfl, R2.k, by rw [List.length_map]; omega, by rw [List.length_map]; omega, fun r H3 b3 k3 hr => ?_⟩
    have R3 := R2.step b3 k3
    rw [List.length_map] at hr
    have hlo3 := b3 _ _ (R2.k.neL hlo2 (txt_nref _)) hlo2
    have hal3 := b3 _ _ (R2.k.neL hal2 (txt_nref _)) hal2
    refine ⟨_, rfl, .inl ⟨rfl, _, SqL.of hlo3⟩, _, rfl, _, rfl, al, _, (r : Int), vT ls[r], rfl, rfl, SqL.of hal3, atI_nat (by rw [List.getElem?_map, List.getElem?_eq_getElem hr]; rfl), lo, _, _, rfl, rfl, hlo3, by rw [List.length_map]; exact sz_lt (by omega), ?_⟩
    have R4 := R3.mut hD hlo (o := .lst (os.map vT ++ [vT ls[r]]))
    have hlo4 : (upd H3 lo (.lst (os.map vT ++ [vT ls[r]]))) lo = some (.lst ((os ++ [ls[r]]).map vT)) := by rw [upd_same, List.map_append]; rfl
    have hal4 : (upd H3 lo (.lst (os.map vT ++ [vT ls[r]]))) al = some (.lst (ls.map vT)) := by rw [upd_ne nal]; exact hal3
    generalize (upd H3 lo (.lst (os.map vT ++ [vT ls[r]]))) = H4 at R4 hlo4 hal4 ⊢
    refine ⟨_, rfl, _, rfl, _, rfl, al, _, rfl, SqL.of hal4, fun p1 hp1 => ?_⟩
    have R5 := R4.new hp1 (o := .lst (cutV (ls.map vT) none (some (r : Int))))
    have hal5 : (upd H4 p1 (.lst (cutV (ls.map vT) none (some (r : Int))))) al = some (.lst (ls.map vT)) := by rw [upd_ne (ne_of_none hal4 hp1)]; exact hal4
    have hlo5 : (upd H4 p1 (.lst (cutV (ls.map vT) none (some (r : Int))))) lo = _ := (same_new hp1) _ _ hlo4
    have hp15 : (upd H4 p1 (.lst (cutV (ls.map vT) none (some (r : Int))))) p1 = some (.lst (cutV (ls.map vT) none (some (r : Int)))) := upd_same
    generalize (upd H4 p1 (.lst (cutV (ls.map vT) none (some (r : Int))))) = H5 at R5 hal5 hlo5 hp15 ⊢
    refine ⟨_, rfl, _, rfl, _, _, rfl, rfl, _, rfl, al, _, rfl, SqL.of hal5, fun p2 hp2 => ?_⟩
    have e1 : ((r : Int) + 1) = ((r + 1 : Nat) : Int) := by omega
    dsimp only
    rw [e1]
    have R6 := R5.new hp2 (o := .lst (cutV (ls.map vT) (some ((r + 1 : Nat) : Int)) none))
    have hlo6 : (upd H5 p2 (.lst (cutV (ls.map vT) (some ((r + 1 : Nat) : Int)) none))) lo = _ := (same_new hp2) _ _ hlo5
    have hp16 : (upd H5 p2 (.lst (cutV (ls.map vT) (some ((r + 1 : Nat) : Int)) none))) p1 = _ := (same_new hp2) _ _ hp15
    have hp26 : (upd H5 p2 (.lst (cutV (ls.map vT) (some ((r + 1 : Nat) : Int)) none))) p2 = some (.lst (cutV (ls.map vT) (some ((r + 1 : Nat) : Int)) none)) := upd_same
    generalize (upd H5 p2 (.lst (cutV (ls.map vT) (some ((r + 1 : Nat) : Int)) none))) = H6 at R6 hlo6 hp16 hp26 ⊢
    refine ⟨p1, p2, _, _, rfl, rfl, hp16, hp26, ?_, fun p3 hp3 => ?_⟩
    · have h1 := cutV_length (ls.map vT) none (some (r : Int))
      have h2 := cutV_length (ls.map vT) (some ((r + 1 : Nat) : Int)) none
      rw [List.length_map] at h1 h2
      exact sz_of (by omega)
    refine ⟨os ++ [ls[r]], ls.take r ++ ls.drop (r + 1), p3, _, _, rfl, R6.new hp3, (same_new hp3) _ _ hlo6, ?_, (ne_of_none hlo6 hp3).symm, by rw [List.length_append, List.length_singleton]; omega, ?_, ?_, ?_⟩
    · rw [upd_same, cutV_to, cutV_from, List.map_append, List.map_take, List.map_drop]
    · rw [List.length_append, List.length_take, List.length_drop]; omega
    · intro x hx
      rcases List.mem_append.mp hx with hx | hx
      · exact mo x hx
      · rw [List.mem_singleton] at hx
        rw [hx]; exact ml _ (List.getElem_mem hr)
    · intro x hx
      rcases List.mem_append.mp hx with hx | hx
      · exact ml x (List.mem_of_mem_take hx)
      · exact ml x (List.mem_of_mem_drop hx)
  · rintro σ H2 ⟨os, ls, al, y5, y6, rfl, R2, hlo2, hal2, nal, ho, hl, mo, ml⟩
    have ho' : os.length = ps.length := by omega
    clear hal hal2
    have ho0 : 0 < os.length := by omega
    refine ⟨_, rfl, lo, _, 0, vT os[0], rfl, rfl, SqL.of hlo2, atI_nat (j := 0) (by rw [List.getElem?_map, List.getElem?_eq_getElem ho0]; rfl), ?_⟩
    have h0l := (hS.len os[0] (mo _ (List.getElem_mem ho0))).2
    generalize os[0] = z0 at h0l
    refine ⟨_, rfl, _, rfl, lo, _, rfl, SqL.of hlo2, fun p1 hp1 => ?_⟩
    have R3 := R2.new hp1 (o := .lst (cutV (os.map vT) (some 1) none))
    have hp13 : (upd H2 p1 (.lst (cutV (os.map vT) (some 1) none))) p1 = some (.lst ((os.drop 1).map vT)) := by
      rw [upd_same, show cutV (os.map vT) (some 1) none = _ from cutV_from _ 1, List.map_drop]
    generalize (upd H2 p1 (.lst (cutV (os.map vT) (some 1) none))) = H3 at R3 hp13 ⊢
    refine ⟨p1, rfl, ⟨_, SqL.of hp13⟩, for_list (K := K) (a := p1) (xs := (os.drop 1).map vT) (fun i σ H' => ∃ (z : Tx) (y5 y6 y8 y9 y10 : Option V), σ = [some (.ref d), some (.ref ap), some (.int (g : Int)), some (.ref lo), some (.ref al), y5, y6, some (vT z), y8, y9, y10] ∧ Dr d dl H H' ∧
        H' p1 = some (.lst ((os.drop 1).map vT)) ∧ z.length ≤ 12 + 16 * i)
      ⟨z0, y5, y6, none, none, none, rfl, R3, hp13, by omega⟩ (fun i σ H' _ ⟨_, _, _, _, _, _, _, _, e, _⟩ => SqL.of e) ?_ ?_⟩
    · rintro i x σ H4 hi ⟨z, y5, y6, y8, y9, y10, rfl, R4, hp14, hz⟩
      rw [List.getElem?_map] at hi
      obtain ⟨pc, hpc, rfl⟩ := Option.map_eq_some_iff.mp hi
      have hpm := mo pc (List.mem_of_mem_drop (List.mem_of_getElem? hpc))
      obtain ⟨l1, l2⟩ := hS.len pc hpm
      have hi7 : i < 8 := by
        have := (List.getElem?_eq_some_iff.mp hpc).1
        rw [List.length_drop] at this
        omega
      refine ⟨_, rfl, _, rfl, _, rfl, _, rfl, _, rfl, d, dl, 4, rfl, R4.k, by decide, by decide, fun r H5 b5 k5 hr => ?_⟩
      have R5 := R4.step b5 k5
      have hp15 := b5 _ _ (R4.k.neL hp14 (txt_nref _)) hp14
      refine ⟨d, dl, .ref ap, ps, g, z, r, rfl, R5.k, ⟨ap, rfl, SqT.but hD R5.b hP⟩, hS, by omega, by omega, fun t H6 b6 k6 ht => ?_⟩
      have R6 := R5.step b6 k6
      have hp16 := b6 _ _ (R5.k.neL hp15 (txt_nref _)) hp15
      refine ⟨_, rfl, t, rfl, sz_of (by omega), _, rfl, pc, rfl, sz_of (by omega), _, _, rfl, rfl, _, _, rfl, ?_⟩
      obtain ⟨nn, hnn⟩ : ∃ nn : Nat, nn = min t.length (pc.length - 1) := ⟨_, rfl⟩
      have e1 : (if (pc.length : Int) - 1 < (t.length : Int) then (pc.length : Int) - 1 else (t.length : Int)) = (nn : Int) := by split <;> omega
      dsimp only
      rw [e1]
      refine ⟨_, rfl, _, _, rfl, rfl, _, rfl, by omega, by omega, fun Dl hDl => lc_range (lo := 0) (n := ((nn : Int) + 1).toNat) (fun i H' => Same H6 H' ∧ ∃ ks : List Int, H' Dl = some (.lst (ks.map V.int)) ∧ ks.length ≤ i ∧ (0 < i → ks ≠ []))
        ⟨same_new hDl, [], by rw [upd_same]; rfl, Nat.zero_le _, fun h => absurd h (Nat.lt_irrefl _)⟩ ?_ ?_⟩
      · rintro j H7 hj ⟨s7, ks, hL, hkl, hk0⟩
        refine ⟨rfl, ?_⟩
        refine ⟨_, rfl, _, rfl, t, rfl, sz_of (by omega), _, rfl, _, _, rfl, rfl, _, rfl, t, rfl, sz_of (by omega), ?_⟩
        refine ⟨_, rfl, _, rfl, _, rfl, pc, rfl, sz_of (by omega), rfl, _, rfl, ?_⟩
        refine if_by (fun hyes => ?_) (fun hno => ?_)
        · refine ⟨_, rfl, _, hL, by rw [List.length_map]; exact sz_lt (by omega), same_mut s7 hDl, ks ++ [(0 : Int) + (j : Int)], ?_, by rw [List.length_append, List.length_singleton]; omega, fun _ => by simp⟩
          rw [upd_same, List.map_append]; rfl
        · refine ⟨s7, ks, hL, by omega, fun _ => ?_⟩
          rcases j with _ | j
          · exfalso
            refine of_decide_eq_false hno ?_
            show vT (cutL t (some ((t.length : Int) - (0 + ((0 : Nat) : Int)))) none) = vT (cutL pc none (some (0 + ((0 : Nat) : Int))))
            have e2 : (t.length : Int) - (0 + ((0 : Nat) : Int)) = (t.length : Int) := by omega
            rw [e2, cutL_from, List.drop_length, show cutL pc none (some (0 + ((0 : Nat) : Int))) = _ from cutL_to pc 0]
            rfl
          · exact hk0 (by omega)
      · rintro H7 ⟨s7, ks, hL, hkl, hk0⟩
        have R7 := R6.same s7
        have hkne := hk0 (by omega)
        have hmne : ks.map V.int ≠ [] := fun e => hkne (List.map_eq_nil_iff.mp e)
        obtain ⟨kk, _, ekk⟩ := List.mem_map.mp (List.getLast_mem hmne)
        refine ⟨_, rfl, _, rfl, _, rfl, _, rfl, Dl, _, -1, .int kk, rfl, rfl, SqL.of hL, by rw [atI_m1 _ hmne, ekk], _, rfl, pc, rfl, sz_of (by omega), ?_⟩
        have hcl := cutL_length pc (some kk) none
        refine ⟨t, cutL pc (some kk) none, rfl, rfl, sz_of (by omega), ?_⟩
        exact ⟨t ++ cutL pc (some kk) none, _, _, _, _, _, rfl, R7, s7 _ _ hp16, by rw [List.length_append]; omega⟩
    · rintro σ H4 ⟨z, y5, y6, y8, y9, y10, rfl, R4, hp14, hz⟩
      rw [List.length_map, List.length_drop] at hz
      exact ⟨_, rfl, q z H4 R4.b R4.k (by omega)⟩
end
end Tk

/-! TkPG -/
set_option maxRecDepth 100000
set_option maxHeartbeats 2000000
namespace Tk
open PySem PySem.Spec PyProof.Rows L2 Ts TL
section
variable {K : Fg}
abbrev t_law_tail (K : Fg) : TS := (tSeq (tFor (iList K (tVar 9)) (gName 12)
  (tIfS (tAnd (tB (tCall (sp_law_explains K) [] E0 (tCons (tVar 2) (tCons (tVar 3) (tCons (tVar 12) (tCons (tC (.str (Str.ofString "circle"))) tNil)))))) (tNot (tB (tCall (sp_law_on_circle K) [] E0 (tCons (tVar 12) (tCons (tVar 6) tNil))))))
  (tRet (tC (.bl false)))
  tNext))
  (tRet (tC (.bl true))))
theorem law_tail {D : Ends} {H : Hp} {ap p : Addr} {ps cs : List Tx} {g : Nat} {w : Tx} {v0 v1 v4 v5 v7 v8 v10 v11 : Option V} (hP : SqT K H ap (ps.map vT)) (hS : Shards ps g) (hp : H p = some (.lst (cs.map vT))) (hc : ∀ c ∈ cs, c.length ≤ 100000) (hw : w.length ≤ 8)
    (hv : ∀ C, ExplP ps g C → OnC C w) (q : ∀ H', D.rt (.bl true) H') : t_law_tail K D [v0, v1, some (.ref ap), some (.int (g : Int)), v4, v5, some (vT w), v7, v8, some (.ref p), v10, v11, none] H := by
  refine ⟨_, rfl, p, rfl, ⟨_, SqL.of hp⟩, for_list (K := K) (a := p) (xs := cs.map vT) (fun i σ H' => Same H H' ∧ ∃ y12 : Option V, σ = [v0, v1, some (.ref ap), some (.int (g : Int)), v4, v5, some (vT w), v7, v8, some (.ref p), v10, v11, y12])
    ⟨fun _ _ e => e, none, rfl⟩ (fun i σ H' _ e => SqL.of (e.1 _ _ hp)) ?_ ?_⟩
  · rintro i x σ H1 hi ⟨s1, y12, rfl⟩
    rw [List.getElem?_map] at hi
    obtain ⟨c, hci, rfl⟩ := Option.map_eq_some_iff.mp hi
    have hcl := hc c (List.mem_of_getElem? hci)
    refine ⟨_, rfl, _, rfl, _, rfl, .ref ap, ps, g, c, rfl, ⟨ap, rfl, same_tup s1 hP⟩, hS, hcl, fun b H2 s2 hb => ?_⟩
    refine ⟨_, rfl, ?_⟩
    refine if_by (fun hy => ?_) (fun hno => ?_)
    · refine ⟨_, rfl, _, rfl, c, w, rfl, hcl, by omega, fun b2 H3 s3 hb2 => ?_⟩
      refine ⟨_, rfl, ?_⟩
      have e2 : b2 = true := hb2.mpr (hv c (hb.mp hy))
      refine if_no (by rw [e2]; rfl) ?_
      exact ⟨(s1.trans s2).trans s3, _, rfl⟩
    · refine iteF ?_
      exact ⟨s1.trans s2, _, rfl⟩
  · rintro σ H1 ⟨s1, y12, rfl⟩
    exact q H1
theorem pure_law (vs : List V) (H : Hp) (Q : VK) (E : XK) (h : sp_law K vs H Q E) : t_law K { nx := fun _ H' => Q .non H', rt := Q } (start n_law vs) H := by
  obtain ⟨a, ns, rfl, hL, hn, q⟩ := h
  refine ⟨_, rfl, a, ns, rfl, hL, hn, fun d dl H1 s1 hd0 hD => ?_⟩
  refine ⟨_, rfl, d, dl, rfl, hD, fun r ap ps g C sg H2 b2 k2 hr hp hS C1 C2 sg1 sg2 => ?_⟩
  refine ⟨r, _, rfl, SqT.of hr, rfl, _, _, rfl, _, _, rfl, _, _, rfl, _, _, rfl, rfl, ?_⟩
  have hP2 : SqT K H2 ap (ps.map vT) := SqT.of hp
  refine ⟨_, rfl, _, rfl, _, rfl, _, rfl, d, dl, .ref ap, ps, g, C, sg, rfl, k2, ⟨ap, rfl, hP2⟩, hS, C1, C2, sg1, sg2, fun w H3 b3 k3 w1 w2 => ?_⟩
  have hP3 : SqT K H3 ap (ps.map vT) := SqT.but k2 b3 hP2
  refine ⟨_, rfl, _, rfl, _, rfl, .ref ap, ps, w, g, rfl, ⟨ap, rfl, hP3⟩, hS, w1, w2, fun r4 x y H4 s4 hr4 hv => ?_⟩
  have hP4 := same_tup s4 hP3
  have k4 := k3.same s4
  refine ⟨r4, _, rfl, SqT.of hr4, rfl, _, _, rfl, _, _, rfl, rfl, ?_⟩
  rcases hv with ⟨rfl, hv⟩ | ⟨rfl, t, rfl, ht, hE, hO⟩
  · refine ⟨_, rfl, rfl, _, rfl, ?_⟩
    refine if_no (by decide +kernel) ?_
    refine ⟨_, rfl, rfl, _, rfl, ?_⟩
    refine if_no (by decide +kernel) ?_
    refine ⟨_, rfl, _, rfl, _, rfl, C, C, rfl, rfl, sz_of (by omega), ?_⟩
    refine ⟨_, rfl, _, rfl, _, rfl, d, dl, .ref ap, ps, g, rfl, k4, ⟨ap, rfl, hP4⟩, hS, fun j H5 b5 k5 hj => ?_⟩
    have hP5 : SqT K H5 ap (ps.map vT) := SqT.but k4 b5 hP4
    refine ⟨_, rfl, _, rfl, _, rfl, d, dl, 6, rfl, k5, by decide, by decide, fun r6 H6 b6 k6 hr6 => ?_⟩
    have hP6 : SqT K H6 ap (ps.map vT) := SqT.but k5 b6 hP5
    refine ⟨_, _, rfl, rfl, ?_⟩
    have e1 : ((1 : Int) + (r6 : Int)) = ((1 + r6 : Nat) : Int) := by omega
    dsimp only
    rw [e1]
    refine ⟨d, dl, sg, 1 + r6, rfl, k6, sg1, sg2, by omega, fun t H7 b7 k7 ht => ?_⟩
    have hP7 : SqT K H7 ap (ps.map vT) := SqT.but k6 b7 hP6
    refine ⟨Nat.le_trans (show 4 ≤ 8 by decide) eight_le, fun p hpn => ?_⟩
    have R7 := (Dr.init k7).new hpn (o := .lst ([C, C ++ C, j, t].map vT))
    have npd := (k7.fr hpn).1
    refine ⟨4, rfl, by decide, by decide, ?_⟩
    refine for_range (lo := 0) (n := ((4 : Int)).toNat) (fun i σ H' => ∃ (rs : List Tx) (y10 : Option V), σ = [some (.ref a), some (.ref d), some (.ref ap), some (.int (g : Int)), some (vT C), some (vT sg), some (vT w), some (.str (Str.ofString "always")), some y, some (.ref p), y10, none, none] ∧ Dr d dl H7 H' ∧
        H' p = some (.lst (([C, C ++ C, j, t] ++ rs).map vT)) ∧ rs.length = i ∧ ∀ c ∈ rs, c.length ≤ 2000) ⟨[], none, rfl, R7, upd_same, rfl, by simp⟩ ?_ ?_
    · rintro i σ H8 hi ⟨rs, y10, rfl, R8, hp8, hrl, hrs⟩
      have hi4 : i < 4 := hi
      have hP8 : SqT K H8 ap (ps.map vT) := SqT.but k7 R8.b hP7
      have hpf := hS.few
      have hpos : 0 < ps.length := List.length_pos_iff.mpr hS.ne
      refine ⟨_, rfl, .inl ⟨rfl, _, SqL.of hp8⟩, _, rfl, _, rfl, _, rfl, _, rfl, _, rfl, _, rfl, ap, _, rfl, .inr hP8, d, dl, (ps.map vT).length, rfl, R8.k, by rw [List.length_map]; omega, by rw [List.length_map]; omega, fun r9 H9 b9 k9 hr9 => ?_⟩
      have R9 := R8.step b9 k9
      rw [List.length_map] at hr9
      have hP9 : SqT K H9 ap (ps.map vT) := SqT.but k7 R9.b hP7
      have hp9 := b9 _ _ npd hp8
      refine ⟨ap, _, (r9 : Int), vT ps[r9], rfl, rfl, hP9, atI_nat (by rw [List.getElem?_map, List.getElem?_eq_getElem hr9]; rfl), ?_⟩
      have hl9 := (hS.len ps[r9] (List.getElem_mem hr9)).2
      refine ⟨d, dl, .ref ap, ps, g, ps[r9], rfl, R9.k, ⟨ap, rfl, hP9⟩, hS, by omega, fun u HA bA kA hu => ?_⟩
      have RA := R9.step bA kA
      have hpA := bA _ _ npd hp9
      refine ⟨p, _, _, rfl, rfl, hpA, by rw [List.length_map, List.length_append, hrl]; exact sz_lt (by show 4 + i ≤ 1000000; omega), rs ++ [u], _, rfl, RA.mut k7 hpn, ?_, by rw [List.length_append, hrl]; rfl, ?_⟩
      · rw [upd_same, ← List.append_assoc, List.map_append (l₂ := [u])]; rfl
      · intro c hc
        rcases List.mem_append.mp hc with hc | hc
        · exact hrs c hc
        · rw [List.mem_singleton] at hc
          rw [hc]; exact hu
    · rintro σ H8 ⟨rs, y10, rfl, R8, hp8, hrl, hrs⟩
      have hrl4 : rs.length = 4 := hrl
      have hP8 : SqT K H8 ap (ps.map vT) := SqT.but k7 R8.b hP7
      refine ⟨_, rfl, .inl ⟨rfl, _, SqL.of hp8⟩, _, rfl, _, rfl, _, rfl, _, rfl, p, _, 2, vT j, rfl, rfl, SqL.of hp8, atI_nat (j := 2) rfl, d, dl, .ref ap, ps, g, j, rfl, R8.k, ⟨ap, rfl, hP8⟩, hS, by omega, fun u H9 b9 k9 hu => ?_⟩
      have R9 := R8.step b9 k9
      have hp9 := b9 _ _ npd hp8
      refine ⟨p, _, _, rfl, rfl, hp9, by rw [List.length_map, List.length_append, hrl4]; exact sz_lt (show 4 + 4 ≤ 1000000 by decide), ?_⟩
      have RA := R9.mut k7 hpn (o := .lst (([C, C ++ C, j, t] ++ rs).map vT ++ [vT u]))
      obtain ⟨cs, hcs⟩ : ∃ cs : List Tx, cs = ([C, C ++ C, j, t] ++ rs) ++ [u] := ⟨_, rfl⟩
      have hpA : (upd H9 p (.lst (([C, C ++ C, j, t] ++ rs).map vT ++ [vT u]))) p = some (.lst (cs.map vT)) := by rw [upd_same, hcs, List.map_append (l₂ := [u])]; rfl
      have hcl : cs.length = 9 := by rw [hcs, List.length_append, List.length_append, hrl4]; rfl
      have hcc : ∀ c ∈ cs, c.length ≤ 100000 := by
        intro c hc
        rw [hcs] at hc
        rcases List.mem_append.mp hc with hc | hc
        · rcases List.mem_append.mp hc with hc | hc
          · have e2 : (C ++ C).length = C.length + C.length := List.length_append
            simp only [List.mem_cons, List.not_mem_nil, or_false] at hc
            rcases hc with rfl | rfl | rfl | rfl <;> omega
          · have := hrs c hc; omega
        · rw [List.mem_singleton] at hc
          rw [hc]; omega
      generalize (upd H9 p (.lst (([C, C ++ C, j, t] ++ rs).map vT ++ [vT u]))) = HA at RA hpA ⊢
      have hPA : SqT K HA ap (ps.map vT) := SqT.but k7 RA.b hP7
      refine ⟨_, rfl, _, rfl, .ref ap, ps, g, rfl, ⟨ap, rfl, hPA⟩, hS, fun rv HB sB hrv => ?_⟩
      have hPB := same_tup sB hPA
      have hpB := sB _ _ hpA
      refine ⟨_, rfl, _, rfl, ?_⟩
      rcases hrv with rfl | ⟨t2, rfl, ht2⟩
      · refine if_no (by rw [decide_eq_true rfl]; rfl) ?_
        exact law_tail hPB hS hpB hcc w2 hv q
      · refine if_yes (by rw [decide_eq_false (fun e => by cases e)]; rfl) ?_
        refine ⟨_, rfl, .inl ⟨rfl, _, SqL.of hpB⟩, _, rfl, p, _, _, rfl, rfl, hpB, by rw [List.length_map, hcl]; exact sz_lt (by decide), ?_⟩
        have RB := (RA.same sB).mut k7 hpn (o := .lst (cs.map vT ++ [vT t2]))
        refine law_tail (cs := cs ++ [t2]) (SqT.but k7 RB.b hP7) hS (by rw [upd_same, List.map_append]; rfl) ?_ w2 hv q
        intro c hc
        rcases List.mem_append.mp hc with hc | hc
        · exact hcc c hc
        · rw [List.mem_singleton] at hc
          rw [hc]; exact ht2
  · refine ⟨_, rfl, rfl, _, rfl, ?_⟩
    refine if_yes (by decide +kernel) ?_
    refine ⟨_, rfl, _, rfl, _, rfl, .ref ap, ps, g, t, rfl, ⟨ap, rfl, hP4⟩, hS, ht, fun b H5 s5 hb => ?_⟩
    refine ⟨_, rfl, ?_⟩
    refine if_yes (hb.mpr hE) ?_
    refine ⟨_, rfl, _, rfl, t, w, rfl, ht, by omega, fun b2 H6 s6 hb2 => ?_⟩
    refine ⟨_, rfl, ?_⟩
    have e2 : b2 = false := by
      cases b2 with
      | false => rfl
      | true => exact absurd (hb2.mp rfl) hO
    rw [e2]
    exact q H6
end
end Tk

/-! TkOk -/
set_option maxRecDepth 100000
set_option maxHeartbeats 4000000
/-! The derivations of the defs, printed by gen.py. -/
namespace Tk
open PySem PySem.Spec PyProof.Rows L2 Ts TL
def topS (i : Nat) : Stmt := PySem.Challenge.pw_textshards_k23_whole_certain_on_every_ci.main.body.getD i (.Pass ⟨0, 0, 0, 0⟩)
structure Txt (mg : Str → Option Value) : Prop where
  GRAIN_LIMIT : ∃ t, mg "GRAIN_LIMIT" = some (.int 12 t)
  LETTER_LIMIT : ∃ t, mg "LETTER_LIMIT" = some (.int 60 t)
  NOWHERE : ∃ t, mg "NOWHERE" = some (.str (Str.ofString " ") t)
  PIECE_LIMIT : ∃ t, mg "PIECE_LIMIT" = some (.int 40 t)
  WORD_LIMIT : ∃ t, mg "WORD_LIMIT" = some (.int 60 t)
  abs : mg "abs" = none
  all : mg "all" = none
  any : mg "any" = none
  int : mg "int" = none
  len : mg "len" = none
  list : mg "list" = none
  max : mg "max" = none
  min : mg "min" = none
  range : mg "range" = none
  reversed : mg "reversed" = none
  sorted : mg "sorted" = none
  tuple : mg "tuple" = none
section
variable {X : Cx} {x : Str} {pos : Pos}
theorem pe_gi {n : Int} (hg : Gl X x) (h : ∃ t, X.mg x = some (.int n t)) (hd : (x == ("__debug__" : Str)) = false := by decide) : PE X (.Name x pos) (tC (.int n)) := let ⟨t, e⟩ := h; pe_glob hg e ⟨t, rfl⟩ hd
theorem pe_gs {z : Str} (hg : Gl X x) (h : ∃ t, X.mg x = some (.str z t)) (hd : (x == ("__debug__" : Str)) = false := by decide) : PE X (.Name x pos) (tC (.str z)) := let ⟨t, e⟩ := h; pe_glob hg e ⟨t, rfl⟩ hd
end
section
variable {P : Program} {w : World} {K : Fg} {mg : Str → Option Value} {base : Heap} {f : Addr} {fd : FuncData}
abbrev s_finished_from : Stmt := topS 1
theorem sc_finished_from : FnScope n_finished_from ["ways", "start", "seen", "order"] (defScope s_finished_from) := ⟨rfl, rfl, rfl, by decide +kernel, rfl, by decide +kernel, by decide +kernel⟩
theorem ok_finished_from (F : Fun K "finished_from" "finished_from" s_finished_from f fd) (T : Txt mg) 
  (pure : ∀ (vs : List V) (H : Hp) (Q : VK) (E : XK), sp_finished_from K vs H Q E → t_finished_from K { nx := fun _ H' => Q .non H', rt := Q } (start n_finished_from vs) H) : FnOk P w K mg base CX0 1 f fd ["ways", "start", "seen", "order"] (sp_finished_from K) := by
  refine F.ok sc_finished_from (fun vs H Q E h => ?_) (fun cdv A outer s H vs Q E hr h => ⟨t_finished_from K, ?_, pure vs H Q E h⟩)
  · obtain ⟨_, _, _, _, _, _, _, _, _, _, _, rfl, _⟩ := h
    rfl
  · exact (pss_cons (ps_dput (hu_of hr) (pv 2) (pv 1) pe_bl rfl)
  (pss_cons (ps_set (i := 4) sc_finished_from.nd rfl (Or.inl rfl) (pe_lst (pa_cons (pe_lst (pa_cons (pv 1) (pa_cons pe_int pa_nil))) pa_nil)))
  (pss_one (ps_while PassesOwn.never (pt_cmpR op_gt (pe_callB call_lenQ (by rfl) T.len PySem.boot_len (pa_cons (pv 4) pa_nil)) pe_int (nomark _))
  (pss_cons (ps_set (i := 5) sc_finished_from.nd rfl (Or.inl rfl) (pe_ix ix_list (pv 4) (pe_un un_neg pe_int) (fun _ _ => rfl)))
  (pss_one (ps_if (pt_cmpR op_lt (pe_ix ix_list (pv 5) pe_int (fun _ _ => rfl)) (pe_callB call_lenQ (by rfl) T.len PySem.boot_len (pa_cons (pe_dget (hu_of hr) (pv 0) (pe_ix ix_list (pv 5) pe_int (fun _ _ => rfl)) (fun _ _ => rfl)) pa_nil)) (nomark _))
  (pss_cons (ps_set (i := 6) sc_finished_from.nd rfl (Or.inl rfl) (pe_ix ix_tup (pe_ix ix_list (pe_dget (hu_of hr) (pv 0) (pe_ix ix_list (pv 5) pe_int (fun _ _ => rfl)) (fun _ _ => rfl)) (pe_ix ix_list (pv 5) pe_int (fun _ _ => rfl)) (fun _ _ => rfl)) pe_int (fun _ _ => rfl)))
  (pss_cons (ps_asg (pe_op op_add (pe_ix ix_list (pv 5) pe_int (fun _ _ => rfl)) pe_int) (pg_sub (pv 5) pe_int set_list))
  (pss_one (ps_if (pt_cmp (pc_dnotin (hu_of hr) (pv 6) (pv 2)))
  (pss_cons (ps_dput (hu_of hr) (pv 2) (pv 6) pe_bl rfl)
  (pss_one (ps_expr (pe_bm PySem.F.plainAttrs_list PySem.F.slot_list_append PySem.F.type_list_append mt_append (pv 4) (pa_cons (pe_lst (pa_cons (pv 6) (pa_cons pe_int pa_nil))) pa_nil)))))
  pss_nil))))
  (pss_cons (ps_expr (pe_bm PySem.F.plainAttrs_list PySem.F.slot_list_append PySem.F.type_list_append mt_append (pv 3) (pa_cons (pe_ix ix_list (pv 5) pe_int (fun _ _ => rfl)) pa_nil)))
  (pss_one (ps_expr (pe_bm0 PySem.F.plainAttrs_list PySem.F.slot_list_pop PySem.F.type_list_pop mt_pop (pv 4))))))))))))
abbrev s_turned_around : Stmt := topS 2
theorem sc_turned_around : FnScope n_turned_around ["ways"] (defScope s_turned_around) := ⟨rfl, rfl, rfl, by decide +kernel, rfl, by decide +kernel, by decide +kernel⟩
theorem ok_turned_around (F : Fun K "turned_around" "turned_around" s_turned_around f fd) (T : Txt mg) 
  (pure : ∀ (vs : List V) (H : Hp) (Q : VK) (E : XK), sp_turned_around K vs H Q E → t_turned_around K { nx := fun _ H' => Q .non H', rt := Q } (start n_turned_around vs) H) : FnOk P w K mg base CX0 1 f fd ["ways"] (sp_turned_around K) := by
  refine F.ok sc_turned_around (fun vs H Q E h => ?_) (fun cdv A outer s H vs Q E hr h => ⟨t_turned_around K, ?_, pure vs H Q E h⟩)
  · obtain ⟨_, _, _, rfl, _⟩ := h
    rfl
  · exact (pss_cons (ps_set (i := 1) sc_turned_around.nd rfl (Or.inl rfl) pe_dnewT)
  (pss_cons (ps_lock (ps_for PassesOwn.never rfl (pi_keys (pv 0)) (pg_name (i := 2) sc_turned_around.nd rfl (Or.inl rfl))
  (pss_one (ps_dput (hu_of hr) (pv 1) (pv 2) (pe_lst pa_nil) rfl))))
  (pss_cons (ps_lock (ps_for PassesOwn.never rfl (pi_keys (pv 0)) (pg_name (i := 2) sc_turned_around.nd rfl (Or.inl rfl))
  (pss_one (ps_for PassesOwn.never rfl (pi_list (pe_dget (hu_of hr) (pv 0) (pv 2) (fun _ _ => rfl))) (pg_tup rfl (pgs_cons (pg_name (i := 3) sc_turned_around.nd rfl (Or.inl rfl)) (pgs_cons (pg_name (i := 4) sc_turned_around.nd rfl (Or.inl rfl)) pgs_nil)))
  (pss_one (ps_expr (pe_bm PySem.F.plainAttrs_list PySem.F.slot_list_append PySem.F.type_list_append mt_append (pe_dget (hu_of hr) (pv 1) (pv 4) (fun _ _ => rfl)) (pa_cons (pv 2) pa_nil))))))))
  (pss_one (ps_ret (pv 1))))))
abbrev s_components_of : Stmt := topS 3
theorem sc_components_of : FnScope n_components_of ["ways"] (defScope s_components_of) := ⟨rfl, rfl, rfl, by decide +kernel, rfl, by decide +kernel, by decide +kernel⟩
theorem ok_components_of (F : Fun K "components_of" "components_of" s_components_of f fd) (T : Txt mg) (c_finished_from : Cal P w K mg base "finished_from" 1 ["ways", "start", "seen", "order"] (sp_finished_from K)) (c_turned_around : Cal P w K mg base "turned_around" 1 ["ways"] (sp_turned_around K))
  (pure : ∀ (vs : List V) (H : Hp) (Q : VK) (E : XK), sp_components_of K vs H Q E → t_components_of K { nx := fun _ H' => Q .non H', rt := Q } (start n_components_of vs) H) : FnOk P w K mg base CX0 2 f fd ["ways"] (sp_components_of K) := by
  refine F.ok sc_components_of (fun vs H Q E h => ?_) (fun cdv A outer s H vs Q E hr h => ⟨t_components_of K, ?_, pure vs H Q E h⟩)
  · obtain ⟨_, _, _, rfl, _⟩ := h
    rfl
  · exact (pss_cons (ps_set (i := 1) sc_components_of.nd rfl (Or.inl rfl) (pe_lst pa_nil))
  (pss_cons (ps_set (i := 2) sc_components_of.nd rfl (Or.inl rfl) pe_dnewT)
  (pss_cons (ps_lock (ps_for PassesOwn.never rfl (pi_keys (pv 0)) (pg_name (i := 3) sc_components_of.nd rfl (Or.inl rfl))
  (pss_one (ps_if (pt_cmp (pc_dnotin (hu_of hr) (pv 3) (pv 2)))
  (pss_one (ps_expr (pe_cal c_finished_from (hr.mono (by decide)) (by rfl) (pa_cons (pv 0) (pa_cons (pv 3) (pa_cons (pv 2) (pa_cons (pv 1) pa_nil)))))))
  pss_nil))))
  (pss_cons (ps_set (i := 4) sc_components_of.nd rfl (Or.inl rfl) (pe_cal c_turned_around (hr.mono (by decide)) (by rfl) (pa_cons (pv 0) pa_nil)))
  (pss_cons (ps_set (i := 5) sc_components_of.nd rfl (Or.inl rfl) pe_dnewT)
  (pss_cons (ps_set (i := 6) sc_components_of.nd rfl (Or.inl rfl) pe_int)
  (pss_cons (ps_for PassesOwn.never rfl (pi_reversed (by rfl) T.reversed (pa_cons (pv 1) pa_nil)) (pg_name (i := 7) sc_components_of.nd rfl (Or.inl rfl))
  (pss_one (ps_if (pt_cmp (pc_dnotin (hu_of hr) (pv 7) (pv 5)))
  (pss_cons (ps_dput (hu_of hr) (pv 5) (pv 7) (pv 6) rfl)
  (pss_cons (ps_set (i := 8) sc_components_of.nd rfl (Or.inl rfl) (pe_lst (pa_cons (pv 7) pa_nil)))
  (pss_cons (ps_while PassesOwn.never (pt_cmpR op_gt (pe_callB call_lenQ (by rfl) T.len PySem.boot_len (pa_cons (pv 8) pa_nil)) pe_int (nomark _))
  (pss_one (ps_for PassesOwn.never rfl (pi_list (pe_dget (hu_of hr) (pv 4) (pe_bm0 PySem.F.plainAttrs_list PySem.F.slot_list_pop PySem.F.type_list_pop mt_pop (pv 8)) (fun _ _ => rfl))) (pg_name (i := 9) sc_components_of.nd rfl (Or.inl rfl))
  (pss_one (ps_if (pt_cmp (pc_dnotin (hu_of hr) (pv 9) (pv 5)))
  (pss_cons (ps_dput (hu_of hr) (pv 5) (pv 9) (pv 6) rfl)
  (pss_one (ps_expr (pe_bm PySem.F.plainAttrs_list PySem.F.slot_list_append PySem.F.type_list_append mt_append (pv 8) (pa_cons (pv 9) pa_nil)))))
  pss_nil)))))
  (pss_one (ps_set (i := 6) sc_components_of.nd rfl (Or.inl rfl) (pe_op op_add (pv 6) pe_int))))))
  pss_nil)))
  (pss_one (ps_ret (pe_tup (pa_cons (pv 5) (pa_cons (pv 6) pa_nil))))))))))))
abbrev s_check_shards : Stmt := topS 14
theorem sc_check_shards : FnScope n_check_shards ["pieces", "grain"] (defScope s_check_shards) := ⟨rfl, rfl, rfl, by decide +kernel, rfl, by decide +kernel, by decide +kernel⟩
theorem ok_check_shards (F : Fun K "check_shards" "check_shards" s_check_shards f fd) (T : Txt mg) 
  (pure : ∀ (vs : List V) (H : Hp) (Q : VK) (E : XK), sp_check_shards K vs H Q E → t_check_shards K { nx := fun _ H' => Q .non H', rt := Q } (start n_check_shards vs) H) : FnOk P w K mg base CX0 1 f fd ["pieces", "grain"] (sp_check_shards K) := by
  refine F.ok sc_check_shards (fun vs H Q E h => ?_) (fun cdv A outer s H vs Q E hr h => ⟨t_check_shards K, ?_, pure vs H Q E h⟩)
  · obtain ⟨_, _, _, rfl, _⟩ := h
    rfl
  · exact (pss_cons (ps_if (PW.pt (pw_or (pt_cmpR op_lt (pv 1) pe_int (nomark _)) (pw_or1 (pt_cmpR op_gt (pv 1) (pe_gi (by rfl) T.GRAIN_LIMIT) (nomark _)))))
  (pss_one ps_never)
  pss_nil)
  (pss_cons (ps_if (pt_cmpR op_eq (pe_callB call_lenQ (by rfl) T.len PySem.boot_len (pa_cons (pv 0) pa_nil)) pe_int (nomark _))
  (pss_one ps_never)
  pss_nil)
  (pss_cons (ps_if (pt_cmpR op_gt (pe_callB call_lenQ (by rfl) T.len PySem.boot_len (pa_cons (pv 0) pa_nil)) (pe_gi (by rfl) T.PIECE_LIMIT) (nomark _))
  (pss_one ps_never)
  pss_nil)
  (pss_one (ps_for PassesOwn.never rfl (pi_tup (pv 0)) (pg_name (i := 2) sc_check_shards.nd rfl (Or.inl rfl))
  (pss_cons (ps_if (pt_cmpR op_lt (pe_callB call_lenX (by rfl) T.len PySem.boot_len (pa_cons (pv 2) pa_nil)) (pv 1) (nomark _))
  (pss_one ps_never)
  pss_nil)
  (pss_one (ps_if (pt_cmpR op_gt (pe_callB call_lenX (by rfl) T.len PySem.boot_len (pa_cons (pv 2) pa_nil)) (pe_gi (by rfl) T.LETTER_LIMIT) (nomark _))
  (pss_one ps_never)
  pss_nil))))))))
abbrev s_check_shape : Stmt := topS 15
theorem sc_check_shape : FnScope n_check_shape ["shape"] (defScope s_check_shape) := ⟨rfl, rfl, rfl, by decide +kernel, rfl, by decide +kernel, by decide +kernel⟩
theorem ok_check_shape (F : Fun K "check_shape" "check_shape" s_check_shape f fd) (T : Txt mg) 
  (pure : ∀ (vs : List V) (H : Hp) (Q : VK) (E : XK), sp_check_shape K vs H Q E → t_check_shape K { nx := fun _ H' => Q .non H', rt := Q } (start n_check_shape vs) H) : FnOk P w K mg base CX0 1 f fd ["shape"] (sp_check_shape K) := by
  refine F.ok sc_check_shape (fun vs H Q E h => ?_) (fun cdv A outer s H vs Q E hr h => ⟨t_check_shape K, ?_, pure vs H Q E h⟩)
  · obtain ⟨rfl, _⟩ := h
    rfl
  · exact (pss_one (ps_if (PW.pt (pw_and (pt_cmpR op_ne (pv 0) pe_str (nomark _)) (pw_and1 (pt_cmpR op_ne (pv 0) pe_str (nomark _)))))
  (pss_one ps_never)
  pss_nil))
abbrev s_window_list : Stmt := topS 16
theorem sc_window_list : FnScope n_window_list ["pieces", "grain"] (defScope s_window_list) := ⟨rfl, rfl, rfl, by decide +kernel, rfl, by decide +kernel, by decide +kernel⟩
theorem ok_window_list (F : Fun K "window_list" "window_list" s_window_list f fd) (T : Txt mg) 
  (pure : ∀ (vs : List V) (H : Hp) (Q : VK) (E : XK), sp_window_list K vs H Q E → t_window_list K { nx := fun _ H' => Q .non H', rt := Q } (start n_window_list vs) H) : FnOk P w K mg base CX0 1 f fd ["pieces", "grain"] (sp_window_list K) := by
  refine F.ok sc_window_list (fun vs H Q E h => ?_) (fun cdv A outer s H vs Q E hr h => ⟨t_window_list K, ?_, pure vs H Q E h⟩)
  · obtain ⟨_, _, _, rfl, _⟩ := h
    rfl
  · exact (pss_cons (ps_set (i := 2) sc_window_list.nd rfl (Or.inl rfl) (pe_lst pa_nil))
  (pss_cons (ps_for PassesOwn.never rfl (pi_tup (pv 0)) (pg_name (i := 3) sc_window_list.nd rfl (Or.inl rfl))
  (pss_one (ps_for PassesOwn.never rfl (pi_range1 (by rfl) T.range (pa_cons (pe_op op_add (pe_op op_sub (pe_callB call_lenX (by rfl) T.len PySem.boot_len (pa_cons (pv 3) pa_nil)) (pv 1)) pe_int) pa_nil)) (pg_name (i := 4) sc_window_list.nd rfl (Or.inl rfl))
  (pss_one (ps_if (pt_cmpR op_notIn_seq (pe_slice sl_strX (pv 3) (po_some (pv 4)) (po_some (pe_op op_add (pv 4) (pv 1)))) (pv 2) (by rfl))
  (pss_one (ps_expr (pe_bm PySem.F.plainAttrs_list PySem.F.slot_list_append PySem.F.type_list_append mt_append (pv 2) (pa_cons (pe_slice sl_strX (pv 3) (po_some (pv 4)) (po_some (pe_op op_add (pv 4) (pv 1)))) pa_nil))))
  pss_nil)))))
  (pss_one (ps_ret (pe_callTy call_tupQ (by rfl) T.tuple (by decide +kernel) (pa_cons (pe_callB cr_sortX (by rfl) T.sorted (by decide +kernel) (pa_cons (pv 2) pa_nil)) pa_nil))))))
abbrev s_gram_list : Stmt := topS 17
theorem sc_gram_list : FnScope n_gram_list ["windows"] (defScope s_gram_list) := ⟨rfl, rfl, rfl, by decide +kernel, rfl, by decide +kernel, by decide +kernel⟩
theorem ok_gram_list (F : Fun K "gram_list" "gram_list" s_gram_list f fd) (T : Txt mg) 
  (pure : ∀ (vs : List V) (H : Hp) (Q : VK) (E : XK), sp_gram_list K vs H Q E → t_gram_list K { nx := fun _ H' => Q .non H', rt := Q } (start n_gram_list vs) H) : FnOk P w K mg base CX0 1 f fd ["windows"] (sp_gram_list K) := by
  refine F.ok sc_gram_list (fun vs H Q E h => ?_) (fun cdv A outer s H vs Q E hr h => ⟨t_gram_list K, ?_, pure vs H Q E h⟩)
  · obtain ⟨_, _, rfl, _⟩ := h
    rfl
  · exact (pss_cons (ps_set (i := 1) sc_gram_list.nd rfl (Or.inl rfl) (pe_lst pa_nil))
  (pss_cons (ps_for PassesOwn.never rfl (pi_tup (pv 0)) (pg_name (i := 2) sc_gram_list.nd rfl (Or.inl rfl))
  (pss_one (ps_for PassesOwn.never rfl (pi_tup (pe_tup (pa_cons (pe_slice sl_strX (pv 2) po_none (po_some (pe_un un_neg pe_int))) (pa_cons (pe_slice sl_strX (pv 2) (po_some pe_int) po_none) pa_nil)))) (pg_name (i := 3) sc_gram_list.nd rfl (Or.inl rfl))
  (pss_one (ps_if (pt_cmpR op_notIn_seq (pv 3) (pv 1) (by rfl))
  (pss_one (ps_expr (pe_bm PySem.F.plainAttrs_list PySem.F.slot_list_append PySem.F.type_list_append mt_append (pv 1) (pa_cons (pv 3) pa_nil))))
  pss_nil)))))
  (pss_one (ps_ret (pe_callTy call_tupQ (by rfl) T.tuple (by decide +kernel) (pa_cons (pe_callB cr_sortX (by rfl) T.sorted (by decide +kernel) (pa_cons (pv 1) pa_nil)) pa_nil))))))
abbrev s_following : Stmt := topS 18
theorem sc_following : FnScope n_following ["windows", "gram"] (defScope s_following) := ⟨rfl, rfl, rfl, by decide +kernel, rfl, by decide +kernel, by decide +kernel⟩
theorem ok_following (F : Fun K "following" "following" s_following f fd) (T : Txt mg) 
  (pure : ∀ (vs : List V) (H : Hp) (Q : VK) (E : XK), sp_following K vs H Q E → t_following K { nx := fun _ H' => Q .non H', rt := Q } (start n_following vs) H) : FnOk P w K mg base CX0 1 f fd ["windows", "gram"] (sp_following K) := by
  refine F.ok sc_following (fun vs H Q E h => ?_) (fun cdv A outer s H vs Q E hr h => ⟨t_following K, ?_, pure vs H Q E h⟩)
  · obtain ⟨_, _, _, rfl, _⟩ := h
    rfl
  · exact (pss_one (ps_ret (pe_m1 PySem.F.slot_str_join PySem.F.type_str_join mt_joinX pe_str (pe_lc (own := [("window", 2)]) (g := (gName 2)) (tt := (tTest (tOp rEq (tSl rSlX (tVar 2) tNoPart (tPart (tUn uNegI (tC (.int 1))))) (tVar 1)))) rfl sc_following.nd (pi_tup (pv 0)) (blkOk_by (own := [("window", 2)]) (N := n_following) (sc := defScope s_following) (by decide +kernel)) (fun _ _ _ _ _ => (pg_name (i := 2) sc_following.nd rfl (Or.inl rfl))) (fun _ _ _ _ _ => (pts_one (pt_cmpR op_eq (pe_slice sl_strX (pv 2) po_none (po_some (pe_un un_neg pe_int))) (pv 1) (nomark _)))) (fun _ _ _ _ _ => (pe_ix ix_strX (pv 2) (pe_un un_neg pe_int) (fun _ _ => rfl)))))))
abbrev s_advance : Stmt := topS 20
theorem sc_advance : FnScope n_advance ["word", "matched", "letter"] (defScope s_advance) := ⟨rfl, rfl, rfl, by decide +kernel, rfl, by decide +kernel, by decide +kernel⟩
theorem ok_advance (F : Fun K "advance" "advance" s_advance f fd) (T : Txt mg) 
  (pure : ∀ (vs : List V) (H : Hp) (Q : VK) (E : XK), sp_advance K vs H Q E → t_advance K { nx := fun _ H' => Q .non H', rt := Q } (start n_advance vs) H) : FnOk P w K mg base CX0 1 f fd ["word", "matched", "letter"] (sp_advance K) := by
  refine F.ok sc_advance (fun vs H Q E h => ?_) (fun cdv A outer s H vs Q E hr h => ⟨t_advance K, ?_, pure vs H Q E h⟩)
  · obtain ⟨_, _, _, rfl, _⟩ := h
    rfl
  · exact (pss_cons (ps_set (i := 3) sc_advance.nd rfl (Or.inl rfl) (pe_op op_addX (pe_slice sl_strX (pv 0) po_none (po_some (pv 1))) (pv 2)))
  (pss_cons (ps_for PassesOwn.never rfl (pi_range3 (by rfl) T.range (pa_cons (pe_callB (call_minI rfl) (by rfl) T.min (by decide +kernel) (pa_cons (pe_callB call_lenX (by rfl) T.len PySem.boot_len (pa_cons (pv 3) pa_nil)) (pa_cons (pe_callB call_lenX (by rfl) T.len PySem.boot_len (pa_cons (pv 0) pa_nil)) pa_nil))) (pa_cons pe_int (pa_cons (pe_un un_neg pe_int) pa_nil)))) (pg_name (i := 4) sc_advance.nd rfl (Or.inl rfl))
  (pss_one (ps_if (pt_cmpR op_eq (pe_slice sl_strX (pv 3) (po_some (pe_op op_sub (pe_callB call_lenX (by rfl) T.len PySem.boot_len (pa_cons (pv 3) pa_nil)) (pv 4))) po_none) (pe_slice sl_strX (pv 0) po_none (po_some (pv 4))) (nomark _))
  (pss_one (ps_ret (pv 4)))
  pss_nil)))
  (pss_one (ps_ret pe_int))))
abbrev s_check_word : Stmt := topS 23
theorem sc_check_word : FnScope n_check_word ["word"] (defScope s_check_word) := ⟨rfl, rfl, rfl, by decide +kernel, rfl, by decide +kernel, by decide +kernel⟩
theorem ok_check_word (F : Fun K "check_word" "check_word" s_check_word f fd) (T : Txt mg) 
  (pure : ∀ (vs : List V) (H : Hp) (Q : VK) (E : XK), sp_check_word K vs H Q E → t_check_word K { nx := fun _ H' => Q .non H', rt := Q } (start n_check_word vs) H) : FnOk P w K mg base CX0 1 f fd ["word"] (sp_check_word K) := by
  refine F.ok sc_check_word (fun vs H Q E h => ?_) (fun cdv A outer s H vs Q E hr h => ⟨t_check_word K, ?_, pure vs H Q E h⟩)
  · obtain ⟨_, rfl, _⟩ := h
    rfl
  · exact (pss_cons (ps_if (pt_cmpR op_eq (pv 0) pe_str (nomark _))
  (pss_one ps_never)
  pss_nil)
  (pss_one (ps_if (pt_cmpR op_gt (pe_callB call_lenX (by rfl) T.len PySem.boot_len (pa_cons (pv 0) pa_nil)) (pe_gi (by rfl) T.WORD_LIMIT) (nomark _))
  (pss_one ps_never)
  pss_nil)))
abbrev s_state_list : Stmt := topS 24
theorem sc_state_list : FnScope n_state_list ["windows", "word"] (defScope s_state_list) := ⟨rfl, rfl, rfl, by decide +kernel, rfl, by decide +kernel, by decide +kernel⟩
theorem ok_state_list (F : Fun K "state_list" "state_list" s_state_list f fd) (T : Txt mg) (c_gram_list : Cal P w K mg base "gram_list" 1 ["windows"] (sp_gram_list K))
  (pure : ∀ (vs : List V) (H : Hp) (Q : VK) (E : XK), sp_state_list K vs H Q E → t_state_list K { nx := fun _ H' => Q .non H', rt := Q } (start n_state_list vs) H) : FnOk P w K mg base CX0 2 f fd ["windows", "word"] (sp_state_list K) := by
  refine F.ok sc_state_list (fun vs H Q E h => ?_) (fun cdv A outer s H vs Q E hr h => ⟨t_state_list K, ?_, pure vs H Q E h⟩)
  · obtain ⟨_, _, _, rfl, _⟩ := h
    rfl
  · exact (pss_cons (ps_set (i := 2) sc_state_list.nd rfl (Or.inl rfl) (pe_lst pa_nil))
  (pss_cons (ps_for PassesOwn.never rfl (pi_tup (pe_cal c_gram_list (hr.mono (by decide)) (by rfl) (pa_cons (pv 0) pa_nil))) (pg_name (i := 3) sc_state_list.nd rfl (Or.inl rfl))
  (pss_one (ps_for PassesOwn.never rfl (pi_range1 (by rfl) T.range (pa_cons (pe_callB call_lenX (by rfl) T.len PySem.boot_len (pa_cons (pv 1) pa_nil)) pa_nil)) (pg_name (i := 4) sc_state_list.nd rfl (Or.inl rfl))
  (pss_one (ps_expr (pe_bm PySem.F.plainAttrs_list PySem.F.slot_list_append PySem.F.type_list_append mt_append (pv 2) (pa_cons (pe_tup (pa_cons (pv 3) (pa_cons (pv 4) pa_nil))) pa_nil)))))))
  (pss_one (ps_ret (pe_callTy call_tupQ (by rfl) T.tuple (by decide +kernel) (pa_cons (pv 2) pa_nil))))))
abbrev s_way : Stmt := topS 25
theorem sc_way : FnScope n_way ["windows", "word", "state", "letter"] (defScope s_way) := ⟨rfl, rfl, rfl, by decide +kernel, rfl, by decide +kernel, by decide +kernel⟩
theorem ok_way (F : Fun K "way" "way" s_way f fd) (T : Txt mg) (c_following : Cal P w K mg base "following" 1 ["windows", "gram"] (sp_following K)) (c_advance : Cal P w K mg base "advance" 1 ["word", "matched", "letter"] (sp_advance K))
  (pure : ∀ (vs : List V) (H : Hp) (Q : VK) (E : XK), sp_way K vs H Q E → t_way K { nx := fun _ H' => Q .non H', rt := Q } (start n_way vs) H) : FnOk P w K mg base CX0 2 f fd ["windows", "word", "state", "letter"] (sp_way K) := by
  refine F.ok sc_way (fun vs H Q E h => ?_) (fun cdv A outer s H vs Q E hr h => ⟨t_way K, ?_, pure vs H Q E h⟩)
  · obtain ⟨_, _, _, _, _, _, rfl, _⟩ := h
    rfl
  · exact (pss_cons (ps_asg (pv 2) (pg_tup rfl (pgs_cons (pg_name (i := 4) sc_way.nd rfl (Or.inl rfl)) (pgs_cons (pg_name (i := 5) sc_way.nd rfl (Or.inl rfl)) pgs_nil))))
  (pss_cons (ps_if (PW.pt (pw_or (pt_cmpR op_eq (pv 3) pe_str (nomark _)) (pw_or1 (pt_cmpR op_niX (pv 3) (pe_cal c_following (hr.mono (by decide)) (by rfl) (pa_cons (pv 0) (pa_cons (pv 4) pa_nil))) (by rfl)))))
  (pss_one (ps_ret pe_non))
  pss_nil)
  (pss_cons (ps_set (i := 6) sc_way.nd rfl (Or.inl rfl) (pe_cal c_advance (hr.mono (by decide)) (by rfl) (pa_cons (pv 1) (pa_cons (pv 5) (pa_cons (pv 3) pa_nil)))))
  (pss_cons (ps_if (pt_cmpR op_eq (pv 6) (pe_callB call_lenX (by rfl) T.len PySem.boot_len (pa_cons (pv 1) pa_nil)) (nomark _))
  (pss_one (ps_ret pe_non))
  pss_nil)
  (pss_one (ps_ret (pe_tup (pa_cons (pe_slice sl_strX (pe_op op_addX (pv 4) (pv 3)) (po_some pe_int) po_none) (pa_cons (pv 6) pa_nil)))))))))
abbrev s_ways_from : Stmt := topS 26
theorem sc_ways_from : FnScope n_ways_from ["windows", "word", "state"] (defScope s_ways_from) := ⟨rfl, rfl, rfl, by decide +kernel, rfl, by decide +kernel, by decide +kernel⟩
theorem ok_ways_from (F : Fun K "ways_from" "ways_from" s_ways_from f fd) (T : Txt mg) (c_following : Cal P w K mg base "following" 1 ["windows", "gram"] (sp_following K)) (c_way : Cal P w K mg base "way" 2 ["windows", "word", "state", "letter"] (sp_way K))
  (pure : ∀ (vs : List V) (H : Hp) (Q : VK) (E : XK), sp_ways_from K vs H Q E → t_ways_from K { nx := fun _ H' => Q .non H', rt := Q } (start n_ways_from vs) H) : FnOk P w K mg base CX0 3 f fd ["windows", "word", "state"] (sp_ways_from K) := by
  refine F.ok sc_ways_from (fun vs H Q E h => ?_) (fun cdv A outer s H vs Q E hr h => ⟨t_ways_from K, ?_, pure vs H Q E h⟩)
  · obtain ⟨_, _, _, _, _, rfl, _⟩ := h
    rfl
  · exact (pss_cons (ps_set (i := 3) sc_ways_from.nd rfl (Or.inl rfl) (pe_lst pa_nil))
  (pss_cons (ps_for PassesOwn.never rfl (pi_str (pe_cal c_following (hr.mono (by decide)) (by rfl) (pa_cons (pv 0) (pa_cons (pe_ix ix_tup (pv 2) pe_int (fun _ _ => rfl)) pa_nil)))) (pg_name (i := 4) sc_ways_from.nd rfl (Or.inl rfl))
  (pss_cons (ps_set (i := 5) sc_ways_from.nd rfl (Or.inl rfl) (pe_cal c_way (hr.mono (by decide)) (by rfl) (pa_cons (pv 0) (pa_cons (pv 1) (pa_cons (pv 2) (pa_cons (pv 4) pa_nil))))))
  (pss_one (ps_if (pt_cmp (pc_notN (pv 5)))
  (pss_one (ps_expr (pe_bm PySem.F.plainAttrs_list PySem.F.slot_list_append PySem.F.type_list_append mt_append (pv 3) (pa_cons (pe_tup (pa_cons (pv 4) (pa_cons (pv 5) pa_nil))) pa_nil))))
  pss_nil))))
  (pss_one (ps_ret (pv 3)))))
abbrev s_read_within : Stmt := topS 35
theorem sc_read_within : FnScope n_read_within ["windows", "word", "piece", "states", "state"] (defScope s_read_within) := ⟨rfl, rfl, rfl, by decide +kernel, rfl, by decide +kernel, by decide +kernel⟩
theorem ok_read_within (F : Fun K "read_within" "read_within" s_read_within f fd) (T : Txt mg) (c_way : Cal P w K mg base "way" 2 ["windows", "word", "state", "letter"] (sp_way K))
  (pure : ∀ (vs : List V) (H : Hp) (Q : VK) (E : XK), sp_read_within K vs H Q E → t_read_within K { nx := fun _ H' => Q .non H', rt := Q } (start n_read_within vs) H) : FnOk P w K mg base CX0 3 f fd ["windows", "word", "piece", "states", "state"] (sp_read_within K) := by
  refine F.ok sc_read_within (fun vs H Q E h => ?_) (fun cdv A outer s H vs Q E hr h => ⟨t_read_within K, ?_, pure vs H Q E h⟩)
  · obtain ⟨_, _, _, _, _, _, _, _, _, rfl, _⟩ := h
    rfl
  · exact (pss_cons (ps_for PassesOwn.never rfl (pi_str (pv 2)) (pg_name (i := 5) sc_read_within.nd rfl (Or.inl rfl))
  (pss_cons (ps_if (PW.pt (pw_or (pt_cmp (pc_isN (pv 4))) (pw_or1 (pt_cmp (pc_dnotin (hu_of hr) (pv 4) (pv 3))))))
  (pss_one (ps_ret pe_bl))
  pss_nil)
  (pss_one (ps_set (i := 4) sc_read_within.nd rfl (Or.inl rfl) (pe_cal c_way (hr.mono (by decide)) (by rfl) (pa_cons (pv 0) (pa_cons (pv 1) (pa_cons (pv 4) (pa_cons (pv 5) pa_nil)))))))))
  (pss_one (ps_ret (pe_and (pe_cmp (pc_notN (pv 4))) (pe_one (pe_cmp (pc_din (hu_of hr) (pv 4) (pv 3))))))))
abbrev s_can_read : Stmt := topS 36
theorem sc_can_read : FnScope n_can_read ["windows", "word", "piece", "states"] (defScope s_can_read) := ⟨rfl, rfl, rfl, by decide +kernel, rfl, by decide +kernel, by decide +kernel⟩
theorem ok_can_read (F : Fun K "can_read" "can_read" s_can_read f fd) (T : Txt mg) (c_read_within : Cal P w K mg base "read_within" 3 ["windows", "word", "piece", "states", "state"] (sp_read_within K))
  (pure : ∀ (vs : List V) (H : Hp) (Q : VK) (E : XK), sp_can_read K vs H Q E → t_can_read K { nx := fun _ H' => Q .non H', rt := Q } (start n_can_read vs) H) : FnOk P w K mg base CX0 4 f fd ["windows", "word", "piece", "states"] (sp_can_read K) := by
  refine F.ok sc_can_read (fun vs H Q E h => ?_) (fun cdv A outer s H vs Q E hr h => ⟨t_can_read K, ?_, pure vs H Q E h⟩)
  · obtain ⟨_, _, _, _, _, _, _, rfl, _⟩ := h
    rfl
  · exact (pss_one (ps_ret (pe_callB (cr_anyB rfl) (by rfl) T.any (by decide +kernel) (pa_cons (pe_lock (pe_lc (own := [("state", 4)]) (g := (gName 4)) (tt := tYes) rfl sc_can_read.nd (pi_keys (pv 3)) (blkOk_by (own := [("state", 4)]) (N := n_can_read) (sc := defScope s_can_read) (by decide +kernel)) (fun _ _ _ _ _ => (pg_name (i := 4) sc_can_read.nd rfl (Or.inl rfl))) (fun _ _ _ _ _ => pts_nil) (fun _ _ _ _ _ => (pe_cal c_read_within (hr.mono (by decide)) (by rfl) (pa_cons (pv 0) (pa_cons (pv 1) (pa_cons (pv 2) (pa_cons (pv 3) (pa_cons (pv 4) pa_nil))))))))) pa_nil))))
abbrev s_path_to : Stmt := topS 39
theorem sc_path_to : FnScope n_path_to ["ways", "states", "start", "goals"] (defScope s_path_to) := ⟨rfl, rfl, rfl, by decide +kernel, rfl, by decide +kernel, by decide +kernel⟩
theorem ok_path_to (F : Fun K "path_to" "path_to" s_path_to f fd) (T : Txt mg) 
  (pure : ∀ (vs : List V) (H : Hp) (Q : VK) (E : XK), sp_path_to K vs H Q E → t_path_to K { nx := fun _ H' => Q .non H', rt := Q } (start n_path_to vs) H) : FnOk P w K mg base CX0 1 f fd ["ways", "states", "start", "goals"] (sp_path_to K) := by
  refine F.ok sc_path_to (fun vs H Q E h => ?_) (fun cdv A outer s H vs Q E hr h => ⟨t_path_to K, ?_, pure vs H Q E h⟩)
  · obtain ⟨_, _, _, _, _, _, _, _, _, _, _, rfl, _⟩ := h
    rfl
  · exact (pss_cons (ps_set (i := 4) sc_path_to.nd rfl (Or.inl rfl) (pe_disp1 hr.units0 (pv 2) pe_str))
  (pss_cons (ps_set (i := 5) sc_path_to.nd rfl (Or.inl rfl) (pe_lst (pa_cons (pv 2) pa_nil)))
  (pss_cons (ps_set (i := 6) sc_path_to.nd rfl (Or.inl rfl) pe_int)
  (pss_cons (ps_while PassesOwn.never (pt_cmpR op_lt (pv 6) (pe_callB call_lenQ (by rfl) T.len PySem.boot_len (pa_cons (pv 5) pa_nil)) (nomark _))
  (pss_cons (ps_set (i := 7) sc_path_to.nd rfl (Or.inl rfl) (pe_ix ix_list (pv 5) (pv 6) (fun _ _ => rfl)))
  (pss_cons (ps_if (pt_cmp (pc_din (hu_of hr) (pv 7) (pv 3)))
  (pss_one (ps_ret (pe_tup (pa_cons (pe_dget (hu_of hr) (pv 4) (pv 7) (fun _ _ => rfl)) (pa_cons (pv 7) pa_nil)))))
  pss_nil)
  (pss_cons (ps_for PassesOwn.never rfl (pi_list (pe_dget (hu_of hr) (pv 0) (pv 7) (fun _ _ => rfl))) (pg_tup rfl (pgs_cons (pg_name (i := 8) sc_path_to.nd rfl (Or.inl rfl)) (pgs_cons (pg_name (i := 9) sc_path_to.nd rfl (Or.inl rfl)) pgs_nil)))
  (pss_one (ps_if (PW.pt (pw_and (pt_cmp (pc_din (hu_of hr) (pv 9) (pv 1))) (pw_and1 (pt_cmp (pc_dnotin (hu_of hr) (pv 9) (pv 4))))))
  (pss_cons (ps_dput (hu_of hr) (pv 4) (pv 9) (pe_op op_addX (pe_dget (hu_of hr) (pv 4) (pv 7) (fun _ _ => rfl)) (pv 8)) rfl)
  (pss_one (ps_expr (pe_bm PySem.F.plainAttrs_list PySem.F.slot_list_append PySem.F.type_list_append mt_append (pv 5) (pa_cons (pv 9) pa_nil)))))
  pss_nil)))
  (pss_one (ps_set (i := 6) sc_path_to.nd rfl (Or.inl rfl) (pe_op op_add (pv 6) pe_int)))))))
  (pss_one (ps_ret pe_non))))))
abbrev s_circle_within : Stmt := topS 40
theorem sc_circle_within : FnScope n_circle_within ["windows", "word", "pieces", "ways", "states"] (defScope s_circle_within) := ⟨rfl, rfl, rfl, by decide +kernel, rfl, by decide +kernel, by decide +kernel⟩
theorem ok_circle_within (F : Fun K "circle_within" "circle_within" s_circle_within f fd) (T : Txt mg) (c_read_within : Cal P w K mg base "read_within" 3 ["windows", "word", "piece", "states", "state"] (sp_read_within K)) (c_path_to : Cal P w K mg base "path_to" 1 ["ways", "states", "start", "goals"] (sp_path_to K)) (c_way : Cal P w K mg base "way" 2 ["windows", "word", "state", "letter"] (sp_way K))
  (pure : ∀ (vs : List V) (H : Hp) (Q : VK) (E : XK), sp_circle_within K vs H Q E → t_circle_within K { nx := fun _ H' => Q .non H', rt := Q } (start n_circle_within vs) H) : FnOk P w K mg base CX0 4 f fd ["windows", "word", "pieces", "ways", "states"] (sp_circle_within K) := by
  refine F.ok sc_circle_within (fun vs H Q E h => ?_) (fun cdv A outer s H vs Q E hr h => ⟨t_circle_within K, ?_, pure vs H Q E h⟩)
  · obtain ⟨_, _, _, _, _, _, _, _, _, _, rfl, _⟩ := h
    rfl
  · exact (pss_cons (ps_set (i := 5) sc_circle_within.nd rfl (Or.inl rfl) (pe_ix ix_list (pe_callB (cr_sortD rfl hr.units) (by rfl) T.sorted (by decide +kernel) (pa_cons (pv 4) pa_nil)) pe_int (fun _ _ => rfl)))
  (pss_cons (ps_set (i := 6) sc_circle_within.nd rfl (Or.inl rfl) pe_str)
  (pss_cons (ps_set (i := 7) sc_circle_within.nd rfl (Or.inl rfl) (pv 5))
  (pss_cons (ps_for PassesOwn.never rfl (pi_tup (pv 2)) (pg_name (i := 8) sc_circle_within.nd rfl (Or.inl rfl))
  (pss_cons (ps_set (i := 9) sc_circle_within.nd rfl (Or.inl rfl) pe_dnewT)
  (pss_cons (ps_lock (ps_for PassesOwn.never rfl (pi_keys (pv 4)) (pg_name (i := 10) sc_circle_within.nd rfl (Or.inl rfl))
  (pss_one (ps_if (pt_val (pe_cal c_read_within (hr.mono (by decide)) (by rfl) (pa_cons (pv 0) (pa_cons (pv 1) (pa_cons (pv 8) (pa_cons (pv 4) (pa_cons (pv 10) pa_nil)))))))
  (pss_one (ps_dput (hu_of hr) (pv 9) (pv 10) pe_bl rfl))
  pss_nil))))
  (pss_cons (ps_asg (pe_cal c_path_to (hr.mono (by decide)) (by rfl) (pa_cons (pv 3) (pa_cons (pv 4) (pa_cons (pv 7) (pa_cons (pv 9) pa_nil))))) (pg_tup rfl (pgs_cons (pg_name (i := 11) sc_circle_within.nd rfl (Or.inl rfl)) (pgs_cons (pg_name (i := 7) sc_circle_within.nd rfl (Or.inl rfl)) pgs_nil))))
  (pss_cons (ps_set (i := 6) sc_circle_within.nd rfl (Or.inl rfl) (pe_op op_addX (pe_op op_addX (pv 6) (pv 11)) (pv 8)))
  (pss_one (ps_for PassesOwn.never rfl (pi_str (pv 8)) (pg_name (i := 12) sc_circle_within.nd rfl (Or.inl rfl))
  (pss_one (ps_set (i := 7) sc_circle_within.nd rfl (Or.inl rfl) (pe_cal c_way (hr.mono (by decide)) (by rfl) (pa_cons (pv 0) (pa_cons (pv 1) (pa_cons (pv 7) (pa_cons (pv 12) pa_nil))))))))))))))
  (pss_cons (ps_asg (pe_cal c_path_to (hr.mono (by decide)) (by rfl) (pa_cons (pv 3) (pa_cons (pv 4) (pa_cons (pv 7) (pa_cons (pe_disp1 hr.units0 (pv 5) pe_bl) pa_nil))))) (pg_tup rfl (pgs_cons (pg_name (i := 11) sc_circle_within.nd rfl (Or.inl rfl)) (pgs_cons (pg_name (i := 7) sc_circle_within.nd rfl (Or.inl rfl)) pgs_nil))))
  (pss_one (ps_ret (pe_op op_addX (pv 6) (pv 11)))))))))
abbrev s_grouped : Stmt := topS 41
theorem sc_grouped : FnScope n_grouped ["numbers", "many"] (defScope s_grouped) := ⟨rfl, rfl, rfl, by decide +kernel, rfl, by decide +kernel, by decide +kernel⟩
theorem ok_grouped (F : Fun K "grouped" "grouped" s_grouped f fd) (T : Txt mg) 
  (pure : ∀ (vs : List V) (H : Hp) (Q : VK) (E : XK), sp_grouped K vs H Q E → t_grouped K { nx := fun _ H' => Q .non H', rt := Q } (start n_grouped vs) H) : FnOk P w K mg base CX0 1 f fd ["numbers", "many"] (sp_grouped K) := by
  refine F.ok sc_grouped (fun vs H Q E h => ?_) (fun cdv A outer s H vs Q E hr h => ⟨t_grouped K, ?_, pure vs H Q E h⟩)
  · obtain ⟨_, _, _, _, rfl, _⟩ := h
    rfl
  · exact (pss_cons (ps_setLc (i := 2) (own := [("k", 4)]) (g := (gName 4)) (tt := tYes) rfl sc_grouped.nd rfl rfl (sw_true rfl rfl rfl (by decide +kernel)) (pi_range1 (by rfl) T.range (pa_cons (pv 1) pa_nil)) (blkOk_by (own := [("k", 4)]) (N := n_grouped) (sc := defScope s_grouped) (by decide +kernel)) (fun _ _ _ _ _ => (pg_name (i := 4) sc_grouped.nd rfl (Or.inl rfl))) (fun _ _ _ _ _ => pts_nil) (fun _ _ _ _ _ => pe_dnewT))
  (pss_cons (ps_lock (ps_for PassesOwn.never rfl (pi_keys (pv 0)) (pg_name (i := 3) sc_grouped.nd rfl (Or.inl rfl))
  (pss_one (ps_dput (hu_of hr) (pe_ix ix_list (pv 2) (pe_dget (hu_of hr) (pv 0) (pv 3) (fun _ _ => rfl)) (fun _ _ => rfl)) (pv 3) pe_bl rfl))))
  (pss_one (ps_ret (pv 2)))))
abbrev s_circle_decision : Stmt := topS 42
theorem sc_circle_decision : FnScope n_circle_decision ["pieces", "windows", "word"] (defScope s_circle_decision) := ⟨rfl, rfl, rfl, by decide +kernel, rfl, by decide +kernel, by decide +kernel⟩
theorem ok_circle_decision (F : Fun K "circle_decision" "circle_decision" s_circle_decision f fd) (T : Txt mg) (c_state_list : Cal P w K mg base "state_list" 2 ["windows", "word"] (sp_state_list K)) (c_ways_from : Cal P w K mg base "ways_from" 3 ["windows", "word", "state"] (sp_ways_from K)) (c_components_of : Cal P w K mg base "components_of" 2 ["ways"] (sp_components_of K)) (c_grouped : Cal P w K mg base "grouped" 1 ["numbers", "many"] (sp_grouped K)) (c_can_read : Cal P w K mg base "can_read" 4 ["windows", "word", "piece", "states"] (sp_can_read K)) (c_circle_within : Cal P w K mg base "circle_within" 4 ["windows", "word", "pieces", "ways", "states"] (sp_circle_within K))
  (pure : ∀ (vs : List V) (H : Hp) (Q : VK) (E : XK), sp_circle_decision K vs H Q E → t_circle_decision K { nx := fun _ H' => Q .non H', rt := Q } (start n_circle_decision vs) H) : FnOk P w K mg base CX0 5 f fd ["pieces", "windows", "word"] (sp_circle_decision K) := by
  refine F.ok sc_circle_decision (fun vs H Q E h => ?_) (fun cdv A outer s H vs Q E hr h => ⟨t_circle_decision K, ?_, pure vs H Q E h⟩)
  · obtain ⟨_, _, _, _, _, _, rfl, _⟩ := h
    rfl
  · exact (pss_cons (ps_set (i := 3) sc_circle_decision.nd rfl (Or.inl rfl) pe_dnewT)
  (pss_cons (ps_for PassesOwn.never rfl (pi_tup (pe_cal c_state_list (hr.mono (by decide)) (by rfl) (pa_cons (pv 1) (pa_cons (pv 2) pa_nil)))) (pg_name (i := 4) sc_circle_decision.nd rfl (Or.inl rfl))
  (pss_one (ps_dput (hu_of hr) (pv 3) (pv 4) (pe_cal c_ways_from (hr.mono (by decide)) (by rfl) (pa_cons (pv 1) (pa_cons (pv 2) (pa_cons (pv 4) pa_nil)))) rfl)))
  (pss_cons (ps_asg (pe_cal c_components_of (hr.mono (by decide)) (by rfl) (pa_cons (pv 3) pa_nil)) (pg_tup rfl (pgs_cons (pg_name (i := 5) sc_circle_decision.nd rfl (Or.inr rfl)) (pgs_cons (pg_name (i := 6) sc_circle_decision.nd rfl (Or.inl rfl)) pgs_nil))))
  (pss_cons (ps_set (i := 7) sc_circle_decision.nd rfl (Or.inr rfl) (pe_cal c_grouped (hr.mono (by decide)) (by rfl) (pa_cons (pv 5) (pa_cons (pv 6) pa_nil))))
  (pss_cons (ps_set (i := 8) sc_circle_decision.nd rfl (Or.inl rfl) (pe_lst pa_nil))
  (pss_cons (ps_for PassesOwn.never rfl (pi_range1 (by rfl) T.range (pa_cons (pv 6) pa_nil)) (pg_name (i := 9) sc_circle_decision.nd rfl (Or.inr rfl))
  (pss_cons (ps_setLc (i := 10) (own := [("k", 12)]) (g := (gName 12)) (tt := (tNot (tB (tCall (sp_can_read K) [] E0 (tCons (tVar 1) (tCons (tVar 2) (tCons (tOp (rIxT K) (tVar 0) (tVar 12)) (tCons (tOp (rIxL K) (tVar 7) (tVar 9)) tNil)))))))) rfl sc_circle_decision.nd rfl rfl (sw_true rfl rfl rfl (by decide +kernel)) (pi_range1 (by rfl) T.range (pa_cons (pe_callB call_lenQ (by rfl) T.len PySem.boot_len (pa_cons (pv 0) pa_nil)) pa_nil)) (blkOk_by (own := [("k", 12)]) (N := n_circle_decision) (sc := defScope s_circle_decision) (by decide +kernel)) (fun _ _ _ _ _ => (pg_name (i := 12) sc_circle_decision.nd rfl (Or.inl rfl))) (fun _ _ _ _ _ => (pts_one (pt_not (pt_val (pe_cal c_can_read (hr.mono (by decide)) (by rfl) (pa_cons (pv 1) (pa_cons (pv 2) (pa_cons (pe_ix ix_tup (pv 0) (pv 12) (fun _ _ => rfl)) (pa_cons (pe_ix ix_list (pv 7) (pv 9) (fun _ _ => rfl)) pa_nil))))))))) (fun _ _ _ _ _ => (pv 12)))
  (pss_cons (ps_if (pt_cmpR op_eq (pe_callB call_lenQ (by rfl) T.len PySem.boot_len (pa_cons (pv 10) pa_nil)) pe_int (nomark _))
  (pss_one (ps_ret (pe_tup (pa_cons pe_str (pa_cons (pe_cal c_circle_within (hr.mono (by decide)) (by rfl) (pa_cons (pv 1) (pa_cons (pv 2) (pa_cons (pv 0) (pa_cons (pv 3) (pa_cons (pe_ix ix_list (pv 7) (pv 9) (fun _ _ => rfl)) pa_nil)))))) pa_nil)))))
  pss_nil)
  (pss_one (ps_expr (pe_bm PySem.F.plainAttrs_list PySem.F.slot_list_append PySem.F.type_list_append mt_append (pv 8) (pa_cons (pe_tup (pa_cons (pv 9) (pa_cons (pe_ix ix_list (pv 10) pe_int (fun _ _ => rfl)) pa_nil))) pa_nil)))))))
  (pss_cons (ps_set (i := 11) sc_circle_decision.nd rfl (Or.inl rfl) (pe_callTy call_tupQ (by rfl) T.tuple (by decide +kernel) (pa_cons (pe_lc (own := [("gram", 13), ("matched", 14)]) (g := (gTup K 2 (gCons (gName 13) (gCons (gName 14) gNil)))) (tt := tYes) rfl sc_circle_decision.nd (pi_tup (pe_cal c_state_list (hr.mono (by decide)) (by rfl) (pa_cons (pv 1) (pa_cons (pv 2) pa_nil)))) (blkOk_by (own := [("gram", 13), ("matched", 14)]) (N := n_circle_decision) (sc := defScope s_circle_decision) (by decide +kernel)) (fun _ _ _ _ _ => (pg_tup rfl (pgs_cons (pg_name (i := 13) sc_circle_decision.nd rfl (Or.inl rfl)) (pgs_cons (pg_name (i := 14) sc_circle_decision.nd rfl (Or.inl rfl)) pgs_nil)))) (fun _ _ _ _ _ => pts_nil) (fun _ _ _ _ _ => (pe_tup (pa_cons (pv 13) (pa_cons (pv 14) (pa_cons (pe_dget (hu_of hr) (pv 5) (pe_tup (pa_cons (pv 13) (pa_cons (pv 14) pa_nil))) (fun _ _ => rfl)) pa_nil)))))) pa_nil)))
  (pss_one (ps_ret (pe_tup (pa_cons pe_str (pa_cons (pe_tup (pa_cons (pv 11) (pa_cons (pe_callTy call_tupQ (by rfl) T.tuple (by decide +kernel) (pa_cons (pv 8) pa_nil)) pa_nil))) pa_nil))))))))))))
abbrev s_decided : Stmt := topS 44
theorem sc_decided : FnScope n_decided ["pieces", "grain", "word", "shape"] (defScope s_decided) := ⟨rfl, rfl, rfl, by decide +kernel, rfl, by decide +kernel, by decide +kernel⟩
theorem ok_decided (F : Fun K "decided" "decided" s_decided f fd) (T : Txt mg) (c_window_list : Cal P w K mg base "window_list" 1 ["pieces", "grain"] (sp_window_list K)) (c_circle_decision : Cal P w K mg base "circle_decision" 5 ["pieces", "windows", "word"] (sp_circle_decision K))
  (pure : ∀ (vs : List V) (H : Hp) (Q : VK) (E : XK), sp_decided K vs H Q E → t_decided K { nx := fun _ H' => Q .non H', rt := Q } (start n_decided vs) H) : FnOk P w K mg base CX0 6 f fd ["pieces", "grain", "word", "shape"] (sp_decided K) := by
  refine F.ok sc_decided (fun vs H Q E h => ?_) (fun cdv A outer s H vs Q E hr h => ⟨t_decided K, ?_, pure vs H Q E h⟩)
  · obtain ⟨_, _, _, _, rfl, _⟩ := h
    rfl
  · exact (pss_cons (ps_set (i := 4) sc_decided.nd rfl (Or.inl rfl) (pe_cal c_window_list (hr.mono (by decide)) (by rfl) (pa_cons (pv 0) (pa_cons (pv 1) pa_nil))))
  (pss_cons (ps_if (pt_cmpR op_eq (pv 3) pe_str (nomark _))
  (pss_one (ps_ret (pe_cal c_circle_decision (hr.mono (by decide)) (by rfl) (pa_cons (pv 0) (pa_cons (pv 4) (pa_cons (pv 2) pa_nil))))))
  pss_nil)
  (pss_one ps_never)))
abbrev s_check_question : Stmt := topS 45
theorem sc_check_question : FnScope n_check_question ["pieces", "grain", "shape"] (defScope s_check_question) := ⟨rfl, rfl, rfl, by decide +kernel, rfl, by decide +kernel, by decide +kernel⟩
theorem ok_check_question (F : Fun K "check_question" "check_question" s_check_question f fd) (T : Txt mg) (c_check_shards : Cal P w K mg base "check_shards" 1 ["pieces", "grain"] (sp_check_shards K)) (c_check_shape : Cal P w K mg base "check_shape" 1 ["shape"] (sp_check_shape K))
  (pure : ∀ (vs : List V) (H : Hp) (Q : VK) (E : XK), sp_check_question K vs H Q E → t_check_question K { nx := fun _ H' => Q .non H', rt := Q } (start n_check_question vs) H) : FnOk P w K mg base CX0 2 f fd ["pieces", "grain", "shape"] (sp_check_question K) := by
  refine F.ok sc_check_question (fun vs H Q E h => ?_) (fun cdv A outer s H vs Q E hr h => ⟨t_check_question K, ?_, pure vs H Q E h⟩)
  · obtain ⟨_, _, _, rfl, _⟩ := h
    rfl
  · exact (pss_cons (ps_expr (pe_cal c_check_shards (hr.mono (by decide)) (by rfl) (pa_cons (pv 0) (pa_cons (pv 1) pa_nil))))
  (pss_one (ps_expr (pe_cal c_check_shape (hr.mono (by decide)) (by rfl) (pa_cons (pv 2) pa_nil)))))
abbrev s_decide : Stmt := topS 46
theorem sc_decide : FnScope n_decide ["pieces", "grain", "word", "shape"] (defScope s_decide) := ⟨rfl, rfl, rfl, by decide +kernel, rfl, by decide +kernel, by decide +kernel⟩
theorem ok_decide (F : Fun K "decide" "decide" s_decide f fd) (T : Txt mg) (c_check_question : Cal P w K mg base "check_question" 2 ["pieces", "grain", "shape"] (sp_check_question K)) (c_check_word : Cal P w K mg base "check_word" 1 ["word"] (sp_check_word K)) (c_decided : Cal P w K mg base "decided" 6 ["pieces", "grain", "word", "shape"] (sp_decided K))
  (pure : ∀ (vs : List V) (H : Hp) (Q : VK) (E : XK), sp_decide K vs H Q E → t_decide K { nx := fun _ H' => Q .non H', rt := Q } (start n_decide vs) H) : FnOk P w K mg base CX0 7 f fd ["pieces", "grain", "word", "shape"] (sp_decide K) := by
  refine F.ok sc_decide (fun vs H Q E h => ?_) (fun cdv A outer s H vs Q E hr h => ⟨t_decide K, ?_, pure vs H Q E h⟩)
  · obtain ⟨_, _, _, _, rfl, _⟩ := h
    rfl
  · exact (pss_cons (ps_expr (pe_cal c_check_question (hr.mono (by decide)) (by rfl) (pa_cons (pv 0) (pa_cons (pv 1) (pa_cons (pv 3) pa_nil)))))
  (pss_cons (ps_expr (pe_cal c_check_word (hr.mono (by decide)) (by rfl) (pa_cons (pv 2) pa_nil)))
  (pss_cons (ps_if (pt_cmpR op_eq (pv 3) pe_str (nomark _))
  pss_never
  pss_nil)
  (pss_one (ps_ret (pe_cal c_decided (hr.mono (by decide)) (by rfl) (pa_cons (pv 0) (pa_cons (pv 1) (pa_cons (pv 2) (pa_cons (pv 3) pa_nil))))))))))
abbrev s_example : Stmt := topS 47
theorem sc_example : FnScope n_example ["pieces", "grain", "shape"] (defScope s_example) := ⟨rfl, rfl, rfl, by decide +kernel, rfl, by decide +kernel, by decide +kernel⟩
theorem ok_example (F : Fun K "example" "example" s_example f fd) (T : Txt mg) (c_check_question : Cal P w K mg base "check_question" 2 ["pieces", "grain", "shape"] (sp_check_question K)) (c_decided : Cal P w K mg base "decided" 6 ["pieces", "grain", "word", "shape"] (sp_decided K))
  (pure : ∀ (vs : List V) (H : Hp) (Q : VK) (E : XK), sp_example K vs H Q E → t_example K { nx := fun _ H' => Q .non H', rt := Q } (start n_example vs) H) : FnOk P w K mg base CX0 7 f fd ["pieces", "grain", "shape"] (sp_example K) := by
  refine F.ok sc_example (fun vs H Q E h => ?_) (fun cdv A outer s H vs Q E hr h => ⟨t_example K, ?_, pure vs H Q E h⟩)
  · obtain ⟨_, _, _, rfl, _⟩ := h
    rfl
  · exact (pss_cons (ps_expr (pe_cal c_check_question (hr.mono (by decide)) (by rfl) (pa_cons (pv 0) (pa_cons (pv 1) (pa_cons (pv 2) pa_nil)))))
  (pss_cons (ps_if (pt_cmpR op_eq (pv 2) pe_str (nomark _))
  pss_never
  pss_nil)
  (pss_cons (ps_asg (pe_cal c_decided (hr.mono (by decide)) (by rfl) (pa_cons (pv 0) (pa_cons (pv 1) (pa_cons (pe_gs (by rfl) T.NOWHERE) (pa_cons (pv 2) pa_nil))))) (pg_tup rfl (pgs_cons (pg_name (i := 3) sc_example.nd rfl (Or.inl rfl)) (pgs_cons (pg_name (i := 4) sc_example.nd rfl (Or.inl rfl)) pgs_nil))))
  (pss_cons (ps_if (pt_cmpR op_eq (pv 3) pe_str (nomark _))
  (pss_one (ps_ret (pv 4)))
  pss_nil)
  (pss_one (ps_ret pe_non))))))
abbrev s_law_begin : Stmt := topS 49
theorem sc_law_begin : FnScope n_law_begin ["_law_script"] (defScope s_law_begin) := ⟨rfl, rfl, rfl, by decide +kernel, rfl, by decide +kernel, by decide +kernel⟩
theorem ok_law_begin (F : Fun K "_law_begin" "_law_begin" s_law_begin f fd) (T : Txt mg) 
  (pure : ∀ (vs : List V) (H : Hp) (Q : VK) (E : XK), sp_law_begin K vs H Q E → t_law_begin K { nx := fun _ H' => Q .non H', rt := Q } (start n_law_begin vs) H) : FnOk P w K mg base CX0 1 f fd ["_law_script"] (sp_law_begin K) := by
  refine F.ok sc_law_begin (fun vs H Q E h => ?_) (fun cdv A outer s H vs Q E hr h => ⟨t_law_begin K, ?_, pure vs H Q E h⟩)
  · obtain ⟨_, _, rfl, _⟩ := h
    rfl
  · exact (pss_cons (ps_set (i := 1) sc_law_begin.nd rfl (Or.inl rfl) pe_int)
  (pss_cons (ps_for PassesOwn.never rfl (pi_list (pv 0)) (pg_name (i := 2) sc_law_begin.nd rfl (Or.inl rfl))
  (pss_one (ps_set (i := 1) sc_law_begin.nd rfl (Or.inl rfl) (pe_op op_mod (pe_op op_add (pe_op op_add (pe_op op_mul (pv 1) pe_int) (pe_op op_mod (pe_callTy call_intI (by rfl) T.int (by decide +kernel) (pa_cons (pv 2) pa_nil)) pe_int)) pe_int) pe_int))))
  (pss_one (ps_ret (pe_lst (pa_cons (pe_callTy call_listQ (by rfl) T.list (by decide +kernel) (pa_cons (pv 0) pa_nil)) (pa_cons pe_int (pa_cons pe_int (pa_cons (pv 1) pa_nil)))))))))
abbrev s_law_take : Stmt := topS 50
theorem sc_law_take : FnScope n_law_take ["_law_d", "_law_many"] (defScope s_law_take) := ⟨rfl, rfl, rfl, by decide +kernel, rfl, by decide +kernel, by decide +kernel⟩
theorem ok_law_take (F : Fun K "_law_take" "_law_take" s_law_take f fd) (T : Txt mg) 
  (pure : ∀ (vs : List V) (H : Hp) (Q : VK) (E : XK), sp_law_take K vs H Q E → t_law_take K { nx := fun _ H' => Q .non H', rt := Q } (start n_law_take vs) H) : FnOk P w K mg base CX0 1 f fd ["_law_d", "_law_many"] (sp_law_take K) := by
  refine F.ok sc_law_take (fun vs H Q E h => ?_) (fun cdv A outer s H vs Q E hr h => ⟨t_law_take K, ?_, pure vs H Q E h⟩)
  · obtain ⟨_, _, _, rfl, _⟩ := h
    rfl
  · exact (pss_cons (ps_if (PW.pt (pw_and (pt_cmpR op_eq (pe_ix ix_list (pv 0) pe_int (fun _ _ => rfl)) pe_int (nomark _)) (pw_and1 (pt_cmpR op_lt (pe_ix ix_list (pv 0) pe_int (fun _ _ => rfl)) (pe_callB call_lenQ (by rfl) T.len PySem.boot_len (pa_cons (pe_ix ix_list (pv 0) pe_int (fun _ _ => rfl)) pa_nil)) (nomark _)))))
  (pss_cons (ps_asg (pe_callB call_absI (by rfl) T.abs (by decide +kernel) (pa_cons (pe_callTy call_intI (by rfl) T.int (by decide +kernel) (pa_cons (pe_ix ix_list (pe_ix ix_list (pv 0) pe_int (fun _ _ => rfl)) (pe_ix ix_list (pv 0) pe_int (fun _ _ => rfl)) (fun _ _ => rfl)) pa_nil)) pa_nil)) (pg_sub (pv 0) pe_int set_list))
  (pss_cons (ps_asg (pe_op op_add (pe_ix ix_list (pv 0) pe_int (fun _ _ => rfl)) pe_int) (pg_sub (pv 0) pe_int set_list))
  (pss_one (ps_if (pt_cmpR op_lt (pe_ix ix_list (pv 0) pe_int (fun _ _ => rfl)) (pe_op op_pow pe_int pe_int) (nomark _))
  (pss_cons (ps_set (i := 2) sc_law_take.nd rfl (Or.inl rfl) (pe_callTy call_intI (by rfl) T.int (by decide +kernel) (pa_cons (pe_ix ix_list (pv 0) pe_int (fun _ _ => rfl)) pa_nil)))
  (pss_cons (ps_asg pe_int (pg_sub (pv 0) pe_int set_list))
  (pss_one (ps_ret (pe_op op_mod (pv 2) (pv 1))))))
  pss_nil))))
  pss_nil)
  (pss_cons (ps_if (pt_cmpR op_gt (pe_ix ix_list (pv 0) pe_int (fun _ _ => rfl)) pe_int (nomark _))
  (pss_cons (ps_set (i := 3) sc_law_take.nd rfl (Or.inl rfl) (pe_op op_mod (pe_callTy call_intI (by rfl) T.int (by decide +kernel) (pa_cons (pe_ix ix_list (pv 0) pe_int (fun _ _ => rfl)) pa_nil)) (pv 1)))
  (pss_cons (ps_asg (pe_op op_fdiv (pe_callTy call_intI (by rfl) T.int (by decide +kernel) (pa_cons (pe_ix ix_list (pv 0) pe_int (fun _ _ => rfl)) pa_nil)) (pv 1)) (pg_sub (pv 0) pe_int set_list))
  (pss_one (ps_ret (pv 3)))))
  pss_nil)
  (pss_cons (ps_asg (pe_op op_mod (pe_callTy call_intI (by rfl) T.int (by decide +kernel) (pa_cons (pe_op op_add (pe_op op_mul (pe_ix ix_list (pv 0) pe_int (fun _ _ => rfl)) pe_int) pe_int) pa_nil)) pe_int) (pg_sub (pv 0) pe_int set_list))
  (pss_one (ps_ret (pe_op op_mod (pe_callTy call_intI (by rfl) T.int (by decide +kernel) (pa_cons (pe_op op_fdiv (pe_ix ix_list (pv 0) pe_int (fun _ _ => rfl)) pe_int) pa_nil)) (pv 1)))))))
abbrev s_law_letters : Stmt := topS 51
theorem sc_law_letters : FnScope n_law_letters [] (defScope s_law_letters) := ⟨rfl, rfl, rfl, by decide +kernel, rfl, by decide +kernel, by decide +kernel⟩
theorem ok_law_letters (F : Fun K "_law_letters" "_law_letters" s_law_letters f fd) (T : Txt mg) 
  (pure : ∀ (vs : List V) (H : Hp) (Q : VK) (E : XK), sp_law_letters K vs H Q E → t_law_letters K { nx := fun _ H' => Q .non H', rt := Q } (start n_law_letters vs) H) : FnOk P w K mg base CX0 1 f fd [] (sp_law_letters K) := by
  refine F.ok sc_law_letters (fun vs H Q E h => ?_) (fun cdv A outer s H vs Q E hr h => ⟨t_law_letters K, ?_, pure vs H Q E h⟩)
  · obtain ⟨rfl, _⟩ := h
    rfl
  · exact (pss_one (ps_ret pe_str))
abbrev s_law_signs : Stmt := topS 52
theorem sc_law_signs : FnScope n_law_signs ["_law_d"] (defScope s_law_signs) := ⟨rfl, rfl, rfl, by decide +kernel, rfl, by decide +kernel, by decide +kernel⟩
theorem ok_law_signs (F : Fun K "_law_signs" "_law_signs" s_law_signs f fd) (T : Txt mg) (c_law_take : Cal P w K mg base "_law_take" 1 ["_law_d", "_law_many"] (sp_law_take K)) (c_law_letters : Cal P w K mg base "_law_letters" 1 [] (sp_law_letters K))
  (pure : ∀ (vs : List V) (H : Hp) (Q : VK) (E : XK), sp_law_signs K vs H Q E → t_law_signs K { nx := fun _ H' => Q .non H', rt := Q } (start n_law_signs vs) H) : FnOk P w K mg base CX0 2 f fd ["_law_d"] (sp_law_signs K) := by
  refine F.ok sc_law_signs (fun vs H Q E h => ?_) (fun cdv A outer s H vs Q E hr h => ⟨t_law_signs K, ?_, pure vs H Q E h⟩)
  · obtain ⟨_, _, rfl, _⟩ := h
    rfl
  · exact (pss_cons (ps_set (i := 1) sc_law_signs.nd rfl (Or.inl rfl) (pe_tup (pa_cons pe_str (pa_cons pe_str (pa_cons pe_str (pa_cons pe_str (pa_cons pe_str (pa_cons pe_str pa_nil))))))))
  (pss_cons (ps_set (i := 2) sc_law_signs.nd rfl (Or.inl rfl) (pe_ix ix_tup (pv 1) (pe_cal c_law_take (hr.mono (by decide)) (by rfl) (pa_cons (pv 0) (pa_cons pe_int pa_nil))) (fun _ _ => rfl)))
  (pss_cons (ps_if (pt_cmpR op_eq (pe_cal c_law_take (hr.mono (by decide)) (by rfl) (pa_cons (pv 0) (pa_cons pe_int pa_nil))) pe_int (nomark _))
  (pss_cons (ps_set (i := 3) sc_law_signs.nd rfl (Or.inl rfl) (pe_cal c_law_take (hr.mono (by decide)) (by rfl) (pa_cons (pv 0) (pa_cons pe_int pa_nil))))
  (pss_one (ps_set (i := 2) sc_law_signs.nd rfl (Or.inl rfl) (pe_slice sl_strX (pe_cal0 c_law_letters (hr.mono (by decide)) (by rfl)) (po_some (pv 3)) (po_some (pe_op op_add (pe_op op_add (pv 3) pe_int) (pe_cal c_law_take (hr.mono (by decide)) (by rfl) (pa_cons (pv 0) (pa_cons pe_int pa_nil)))))))))
  pss_nil)
  (pss_one (ps_ret (pv 2))))))
abbrev s_law_text : Stmt := topS 53
theorem sc_law_text : FnScope n_law_text ["_law_d", "_law_signs_here", "_law_size"] (defScope s_law_text) := ⟨rfl, rfl, rfl, by decide +kernel, rfl, by decide +kernel, by decide +kernel⟩
theorem ok_law_text (F : Fun K "_law_text" "_law_text" s_law_text f fd) (T : Txt mg) (c_law_take : Cal P w K mg base "_law_take" 1 ["_law_d", "_law_many"] (sp_law_take K))
  (pure : ∀ (vs : List V) (H : Hp) (Q : VK) (E : XK), sp_law_text K vs H Q E → t_law_text K { nx := fun _ H' => Q .non H', rt := Q } (start n_law_text vs) H) : FnOk P w K mg base CX0 2 f fd ["_law_d", "_law_signs_here", "_law_size"] (sp_law_text K) := by
  refine F.ok sc_law_text (fun vs H Q E h => ?_) (fun cdv A outer s H vs Q E hr h => ⟨t_law_text K, ?_, pure vs H Q E h⟩)
  · obtain ⟨_, _, _, _, rfl, _⟩ := h
    rfl
  · exact (pss_one (ps_ret (pe_m1 PySem.F.slot_str_join PySem.F.type_str_join mt_joinX pe_str (pe_lc (own := [("_law_k", 3)]) (g := (gName 3)) (tt := tYes) rfl sc_law_text.nd (pi_range1 (by rfl) T.range (pa_cons (pv 2) pa_nil)) (blkOk_by (own := [("_law_k", 3)]) (N := n_law_text) (sc := defScope s_law_text) (by decide +kernel)) (fun _ _ _ _ _ => (pg_name (i := 3) sc_law_text.nd rfl (Or.inl rfl))) (fun _ _ _ _ _ => pts_nil) (fun _ _ _ _ _ => (pe_ix ix_strX (pv 1) (pe_cal c_law_take (hr.mono (by decide)) (by rfl) (pa_cons (pv 0) (pa_cons (pe_callB call_lenX (by rfl) T.len PySem.boot_len (pa_cons (pv 1) pa_nil)) pa_nil))) (fun _ _ => rfl)))))))
abbrev s_law_rich : Stmt := topS 54
theorem sc_law_rich : FnScope n_law_rich ["_law_d", "_law_signs_here", "_law_size"] (defScope s_law_rich) := ⟨rfl, rfl, rfl, by decide +kernel, rfl, by decide +kernel, by decide +kernel⟩
theorem ok_law_rich (F : Fun K "_law_rich" "_law_rich" s_law_rich f fd) (T : Txt mg) (c_law_take : Cal P w K mg base "_law_take" 1 ["_law_d", "_law_many"] (sp_law_take K)) (c_law_text : Cal P w K mg base "_law_text" 2 ["_law_d", "_law_signs_here", "_law_size"] (sp_law_text K))
  (pure : ∀ (vs : List V) (H : Hp) (Q : VK) (E : XK), sp_law_rich K vs H Q E → t_law_rich K { nx := fun _ H' => Q .non H', rt := Q } (start n_law_rich vs) H) : FnOk P w K mg base CX0 3 f fd ["_law_d", "_law_signs_here", "_law_size"] (sp_law_rich K) := by
  refine F.ok sc_law_rich (fun vs H Q E h => ?_) (fun cdv A outer s H vs Q E hr h => ⟨t_law_rich K, ?_, pure vs H Q E h⟩)
  · obtain ⟨_, _, _, _, rfl, _⟩ := h
    rfl
  · exact (pss_cons (ps_set (i := 3) sc_law_rich.nd rfl (Or.inl rfl) (pe_cal c_law_text (hr.mono (by decide)) (by rfl) (pa_cons (pv 0) (pa_cons (pv 1) (pa_cons (pe_op op_add pe_int (pe_cal c_law_take (hr.mono (by decide)) (by rfl) (pa_cons (pv 0) (pa_cons pe_int pa_nil)))) pa_nil)))))
  (pss_cons (ps_while PassesOwn.never (pt_cmpR op_lt (pe_callB call_lenX (by rfl) T.len PySem.boot_len (pa_cons (pv 3) pa_nil)) (pv 2) (nomark _))
  (pss_cons (ps_set (i := 4) sc_law_rich.nd rfl (Or.inl rfl) (pe_cal c_law_take (hr.mono (by decide)) (by rfl) (pa_cons (pv 0) (pa_cons pe_int pa_nil))))
  (pss_one (ps_if (pt_cmpR op_eq (pv 4) pe_int (nomark _))
  (pss_one (ps_set (i := 3) sc_law_rich.nd rfl (Or.inl rfl) (pe_op op_addX (pv 3) (pv 3))))
  (pss_one (ps_if (pt_cmpR op_eq (pv 4) pe_int (nomark _))
  (pss_cons (ps_set (i := 5) sc_law_rich.nd rfl (Or.inl rfl) (pe_cal c_law_take (hr.mono (by decide)) (by rfl) (pa_cons (pv 0) (pa_cons (pe_callB call_lenX (by rfl) T.len PySem.boot_len (pa_cons (pv 3) pa_nil)) pa_nil))))
  (pss_one (ps_set (i := 3) sc_law_rich.nd rfl (Or.inl rfl) (pe_op op_addX (pv 3) (pe_slice sl_strX (pv 3) (po_some (pv 5)) (po_some (pe_op op_add (pv 5) pe_int)))))))
  (pss_one (ps_set (i := 3) sc_law_rich.nd rfl (Or.inl rfl) (pe_op op_addX (pv 3) (pe_ix ix_strX (pv 1) (pe_cal c_law_take (hr.mono (by decide)) (by rfl) (pa_cons (pv 0) (pa_cons (pe_callB call_lenX (by rfl) T.len PySem.boot_len (pa_cons (pv 1) pa_nil)) pa_nil))) (fun _ _ => rfl)))))))))))
  (pss_one (ps_ret (pe_slice sl_strX (pv 3) po_none (po_some (pv 2)))))))
abbrev s_law_round : Stmt := topS 55
theorem sc_law_round : FnScope n_law_round ["_law_circle", "_law_start", "_law_count"] (defScope s_law_round) := ⟨rfl, rfl, rfl, by decide +kernel, rfl, by decide +kernel, by decide +kernel⟩
theorem ok_law_round (F : Fun K "_law_round" "_law_round" s_law_round f fd) (T : Txt mg) 
  (pure : ∀ (vs : List V) (H : Hp) (Q : VK) (E : XK), sp_law_round K vs H Q E → t_law_round K { nx := fun _ H' => Q .non H', rt := Q } (start n_law_round vs) H) : FnOk P w K mg base CX0 1 f fd ["_law_circle", "_law_start", "_law_count"] (sp_law_round K) := by
  refine F.ok sc_law_round (fun vs H Q E h => ?_) (fun cdv A outer s H vs Q E hr h => ⟨t_law_round K, ?_, pure vs H Q E h⟩)
  · obtain ⟨_, _, _, rfl, _⟩ := h
    rfl
  · exact (pss_one (ps_ret (pe_m1 PySem.F.slot_str_join PySem.F.type_str_join mt_joinX pe_str (pe_lc (own := [("_law_k", 3)]) (g := (gName 3)) (tt := tYes) rfl sc_law_round.nd (pi_range1 (by rfl) T.range (pa_cons (pv 2) pa_nil)) (blkOk_by (own := [("_law_k", 3)]) (N := n_law_round) (sc := defScope s_law_round) (by decide +kernel)) (fun _ _ _ _ _ => (pg_name (i := 3) sc_law_round.nd rfl (Or.inl rfl))) (fun _ _ _ _ _ => pts_nil) (fun _ _ _ _ _ => (pe_ix ix_strX (pv 0) (pe_op op_mod (pe_callTy call_intI (by rfl) T.int (by decide +kernel) (pa_cons (pe_op op_add (pv 1) (pv 3)) pa_nil)) (pe_callB call_lenX (by rfl) T.len PySem.boot_len (pa_cons (pv 0) pa_nil))) (fun _ _ => rfl)))))))
abbrev s_law_on_circle : Stmt := topS 56
theorem sc_law_on_circle : FnScope n_law_on_circle ["_law_circle", "_law_word_here"] (defScope s_law_on_circle) := ⟨rfl, rfl, rfl, by decide +kernel, rfl, by decide +kernel, by decide +kernel⟩
theorem ok_law_on_circle (F : Fun K "_law_on_circle" "_law_on_circle" s_law_on_circle f fd) (T : Txt mg) (c_law_round : Cal P w K mg base "_law_round" 1 ["_law_circle", "_law_start", "_law_count"] (sp_law_round K))
  (pure : ∀ (vs : List V) (H : Hp) (Q : VK) (E : XK), sp_law_on_circle K vs H Q E → t_law_on_circle K { nx := fun _ H' => Q .non H', rt := Q } (start n_law_on_circle vs) H) : FnOk P w K mg base CX0 2 f fd ["_law_circle", "_law_word_here"] (sp_law_on_circle K) := by
  refine F.ok sc_law_on_circle (fun vs H Q E h => ?_) (fun cdv A outer s H vs Q E hr h => ⟨t_law_on_circle K, ?_, pure vs H Q E h⟩)
  · obtain ⟨_, _, rfl, _⟩ := h
    rfl
  · exact (pss_one (ps_ret (pe_cmpR op_gt (pe_callB call_lenQ (by rfl) T.len PySem.boot_len (pa_cons (pe_lc (own := [("_law_p", 2)]) (g := (gName 2)) (tt := (tTest (tOp rEq (tCall (sp_law_round K) [] E0 (tCons (tVar 0) (tCons (tVar 2) (tCons (tCB rLenX (tCons (tVar 1) tNil)) tNil)))) (tVar 1)))) rfl sc_law_on_circle.nd (pi_range1 (by rfl) T.range (pa_cons (pe_callB call_lenX (by rfl) T.len PySem.boot_len (pa_cons (pv 0) pa_nil)) pa_nil)) (blkOk_by (own := [("_law_p", 2)]) (N := n_law_on_circle) (sc := defScope s_law_on_circle) (by decide +kernel)) (fun _ _ _ _ _ => (pg_name (i := 2) sc_law_on_circle.nd rfl (Or.inl rfl))) (fun _ _ _ _ _ => (pts_one (pt_cmpR op_eq (pe_cal c_law_round (hr.mono (by decide)) (by rfl) (pa_cons (pv 0) (pa_cons (pv 2) (pa_cons (pe_callB call_lenX (by rfl) T.len PySem.boot_len (pa_cons (pv 1) pa_nil)) pa_nil)))) (pv 1) (nomark _)))) (fun _ _ _ _ _ => (pv 2))) pa_nil)) pe_int (nomark _))))
abbrev s_law_windows : Stmt := topS 57
theorem sc_law_windows : FnScope n_law_windows ["_law_pieces", "_law_grain"] (defScope s_law_windows) := ⟨rfl, rfl, rfl, by decide +kernel, rfl, by decide +kernel, by decide +kernel⟩
theorem ok_law_windows (F : Fun K "_law_windows" "_law_windows" s_law_windows f fd) (T : Txt mg) 
  (pure : ∀ (vs : List V) (H : Hp) (Q : VK) (E : XK), sp_law_windows K vs H Q E → t_law_windows K { nx := fun _ H' => Q .non H', rt := Q } (start n_law_windows vs) H) : FnOk P w K mg base CX0 1 f fd ["_law_pieces", "_law_grain"] (sp_law_windows K) := by
  refine F.ok sc_law_windows (fun vs H Q E h => ?_) (fun cdv A outer s H vs Q E hr h => ⟨t_law_windows K, ?_, pure vs H Q E h⟩)
  · obtain ⟨_, _, _, rfl, _⟩ := h
    rfl
  · exact (pss_cons (ps_set (i := 2) sc_law_windows.nd rfl (Or.inl rfl) (pe_lst pa_nil))
  (pss_cons (ps_for PassesOwn.never rfl (pi_tup (pv 0)) (pg_name (i := 3) sc_law_windows.nd rfl (Or.inl rfl))
  (pss_one (ps_for PassesOwn.never rfl (pi_range1 (by rfl) T.range (pa_cons (pe_op op_add (pe_op op_sub (pe_callB call_lenX (by rfl) T.len PySem.boot_len (pa_cons (pv 3) pa_nil)) (pv 1)) pe_int) pa_nil)) (pg_name (i := 4) sc_law_windows.nd rfl (Or.inl rfl))
  (pss_one (ps_if (pt_cmpR op_notIn_seq (pe_slice sl_strX (pv 3) (po_some (pv 4)) (po_some (pe_op op_add (pv 4) (pv 1)))) (pv 2) (by rfl))
  (pss_one (ps_expr (pe_bm PySem.F.plainAttrs_list PySem.F.slot_list_append PySem.F.type_list_append mt_append (pv 2) (pa_cons (pe_slice sl_strX (pv 3) (po_some (pv 4)) (po_some (pe_op op_add (pv 4) (pv 1)))) pa_nil))))
  pss_nil)))))
  (pss_one (ps_ret (pe_callB cr_sortX (by rfl) T.sorted (by decide +kernel) (pa_cons (pv 2) pa_nil))))))
abbrev s_law_explains : Stmt := topS 58
theorem sc_law_explains : FnScope n_law_explains ["_law_pieces", "_law_grain", "_law_text_here", "_law_shape"] (defScope s_law_explains) := ⟨rfl, rfl, rfl, by decide +kernel, rfl, by decide +kernel, by decide +kernel⟩
theorem ok_law_explains (F : Fun K "_law_explains" "_law_explains" s_law_explains f fd) (T : Txt mg) (c_law_windows : Cal P w K mg base "_law_windows" 1 ["_law_pieces", "_law_grain"] (sp_law_windows K)) (c_law_round : Cal P w K mg base "_law_round" 1 ["_law_circle", "_law_start", "_law_count"] (sp_law_round K)) (c_law_on_circle : Cal P w K mg base "_law_on_circle" 2 ["_law_circle", "_law_word_here"] (sp_law_on_circle K))
  (pure : ∀ (vs : List V) (H : Hp) (Q : VK) (E : XK), sp_law_explains K vs H Q E → t_law_explains K { nx := fun _ H' => Q .non H', rt := Q } (start n_law_explains vs) H) : FnOk P w K mg base CX0 3 f fd ["_law_pieces", "_law_grain", "_law_text_here", "_law_shape"] (sp_law_explains K) := by
  refine F.ok sc_law_explains (fun vs H Q E h => ?_) (fun cdv A outer s H vs Q E hr h => ⟨t_law_explains K, ?_, pure vs H Q E h⟩)
  · obtain ⟨_, _, _, _, rfl, _⟩ := h
    rfl
  · exact (pss_cons (ps_set (i := 4) sc_law_explains.nd rfl (Or.inr rfl) (pe_cal c_law_windows (hr.mono (by decide)) (by rfl) (pa_cons (pv 0) (pa_cons (pv 1) pa_nil))))
  (pss_cons (ps_if (pt_cmpR op_eq (pv 3) pe_str (nomark _))
  (pss_cons (ps_if (PW.pt (pw_or (pt_cmpR op_eq (pv 2) pe_str (nomark _)) (pw_or1 (pt_not (pt_val (pe_callB (cr_allB rfl) (by rfl) T.all (by decide +kernel) (pa_cons (pe_lc (own := [("_law_p", 6)]) (g := (gName 6)) (tt := tYes) rfl sc_law_explains.nd (pi_range1 (by rfl) T.range (pa_cons (pe_callB call_lenX (by rfl) T.len PySem.boot_len (pa_cons (pv 2) pa_nil)) pa_nil)) (blkOk_by (own := [("_law_p", 6)]) (N := n_law_explains) (sc := defScope s_law_explains) (by decide +kernel)) (fun _ _ _ _ _ => (pg_name (i := 6) sc_law_explains.nd rfl (Or.inl rfl))) (fun _ _ _ _ _ => pts_nil) (fun _ _ _ _ _ => (pe_cmpR op_in_seq (pe_cal c_law_round (hr.mono (by decide)) (by rfl) (pa_cons (pv 2) (pa_cons (pv 6) (pa_cons (pv 1) pa_nil)))) (pv 4) (by rfl)))) pa_nil)))))))
  (pss_one (ps_ret pe_bl))
  pss_nil)
  (pss_one (ps_ret (pe_callB (cr_allB rfl) (by rfl) T.all (by decide +kernel) (pa_cons (pe_lc (own := [("_law_piece", 5)]) (g := (gName 5)) (tt := tYes) rfl sc_law_explains.nd (pi_tup (pv 0)) (blkOk_by (own := [("_law_piece", 5)]) (N := n_law_explains) (sc := defScope s_law_explains) (by decide +kernel)) (fun _ _ _ _ _ => (pg_name (i := 5) sc_law_explains.nd rfl (Or.inl rfl))) (fun _ _ _ _ _ => pts_nil) (fun _ _ _ _ _ => (pe_cal c_law_on_circle (hr.mono (by decide)) (by rfl) (pa_cons (pv 2) (pa_cons (pv 5) pa_nil))))) pa_nil)))))
  pss_nil)
  (pss_cons ps_never
  (pss_one ps_never))))
abbrev s_law_cut : Stmt := topS 59
theorem sc_law_cut : FnScope n_law_cut ["_law_d", "_law_text_here", "_law_grain", "_law_shape", "_law_many"] (defScope s_law_cut) := ⟨rfl, rfl, rfl, by decide +kernel, rfl, by decide +kernel, by decide +kernel⟩
theorem ok_law_cut (F : Fun K "_law_cut" "_law_cut" s_law_cut f fd) (T : Txt mg) (c_law_take : Cal P w K mg base "_law_take" 1 ["_law_d", "_law_many"] (sp_law_take K)) (c_law_round : Cal P w K mg base "_law_round" 1 ["_law_circle", "_law_start", "_law_count"] (sp_law_round K))
  (pure : ∀ (vs : List V) (H : Hp) (Q : VK) (E : XK), sp_law_cut K vs H Q E → t_law_cut K { nx := fun _ H' => Q .non H', rt := Q } (start n_law_cut vs) H) : FnOk P w K mg base CX0 2 f fd ["_law_d", "_law_text_here", "_law_grain", "_law_shape", "_law_many"] (sp_law_cut K) := by
  refine F.ok sc_law_cut (fun vs H Q E h => ?_) (fun cdv A outer s H vs Q E hr h => ⟨t_law_cut K, ?_, pure vs H Q E h⟩)
  · obtain ⟨_, _, _, _, rfl, _⟩ := h
    rfl
  · exact (pss_cons (ps_set (i := 5) sc_law_cut.nd rfl (Or.inl rfl) (pe_lst pa_nil))
  (pss_cons (ps_if (pt_cmpR op_eq (pv 3) pe_str (nomark _))
  (pss_cons (ps_set (i := 6) sc_law_cut.nd rfl (Or.inl rfl) (pe_op op_add pe_int (pe_cal c_law_take (hr.mono (by decide)) (by rfl) (pa_cons (pv 0) (pa_cons pe_int pa_nil)))))
  (pss_cons (ps_set (i := 7) sc_law_cut.nd rfl (Or.inl rfl) pe_int)
  (pss_one (ps_while PassesOwn.never (pt_cmpR op_lt (pv 7) (pe_callB call_lenX (by rfl) T.len PySem.boot_len (pa_cons (pv 1) pa_nil)) (nomark _))
  (pss_cons (ps_set (i := 8) sc_law_cut.nd rfl (Or.inl rfl) (pe_op op_add (pe_op op_add (pe_op op_sub (pv 2) pe_int) (pv 6)) (pe_cal c_law_take (hr.mono (by decide)) (by rfl) (pa_cons (pv 0) (pa_cons pe_int pa_nil)))))
  (pss_cons (ps_expr (pe_bm PySem.F.plainAttrs_list PySem.F.slot_list_append PySem.F.type_list_append mt_append (pv 5) (pa_cons (pe_cal c_law_round (hr.mono (by decide)) (by rfl) (pa_cons (pv 1) (pa_cons (pv 7) (pa_cons (pe_callB (call_minI rfl) (by rfl) T.min (by decide +kernel) (pa_cons pe_int (pa_cons (pe_callB (call_maxI rfl) (by rfl) T.max (by decide +kernel) (pa_cons (pv 2) (pa_cons (pv 8) pa_nil))) pa_nil))) pa_nil)))) pa_nil)))
  (pss_one (ps_set (i := 7) sc_law_cut.nd rfl (Or.inl rfl) (pe_op op_add (pv 7) (pv 6))))))))))
  pss_never)
  (pss_cons (ps_if (pt_cmpR op_eq (pe_callB call_lenQ (by rfl) T.len PySem.boot_len (pa_cons (pv 5) pa_nil)) pe_int (nomark _))
  (pss_one (ps_expr (pe_bm PySem.F.plainAttrs_list PySem.F.slot_list_append PySem.F.type_list_append mt_append (pv 5) (pa_cons (pe_cal c_law_round (hr.mono (by decide)) (by rfl) (pa_cons (pv 1) (pa_cons pe_int (pa_cons (pv 2) pa_nil)))) pa_nil))))
  pss_nil)
  (pss_cons (ps_set (i := 9) sc_law_cut.nd rfl (Or.inl rfl) (pe_cal c_law_take (hr.mono (by decide)) (by rfl) (pa_cons (pv 0) (pa_cons (pe_callB call_lenQ (by rfl) T.len PySem.boot_len (pa_cons (pv 5) pa_nil)) pa_nil))))
  (pss_one (ps_ret (pe_callTy call_tupQ (by rfl) T.tuple (by decide +kernel) (pa_cons (pe_slice sl_list (pe_op op_cat (pe_slice sl_list (pv 5) (po_some (pv 9)) po_none) (pe_slice sl_list (pv 5) po_none (po_some (pv 9)))) po_none (po_some (pv 4))) pa_nil))))))))
abbrev s_law_shards : Stmt := topS 60
theorem sc_law_shards : FnScope n_law_shards ["_law_d", "_law_shape"] (defScope s_law_shards) := ⟨rfl, rfl, rfl, by decide +kernel, rfl, by decide +kernel, by decide +kernel⟩
theorem ok_law_shards (F : Fun K "_law_shards" "_law_shards" s_law_shards f fd) (T : Txt mg) (c_law_signs : Cal P w K mg base "_law_signs" 2 ["_law_d"] (sp_law_signs K)) (c_law_take : Cal P w K mg base "_law_take" 1 ["_law_d", "_law_many"] (sp_law_take K)) (c_law_rich : Cal P w K mg base "_law_rich" 3 ["_law_d", "_law_signs_here", "_law_size"] (sp_law_rich K)) (c_law_cut : Cal P w K mg base "_law_cut" 2 ["_law_d", "_law_text_here", "_law_grain", "_law_shape", "_law_many"] (sp_law_cut K)) (c_law_text : Cal P w K mg base "_law_text" 2 ["_law_d", "_law_signs_here", "_law_size"] (sp_law_text K))
  (pure : ∀ (vs : List V) (H : Hp) (Q : VK) (E : XK), sp_law_shards K vs H Q E → t_law_shards K { nx := fun _ H' => Q .non H', rt := Q } (start n_law_shards vs) H) : FnOk P w K mg base CX0 4 f fd ["_law_d", "_law_shape"] (sp_law_shards K) := by
  refine F.ok sc_law_shards (fun vs H Q E h => ?_) (fun cdv A outer s H vs Q E hr h => ⟨t_law_shards K, ?_, pure vs H Q E h⟩)
  · obtain ⟨_, _, rfl, _⟩ := h
    rfl
  · exact (pss_cons (ps_set (i := 2) sc_law_shards.nd rfl (Or.inl rfl) (pe_cal c_law_signs (hr.mono (by decide)) (by rfl) (pa_cons (pv 0) pa_nil)))
  (pss_cons (ps_set (i := 3) sc_law_shards.nd rfl (Or.inl rfl) (pe_op op_add pe_int (pe_cal c_law_take (hr.mono (by decide)) (by rfl) (pa_cons (pv 0) (pa_cons pe_int pa_nil)))))
  (pss_cons (ps_set (i := 4) sc_law_shards.nd rfl (Or.inl rfl) (pe_cal c_law_rich (hr.mono (by decide)) (by rfl) (pa_cons (pv 0) (pa_cons (pv 2) (pa_cons (pe_op op_add (pv 3) (pe_cal c_law_take (hr.mono (by decide)) (by rfl) (pa_cons (pv 0) (pa_cons pe_int pa_nil)))) pa_nil)))))
  (pss_cons (ps_set (i := 5) sc_law_shards.nd rfl (Or.inl rfl) (pe_cal c_law_cut (hr.mono (by decide)) (by rfl) (pa_cons (pv 0) (pa_cons (pv 4) (pa_cons (pv 3) (pa_cons (pv 1) (pa_cons pe_int pa_nil)))))))
  (pss_cons (ps_if (pt_cmpR op_eq (pe_cal c_law_take (hr.mono (by decide)) (by rfl) (pa_cons (pv 0) (pa_cons pe_int pa_nil))) pe_int (nomark _))
  (pss_one (ps_set (i := 5) sc_law_shards.nd rfl (Or.inl rfl) (pe_op op_catT (pv 5) (pe_tup (pa_cons (pe_cal c_law_text (hr.mono (by decide)) (by rfl) (pa_cons (pv 0) (pa_cons (pv 2) (pa_cons (pe_op op_add (pv 3) (pe_cal c_law_take (hr.mono (by decide)) (by rfl) (pa_cons (pv 0) (pa_cons pe_int pa_nil)))) pa_nil)))) pa_nil)))))
  pss_nil)
  (pss_one (ps_ret (pe_tup (pa_cons (pe_slice sl_tupA (pv 5) po_none (po_some pe_int)) (pa_cons (pv 3) (pa_cons (pv 4) (pa_cons (pv 2) pa_nil))))))))))))
abbrev s_law_word : Stmt := topS 61
theorem sc_law_word : FnScope n_law_word ["_law_d", "_law_pieces", "_law_text_here", "_law_signs_here", "_law_most"] (defScope s_law_word) := ⟨rfl, rfl, rfl, by decide +kernel, rfl, by decide +kernel, by decide +kernel⟩
theorem ok_law_word (F : Fun K "_law_word" "_law_word" s_law_word f fd) (T : Txt mg) (c_law_take : Cal P w K mg base "_law_take" 1 ["_law_d", "_law_many"] (sp_law_take K)) (c_law_text : Cal P w K mg base "_law_text" 2 ["_law_d", "_law_signs_here", "_law_size"] (sp_law_text K)) (c_law_round : Cal P w K mg base "_law_round" 1 ["_law_circle", "_law_start", "_law_count"] (sp_law_round K))
  (pure : ∀ (vs : List V) (H : Hp) (Q : VK) (E : XK), sp_law_word K vs H Q E → t_law_word K { nx := fun _ H' => Q .non H', rt := Q } (start n_law_word vs) H) : FnOk P w K mg base CX0 3 f fd ["_law_d", "_law_pieces", "_law_text_here", "_law_signs_here", "_law_most"] (sp_law_word K) := by
  refine F.ok sc_law_word (fun vs H Q E h => ?_) (fun cdv A outer s H vs Q E hr h => ⟨t_law_word K, ?_, pure vs H Q E h⟩)
  · obtain ⟨_, _, _, _, _, _, _, rfl, _⟩ := h
    rfl
  · exact (pss_cons (ps_set (i := 5) sc_law_word.nd rfl (Or.inl rfl) (pe_cal c_law_take (hr.mono (by decide)) (by rfl) (pa_cons (pv 0) (pa_cons pe_int pa_nil))))
  (pss_cons (ps_set (i := 6) sc_law_word.nd rfl (Or.inl rfl) (pe_op op_add pe_int (pe_cal c_law_take (hr.mono (by decide)) (by rfl) (pa_cons (pv 0) (pa_cons (pv 4) pa_nil)))))
  (pss_cons (ps_if (pt_cmpR op_eq (pv 5) pe_int (nomark _))
  (pss_one (ps_ret (pe_cal c_law_text (hr.mono (by decide)) (by rfl) (pa_cons (pv 0) (pa_cons (pv 3) (pa_cons (pv 6) pa_nil))))))
  pss_nil)
  (pss_cons (ps_if (pt_cmpR op_eq (pv 5) pe_int (nomark _))
  (pss_cons (ps_set (i := 7) sc_law_word.nd rfl (Or.inl rfl) (pe_ix ix_tup (pv 1) (pe_cal c_law_take (hr.mono (by decide)) (by rfl) (pa_cons (pv 0) (pa_cons (pe_callB call_lenQ (by rfl) T.len PySem.boot_len (pa_cons (pv 1) pa_nil)) pa_nil))) (fun _ _ => rfl)))
  (pss_cons (ps_set (i := 8) sc_law_word.nd rfl (Or.inl rfl) (pe_cal c_law_take (hr.mono (by decide)) (by rfl) (pa_cons (pv 0) (pa_cons (pe_callB call_lenX (by rfl) T.len PySem.boot_len (pa_cons (pv 7) pa_nil)) pa_nil))))
  (pss_one (ps_ret (pe_slice sl_strX (pv 7) (po_some (pv 8)) (po_some (pe_op op_add (pv 8) (pv 6))))))))
  pss_nil)
  (pss_cons (ps_if (pt_cmpR op_eq (pv 5) pe_int (nomark _))
  (pss_one (ps_ret (pe_op op_addX (pe_cal c_law_round (hr.mono (by decide)) (by rfl) (pa_cons (pv 2) (pa_cons (pe_cal c_law_take (hr.mono (by decide)) (by rfl) (pa_cons (pv 0) (pa_cons (pe_callB call_lenX (by rfl) T.len PySem.boot_len (pa_cons (pv 2) pa_nil)) pa_nil))) (pa_cons (pv 6) pa_nil)))) (pe_cal c_law_text (hr.mono (by decide)) (by rfl) (pa_cons (pv 0) (pa_cons (pv 3) (pa_cons pe_int pa_nil)))))))
  pss_nil)
  (pss_one (ps_ret (pe_cal c_law_round (hr.mono (by decide)) (by rfl) (pa_cons (pv 2) (pa_cons (pe_cal c_law_take (hr.mono (by decide)) (by rfl) (pa_cons (pv 0) (pa_cons (pe_callB call_lenX (by rfl) T.len PySem.boot_len (pa_cons (pv 2) pa_nil)) pa_nil))) (pa_cons (pv 6) pa_nil)))))))))))
abbrev s_law_walk : Stmt := topS 62
theorem sc_law_walk : FnScope n_law_walk ["_law_d", "_law_pieces", "_law_grain", "_law_start", "_law_size"] (defScope s_law_walk) := ⟨rfl, rfl, rfl, by decide +kernel, rfl, by decide +kernel, by decide +kernel⟩
theorem ok_law_walk (F : Fun K "_law_walk" "_law_walk" s_law_walk f fd) (T : Txt mg) (c_law_windows : Cal P w K mg base "_law_windows" 1 ["_law_pieces", "_law_grain"] (sp_law_windows K)) (c_law_take : Cal P w K mg base "_law_take" 1 ["_law_d", "_law_many"] (sp_law_take K))
  (pure : ∀ (vs : List V) (H : Hp) (Q : VK) (E : XK), sp_law_walk K vs H Q E → t_law_walk K { nx := fun _ H' => Q .non H', rt := Q } (start n_law_walk vs) H) : FnOk P w K mg base CX0 2 f fd ["_law_d", "_law_pieces", "_law_grain", "_law_start", "_law_size"] (sp_law_walk K) := by
  refine F.ok sc_law_walk (fun vs H Q E h => ?_) (fun cdv A outer s H vs Q E hr h => ⟨t_law_walk K, ?_, pure vs H Q E h⟩)
  · obtain ⟨_, _, _, _, _, _, _, rfl, _⟩ := h
    rfl
  · exact (pss_cons (ps_set (i := 5) sc_law_walk.nd rfl (Or.inl rfl) (pe_cal c_law_windows (hr.mono (by decide)) (by rfl) (pa_cons (pv 1) (pa_cons (pv 2) pa_nil))))
  (pss_cons (ps_set (i := 6) sc_law_walk.nd rfl (Or.inl rfl) (pv 3))
  (pss_cons (ps_for PassesOwn.never rfl (pi_range1 (by rfl) T.range (pa_cons (pv 4) pa_nil)) (pg_name (i := 7) sc_law_walk.nd rfl (Or.inl rfl))
  (pss_cons (ps_set (i := 8) sc_law_walk.nd rfl (Or.inr rfl) (pe_ifExp (pt_cmpR op_gt (pv 2) pe_int (nomark _)) (pe_slice sl_strX (pv 6) (po_some (pe_op op_add (pe_op op_sub (pe_callB call_lenX (by rfl) T.len PySem.boot_len (pa_cons (pv 6) pa_nil)) (pv 2)) pe_int)) po_none) pe_str))
  (pss_cons (ps_setLc (i := 9) (own := [("_law_window", 10)]) (g := (gName 10)) (tt := (tTest (tOp rEq (tSl rSlX (tVar 10) tNoPart (tPart (tUn uNegI (tC (.int 1))))) (tVar 8)))) rfl sc_law_walk.nd rfl rfl (sw_true rfl rfl rfl (by decide +kernel)) (pi_list (pv 5)) (blkOk_by (own := [("_law_window", 10)]) (N := n_law_walk) (sc := defScope s_law_walk) (by decide +kernel)) (fun _ _ _ _ _ => (pg_name (i := 10) sc_law_walk.nd rfl (Or.inl rfl))) (fun _ _ _ _ _ => (pts_one (pt_cmpR op_eq (pe_slice sl_strX (pv 10) po_none (po_some (pe_un un_neg pe_int))) (pv 8) (nomark _)))) (fun _ _ _ _ _ => (pe_ix ix_strX (pv 10) (pe_un un_neg pe_int) (fun _ _ => rfl))))
  (pss_one (ps_if (pt_cmpR op_gt (pe_callB call_lenQ (by rfl) T.len PySem.boot_len (pa_cons (pv 9) pa_nil)) pe_int (nomark _))
  (pss_one (ps_set (i := 6) sc_law_walk.nd rfl (Or.inl rfl) (pe_op op_addX (pv 6) (pe_ix ix_list (pv 9) (pe_cal c_law_take (hr.mono (by decide)) (by rfl) (pa_cons (pv 0) (pa_cons (pe_callB call_lenQ (by rfl) T.len PySem.boot_len (pa_cons (pv 9) pa_nil)) pa_nil))) (fun _ _ => rfl)))))
  pss_nil)))))
  (pss_one (ps_ret (pv 6))))))
abbrev s_law_joined : Stmt := topS 63
theorem sc_law_joined : FnScope n_law_joined ["_law_d", "_law_pieces", "_law_grain"] (defScope s_law_joined) := ⟨rfl, rfl, rfl, by decide +kernel, rfl, by decide +kernel, by decide +kernel⟩
theorem ok_law_joined (F : Fun K "_law_joined" "_law_joined" s_law_joined f fd) (T : Txt mg) (c_law_take : Cal P w K mg base "_law_take" 1 ["_law_d", "_law_many"] (sp_law_take K)) (c_law_walk : Cal P w K mg base "_law_walk" 2 ["_law_d", "_law_pieces", "_law_grain", "_law_start", "_law_size"] (sp_law_walk K))
  (pure : ∀ (vs : List V) (H : Hp) (Q : VK) (E : XK), sp_law_joined K vs H Q E → t_law_joined K { nx := fun _ H' => Q .non H', rt := Q } (start n_law_joined vs) H) : FnOk P w K mg base CX0 3 f fd ["_law_d", "_law_pieces", "_law_grain"] (sp_law_joined K) := by
  refine F.ok sc_law_joined (fun vs H Q E h => ?_) (fun cdv A outer s H vs Q E hr h => ⟨t_law_joined K, ?_, pure vs H Q E h⟩)
  · obtain ⟨_, _, _, _, _, rfl, _⟩ := h
    rfl
  · exact (pss_cons (ps_set (i := 3) sc_law_joined.nd rfl (Or.inl rfl) (pe_lst pa_nil))
  (pss_cons (ps_set (i := 4) sc_law_joined.nd rfl (Or.inl rfl) (pe_callTy call_listQ (by rfl) T.list (by decide +kernel) (pa_cons (pv 1) pa_nil)))
  (pss_cons (ps_for PassesOwn.never rfl (pi_range1 (by rfl) T.range (pa_cons (pe_callB call_lenQ (by rfl) T.len PySem.boot_len (pa_cons (pv 1) pa_nil)) pa_nil)) (pg_name (i := 5) sc_law_joined.nd rfl (Or.inl rfl))
  (pss_cons (ps_set (i := 6) sc_law_joined.nd rfl (Or.inl rfl) (pe_cal c_law_take (hr.mono (by decide)) (by rfl) (pa_cons (pv 0) (pa_cons (pe_callB call_lenQ (by rfl) T.len PySem.boot_len (pa_cons (pv 4) pa_nil)) pa_nil))))
  (pss_cons (ps_expr (pe_bm PySem.F.plainAttrs_list PySem.F.slot_list_append PySem.F.type_list_append mt_append (pv 3) (pa_cons (pe_ix ix_list (pv 4) (pv 6) (fun _ _ => rfl)) pa_nil)))
  (pss_one (ps_set (i := 4) sc_law_joined.nd rfl (Or.inl rfl) (pe_op op_cat (pe_slice sl_list (pv 4) po_none (po_some (pv 6))) (pe_slice sl_list (pv 4) (po_some (pe_op op_add (pv 6) pe_int)) po_none)))))))
  (pss_cons (ps_set (i := 7) sc_law_joined.nd rfl (Or.inr rfl) (pe_ix ix_list (pv 3) pe_int (fun _ _ => rfl)))
  (pss_cons (ps_for PassesOwn.never rfl (pi_list (pe_slice sl_list (pv 3) (po_some pe_int) po_none)) (pg_name (i := 8) sc_law_joined.nd rfl (Or.inr rfl))
  (pss_cons (ps_set (i := 7) sc_law_joined.nd rfl (Or.inr rfl) (pe_cal c_law_walk (hr.mono (by decide)) (by rfl) (pa_cons (pv 0) (pa_cons (pv 1) (pa_cons (pv 2) (pa_cons (pv 7) (pa_cons (pe_cal c_law_take (hr.mono (by decide)) (by rfl) (pa_cons (pv 0) (pa_cons pe_int pa_nil))) pa_nil)))))))
  (pss_cons (ps_set (i := 9) sc_law_joined.nd rfl (Or.inl rfl) (pe_callB (call_minI rfl) (by rfl) T.min (by decide +kernel) (pa_cons (pe_callB call_lenX (by rfl) T.len PySem.boot_len (pa_cons (pv 7) pa_nil)) (pa_cons (pe_op op_sub (pe_callB call_lenX (by rfl) T.len PySem.boot_len (pa_cons (pv 8) pa_nil)) pe_int) pa_nil))))
  (pss_cons (ps_setLc (i := 10) (own := [("_law_k", 5)]) (g := (gName 5)) (tt := (tTest (tOp rEq (tSl rSlX (tVar 7) (tPart (tOp rSubI (tCB rLenX (tCons (tVar 7) tNil)) (tVar 5))) tNoPart) (tSl rSlX (tVar 8) tNoPart (tPart (tVar 5)))))) rfl sc_law_joined.nd rfl rfl (sw_true rfl rfl rfl (by decide +kernel)) (pi_range1 (by rfl) T.range (pa_cons (pe_op op_add (pv 9) pe_int) pa_nil)) (blkOk_by (own := [("_law_k", 5)]) (N := n_law_joined) (sc := defScope s_law_joined) (by decide +kernel)) (fun _ _ _ _ _ => (pg_name (i := 5) sc_law_joined.nd rfl (Or.inl rfl))) (fun _ _ _ _ _ => (pts_one (pt_cmpR op_eq (pe_slice sl_strX (pv 7) (po_some (pe_op op_sub (pe_callB call_lenX (by rfl) T.len PySem.boot_len (pa_cons (pv 7) pa_nil)) (pv 5))) po_none) (pe_slice sl_strX (pv 8) po_none (po_some (pv 5))) (nomark _)))) (fun _ _ _ _ _ => (pv 5)))
  (pss_one (ps_set (i := 7) sc_law_joined.nd rfl (Or.inr rfl) (pe_op op_addX (pv 7) (pe_slice sl_strX (pv 8) (po_some (pe_ix ix_list (pv 10) (pe_un un_neg pe_int) (fun _ _ => rfl))) po_none))))))))
  (pss_one (ps_ret (pv 7))))))))
abbrev s_law_closed : Stmt := topS 64
theorem sc_law_closed : FnScope n_law_closed ["_law_d", "_law_pieces", "_law_grain", "_law_start"] (defScope s_law_closed) := ⟨rfl, rfl, rfl, by decide +kernel, rfl, by decide +kernel, by decide +kernel⟩
theorem ok_law_closed (F : Fun K "_law_closed" "_law_closed" s_law_closed f fd) (T : Txt mg) (c_law_walk : Cal P w K mg base "_law_walk" 2 ["_law_d", "_law_pieces", "_law_grain", "_law_start", "_law_size"] (sp_law_walk K)) (c_law_take : Cal P w K mg base "_law_take" 1 ["_law_d", "_law_many"] (sp_law_take K))
  (pure : ∀ (vs : List V) (H : Hp) (Q : VK) (E : XK), sp_law_closed K vs H Q E → t_law_closed K { nx := fun _ H' => Q .non H', rt := Q } (start n_law_closed vs) H) : FnOk P w K mg base CX0 3 f fd ["_law_d", "_law_pieces", "_law_grain", "_law_start"] (sp_law_closed K) := by
  refine F.ok sc_law_closed (fun vs H Q E h => ?_) (fun cdv A outer s H vs Q E hr h => ⟨t_law_closed K, ?_, pure vs H Q E h⟩)
  · obtain ⟨_, _, _, _, _, _, rfl, _⟩ := h
    rfl
  · exact (pss_cons (ps_set (i := 4) sc_law_closed.nd rfl (Or.inr rfl) (pe_cal c_law_walk (hr.mono (by decide)) (by rfl) (pa_cons (pv 0) (pa_cons (pv 1) (pa_cons (pv 2) (pa_cons (pv 3) (pa_cons pe_int pa_nil)))))))
  (pss_cons (ps_setLc (i := 5) (own := [("_law_n", 6)]) (g := (gName 6)) (tt := (tAnd (tTest (tOp rEq (tSl rSlX (tVar 4) (tPart (tVar 6)) (tPart (tOp rSubI (tOp rAddI (tVar 6) (tVar 2)) (tC (.int 1))))) (tSl rSlX (tVar 4) tNoPart (tPart (tOp rSubI (tVar 2) (tC (.int 1))))))) (tTest (tOp rLeI (tOp rSubI (tOp rAddI (tVar 6) (tVar 2)) (tC (.int 1))) (tCB rLenX (tCons (tVar 4) tNil)))))) rfl sc_law_closed.nd rfl rfl (sw_true rfl rfl rfl (by decide +kernel)) (pi_range2 (by rfl) T.range (pa_cons pe_int (pa_cons (pe_callB call_lenX (by rfl) T.len PySem.boot_len (pa_cons (pv 4) pa_nil)) pa_nil))) (blkOk_by (own := [("_law_n", 6)]) (N := n_law_closed) (sc := defScope s_law_closed) (by decide +kernel)) (fun _ _ _ _ _ => (pg_name (i := 6) sc_law_closed.nd rfl (Or.inl rfl))) (fun _ _ _ _ _ => (pts_one (PW.pt (pw_and (pt_cmpR op_eq (pe_slice sl_strX (pv 4) (po_some (pv 6)) (po_some (pe_op op_sub (pe_op op_add (pv 6) (pv 2)) pe_int))) (pe_slice sl_strX (pv 4) po_none (po_some (pe_op op_sub (pv 2) pe_int))) (nomark _)) (pw_and1 (pt_cmpR op_le (pe_op op_sub (pe_op op_add (pv 6) (pv 2)) pe_int) (pe_callB call_lenX (by rfl) T.len PySem.boot_len (pa_cons (pv 4) pa_nil)) (nomark _))))))) (fun _ _ _ _ _ => (pv 6)))
  (pss_one (ps_ret (pe_ifExp (pt_cmpR op_gt (pe_callB call_lenQ (by rfl) T.len PySem.boot_len (pa_cons (pv 5) pa_nil)) pe_int (nomark _)) (pe_slice sl_strX (pv 4) po_none (po_some (pe_ix ix_list (pv 5) (pe_op op_sub (pe_un un_neg pe_int) (pe_cal c_law_take (hr.mono (by decide)) (by rfl) (pa_cons (pv 0) (pa_cons (pe_callB call_lenQ (by rfl) T.len PySem.boot_len (pa_cons (pv 5) pa_nil)) pa_nil)))) (fun _ _ => rfl)))) (pv 4))))))
abbrev s_law : Stmt := topS 65
theorem sc_law : FnScope n_law ["_law_script"] (defScope s_law) := ⟨rfl, rfl, rfl, by decide +kernel, rfl, by decide +kernel, by decide +kernel⟩
theorem ok_law (F : Fun K "law" "law" s_law f fd) (T : Txt mg) (c_law_begin : Cal P w K mg base "_law_begin" 1 ["_law_script"] (sp_law_begin K)) (c_law_shards : Cal P w K mg base "_law_shards" 4 ["_law_d", "_law_shape"] (sp_law_shards K)) (c_law_word : Cal P w K mg base "_law_word" 3 ["_law_d", "_law_pieces", "_law_text_here", "_law_signs_here", "_law_most"] (sp_law_word K)) (c_decide : Cal P w K mg base "decide" 7 ["pieces", "grain", "word", "shape"] (sp_decide K)) (c_law_explains : Cal P w K mg base "_law_explains" 3 ["_law_pieces", "_law_grain", "_law_text_here", "_law_shape"] (sp_law_explains K)) (c_law_on_circle : Cal P w K mg base "_law_on_circle" 2 ["_law_circle", "_law_word_here"] (sp_law_on_circle K)) (c_law_joined : Cal P w K mg base "_law_joined" 3 ["_law_d", "_law_pieces", "_law_grain"] (sp_law_joined K)) (c_law_take : Cal P w K mg base "_law_take" 1 ["_law_d", "_law_many"] (sp_law_take K)) (c_law_text : Cal P w K mg base "_law_text" 2 ["_law_d", "_law_signs_here", "_law_size"] (sp_law_text K)) (c_law_closed : Cal P w K mg base "_law_closed" 3 ["_law_d", "_law_pieces", "_law_grain", "_law_start"] (sp_law_closed K)) (c_example : Cal P w K mg base "example" 7 ["pieces", "grain", "shape"] (sp_example K))
  (pure : ∀ (vs : List V) (H : Hp) (Q : VK) (E : XK), sp_law K vs H Q E → t_law K { nx := fun _ H' => Q .non H', rt := Q } (start n_law vs) H) : FnOk P w K mg base CX0 8 f fd ["_law_script"] (sp_law K) := by
  refine F.ok sc_law (fun vs H Q E h => ?_) (fun cdv A outer s H vs Q E hr h => ⟨t_law K, ?_, pure vs H Q E h⟩)
  · obtain ⟨_, _, rfl, _⟩ := h
    rfl
  · exact (pss_cons (ps_set (i := 1) sc_law.nd rfl (Or.inl rfl) (pe_cal c_law_begin (hr.mono (by decide)) (by rfl) (pa_cons (pv 0) pa_nil)))
  (pss_cons (ps_asg (pe_cal c_law_shards (hr.mono (by decide)) (by rfl) (pa_cons (pv 1) (pa_cons pe_str pa_nil))) (pg_tup rfl (pgs_cons (pg_name (i := 2) sc_law.nd rfl (Or.inl rfl)) (pgs_cons (pg_name (i := 3) sc_law.nd rfl (Or.inl rfl)) (pgs_cons (pg_name (i := 4) sc_law.nd rfl (Or.inl rfl)) (pgs_cons (pg_name (i := 5) sc_law.nd rfl (Or.inl rfl)) pgs_nil))))))
  (pss_cons (ps_set (i := 6) sc_law.nd rfl (Or.inl rfl) (pe_cal c_law_word (hr.mono (by decide)) (by rfl) (pa_cons (pv 1) (pa_cons (pv 2) (pa_cons (pv 4) (pa_cons (pv 5) (pa_cons pe_int pa_nil)))))))
  (pss_cons (ps_asg (pe_cal c_decide (hr.mono (by decide)) (by rfl) (pa_cons (pv 2) (pa_cons (pv 3) (pa_cons (pv 6) (pa_cons pe_str pa_nil))))) (pg_tup rfl (pgs_cons (pg_name (i := 7) sc_law.nd rfl (Or.inl rfl)) (pgs_cons (pg_name (i := 8) sc_law.nd rfl (Or.inl rfl)) pgs_nil))))
  (pss_cons (ps_if (pt_cmpR op_eq (pv 7) pe_str (nomark _))
  (pss_one (ps_ret (pe_and (pe_cal c_law_explains (hr.mono (by decide)) (by rfl) (pa_cons (pv 2) (pa_cons (pv 3) (pa_cons (pv 8) (pa_cons pe_str pa_nil))))) (pe_one (pe_not (pe_cal c_law_on_circle (hr.mono (by decide)) (by rfl) (pa_cons (pv 8) (pa_cons (pv 6) pa_nil))))))))
  pss_nil)
  (pss_cons (ps_if (pt_cmpR op_ne (pv 7) pe_str (nomark _))
  (pss_one (ps_ret pe_bl))
  pss_nil)
  (pss_cons (ps_set (i := 9) sc_law.nd rfl (Or.inl rfl) (pe_lst (pa_cons (pv 4) (pa_cons (pe_op op_addX (pv 4) (pv 4)) (pa_cons (pe_cal c_law_joined (hr.mono (by decide)) (by rfl) (pa_cons (pv 1) (pa_cons (pv 2) (pa_cons (pv 3) pa_nil)))) (pa_cons (pe_cal c_law_text (hr.mono (by decide)) (by rfl) (pa_cons (pv 1) (pa_cons (pv 5) (pa_cons (pe_op op_add pe_int (pe_cal c_law_take (hr.mono (by decide)) (by rfl) (pa_cons (pv 1) (pa_cons pe_int pa_nil)))) pa_nil)))) pa_nil))))))
  (pss_cons (ps_for PassesOwn.never rfl (pi_range1 (by rfl) T.range (pa_cons pe_int pa_nil)) (pg_name (i := 10) sc_law.nd rfl (Or.inl rfl))
  (pss_one (ps_expr (pe_bm PySem.F.plainAttrs_list PySem.F.slot_list_append PySem.F.type_list_append mt_append (pv 9) (pa_cons (pe_cal c_law_closed (hr.mono (by decide)) (by rfl) (pa_cons (pv 1) (pa_cons (pv 2) (pa_cons (pv 3) (pa_cons (pe_ix ix_tup (pv 2) (pe_cal c_law_take (hr.mono (by decide)) (by rfl) (pa_cons (pv 1) (pa_cons (pe_callB call_lenQ (by rfl) T.len PySem.boot_len (pa_cons (pv 2) pa_nil)) pa_nil))) (fun _ _ => rfl)) pa_nil))))) pa_nil)))))
  (pss_cons (ps_expr (pe_bm PySem.F.plainAttrs_list PySem.F.slot_list_append PySem.F.type_list_append mt_append (pv 9) (pa_cons (pe_cal c_law_closed (hr.mono (by decide)) (by rfl) (pa_cons (pv 1) (pa_cons (pv 2) (pa_cons (pv 3) (pa_cons (pe_ix ix_list (pv 9) pe_int (fun _ _ => rfl)) pa_nil))))) pa_nil)))
  (pss_cons (ps_set (i := 11) sc_law.nd rfl (Or.inl rfl) (pe_cal c_example (hr.mono (by decide)) (by rfl) (pa_cons (pv 2) (pa_cons (pv 3) (pa_cons pe_str pa_nil)))))
  (pss_cons (ps_if (pt_cmp (pc_notN (pv 11)))
  (pss_one (ps_expr (pe_bm PySem.F.plainAttrs_list PySem.F.slot_list_append PySem.F.type_list_append mt_append (pv 9) (pa_cons (pv 11) pa_nil))))
  pss_nil)
  (pss_cons (ps_for PassesOwn.never rfl (pi_list (pv 9)) (pg_name (i := 12) sc_law.nd rfl (Or.inl rfl))
  (pss_one (ps_if (PW.pt (pw_and (pt_val (pe_cal c_law_explains (hr.mono (by decide)) (by rfl) (pa_cons (pv 2) (pa_cons (pv 3) (pa_cons (pv 12) (pa_cons pe_str pa_nil)))))) (pw_and1 (pt_not (pt_val (pe_cal c_law_on_circle (hr.mono (by decide)) (by rfl) (pa_cons (pv 12) (pa_cons (pv 6) pa_nil))))))))
  (pss_one (ps_ret pe_bl))
  pss_nil)))
  (pss_one (ps_ret pe_bl))))))))))))))
end
end Tk

/-! TkEnd -/
set_option maxRecDepth 100000
set_option maxHeartbeats 4000000
/-! The joint, printed by gen_end.py. -/
namespace Tk
open PySem PySem.Spec PyProof.Rows L2 Ts TL
def At (K : Fg) (mg : Str → Option Value) (x : Str) (st : Stmt) : Prop := ∃ f fd, Fun K x x st f fd ∧ mg x = some (.ref f) ∧ PySem.W.keepIn K (.ref f) = true
abbrev AtX {K : Fg} {h : Heap} (_ : K.In h) (mg : Str → Option Value) (x : Str) (st : Stmt) : Prop := At K mg x st
theorem mkd {K : Fg} {mg : Str → Option Value} {h : Heap} {x : Str} {st : Stmt} {f : Addr} {oc : Value} {od an : Option Addr} {sl : Array (Option Value)} {kV dc pm cd ct : Value} (X : K.In h) (G : h.Ns mainGlobals mg) (a : PySem.W.nsIn K mainGlobals x = some (some (.ref f)))
    (l : K.lookup f = some ⟨oc, od, .func (PySem.W.fnOf x x (defArgs st) (defBody st) (defScope st) .none kV dc pm an cd ct), sl⟩) (c : PySem.W.codeIn K cd x = true) (k : PySem.W.keepIn K (.ref f) = true) : At K mg x st := ⟨f, _, fun_mk (st := st) l c k, PySem.W.mg_of X G a, k⟩
section
variable {P : Program} {w : World} {K : Fg} {mg : Str → Option Value} {base : Heap}
theorem cal_finished_from (T : Txt mg) (d : At K mg "finished_from" s_finished_from)  : Cal P w K mg base "finished_from" 1 ["ways", "start", "seen", "order"] (sp_finished_from K) := by
  obtain ⟨f, fd, F, hm, hk⟩ := d
  exact ⟨f, fd, ok_finished_from F T  pure_finished_from, hm, hk, F.binds (ps := ["ways", "start", "seen", "order"]) fun _ _ _ _ _ _ us hl => match us, hl with | [_, _, _, _], _ => rfl⟩
theorem cal_turned_around (T : Txt mg) (d : At K mg "turned_around" s_turned_around)  : Cal P w K mg base "turned_around" 1 ["ways"] (sp_turned_around K) := by
  obtain ⟨f, fd, F, hm, hk⟩ := d
  exact ⟨f, fd, ok_turned_around F T  pure_turned_around, hm, hk, F.binds (ps := ["ways"]) fun _ _ _ _ _ _ us hl => match us, hl with | [_], _ => rfl⟩
theorem cal_components_of (T : Txt mg) (d : At K mg "components_of" s_components_of) (c_finished_from : Cal P w K mg base "finished_from" 1 ["ways", "start", "seen", "order"] (sp_finished_from K)) (c_turned_around : Cal P w K mg base "turned_around" 1 ["ways"] (sp_turned_around K)) : Cal P w K mg base "components_of" 2 ["ways"] (sp_components_of K) := by
  obtain ⟨f, fd, F, hm, hk⟩ := d
  exact ⟨f, fd, ok_components_of F T c_finished_from c_turned_around pure_components_of, hm, hk, F.binds (ps := ["ways"]) fun _ _ _ _ _ _ us hl => match us, hl with | [_], _ => rfl⟩
theorem cal_check_shards (T : Txt mg) (d : At K mg "check_shards" s_check_shards)  : Cal P w K mg base "check_shards" 1 ["pieces", "grain"] (sp_check_shards K) := by
  obtain ⟨f, fd, F, hm, hk⟩ := d
  exact ⟨f, fd, ok_check_shards F T  pure_check_shards, hm, hk, F.binds (ps := ["pieces", "grain"]) fun _ _ _ _ _ _ us hl => match us, hl with | [_, _], _ => rfl⟩
theorem cal_check_shape (T : Txt mg) (d : At K mg "check_shape" s_check_shape)  : Cal P w K mg base "check_shape" 1 ["shape"] (sp_check_shape K) := by
  obtain ⟨f, fd, F, hm, hk⟩ := d
  exact ⟨f, fd, ok_check_shape F T  pure_check_shape, hm, hk, F.binds (ps := ["shape"]) fun _ _ _ _ _ _ us hl => match us, hl with | [_], _ => rfl⟩
theorem cal_window_list (T : Txt mg) (d : At K mg "window_list" s_window_list)  : Cal P w K mg base "window_list" 1 ["pieces", "grain"] (sp_window_list K) := by
  obtain ⟨f, fd, F, hm, hk⟩ := d
  exact ⟨f, fd, ok_window_list F T  pure_window_list, hm, hk, F.binds (ps := ["pieces", "grain"]) fun _ _ _ _ _ _ us hl => match us, hl with | [_, _], _ => rfl⟩
theorem cal_gram_list (T : Txt mg) (d : At K mg "gram_list" s_gram_list)  : Cal P w K mg base "gram_list" 1 ["windows"] (sp_gram_list K) := by
  obtain ⟨f, fd, F, hm, hk⟩ := d
  exact ⟨f, fd, ok_gram_list F T  pure_gram_list, hm, hk, F.binds (ps := ["windows"]) fun _ _ _ _ _ _ us hl => match us, hl with | [_], _ => rfl⟩
theorem cal_following (T : Txt mg) (d : At K mg "following" s_following)  : Cal P w K mg base "following" 1 ["windows", "gram"] (sp_following K) := by
  obtain ⟨f, fd, F, hm, hk⟩ := d
  exact ⟨f, fd, ok_following F T  pure_following, hm, hk, F.binds (ps := ["windows", "gram"]) fun _ _ _ _ _ _ us hl => match us, hl with | [_, _], _ => rfl⟩
theorem cal_advance (T : Txt mg) (d : At K mg "advance" s_advance)  : Cal P w K mg base "advance" 1 ["word", "matched", "letter"] (sp_advance K) := by
  obtain ⟨f, fd, F, hm, hk⟩ := d
  exact ⟨f, fd, ok_advance F T  pure_advance, hm, hk, F.binds (ps := ["word", "matched", "letter"]) fun _ _ _ _ _ _ us hl => match us, hl with | [_, _, _], _ => rfl⟩
theorem cal_check_word (T : Txt mg) (d : At K mg "check_word" s_check_word)  : Cal P w K mg base "check_word" 1 ["word"] (sp_check_word K) := by
  obtain ⟨f, fd, F, hm, hk⟩ := d
  exact ⟨f, fd, ok_check_word F T  pure_check_word, hm, hk, F.binds (ps := ["word"]) fun _ _ _ _ _ _ us hl => match us, hl with | [_], _ => rfl⟩
theorem cal_state_list (T : Txt mg) (d : At K mg "state_list" s_state_list) (c_gram_list : Cal P w K mg base "gram_list" 1 ["windows"] (sp_gram_list K)) : Cal P w K mg base "state_list" 2 ["windows", "word"] (sp_state_list K) := by
  obtain ⟨f, fd, F, hm, hk⟩ := d
  exact ⟨f, fd, ok_state_list F T c_gram_list pure_state_list, hm, hk, F.binds (ps := ["windows", "word"]) fun _ _ _ _ _ _ us hl => match us, hl with | [_, _], _ => rfl⟩
theorem cal_way (T : Txt mg) (d : At K mg "way" s_way) (c_following : Cal P w K mg base "following" 1 ["windows", "gram"] (sp_following K)) (c_advance : Cal P w K mg base "advance" 1 ["word", "matched", "letter"] (sp_advance K)) : Cal P w K mg base "way" 2 ["windows", "word", "state", "letter"] (sp_way K) := by
  obtain ⟨f, fd, F, hm, hk⟩ := d
  exact ⟨f, fd, ok_way F T c_following c_advance pure_way, hm, hk, F.binds (ps := ["windows", "word", "state", "letter"]) fun _ _ _ _ _ _ us hl => match us, hl with | [_, _, _, _], _ => rfl⟩
theorem cal_ways_from (T : Txt mg) (d : At K mg "ways_from" s_ways_from) (c_following : Cal P w K mg base "following" 1 ["windows", "gram"] (sp_following K)) (c_way : Cal P w K mg base "way" 2 ["windows", "word", "state", "letter"] (sp_way K)) : Cal P w K mg base "ways_from" 3 ["windows", "word", "state"] (sp_ways_from K) := by
  obtain ⟨f, fd, F, hm, hk⟩ := d
  exact ⟨f, fd, ok_ways_from F T c_following c_way pure_ways_from, hm, hk, F.binds (ps := ["windows", "word", "state"]) fun _ _ _ _ _ _ us hl => match us, hl with | [_, _, _], _ => rfl⟩
theorem cal_read_within (T : Txt mg) (d : At K mg "read_within" s_read_within) (c_way : Cal P w K mg base "way" 2 ["windows", "word", "state", "letter"] (sp_way K)) : Cal P w K mg base "read_within" 3 ["windows", "word", "piece", "states", "state"] (sp_read_within K) := by
  obtain ⟨f, fd, F, hm, hk⟩ := d
  exact ⟨f, fd, ok_read_within F T c_way pure_read_within, hm, hk, F.binds (ps := ["windows", "word", "piece", "states", "state"]) fun _ _ _ _ _ _ us hl => match us, hl with | [_, _, _, _, _], _ => rfl⟩
theorem cal_can_read (T : Txt mg) (d : At K mg "can_read" s_can_read) (c_read_within : Cal P w K mg base "read_within" 3 ["windows", "word", "piece", "states", "state"] (sp_read_within K)) : Cal P w K mg base "can_read" 4 ["windows", "word", "piece", "states"] (sp_can_read K) := by
  obtain ⟨f, fd, F, hm, hk⟩ := d
  exact ⟨f, fd, ok_can_read F T c_read_within pure_can_read, hm, hk, F.binds (ps := ["windows", "word", "piece", "states"]) fun _ _ _ _ _ _ us hl => match us, hl with | [_, _, _, _], _ => rfl⟩
theorem cal_path_to (T : Txt mg) (d : At K mg "path_to" s_path_to)  : Cal P w K mg base "path_to" 1 ["ways", "states", "start", "goals"] (sp_path_to K) := by
  obtain ⟨f, fd, F, hm, hk⟩ := d
  exact ⟨f, fd, ok_path_to F T  pure_path_to, hm, hk, F.binds (ps := ["ways", "states", "start", "goals"]) fun _ _ _ _ _ _ us hl => match us, hl with | [_, _, _, _], _ => rfl⟩
theorem cal_circle_within (T : Txt mg) (d : At K mg "circle_within" s_circle_within) (c_read_within : Cal P w K mg base "read_within" 3 ["windows", "word", "piece", "states", "state"] (sp_read_within K)) (c_path_to : Cal P w K mg base "path_to" 1 ["ways", "states", "start", "goals"] (sp_path_to K)) (c_way : Cal P w K mg base "way" 2 ["windows", "word", "state", "letter"] (sp_way K)) : Cal P w K mg base "circle_within" 4 ["windows", "word", "pieces", "ways", "states"] (sp_circle_within K) := by
  obtain ⟨f, fd, F, hm, hk⟩ := d
  exact ⟨f, fd, ok_circle_within F T c_read_within c_path_to c_way pure_circle_within, hm, hk, F.binds (ps := ["windows", "word", "pieces", "ways", "states"]) fun _ _ _ _ _ _ us hl => match us, hl with | [_, _, _, _, _], _ => rfl⟩
theorem cal_grouped (T : Txt mg) (d : At K mg "grouped" s_grouped)  : Cal P w K mg base "grouped" 1 ["numbers", "many"] (sp_grouped K) := by
  obtain ⟨f, fd, F, hm, hk⟩ := d
  exact ⟨f, fd, ok_grouped F T  pure_grouped, hm, hk, F.binds (ps := ["numbers", "many"]) fun _ _ _ _ _ _ us hl => match us, hl with | [_, _], _ => rfl⟩
theorem cal_circle_decision (T : Txt mg) (d : At K mg "circle_decision" s_circle_decision) (c_state_list : Cal P w K mg base "state_list" 2 ["windows", "word"] (sp_state_list K)) (c_ways_from : Cal P w K mg base "ways_from" 3 ["windows", "word", "state"] (sp_ways_from K)) (c_components_of : Cal P w K mg base "components_of" 2 ["ways"] (sp_components_of K)) (c_grouped : Cal P w K mg base "grouped" 1 ["numbers", "many"] (sp_grouped K)) (c_can_read : Cal P w K mg base "can_read" 4 ["windows", "word", "piece", "states"] (sp_can_read K)) (c_circle_within : Cal P w K mg base "circle_within" 4 ["windows", "word", "pieces", "ways", "states"] (sp_circle_within K)) : Cal P w K mg base "circle_decision" 5 ["pieces", "windows", "word"] (sp_circle_decision K) := by
  obtain ⟨f, fd, F, hm, hk⟩ := d
  exact ⟨f, fd, ok_circle_decision F T c_state_list c_ways_from c_components_of c_grouped c_can_read c_circle_within pure_circle_decision, hm, hk, F.binds (ps := ["pieces", "windows", "word"]) fun _ _ _ _ _ _ us hl => match us, hl with | [_, _, _], _ => rfl⟩
theorem cal_decided (T : Txt mg) (d : At K mg "decided" s_decided) (c_window_list : Cal P w K mg base "window_list" 1 ["pieces", "grain"] (sp_window_list K)) (c_circle_decision : Cal P w K mg base "circle_decision" 5 ["pieces", "windows", "word"] (sp_circle_decision K)) : Cal P w K mg base "decided" 6 ["pieces", "grain", "word", "shape"] (sp_decided K) := by
  obtain ⟨f, fd, F, hm, hk⟩ := d
  exact ⟨f, fd, ok_decided F T c_window_list c_circle_decision pure_decided, hm, hk, F.binds (ps := ["pieces", "grain", "word", "shape"]) fun _ _ _ _ _ _ us hl => match us, hl with | [_, _, _, _], _ => rfl⟩
theorem cal_check_question (T : Txt mg) (d : At K mg "check_question" s_check_question) (c_check_shards : Cal P w K mg base "check_shards" 1 ["pieces", "grain"] (sp_check_shards K)) (c_check_shape : Cal P w K mg base "check_shape" 1 ["shape"] (sp_check_shape K)) : Cal P w K mg base "check_question" 2 ["pieces", "grain", "shape"] (sp_check_question K) := by
  obtain ⟨f, fd, F, hm, hk⟩ := d
  exact ⟨f, fd, ok_check_question F T c_check_shards c_check_shape pure_check_question, hm, hk, F.binds (ps := ["pieces", "grain", "shape"]) fun _ _ _ _ _ _ us hl => match us, hl with | [_, _, _], _ => rfl⟩
theorem cal_decide (T : Txt mg) (d : At K mg "decide" s_decide) (c_check_question : Cal P w K mg base "check_question" 2 ["pieces", "grain", "shape"] (sp_check_question K)) (c_check_word : Cal P w K mg base "check_word" 1 ["word"] (sp_check_word K)) (c_decided : Cal P w K mg base "decided" 6 ["pieces", "grain", "word", "shape"] (sp_decided K)) : Cal P w K mg base "decide" 7 ["pieces", "grain", "word", "shape"] (sp_decide K) := by
  obtain ⟨f, fd, F, hm, hk⟩ := d
  exact ⟨f, fd, ok_decide F T c_check_question c_check_word c_decided pure_decide, hm, hk, F.binds (ps := ["pieces", "grain", "word", "shape"]) fun _ _ _ _ _ _ us hl => match us, hl with | [_, _, _, _], _ => rfl⟩
theorem cal_example (T : Txt mg) (d : At K mg "example" s_example) (c_check_question : Cal P w K mg base "check_question" 2 ["pieces", "grain", "shape"] (sp_check_question K)) (c_decided : Cal P w K mg base "decided" 6 ["pieces", "grain", "word", "shape"] (sp_decided K)) : Cal P w K mg base "example" 7 ["pieces", "grain", "shape"] (sp_example K) := by
  obtain ⟨f, fd, F, hm, hk⟩ := d
  exact ⟨f, fd, ok_example F T c_check_question c_decided pure_example, hm, hk, F.binds (ps := ["pieces", "grain", "shape"]) fun _ _ _ _ _ _ us hl => match us, hl with | [_, _, _], _ => rfl⟩
theorem cal_law_begin (T : Txt mg) (d : At K mg "_law_begin" s_law_begin)  : Cal P w K mg base "_law_begin" 1 ["_law_script"] (sp_law_begin K) := by
  obtain ⟨f, fd, F, hm, hk⟩ := d
  exact ⟨f, fd, ok_law_begin F T  pure_law_begin, hm, hk, F.binds (ps := ["_law_script"]) fun _ _ _ _ _ _ us hl => match us, hl with | [_], _ => rfl⟩
theorem cal_law_take (T : Txt mg) (d : At K mg "_law_take" s_law_take)  : Cal P w K mg base "_law_take" 1 ["_law_d", "_law_many"] (sp_law_take K) := by
  obtain ⟨f, fd, F, hm, hk⟩ := d
  exact ⟨f, fd, ok_law_take F T  pure_law_take, hm, hk, F.binds (ps := ["_law_d", "_law_many"]) fun _ _ _ _ _ _ us hl => match us, hl with | [_, _], _ => rfl⟩
theorem cal_law_letters (T : Txt mg) (d : At K mg "_law_letters" s_law_letters)  : Cal P w K mg base "_law_letters" 1 [] (sp_law_letters K) := by
  obtain ⟨f, fd, F, hm, hk⟩ := d
  exact ⟨f, fd, ok_law_letters F T  pure_law_letters, hm, hk, F.binds (ps := []) fun _ _ _ _ _ _ us hl => match us, hl with | [], _ => rfl⟩
theorem cal_law_signs (T : Txt mg) (d : At K mg "_law_signs" s_law_signs) (c_law_take : Cal P w K mg base "_law_take" 1 ["_law_d", "_law_many"] (sp_law_take K)) (c_law_letters : Cal P w K mg base "_law_letters" 1 [] (sp_law_letters K)) : Cal P w K mg base "_law_signs" 2 ["_law_d"] (sp_law_signs K) := by
  obtain ⟨f, fd, F, hm, hk⟩ := d
  exact ⟨f, fd, ok_law_signs F T c_law_take c_law_letters pure_law_signs, hm, hk, F.binds (ps := ["_law_d"]) fun _ _ _ _ _ _ us hl => match us, hl with | [_], _ => rfl⟩
theorem cal_law_text (T : Txt mg) (d : At K mg "_law_text" s_law_text) (c_law_take : Cal P w K mg base "_law_take" 1 ["_law_d", "_law_many"] (sp_law_take K)) : Cal P w K mg base "_law_text" 2 ["_law_d", "_law_signs_here", "_law_size"] (sp_law_text K) := by
  obtain ⟨f, fd, F, hm, hk⟩ := d
  exact ⟨f, fd, ok_law_text F T c_law_take pure_law_text, hm, hk, F.binds (ps := ["_law_d", "_law_signs_here", "_law_size"]) fun _ _ _ _ _ _ us hl => match us, hl with | [_, _, _], _ => rfl⟩
theorem cal_law_rich (T : Txt mg) (d : At K mg "_law_rich" s_law_rich) (c_law_take : Cal P w K mg base "_law_take" 1 ["_law_d", "_law_many"] (sp_law_take K)) (c_law_text : Cal P w K mg base "_law_text" 2 ["_law_d", "_law_signs_here", "_law_size"] (sp_law_text K)) : Cal P w K mg base "_law_rich" 3 ["_law_d", "_law_signs_here", "_law_size"] (sp_law_rich K) := by
  obtain ⟨f, fd, F, hm, hk⟩ := d
  exact ⟨f, fd, ok_law_rich F T c_law_take c_law_text pure_law_rich, hm, hk, F.binds (ps := ["_law_d", "_law_signs_here", "_law_size"]) fun _ _ _ _ _ _ us hl => match us, hl with | [_, _, _], _ => rfl⟩
theorem cal_law_round (T : Txt mg) (d : At K mg "_law_round" s_law_round)  : Cal P w K mg base "_law_round" 1 ["_law_circle", "_law_start", "_law_count"] (sp_law_round K) := by
  obtain ⟨f, fd, F, hm, hk⟩ := d
  exact ⟨f, fd, ok_law_round F T  pure_law_round, hm, hk, F.binds (ps := ["_law_circle", "_law_start", "_law_count"]) fun _ _ _ _ _ _ us hl => match us, hl with | [_, _, _], _ => rfl⟩
theorem cal_law_on_circle (T : Txt mg) (d : At K mg "_law_on_circle" s_law_on_circle) (c_law_round : Cal P w K mg base "_law_round" 1 ["_law_circle", "_law_start", "_law_count"] (sp_law_round K)) : Cal P w K mg base "_law_on_circle" 2 ["_law_circle", "_law_word_here"] (sp_law_on_circle K) := by
  obtain ⟨f, fd, F, hm, hk⟩ := d
  exact ⟨f, fd, ok_law_on_circle F T c_law_round pure_law_on_circle, hm, hk, F.binds (ps := ["_law_circle", "_law_word_here"]) fun _ _ _ _ _ _ us hl => match us, hl with | [_, _], _ => rfl⟩
theorem cal_law_windows (T : Txt mg) (d : At K mg "_law_windows" s_law_windows)  : Cal P w K mg base "_law_windows" 1 ["_law_pieces", "_law_grain"] (sp_law_windows K) := by
  obtain ⟨f, fd, F, hm, hk⟩ := d
  exact ⟨f, fd, ok_law_windows F T  pure_law_windows, hm, hk, F.binds (ps := ["_law_pieces", "_law_grain"]) fun _ _ _ _ _ _ us hl => match us, hl with | [_, _], _ => rfl⟩
theorem cal_law_explains (T : Txt mg) (d : At K mg "_law_explains" s_law_explains) (c_law_windows : Cal P w K mg base "_law_windows" 1 ["_law_pieces", "_law_grain"] (sp_law_windows K)) (c_law_round : Cal P w K mg base "_law_round" 1 ["_law_circle", "_law_start", "_law_count"] (sp_law_round K)) (c_law_on_circle : Cal P w K mg base "_law_on_circle" 2 ["_law_circle", "_law_word_here"] (sp_law_on_circle K)) : Cal P w K mg base "_law_explains" 3 ["_law_pieces", "_law_grain", "_law_text_here", "_law_shape"] (sp_law_explains K) := by
  obtain ⟨f, fd, F, hm, hk⟩ := d
  exact ⟨f, fd, ok_law_explains F T c_law_windows c_law_round c_law_on_circle pure_law_explains, hm, hk, F.binds (ps := ["_law_pieces", "_law_grain", "_law_text_here", "_law_shape"]) fun _ _ _ _ _ _ us hl => match us, hl with | [_, _, _, _], _ => rfl⟩
theorem cal_law_cut (T : Txt mg) (d : At K mg "_law_cut" s_law_cut) (c_law_take : Cal P w K mg base "_law_take" 1 ["_law_d", "_law_many"] (sp_law_take K)) (c_law_round : Cal P w K mg base "_law_round" 1 ["_law_circle", "_law_start", "_law_count"] (sp_law_round K)) : Cal P w K mg base "_law_cut" 2 ["_law_d", "_law_text_here", "_law_grain", "_law_shape", "_law_many"] (sp_law_cut K) := by
  obtain ⟨f, fd, F, hm, hk⟩ := d
  exact ⟨f, fd, ok_law_cut F T c_law_take c_law_round pure_law_cut, hm, hk, F.binds (ps := ["_law_d", "_law_text_here", "_law_grain", "_law_shape", "_law_many"]) fun _ _ _ _ _ _ us hl => match us, hl with | [_, _, _, _, _], _ => rfl⟩
theorem cal_law_shards (T : Txt mg) (d : At K mg "_law_shards" s_law_shards) (c_law_signs : Cal P w K mg base "_law_signs" 2 ["_law_d"] (sp_law_signs K)) (c_law_take : Cal P w K mg base "_law_take" 1 ["_law_d", "_law_many"] (sp_law_take K)) (c_law_rich : Cal P w K mg base "_law_rich" 3 ["_law_d", "_law_signs_here", "_law_size"] (sp_law_rich K)) (c_law_cut : Cal P w K mg base "_law_cut" 2 ["_law_d", "_law_text_here", "_law_grain", "_law_shape", "_law_many"] (sp_law_cut K)) (c_law_text : Cal P w K mg base "_law_text" 2 ["_law_d", "_law_signs_here", "_law_size"] (sp_law_text K)) : Cal P w K mg base "_law_shards" 4 ["_law_d", "_law_shape"] (sp_law_shards K) := by
  obtain ⟨f, fd, F, hm, hk⟩ := d
  exact ⟨f, fd, ok_law_shards F T c_law_signs c_law_take c_law_rich c_law_cut c_law_text pure_law_shards, hm, hk, F.binds (ps := ["_law_d", "_law_shape"]) fun _ _ _ _ _ _ us hl => match us, hl with | [_, _], _ => rfl⟩
theorem cal_law_word (T : Txt mg) (d : At K mg "_law_word" s_law_word) (c_law_take : Cal P w K mg base "_law_take" 1 ["_law_d", "_law_many"] (sp_law_take K)) (c_law_text : Cal P w K mg base "_law_text" 2 ["_law_d", "_law_signs_here", "_law_size"] (sp_law_text K)) (c_law_round : Cal P w K mg base "_law_round" 1 ["_law_circle", "_law_start", "_law_count"] (sp_law_round K)) : Cal P w K mg base "_law_word" 3 ["_law_d", "_law_pieces", "_law_text_here", "_law_signs_here", "_law_most"] (sp_law_word K) := by
  obtain ⟨f, fd, F, hm, hk⟩ := d
  exact ⟨f, fd, ok_law_word F T c_law_take c_law_text c_law_round pure_law_word, hm, hk, F.binds (ps := ["_law_d", "_law_pieces", "_law_text_here", "_law_signs_here", "_law_most"]) fun _ _ _ _ _ _ us hl => match us, hl with | [_, _, _, _, _], _ => rfl⟩
theorem cal_law_walk (T : Txt mg) (d : At K mg "_law_walk" s_law_walk) (c_law_windows : Cal P w K mg base "_law_windows" 1 ["_law_pieces", "_law_grain"] (sp_law_windows K)) (c_law_take : Cal P w K mg base "_law_take" 1 ["_law_d", "_law_many"] (sp_law_take K)) : Cal P w K mg base "_law_walk" 2 ["_law_d", "_law_pieces", "_law_grain", "_law_start", "_law_size"] (sp_law_walk K) := by
  obtain ⟨f, fd, F, hm, hk⟩ := d
  exact ⟨f, fd, ok_law_walk F T c_law_windows c_law_take pure_law_walk, hm, hk, F.binds (ps := ["_law_d", "_law_pieces", "_law_grain", "_law_start", "_law_size"]) fun _ _ _ _ _ _ us hl => match us, hl with | [_, _, _, _, _], _ => rfl⟩
theorem cal_law_joined (T : Txt mg) (d : At K mg "_law_joined" s_law_joined) (c_law_take : Cal P w K mg base "_law_take" 1 ["_law_d", "_law_many"] (sp_law_take K)) (c_law_walk : Cal P w K mg base "_law_walk" 2 ["_law_d", "_law_pieces", "_law_grain", "_law_start", "_law_size"] (sp_law_walk K)) : Cal P w K mg base "_law_joined" 3 ["_law_d", "_law_pieces", "_law_grain"] (sp_law_joined K) := by
  obtain ⟨f, fd, F, hm, hk⟩ := d
  exact ⟨f, fd, ok_law_joined F T c_law_take c_law_walk pure_law_joined, hm, hk, F.binds (ps := ["_law_d", "_law_pieces", "_law_grain"]) fun _ _ _ _ _ _ us hl => match us, hl with | [_, _, _], _ => rfl⟩
theorem cal_law_closed (T : Txt mg) (d : At K mg "_law_closed" s_law_closed) (c_law_walk : Cal P w K mg base "_law_walk" 2 ["_law_d", "_law_pieces", "_law_grain", "_law_start", "_law_size"] (sp_law_walk K)) (c_law_take : Cal P w K mg base "_law_take" 1 ["_law_d", "_law_many"] (sp_law_take K)) : Cal P w K mg base "_law_closed" 3 ["_law_d", "_law_pieces", "_law_grain", "_law_start"] (sp_law_closed K) := by
  obtain ⟨f, fd, F, hm, hk⟩ := d
  exact ⟨f, fd, ok_law_closed F T c_law_walk c_law_take pure_law_closed, hm, hk, F.binds (ps := ["_law_d", "_law_pieces", "_law_grain", "_law_start"]) fun _ _ _ _ _ _ us hl => match us, hl with | [_, _, _, _], _ => rfl⟩
end
theorem finish {l : PySem.W.OpenLaw} {w : World} {K : Fg} {mg : Str → Option Value} {fa : Addr} (hfa : mg "law" = some (.ref fa)) (T : Txt mg) (d_finished_from : At K mg "finished_from" s_finished_from) (d_turned_around : At K mg "turned_around" s_turned_around) (d_components_of : At K mg "components_of" s_components_of) (d_check_shards : At K mg "check_shards" s_check_shards) (d_check_shape : At K mg "check_shape" s_check_shape) (d_window_list : At K mg "window_list" s_window_list) (d_gram_list : At K mg "gram_list" s_gram_list) (d_following : At K mg "following" s_following) (d_advance : At K mg "advance" s_advance) (d_check_word : At K mg "check_word" s_check_word) (d_state_list : At K mg "state_list" s_state_list) (d_way : At K mg "way" s_way) (d_ways_from : At K mg "ways_from" s_ways_from) (d_read_within : At K mg "read_within" s_read_within) (d_can_read : At K mg "can_read" s_can_read) (d_path_to : At K mg "path_to" s_path_to) (d_circle_within : At K mg "circle_within" s_circle_within) (d_grouped : At K mg "grouped" s_grouped) (d_circle_decision : At K mg "circle_decision" s_circle_decision) (d_decided : At K mg "decided" s_decided) (d_check_question : At K mg "check_question" s_check_question) (d_decide : At K mg "decide" s_decide) (d_example : At K mg "example" s_example) (d_law_begin : At K mg "_law_begin" s_law_begin) (d_law_take : At K mg "_law_take" s_law_take) (d_law_letters : At K mg "_law_letters" s_law_letters) (d_law_signs : At K mg "_law_signs" s_law_signs) (d_law_text : At K mg "_law_text" s_law_text) (d_law_rich : At K mg "_law_rich" s_law_rich) (d_law_round : At K mg "_law_round" s_law_round) (d_law_on_circle : At K mg "_law_on_circle" s_law_on_circle) (d_law_windows : At K mg "_law_windows" s_law_windows) (d_law_explains : At K mg "_law_explains" s_law_explains) (d_law_cut : At K mg "_law_cut" s_law_cut) (d_law_shards : At K mg "_law_shards" s_law_shards) (d_law_word : At K mg "_law_word" s_law_word) (d_law_walk : At K mg "_law_walk" s_law_walk) (d_law_joined : At K mg "_law_joined" s_law_joined) (d_law_closed : At K mg "_law_closed" s_law_closed) (d_law : At K mg "law" s_law) :
    ∃ fd : FuncData, (∀ (s : Shared) (v : Value), BindsTo s fd ⟨[v], []⟩ [("_law_script", v)]) ∧ ∀ base : Heap, K.In base → base.Ns mainGlobals mg → FnOk l.prog w K mg base CX0 8 fa fd ["_law_script"] (sp_law K) := by
  obtain ⟨f, fd, F, hm, hk⟩ := d_law
  have e := hfa.symm.trans hm
  cases e
  refine ⟨fd, ?_, fun base _ _ => ?_⟩
  · obtain ⟨oc, od, kV, doc, pm, an, cdv, ct, osl, rfl, lk, hcd⟩ := F.ex
    exact fun s v => .of_eq rfl
  have c_finished_from := cal_finished_from (P := l.prog) (w := w) (base := base) T d_finished_from 
  have c_turned_around := cal_turned_around (P := l.prog) (w := w) (base := base) T d_turned_around 
  have c_components_of := cal_components_of (P := l.prog) (w := w) (base := base) T d_components_of c_finished_from c_turned_around
  have c_check_shards := cal_check_shards (P := l.prog) (w := w) (base := base) T d_check_shards 
  have c_check_shape := cal_check_shape (P := l.prog) (w := w) (base := base) T d_check_shape 
  have c_window_list := cal_window_list (P := l.prog) (w := w) (base := base) T d_window_list 
  have c_gram_list := cal_gram_list (P := l.prog) (w := w) (base := base) T d_gram_list 
  have c_following := cal_following (P := l.prog) (w := w) (base := base) T d_following 
  have c_advance := cal_advance (P := l.prog) (w := w) (base := base) T d_advance 
  have c_check_word := cal_check_word (P := l.prog) (w := w) (base := base) T d_check_word 
  have c_state_list := cal_state_list (P := l.prog) (w := w) (base := base) T d_state_list c_gram_list
  have c_way := cal_way (P := l.prog) (w := w) (base := base) T d_way c_following c_advance
  have c_ways_from := cal_ways_from (P := l.prog) (w := w) (base := base) T d_ways_from c_following c_way
  have c_read_within := cal_read_within (P := l.prog) (w := w) (base := base) T d_read_within c_way
  have c_can_read := cal_can_read (P := l.prog) (w := w) (base := base) T d_can_read c_read_within
  have c_path_to := cal_path_to (P := l.prog) (w := w) (base := base) T d_path_to 
  have c_circle_within := cal_circle_within (P := l.prog) (w := w) (base := base) T d_circle_within c_read_within c_path_to c_way
  have c_grouped := cal_grouped (P := l.prog) (w := w) (base := base) T d_grouped 
  have c_circle_decision := cal_circle_decision (P := l.prog) (w := w) (base := base) T d_circle_decision c_state_list c_ways_from c_components_of c_grouped c_can_read c_circle_within
  have c_decided := cal_decided (P := l.prog) (w := w) (base := base) T d_decided c_window_list c_circle_decision
  have c_check_question := cal_check_question (P := l.prog) (w := w) (base := base) T d_check_question c_check_shards c_check_shape
  have c_decide := cal_decide (P := l.prog) (w := w) (base := base) T d_decide c_check_question c_check_word c_decided
  have c_example := cal_example (P := l.prog) (w := w) (base := base) T d_example c_check_question c_decided
  have c_law_begin := cal_law_begin (P := l.prog) (w := w) (base := base) T d_law_begin 
  have c_law_take := cal_law_take (P := l.prog) (w := w) (base := base) T d_law_take 
  have c_law_letters := cal_law_letters (P := l.prog) (w := w) (base := base) T d_law_letters 
  have c_law_signs := cal_law_signs (P := l.prog) (w := w) (base := base) T d_law_signs c_law_take c_law_letters
  have c_law_text := cal_law_text (P := l.prog) (w := w) (base := base) T d_law_text c_law_take
  have c_law_rich := cal_law_rich (P := l.prog) (w := w) (base := base) T d_law_rich c_law_take c_law_text
  have c_law_round := cal_law_round (P := l.prog) (w := w) (base := base) T d_law_round 
  have c_law_on_circle := cal_law_on_circle (P := l.prog) (w := w) (base := base) T d_law_on_circle c_law_round
  have c_law_windows := cal_law_windows (P := l.prog) (w := w) (base := base) T d_law_windows 
  have c_law_explains := cal_law_explains (P := l.prog) (w := w) (base := base) T d_law_explains c_law_windows c_law_round c_law_on_circle
  have c_law_cut := cal_law_cut (P := l.prog) (w := w) (base := base) T d_law_cut c_law_take c_law_round
  have c_law_shards := cal_law_shards (P := l.prog) (w := w) (base := base) T d_law_shards c_law_signs c_law_take c_law_rich c_law_cut c_law_text
  have c_law_word := cal_law_word (P := l.prog) (w := w) (base := base) T d_law_word c_law_take c_law_text c_law_round
  have c_law_walk := cal_law_walk (P := l.prog) (w := w) (base := base) T d_law_walk c_law_windows c_law_take
  have c_law_joined := cal_law_joined (P := l.prog) (w := w) (base := base) T d_law_joined c_law_take c_law_walk
  have c_law_closed := cal_law_closed (P := l.prog) (w := w) (base := base) T d_law_closed c_law_walk c_law_take
  exact ok_law F T c_law_begin c_law_shards c_law_word c_decide c_law_explains c_law_on_circle c_law_joined c_law_take c_law_text c_law_closed c_example pure_law
theorem walk {l : PySem.W.OpenLaw} {q : Program} {loose : List Str} {XP : (Str → Option Value) → Heap → Prop} {YP : World → Heap → Prop} {d : DefRec} {K : Params → PySem.W.Frag} (hn : l.most = some 63) (hdf : d.params.defaults = [])
    (hY : ∀ (w : World) (h : Heap), YP w h → (K w.params).In h)
    (F : ∀ (w : World) (mg : Str → Option Value) (fa : Addr) (h : Heap), (K w.params).In h → h.Ns mainGlobals mg → mg d.name = some (.ref fa) →
      ∃ fd : FuncData, (∀ (s : Shared) (u : Value), BindsTo s fd ⟨[u], []⟩ [("_law_script", u)]) ∧ ∀ base : Heap, (K w.params).In base → base.Ns mainGlobals mg → FnOk l.prog w (K w.params) mg base CX0 8 fa fd ["_law_script"] (sp_law (K w.params))) :
    PySem.W.WalkO q loose XP YP l.row.toRowW d [] (fun f vs => PySem.call f vs) :=
  L2.walk_of (n := 63) (k := 8) (x := "_law_script") (CX := fun _ => CX0) (sp := fun w => sp_law (K w.params)) hn (by decide) hdf ⟨rfl, by decide, by decide⟩ hY F (fun _ _ a ns hl _ hS => ⟨a, ns, rfl, hS, hl, fun _ => rfl⟩) fun _ _ _ _ _ z => z
theorem txt_mk {K : Fg} {mg : Str → Option Value} {h : Heap} (X : K.In h) (G : h.Ns mainGlobals mg) {t0 : Tok} (z0 : PySem.W.nsIn K mainGlobals "GRAIN_LIMIT" = some (some (.int 12 t0))) {t1 : Tok} (z1 : PySem.W.nsIn K mainGlobals "LETTER_LIMIT" = some (some (.int 60 t1))) {t2 : Tok} (z2 : PySem.W.nsIn K mainGlobals "NOWHERE" = some (some (.str (Str.ofString " ") t2))) {t3 : Tok} (z3 : PySem.W.nsIn K mainGlobals "PIECE_LIMIT" = some (some (.int 40 t3))) {t4 : Tok} (z4 : PySem.W.nsIn K mainGlobals "WORD_LIMIT" = some (some (.int 60 t4))) (z5 : PySem.W.nsIn K mainGlobals "abs" = some none) (z6 : PySem.W.nsIn K mainGlobals "all" = some none) (z7 : PySem.W.nsIn K mainGlobals "any" = some none) (z8 : PySem.W.nsIn K mainGlobals "int" = some none) (z9 : PySem.W.nsIn K mainGlobals "len" = some none) (z10 : PySem.W.nsIn K mainGlobals "list" = some none) (z11 : PySem.W.nsIn K mainGlobals "max" = some none) (z12 : PySem.W.nsIn K mainGlobals "min" = some none) (z13 : PySem.W.nsIn K mainGlobals "range" = some none) (z14 : PySem.W.nsIn K mainGlobals "reversed" = some none) (z15 : PySem.W.nsIn K mainGlobals "sorted" = some none) (z16 : PySem.W.nsIn K mainGlobals "tuple" = some none) : Txt mg := ⟨⟨_, PySem.W.mg_of X G z0⟩, ⟨_, PySem.W.mg_of X G z1⟩, ⟨_, PySem.W.mg_of X G z2⟩, ⟨_, PySem.W.mg_of X G z3⟩, ⟨_, PySem.W.mg_of X G z4⟩, PySem.W.mg_none_of X G z5, PySem.W.mg_none_of X G z6, PySem.W.mg_none_of X G z7, PySem.W.mg_none_of X G z8, PySem.W.mg_none_of X G z9, PySem.W.mg_none_of X G z10, PySem.W.mg_none_of X G z11, PySem.W.mg_none_of X G z12, PySem.W.mg_none_of X G z13, PySem.W.mg_none_of X G z14, PySem.W.mg_none_of X G z15, PySem.W.mg_none_of X G z16⟩
end Tk

/-! TkFin -/
set_option maxRecDepth 100000
open PySem PySem.W PyProof.Rows in
set_option maxRecDepth 100000 in
set_option maxHeartbeats 0 in
theorem PySem.Challenge.cw_textshards_k23_whole_certain_on_every_ci_holds : PySem.Challenge.rw_textshards_k23_whole_certain_on_every_ci.Holds := by
  w_on; o_law; k_head; (case hw => w_witness2)
  k_fill
  refine Tk.walk (l := PySem.Challenge.rw_textshards_k23_whole_certain_on_every_ci) rfl rfl (fun w h Y => PySem.W.kIn_of Y) ?F
  case F =>
    intro w mg fa h KX G hmg
    have T : Tk.Txt mg := by
      refine' Tk.txt_mk KX G ?z0 ?z1 ?z2 ?z3 ?z4 ?z5 ?z6 ?z7 ?z8 ?z9 ?z10 ?z11 ?z12 ?z13 ?z14 ?z15 ?z16
      (case z0 => k_is)
      (case z1 => k_is)
      (case z2 => k_is)
      (case z3 => k_is)
      (case z4 => k_is)
      (case z5 => k_is)
      (case z6 => k_is)
      (case z7 => k_is)
      (case z8 => k_is)
      (case z9 => k_is)
      (case z10 => k_is)
      (case z11 => k_is)
      (case z12 => k_is)
      (case z13 => k_is)
      (case z14 => k_is)
      (case z15 => k_is)
      (case z16 => k_is)
    have d_finished_from : Tk.AtX KX mg "finished_from" Tk.s_finished_from := by
      refine' Tk.mkd (st := Tk.s_finished_from) KX G ?a ?l ?c ?k
      (case a => k_is)
      (case l => k_is)
      (case c => k_is)
      (case k => k_is)
    have d_turned_around : Tk.AtX KX mg "turned_around" Tk.s_turned_around := by
      refine' Tk.mkd (st := Tk.s_turned_around) KX G ?a ?l ?c ?k
      (case a => k_is)
      (case l => k_is)
      (case c => k_is)
      (case k => k_is)
    have d_components_of : Tk.AtX KX mg "components_of" Tk.s_components_of := by
      refine' Tk.mkd (st := Tk.s_components_of) KX G ?a ?l ?c ?k
      (case a => k_is)
      (case l => k_is)
      (case c => k_is)
      (case k => k_is)
    have d_check_shards : Tk.AtX KX mg "check_shards" Tk.s_check_shards := by
      refine' Tk.mkd (st := Tk.s_check_shards) KX G ?a ?l ?c ?k
      (case a => k_is)
      (case l => k_is)
      (case c => k_is)
      (case k => k_is)
    have d_check_shape : Tk.AtX KX mg "check_shape" Tk.s_check_shape := by
      refine' Tk.mkd (st := Tk.s_check_shape) KX G ?a ?l ?c ?k
      (case a => k_is)
      (case l => k_is)
      (case c => k_is)
      (case k => k_is)
    have d_window_list : Tk.AtX KX mg "window_list" Tk.s_window_list := by
      refine' Tk.mkd (st := Tk.s_window_list) KX G ?a ?l ?c ?k
      (case a => k_is)
      (case l => k_is)
      (case c => k_is)
      (case k => k_is)
    have d_gram_list : Tk.AtX KX mg "gram_list" Tk.s_gram_list := by
      refine' Tk.mkd (st := Tk.s_gram_list) KX G ?a ?l ?c ?k
      (case a => k_is)
      (case l => k_is)
      (case c => k_is)
      (case k => k_is)
    have d_following : Tk.AtX KX mg "following" Tk.s_following := by
      refine' Tk.mkd (st := Tk.s_following) KX G ?a ?l ?c ?k
      (case a => k_is)
      (case l => k_is)
      (case c => k_is)
      (case k => k_is)
    have d_advance : Tk.AtX KX mg "advance" Tk.s_advance := by
      refine' Tk.mkd (st := Tk.s_advance) KX G ?a ?l ?c ?k
      (case a => k_is)
      (case l => k_is)
      (case c => k_is)
      (case k => k_is)
    have d_check_word : Tk.AtX KX mg "check_word" Tk.s_check_word := by
      refine' Tk.mkd (st := Tk.s_check_word) KX G ?a ?l ?c ?k
      (case a => k_is)
      (case l => k_is)
      (case c => k_is)
      (case k => k_is)
    have d_state_list : Tk.AtX KX mg "state_list" Tk.s_state_list := by
      refine' Tk.mkd (st := Tk.s_state_list) KX G ?a ?l ?c ?k
      (case a => k_is)
      (case l => k_is)
      (case c => k_is)
      (case k => k_is)
    have d_way : Tk.AtX KX mg "way" Tk.s_way := by
      refine' Tk.mkd (st := Tk.s_way) KX G ?a ?l ?c ?k
      (case a => k_is)
      (case l => k_is)
      (case c => k_is)
      (case k => k_is)
    have d_ways_from : Tk.AtX KX mg "ways_from" Tk.s_ways_from := by
      refine' Tk.mkd (st := Tk.s_ways_from) KX G ?a ?l ?c ?k
      (case a => k_is)
      (case l => k_is)
      (case c => k_is)
      (case k => k_is)
    have d_read_within : Tk.AtX KX mg "read_within" Tk.s_read_within := by
      refine' Tk.mkd (st := Tk.s_read_within) KX G ?a ?l ?c ?k
      (case a => k_is)
      (case l => k_is)
      (case c => k_is)
      (case k => k_is)
    have d_can_read : Tk.AtX KX mg "can_read" Tk.s_can_read := by
      refine' Tk.mkd (st := Tk.s_can_read) KX G ?a ?l ?c ?k
      (case a => k_is)
      (case l => k_is)
      (case c => k_is)
      (case k => k_is)
    have d_path_to : Tk.AtX KX mg "path_to" Tk.s_path_to := by
      refine' Tk.mkd (st := Tk.s_path_to) KX G ?a ?l ?c ?k
      (case a => k_is)
      (case l => k_is)
      (case c => k_is)
      (case k => k_is)
    have d_circle_within : Tk.AtX KX mg "circle_within" Tk.s_circle_within := by
      refine' Tk.mkd (st := Tk.s_circle_within) KX G ?a ?l ?c ?k
      (case a => k_is)
      (case l => k_is)
      (case c => k_is)
      (case k => k_is)
    have d_grouped : Tk.AtX KX mg "grouped" Tk.s_grouped := by
      refine' Tk.mkd (st := Tk.s_grouped) KX G ?a ?l ?c ?k
      (case a => k_is)
      (case l => k_is)
      (case c => k_is)
      (case k => k_is)
    have d_circle_decision : Tk.AtX KX mg "circle_decision" Tk.s_circle_decision := by
      refine' Tk.mkd (st := Tk.s_circle_decision) KX G ?a ?l ?c ?k
      (case a => k_is)
      (case l => k_is)
      (case c => k_is)
      (case k => k_is)
    have d_decided : Tk.AtX KX mg "decided" Tk.s_decided := by
      refine' Tk.mkd (st := Tk.s_decided) KX G ?a ?l ?c ?k
      (case a => k_is)
      (case l => k_is)
      (case c => k_is)
      (case k => k_is)
    have d_check_question : Tk.AtX KX mg "check_question" Tk.s_check_question := by
      refine' Tk.mkd (st := Tk.s_check_question) KX G ?a ?l ?c ?k
      (case a => k_is)
      (case l => k_is)
      (case c => k_is)
      (case k => k_is)
    have d_decide : Tk.AtX KX mg "decide" Tk.s_decide := by
      refine' Tk.mkd (st := Tk.s_decide) KX G ?a ?l ?c ?k
      (case a => k_is)
      (case l => k_is)
      (case c => k_is)
      (case k => k_is)
    have d_example : Tk.AtX KX mg "example" Tk.s_example := by
      refine' Tk.mkd (st := Tk.s_example) KX G ?a ?l ?c ?k
      (case a => k_is)
      (case l => k_is)
      (case c => k_is)
      (case k => k_is)
    have d_law_begin : Tk.AtX KX mg "_law_begin" Tk.s_law_begin := by
      refine' Tk.mkd (st := Tk.s_law_begin) KX G ?a ?l ?c ?k
      (case a => k_is)
      (case l => k_is)
      (case c => k_is)
      (case k => k_is)
    have d_law_take : Tk.AtX KX mg "_law_take" Tk.s_law_take := by
      refine' Tk.mkd (st := Tk.s_law_take) KX G ?a ?l ?c ?k
      (case a => k_is)
      (case l => k_is)
      (case c => k_is)
      (case k => k_is)
    have d_law_letters : Tk.AtX KX mg "_law_letters" Tk.s_law_letters := by
      refine' Tk.mkd (st := Tk.s_law_letters) KX G ?a ?l ?c ?k
      (case a => k_is)
      (case l => k_is)
      (case c => k_is)
      (case k => k_is)
    have d_law_signs : Tk.AtX KX mg "_law_signs" Tk.s_law_signs := by
      refine' Tk.mkd (st := Tk.s_law_signs) KX G ?a ?l ?c ?k
      (case a => k_is)
      (case l => k_is)
      (case c => k_is)
      (case k => k_is)
    have d_law_text : Tk.AtX KX mg "_law_text" Tk.s_law_text := by
      refine' Tk.mkd (st := Tk.s_law_text) KX G ?a ?l ?c ?k
      (case a => k_is)
      (case l => k_is)
      (case c => k_is)
      (case k => k_is)
    have d_law_rich : Tk.AtX KX mg "_law_rich" Tk.s_law_rich := by
      refine' Tk.mkd (st := Tk.s_law_rich) KX G ?a ?l ?c ?k
      (case a => k_is)
      (case l => k_is)
      (case c => k_is)
      (case k => k_is)
    have d_law_round : Tk.AtX KX mg "_law_round" Tk.s_law_round := by
      refine' Tk.mkd (st := Tk.s_law_round) KX G ?a ?l ?c ?k
      (case a => k_is)
      (case l => k_is)
      (case c => k_is)
      (case k => k_is)
    have d_law_on_circle : Tk.AtX KX mg "_law_on_circle" Tk.s_law_on_circle := by
      refine' Tk.mkd (st := Tk.s_law_on_circle) KX G ?a ?l ?c ?k
      (case a => k_is)
      (case l => k_is)
      (case c => k_is)
      (case k => k_is)
    have d_law_windows : Tk.AtX KX mg "_law_windows" Tk.s_law_windows := by
      refine' Tk.mkd (st := Tk.s_law_windows) KX G ?a ?l ?c ?k
      (case a => k_is)
      (case l => k_is)
      (case c => k_is)
      (case k => k_is)
    have d_law_explains : Tk.AtX KX mg "_law_explains" Tk.s_law_explains := by
      refine' Tk.mkd (st := Tk.s_law_explains) KX G ?a ?l ?c ?k
      (case a => k_is)
      (case l => k_is)
      (case c => k_is)
      (case k => k_is)
    have d_law_cut : Tk.AtX KX mg "_law_cut" Tk.s_law_cut := by
      refine' Tk.mkd (st := Tk.s_law_cut) KX G ?a ?l ?c ?k
      (case a => k_is)
      (case l => k_is)
      (case c => k_is)
      (case k => k_is)
    have d_law_shards : Tk.AtX KX mg "_law_shards" Tk.s_law_shards := by
      refine' Tk.mkd (st := Tk.s_law_shards) KX G ?a ?l ?c ?k
      (case a => k_is)
      (case l => k_is)
      (case c => k_is)
      (case k => k_is)
    have d_law_word : Tk.AtX KX mg "_law_word" Tk.s_law_word := by
      refine' Tk.mkd (st := Tk.s_law_word) KX G ?a ?l ?c ?k
      (case a => k_is)
      (case l => k_is)
      (case c => k_is)
      (case k => k_is)
    have d_law_walk : Tk.AtX KX mg "_law_walk" Tk.s_law_walk := by
      refine' Tk.mkd (st := Tk.s_law_walk) KX G ?a ?l ?c ?k
      (case a => k_is)
      (case l => k_is)
      (case c => k_is)
      (case k => k_is)
    have d_law_joined : Tk.AtX KX mg "_law_joined" Tk.s_law_joined := by
      refine' Tk.mkd (st := Tk.s_law_joined) KX G ?a ?l ?c ?k
      (case a => k_is)
      (case l => k_is)
      (case c => k_is)
      (case k => k_is)
    have d_law_closed : Tk.AtX KX mg "_law_closed" Tk.s_law_closed := by
      refine' Tk.mkd (st := Tk.s_law_closed) KX G ?a ?l ?c ?k
      (case a => k_is)
      (case l => k_is)
      (case c => k_is)
      (case k => k_is)
    have d_law : Tk.AtX KX mg "law" Tk.s_law := by
      refine' Tk.mkd (st := Tk.s_law) KX G ?a ?l ?c ?k
      (case a => k_is)
      (case l => k_is)
      (case c => k_is)
      (case k => k_is)
    exact Tk.finish hmg T d_finished_from d_turned_around d_components_of d_check_shards d_check_shape d_window_list d_gram_list d_following d_advance d_check_word d_state_list d_way d_ways_from d_read_within d_can_read d_path_to d_circle_within d_grouped d_circle_decision d_decided d_check_question d_decide d_example d_law_begin d_law_take d_law_letters d_law_signs d_law_text d_law_rich d_law_round d_law_on_circle d_law_windows d_law_explains d_law_cut d_law_shards d_law_word d_law_walk d_law_joined d_law_closed d_law


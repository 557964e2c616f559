import PyProof.Rows.All
import Wide.All
import OpenK.AllK
import Wide.FinOn
import PySem.Challenge.RW_blockorder_k22_whole_chains_and_full_sys
import KE.KStateDown
import Lean
import HandS.ForMost
import HandS.Defaults
import HandS.Property
import HandS.Walk
import HandS.IsInst
import HandS.Flow
import HandS.Star
import HandS.Deep
import HandS.DictComp
import HandS.Conv
import HandS.CallLocal
import HandS.TupAny
import HandS.Head0
import HandS.Head1
import HandS.Head2
import HandS.HeadEnd
import HandS.HeadHook1
import HandS.HeadHook2
import HandS.HeadHook3
import KE.KSuper
import KE.DataMinMax
import KE.DataFind
import HandS.Nested
import HandS.Small
import HandS.SetKeys
import HandS.SetBool
import HandS.GenList
import KE.GoesOver

/-! M1 -/
/-! Counting, matchings: plain lists, no program. -/
namespace Bo
section
variable {α β : Type} [DecidableEq α] [DecidableEq β]

/-- an injection between lists without repeats counts -/
theorem len_le_of_inj : ∀ {S : List α} {T : List β} (f : α → β), S.Nodup → (∀ x ∈ S, f x ∈ T) → (∀ x ∈ S, ∀ y ∈ S, f x = f y → x = y) → S.length ≤ T.length
  | [], _, _, _, _, _ => Nat.zero_le _
  | a :: S, T, f, nd, h1, h2 => by
    have nd' := List.nodup_cons.mp nd
    have ih := len_le_of_inj (S := S) (T := T.erase (f a)) f nd'.2 (fun x hx => by
      have hne : f x ≠ f a := fun e => by
        have := h2 x (List.mem_cons_of_mem _ hx) a List.mem_cons_self e
        exact nd'.1 (this ▸ hx)
      exact (List.mem_erase_of_ne hne).mpr (h1 x (List.mem_cons_of_mem _ hx))) (fun x hx y hy e => h2 x (List.mem_cons_of_mem _ hx) y (List.mem_cons_of_mem _ hy) e)
    have hm := h1 a List.mem_cons_self
    have hl := List.length_erase_of_mem hm
    have hp : 0 < T.length := List.length_pos_of_mem hm
    simp only [List.length_cons]
    omega
theorem len_le_of_sub {S T : List α} (nd : S.Nodup) (h : ∀ x ∈ S, x ∈ T) : S.length ≤ T.length :=
  len_le_of_inj (fun x => x) nd h fun _ _ _ _ e => e
/-- a sublist without repeats that is as long holds all -/
theorem all_of_len {S T : List α} (nd : S.Nodup) (h : ∀ x ∈ S, x ∈ T) (hl : T.length ≤ S.length) : ∀ x ∈ T, x ∈ S := fun x hx => by
  apply Classical.byContradiction
  intro hn
  have := len_le_of_sub (S := x :: S) (T := T) (List.nodup_cons.mpr ⟨hn, nd⟩) (fun y hy => by
    rcases List.mem_cons.mp hy with e | e
    · exact e ▸ hx
    · exact h y e)
  simp only [List.length_cons] at this
  omega
end

/-! ### dicts with text keys, as lists of pairs -/
section
variable {κ β : Type} [DecidableEq κ]
def dget (d : List (κ × β)) (k : κ) : Option β := (d.find? fun p => decide (p.1 = k)).map (·.2)
def dput (d : List (κ × β)) (k : κ) (v : β) : List (κ × β) :=
  if (d.any fun p => decide (p.1 = k)) = true then d.map (fun p => if p.1 = k then (p.1, v) else p) else d ++ [(k, v)]
theorem dget_nil (k : κ) : dget ([] : List (κ × β)) k = none := rfl
theorem dget_cons (p : κ × β) (d : List (κ × β)) (k : κ) : dget (p :: d) k = if p.1 = k then some p.2 else dget d k := by
  unfold dget
  rw [List.find?_cons]
  by_cases h : p.1 = k
  · simp [h]
  · simp [h]
theorem dget_isSome {d : List (κ × β)} {k : κ} : (dget d k).isSome = true ↔ k ∈ d.map (·.1) := by
  induction d with
  | nil => simp [dget_nil]
  | cons p d ih =>
    rw [dget_cons, List.map_cons, List.mem_cons]
    by_cases h : p.1 = k
    · simp [h]
    · rw [if_neg h, ih]
      constructor
      · exact .inr
      · rintro (e | e)
        · exact absurd e.symm h
        · exact e
theorem dget_none {d : List (κ × β)} {k : κ} : dget d k = none ↔ k ∉ d.map (·.1) := by
  rw [← dget_isSome]
  cases dget d k <;> simp
theorem dget_mem {d : List (κ × β)} {k : κ} {v : β} (h : dget d k = some v) : (k, v) ∈ d := by
  induction d with
  | nil => simp [dget_nil] at h
  | cons p d ih =>
    rw [dget_cons] at h
    by_cases e : p.1 = k
    · rw [if_pos e] at h
      obtain ⟨a, b⟩ := p
      simp at e h
      rw [e, h]
      exact List.mem_cons_self
    · rw [if_neg e] at h
      exact List.mem_cons_of_mem _ (ih h)
theorem dget_of_mem {d : List (κ × β)} {k : κ} {v : β} (nd : (d.map (·.1)).Nodup) (h : (k, v) ∈ d) : dget d k = some v := by
  induction d with
  | nil => cases h
  | cons p d ih =>
    rw [List.map_cons, List.nodup_cons] at nd
    rw [dget_cons]
    rcases List.mem_cons.mp h with e | e
    · rw [← e]
      simp
    · have hk : k ∈ d.map (·.1) := List.mem_map.mpr ⟨(k, v), e, rfl⟩
      have : ¬ p.1 = k := fun q => nd.1 (q ▸ hk)
      rw [if_neg this]
      exact ih nd.2 e
theorem any_key {d : List (κ × β)} {k : κ} : (d.any fun p => decide (p.1 = k)) = true ↔ k ∈ d.map (·.1) := by
  rw [List.any_eq_true, List.mem_map]
  constructor
  · rintro ⟨p, hp, e⟩
    exact ⟨p, hp, of_decide_eq_true e⟩
  · rintro ⟨p, hp, e⟩
    exact ⟨p, hp, decide_eq_true e⟩
theorem dget_map_put (k j : κ) (v : β) : ∀ d : List (κ × β), dget (d.map fun p => if p.1 = k then (p.1, v) else p) j = if j = k then (dget d j).map (fun _ => v) else dget d j
  | [] => by simp [dget_nil]
  | p :: d => by
    rw [List.map_cons, dget_cons, dget_cons, dget_map_put k j v d]
    by_cases h1 : p.1 = k
    · rw [if_pos h1]
      by_cases h2 : p.1 = j
      · have h3 : j = k := h2.symm.trans h1
        simp [h2, h3]
      · have h3 : ¬ j = k := fun e => h2 (h1.trans e.symm)
        simp [h2, h3]
    · rw [if_neg h1]
      by_cases h2 : p.1 = j
      · have h3 : ¬ j = k := fun e => h1 (h2.trans e)
        simp [h2, h3]
      · simp [h2]
theorem dget_put (d : List (κ × β)) (k j : κ) (v : β) : dget (dput d k v) j = if j = k then some v else dget d j := by
  unfold dput
  by_cases h : k ∈ d.map (·.1)
  · rw [if_pos (any_key.mpr h), dget_map_put]
    by_cases e : j = k
    · subst e
      have := dget_isSome.mpr h
      cases q : dget d j with
      | none =>
        rw [q] at this
        cases this
      | some x => simp
    · simp [e]
  · rw [if_neg (fun z => h (any_key.mp z))]
    have hn := dget_none.mpr h
    by_cases e : j = k
    · subst e
      rw [if_pos rfl]
      clear h
      induction d with
      | nil => simp [dget_cons]
      | cons p d ih =>
        rw [dget_cons] at hn
        by_cases q : p.1 = j
        · rw [if_pos q] at hn
          cases hn
        · rw [if_neg q] at hn
          rw [List.cons_append, dget_cons, if_neg q]
          exact ih hn
    · rw [if_neg e]
      clear hn h
      induction d with
      | nil => simp [dget_cons, dget_nil, Ne.symm e]
      | cons p d ih => rw [List.cons_append, dget_cons, dget_cons, ih]
theorem keys_put (d : List (κ × β)) (k : κ) (v : β) : (dput d k v).map (·.1) = if k ∈ d.map (·.1) then d.map (·.1) else d.map (·.1) ++ [k] := by
  unfold dput
  by_cases h : k ∈ d.map (·.1)
  · rw [if_pos (any_key.mpr h), if_pos h, List.map_map]
    apply List.map_congr_left
    intro p hp
    simp only [Function.comp]
    split <;> rfl
  · rw [if_neg (fun z => h (any_key.mp z)), if_neg h, List.map_append]
    rfl
theorem keys_put_nd {d : List (κ × β)} (nd : (d.map (·.1)).Nodup) (k : κ) (v : β) : ((dput d k v).map (·.1)).Nodup := by
  rw [keys_put]
  split
  · exact nd
  · rename_i h
    rw [List.nodup_append]
    refine ⟨nd, by simp, ?_⟩
    intro a ha b hb e
    simp at hb
    subst hb
    exact h (e ▸ ha)
theorem mem_keys_put {d : List (κ × β)} {k j : κ} {v : β} : j ∈ (dput d k v).map (·.1) ↔ j = k ∨ j ∈ d.map (·.1) := by
  rw [keys_put]
  split
  · rename_i h
    constructor
    · exact .inr
    · rintro (e | e)
      · exact e ▸ h
      · exact e
  · rw [List.mem_append, List.mem_singleton]
    exact or_comm
theorem len_put_le (d : List (κ × β)) (k : κ) (v : β) : (dput d k v).length ≤ d.length + 1 := by
  unfold dput
  split
  · simp
  · simp
theorem dput_new {d : List (κ × β)} {k : κ} (v : β) (h : k ∉ d.map (·.1)) : dput d k v = d ++ [(k, v)] := by
  unfold dput
  rw [if_neg (fun z => h (any_key.mp z))]
end
end Bo

/-! M2 -/
set_option Elab.async false
set_option linter.all false
set_option maxHeartbeats 1000000
/-! Alternating paths and assignments, in plain lists. -/
namespace Bo
section
variable {α : Type} [DecidableEq α]
/-- what a search from s has met, in its order: each unknown with the equation from which it was met -/
inductive Tree (O : List (α × α)) (R : α → List α) (s : α) : List (α × α) → Prop where
  | nil : Tree O R s []
  | snoc {C : List (α × α)} {u e : α} : Tree O R s C → u ∉ C.map (·.1) → u ∈ R e → (e = s ∨ ∃ v ∈ C.map (·.1), dget O v = some e) → Tree O R s (C ++ [(u, e)])
section
variable {O : List (α × α)} {R : α → List α} {s : α}
theorem Tree.last {C : List (α × α)} {u e : α} (h : Tree O R s (C ++ [(u, e)])) : Tree O R s C ∧ u ∉ C.map (·.1) ∧ u ∈ R e ∧ (e = s ∨ ∃ v ∈ C.map (·.1), dget O v = some e) := by
  generalize q : C ++ [(u, e)] = D at h
  cases h with
  | nil => exact absurd q (by simp)
  | snoc h1 h2 h3 h4 =>
    obtain ⟨e1, e2⟩ := List.append_inj' q rfl
    subst e1
    obtain ⟨rfl, rfl⟩ := Prod.mk.inj (List.singleton_inj.mp e2)
    exact ⟨h1, h2, h3, h4⟩
theorem Tree.pre {D : List (α × α)} (h : Tree O R s D) : ∀ {A B : List (α × α)}, D = A ++ B → Tree O R s A := by
  induction h with
  | nil =>
    intro A B e
    obtain ⟨rfl, _⟩ := List.append_eq_nil_iff.mp e.symm
    exact .nil
  | @snoc C u e h1 h2 h3 h4 ih =>
    intro A B q
    rcases List.eq_nil_or_concat B with rfl | ⟨B', x, rfl⟩
    · rw [List.append_nil] at q
      rw [← q]
      exact .snoc h1 h2 h3 h4
    · rw [List.concat_eq_append, ← List.append_assoc] at q
      exact ih (List.append_inj' q rfl).1
theorem Tree.nd {D : List (α × α)} (h : Tree O R s D) : (D.map (·.1)).Nodup := by
  induction h with
  | nil => exact .nil
  | @snoc C u e h1 h2 h3 h4 ih =>
    rw [List.map_append, List.nodup_append]
    exact ⟨ih, by simp, fun a ha b hb z => h2 (by simp at hb; rw [← hb, ← z]; exact ha)⟩
theorem Tree.row {D : List (α × α)} (h : Tree O R s D) {q : α × α} (hq : q ∈ D) : q.1 ∈ R q.2 := by
  induction h with
  | nil => cases hq
  | @snoc C u e h1 h2 h3 h4 ih =>
    rcases List.mem_append.mp hq with hq | hq
    · exact ih hq
    · rw [List.mem_singleton.mp hq]
      exact h3
end
/-- owners and their unknowns, each the other's inverse -/
structure Mt (R : α → List α) (O G : List (α × α)) : Prop where
  inv : ∀ u e, dget O u = some e ↔ dget G e = some u
  row : ∀ e u, dget G e = some u → u ∈ R e
/-- in the midst of a change along a path: v is to be given to e -/
structure Aug (R : α → List α) (s : α) (O0 G0 O G : List (α × α)) (P : List (α × α)) (v e : α) : Prop where
  tree : Tree O0 R s (P ++ [(v, e)])
  mt0 : Mt R O0 G0
  s0 : dget G0 s = none
  row : ∀ e u, dget G e = some u → u ∈ R e
  free : ∀ e', dget G e' ≠ some v
  inv : ∀ u, u ≠ v → ∀ e', dget O u = some e' ↔ dget G e' = some u
  same : ∀ q ∈ P ++ [(v, e)], dget G q.2 = dget G0 q.2
  dom : ∀ e', e' ∈ G.map (·.1) ↔ e' ∈ G0.map (·.1)
section
variable {R : α → List α} {s : α} {O0 G0 O G P : List (α × α)} {v e : α}
/-- the start of the change -/
theorem Aug.start (T : Tree O0 R s (P ++ [(v, e)])) (m : Mt R O0 G0) (s0 : dget G0 s = none) (h : dget O0 v = none) : Aug R s O0 G0 O0 G0 P v e :=
  ⟨T, m, s0, m.row, fun e' z => (by
    have := (m.inv v e').mpr z
    rw [h] at this
    cases this), fun u _ e' => m.inv u e', fun _ _ => rfl, fun _ => Iff.rfl⟩
/-- the last step: e had none -/
theorem Aug.done (A : Aug R s O0 G0 O G P v e) (h : dget G e = none) : e = s ∧ Mt R (dput O v e) (dput G e v) := by
  obtain ⟨t1, t2, t3, t4⟩ := A.tree.last
  have he : dget G e = dget G0 e := A.same (v, e) (by simp)
  refine ⟨?_, fun u e' => ?_, fun e' u z => ?_⟩
  · rcases t4 with t4 | ⟨w, _, hw⟩
    · exact t4
    · have := (A.mt0.inv w e).mp hw
      rw [← he, h] at this
      cases this
  · rw [dget_put, dget_put]
    by_cases hu : u = v
    · subst hu
      rw [if_pos rfl]
      by_cases hee : e' = e
      · subst hee
        rw [if_pos rfl]
        simp
      · rw [if_neg hee]
        constructor
        · intro z
          exact absurd (Option.some.inj z).symm hee
        · intro z
          exact absurd z (A.free e')
    · rw [if_neg hu, A.inv u hu e']
      by_cases hee : e' = e
      · subst hee
        rw [if_pos rfl, h]
        constructor
        · intro z; cases z
        · intro z; exact absurd (Option.some.inj z).symm hu
      · rw [if_neg hee]
  · rw [dget_put] at z
    by_cases hee : e' = e
    · subst hee
      rw [if_pos rfl] at z
      rw [← Option.some.inj z]
      exact t3
    · rw [if_neg hee] at z
      exact A.row e' u z
theorem mem_split {D : List (α × α)} {b : α} (h : b ∈ D.map (·.1)) : ∃ A c B, D = A ++ (b, c) :: B := by
  obtain ⟨⟨b', c⟩, hq, rfl⟩ := List.mem_map.mp h
  obtain ⟨A, B, rfl⟩ := List.append_of_mem hq
  exact ⟨A, c, B, rfl⟩
/-- a step on: e had b -/
theorem Aug.step (A : Aug R s O0 G0 O G P v e) {b : α} (h : dget G e = some b) : ∃ P1 e1 P2, P = P1 ++ (b, e1) :: P2 ∧ Aug R s O0 G0 (dput O v e) (dput G e v) P1 b e1 := by
  obtain ⟨t1, t2, t3, t4⟩ := A.tree.last
  have he : dget G e = dget G0 e := A.same (v, e) (by simp)
  have hG0 : dget G0 e = some b := by rw [← he, h]
  have es : e ≠ s := fun z => by
    rw [z, A.s0] at hG0
    cases hG0
  have own : ∀ w, dget O0 w = some e → w = b := fun w hw => by
    have := (A.mt0.inv w e).mp hw
    rw [hG0] at this
    exact (Option.some.inj this).symm
  have hb : b ∈ P.map (·.1) := by
    rcases t4 with t4 | ⟨w, w1, w2⟩
    · exact absurd t4 es
    · rw [← own w w2]
      exact w1
  obtain ⟨P1, e1, P2, eP⟩ := mem_split hb
  have bv : b ≠ v := fun z => t2 (z ▸ hb)
  have eP' : P = (P1 ++ [(b, e1)]) ++ P2 := by rw [eP]; simp
  have T1 : Tree O0 R s (P1 ++ [(b, e1)]) := t1.pre eP'
  have nb : b ∉ P1.map (·.1) := T1.last.2.1
  refine ⟨P1, e1, P2, eP, T1, A.mt0, A.s0, fun e' u z => ?_, fun e' z => ?_, fun u hu e' => ?_, fun q hq => ?_, fun e' => ?_⟩
  · rw [dget_put] at z
    by_cases hee : e' = e
    · subst hee
      rw [if_pos rfl] at z
      rw [← Option.some.inj z]
      exact t3
    · rw [if_neg hee] at z
      exact A.row e' u z
  · rw [dget_put] at z
    by_cases hee : e' = e
    · rw [if_pos hee] at z
      exact bv (Option.some.inj z).symm
    · rw [if_neg hee] at z
      have h1 := (A.inv b bv e').mpr z
      have h2 := (A.inv b bv e).mpr h
      rw [h1] at h2
      exact hee (Option.some.inj h2)
  · rw [dget_put, dget_put]
    by_cases huv : u = v
    · subst huv
      rw [if_pos rfl]
      by_cases hee : e' = e
      · subst hee
        rw [if_pos rfl]
        simp
      · rw [if_neg hee]
        constructor
        · intro z
          exact absurd (Option.some.inj z).symm hee
        · intro z
          exact absurd z (A.free e')
    · rw [if_neg huv, A.inv u huv e']
      by_cases hee : e' = e
      · subst hee
        rw [if_pos rfl, h]
        constructor
        · intro z; exact absurd (Option.some.inj z).symm hu
        · intro z; exact absurd (Option.some.inj z).symm huv
      · rw [if_neg hee]
  · have hne : q.2 ≠ e := fun z => by
      obtain ⟨X, Y, eXY⟩ := List.append_of_mem hq
      have T2 : Tree O0 R s (X ++ [(q.1, q.2)]) := T1.pre (B := Y) (by rw [eXY]; simp)
      obtain ⟨_, _, _, x4⟩ := T2.last
      rcases x4 with x4 | ⟨w, w1, w2⟩
      · exact es (z ▸ x4)
      · rw [z] at w2
        have := own w w2
        subst this
        have p1 : X <+: P1 ++ [(w, e1)] := by rw [eXY]; exact List.prefix_append _ _
        have p2 : P1 <+: P1 ++ [(w, e1)] := List.prefix_append _ _
        have l1 : X.length ≤ P1.length := by
          have := congrArg List.length eXY
          simp only [List.length_append, List.length_cons, List.length_nil] at this
          omega
        obtain ⟨Z, hZ⟩ := List.prefix_of_prefix_length_le p1 p2 l1
        apply nb
        rw [← hZ, List.map_append]
        exact List.mem_append.mpr (.inl w1)
    rw [dget_put, if_neg hne]
    refine A.same q ?_
    rw [eP']
    exact List.mem_append.mpr (.inl (List.mem_append.mpr (.inl hq)))
  · rw [mem_keys_put, ← A.dom]
    constructor
    · rintro (z | z)
      · rw [z]
        exact dget_isSome.mp (by rw [h]; rfl)
      · exact z
    · exact .inr
end
end
end Bo

/-! M3 -/
set_option Elab.async false
set_option linter.all false
set_option maxHeartbeats 1000000
namespace Bo
section
variable {α : Type} [DecidableEq α]
/-- no set of equations, other than all of them, has fewer unknowns than equations -/
def Hall (es : List α) (R : α → List α) : Prop := ∀ S N : List α, S.Nodup → (∀ x ∈ S, x ∈ es) → (∃ e ∈ es, e ∉ S) → (∀ e ∈ S, ∀ u ∈ R e, u ∈ N) → S.length ≤ N.length
theorem fm_lt {β : Type} {f : α → Option β} : ∀ {l : List α} {x : α}, x ∈ l → f x = none → (l.filterMap f).length < l.length
  | a :: l, x, h, hf => by
    rw [List.filterMap_cons]
    rcases List.mem_cons.mp h with rfl | h
    · rw [hf]
      exact Nat.lt_succ_of_le (List.length_filterMap_le ..)
    · have ih := fm_lt h hf
      cases f a with
      | none => exact Nat.lt_succ_of_lt ih
      | some b => exact Nat.succ_lt_succ ih
/-- where a search ends without success, it has been everywhere -/
theorem hall_shut {es : List α} {R : α → List α} {O G : List (α × α)} {s : α} {W : List α} (hn : es.Nodup) (hh : Hall es R) (m : Mt R O G) (hs : dget G s = none) (s0 : s ∈ W) (sub : ∀ w ∈ W, w ∈ es) (cl : ∀ w ∈ W, ∀ u ∈ R w, ∃ w' ∈ W, dget O u = some w') : ∀ e ∈ es, e ∈ W := by
  intro e he
  apply Decidable.byContradiction
  intro hne
  have h := hh (es.filter fun x => decide (x ∈ W)) ((es.filter fun x => decide (x ∈ W)).filterMap fun x => dget G x) (hn.sublist List.filter_sublist) (fun x hx => (List.mem_filter.mp hx).1)
    ⟨e, he, fun hm => hne (of_decide_eq_true (List.mem_filter.mp hm).2)⟩ (fun x hx u hu => by
      obtain ⟨w', h1, h2⟩ := cl x (of_decide_eq_true (List.mem_filter.mp hx).2) u hu
      exact List.mem_filterMap.mpr ⟨w', List.mem_filter.mpr ⟨sub w' h1, decide_eq_true h1⟩, (m.inv u w').mp h2⟩)
  have := fm_lt (l := es.filter fun x => decide (x ∈ W)) (x := s) (f := fun x => dget G x) (List.mem_filter.mpr ⟨sub s s0, decide_eq_true s0⟩) hs
  omega
/-- an assignment: of all equations; or of all but one, and then every unknown is taken -/
structure Asg (es : List α) (R : α → List α) (M : List (α × α)) : Prop where
  nd : (M.map (·.1)).Nodup
  ks : ∀ e ∈ M.map (·.1), e ∈ es
  row : ∀ e u, dget M e = some u → u ∈ R e
  inj : ∀ e e' u, dget M e = some u → dget M e' = some u → e = e'
  all : (∀ e ∈ es, e ∈ M.map (·.1)) ∨ ∃ e0 ∈ es, e0 ∉ M.map (·.1) ∧ (∀ e ∈ es, e ≠ e0 → e ∈ M.map (·.1)) ∧ ∀ e ∈ es, ∀ u ∈ R e, ∃ w ∈ es, dget M w = some u
/-- how far the search for a largest assignment is -/
structure Big (es : List α) (R : α → List α) (i : Nat) (O G : List (α × α)) : Prop where
  mt : Mt R O G
  ks : ∀ e ∈ G.map (·.1), e ∈ es.take i
  all : (∀ e ∈ es.take i, e ∈ G.map (·.1)) ∨ ∃ e0 ∈ es.take i, e0 ∉ G.map (·.1) ∧ (∀ e ∈ es, e ≠ e0 → e ∈ G.map (·.1)) ∧ ∀ e ∈ es, ∀ u ∈ R e, ∃ w ∈ es, dget O u = some w
theorem take_succ_mem {es : List α} {i : Nat} {e x : α} (h : es[i]? = some e) : x ∈ es.take (i + 1) ↔ x ∈ es.take i ∨ x = e := by
  rw [List.take_add_one, h, List.mem_append]
  simp
theorem not_take {es : List α} {i : Nat} {e : α} (hn : es.Nodup) (h : es[i]? = some e) : e ∉ es.take i := by
  intro hm
  have : (es.take (i + 1)).Nodup := hn.sublist (List.take_sublist _ _)
  rw [List.take_add_one, h, List.nodup_append] at this
  exact this.2.2 _ hm _ (by simp) rfl
section
variable {es : List α} {R : α → List α} {i : Nat} {O G : List (α × α)} {e : α}
theorem Big.fresh (B : Big es R i O G) (hn : es.Nodup) (h : es[i]? = some e) : dget G e = none := dget_none.mpr fun hm => not_take hn h (B.ks e hm)
theorem Big.found {O' G' : List (α × α)} (B : Big es R i O G) (hn : es.Nodup) (h : es[i]? = some e) (m : Mt R O' G') (hk : ∀ x, x ∈ G'.map (·.1) ↔ x = e ∨ x ∈ G.map (·.1)) : Big es R (i + 1) O' G' := by
  refine ⟨m, fun x hx => ?_, ?_⟩
  · rw [take_succ_mem h]
    rcases (hk x).mp hx with hx | hx
    · exact .inr hx
    · exact .inl (B.ks x hx)
  · rcases B.all with a | ⟨e0, h1, h2, h3, h4⟩
    · refine .inl fun x hx => (hk x).mpr ?_
      rcases (take_succ_mem h).mp hx with hx | hx
      · exact .inr (a x hx)
      · exact .inl hx
    · exfalso
      have hne : e ≠ e0 := fun z => not_take hn h (z ▸ h1)
      exact not_take hn h (B.ks e (h3 e (List.mem_of_getElem? h) hne))
theorem Big.fail {W : List α} (B : Big es R i O G) (hn : es.Nodup) (h : es[i]? = some e) (hh : Hall es R) (s0 : e ∈ W) (sub : ∀ w ∈ W, w ∈ es) (hd : ∀ w ∈ W, w = e ∨ ∃ v, dget O v = some w)
    (cl : ∀ w ∈ W, ∀ u ∈ R w, ∃ w' ∈ W, dget O u = some w') : Big es R (i + 1) O G := by
  have hall := hall_shut hn hh B.mt (B.fresh hn h) s0 sub cl
  refine ⟨B.mt, fun x hx => (take_succ_mem h).mpr (.inl (B.ks x hx)), .inr ⟨e, (take_succ_mem h).mpr (.inr rfl), fun hm => not_take hn h (B.ks e hm), fun x hx hne => ?_, fun x hx u hu => ?_⟩⟩
  · rcases hd x (hall x hx) with z | ⟨v, hv⟩
    · exact absurd z hne
    · exact dget_isSome.mp (by rw [(B.mt.inv v x).mp hv]; rfl)
  · obtain ⟨w', h1, h2⟩ := cl x (hall x hx) u hu
    exact ⟨w', sub w' h1, h2⟩
theorem Big.asg (B : Big es R es.length O G) (hn : es.Nodup) {M : List (α × α)} (hk : ∀ e, e ∈ M.map (·.1) ↔ e ∈ es ∧ e ∈ G.map (·.1)) (nd : (M.map (·.1)).Nodup) (hg : ∀ e ∈ es, dget M e = dget G e) : Asg es R M := by
  have tk : es.take es.length = es := List.take_length
  have ks : ∀ e ∈ G.map (·.1), e ∈ es := fun e he => by
    have := B.ks e he
    rwa [tk] at this
  have hg' : ∀ e u, dget M e = Option.some u → dget G e = Option.some u := fun e u h => by
    have : e ∈ es := ((hk e).mp (dget_isSome.mp (by rw [h]; rfl))).1
    rw [← hg e this]
    exact h
  refine ⟨nd, fun e he => ((hk e).mp he).1, fun e u h => B.mt.row e u (hg' e u h), fun e e' u h h' => ?_, ?_⟩
  · have h1 := (B.mt.inv u e).mpr (hg' e u h)
    have h2 := (B.mt.inv u e').mpr (hg' e' u h')
    rw [h1] at h2
    exact Option.some.inj h2
  · rcases B.all with a | ⟨e0, h1, h2, h3, h4⟩
    · rw [tk] at a
      exact .inl fun e he => (hk e).mpr ⟨he, a e he⟩
    · rw [tk] at h1
      refine .inr ⟨e0, h1, fun hm => h2 ((hk e0).mp hm).2, fun e he hne => (hk e).mpr ⟨he, h3 e he hne⟩, fun e he u hu => ?_⟩
      obtain ⟨w, hw, h⟩ := h4 e he u hu
      exact ⟨w, hw, by rw [hg w hw]; exact (B.mt.inv u w).mp h⟩
end
end
end Bo

/-! H0 -/
set_option Elab.async false
set_option linter.all false
set_option maxRecDepth 100000
set_option maxHeartbeats 4000000
/-! What the top leaves, told by names: the hook. -/
namespace Bo
open PySem PySem.Spec PyProof.Rows L2
abbrev Fg : Type := PySem.W.Frag
/-- where a def stands: a global, a method of a class, a property's getter -/
inductive Pth where
  | g (x : Str)
  | m (C x : Str)
  | p (C x : Str)
def getter (K : Fg) (a : Addr) : Addr := match PySem.W.recIn K a "property" with
  | some (.ref f :: _) => f
  | _ => 0
def Pth.ad (K : Fg) : Pth → Addr
  | .g x => He.ga K x
  | .m C x => He.ma K (He.ga K C) x
  | .p C x => getter K (He.ma K (He.ga K C) x)
abbrev FnT : Type := Option (Str × Str × Arguments × FuncBody × Scope × Addr × List Str × Addr)
def fnT (K : Fg) (a : Addr) : FnT := match K.lookup a with
  | some o => (match o.data with
    | .func u => some (u.name, u.qualname, u.params, u.body, u.scope, u.globals, u.closure.map (·.1), u.builtins)
    | _ => none)
  | none => none
structure DefA where
  pth : Pth
  name : Str
  qual : Str
  st : Stmt
  kwd : List (Str × He.Dv) := []
  clo : List Str := []
def DefA.val (d : DefA) : FnT := some (d.name, d.qual, defArgs d.st, .stmts (defBody d.st), defScope d.st, mainGlobals, d.clo, builtinsNs)
def DefA.kws (K : Fg) (d : DefA) : List (Str × V) := d.kwd.map fun q => (q.1, q.2.v K)
def DefA.ok (K : Fg) (d : DefA) : Bool := PySem.W.keepIn K (.ref (d.pth.ad K)) && (match K.lookup (d.pth.ad K) with
  | some o => (match o.data with
    | .func u => PySem.W.codeIn K u.code d.qual && (He.dflB K u.defaults [] && He.kwdB K u.kwdefaults (d.kws K))
    | _ => false)
  | none => false)
/-- a def with its closure as it stands -/
theorem DefA.raw {K : Fg} {d : DefA} (e : fnT K (d.pth.ad K) = d.val) (c : d.ok K = true) :
    PySem.W.keepIn K (.ref (d.pth.ad K)) = true ∧ ∃ (oc : Value) (od : Option Addr) (dV kV doc pm : Value) (an : Option Addr) (cdv ct : Value) (osl : Array (Option Value)) (cl : List (Str × Addr)), cl.map (·.1) = d.clo ∧
      K.lookup (d.pth.ad K) = some ⟨oc, od, .func { PySem.W.fnOf d.name d.qual (defArgs d.st) (defBody d.st) (defScope d.st) dV kV doc pm an cdv ct with closure := cl }, osl⟩ ∧
      PySem.W.codeIn K cdv d.qual = true ∧ DflV K dV [] ∧ KwdV K kV (d.kws K) := by
  obtain ⟨kp, c2⟩ := He.ba c
  refine ⟨kp, ?_⟩
  unfold fnT at e
  cases q : K.lookup (d.pth.ad K) with
  | none =>
    rw [q] at e
    cases e
  | some o =>
    rw [q] at c2 e
    obtain ⟨oc, od, dt, osl⟩ := o
    cases dt with
    | func u =>
      have e2 : (some (u.name, u.qualname, u.params, u.body, u.scope, u.globals, u.closure.map (·.1), u.builtins) : FnT) = d.val := e
      have c3 : (PySem.W.codeIn K u.code d.qual && (He.dflB K u.defaults [] && He.kwdB K u.kwdefaults (d.kws K))) = true := c2
      obtain ⟨k1, k2⟩ := He.ba c3
      obtain ⟨k3, k4⟩ := He.ba k2
      unfold DefA.val at e2
      cases u
      simp only [Option.some.injEq, Prod.mk.injEq] at e2
      obtain ⟨h1, h2, h3, h4, h5, h6, h7, h8⟩ := e2
      subst h1 h2 h3 h4 h5 h6 h8
      exact ⟨oc, od, _, _, _, _, _, _, _, osl, _, h7, rfl, k1, He.dflB_ok k3, He.kwdB_ok k4⟩
    | _ => cases e
abbrev FnA (K : Fg) (d : DefA) (f : Addr) (fd : FuncData) : Prop := FunD K d.name d.qual (defArgs d.st) (defBody d.st) (defScope d.st) [] (d.kws K) f fd
theorem DefA.funD {K : Fg} {d : DefA} (e : fnT K (d.pth.ad K) = d.val) (c : d.ok K = true) (hc : d.clo = []) : ∃ fd, FnA K d (d.pth.ad K) fd := by
  obtain ⟨kp, oc, od, dV, kV, doc, pm, an, cdv, ct, osl, cl, h1, h2, h3, h4, h5⟩ := DefA.raw e c
  have h6 : cl = [] := by
    rw [hc] at h1
    exact List.map_eq_nil_iff.mp h1
  subst h6
  exact ⟨_, ⟨oc, od, dV, kV, doc, pm, an, cdv, ct, osl, rfl, h2, h3, h4, h5⟩, kp⟩
/-- a property -/
def propB (K : Fg) (C f : Str) : Bool := He.eqO (PySem.W.findIn K (.ref (He.ga K C)) f) (some (some (.ref (He.ma K (He.ga K C) f)))) && (He.eqO (PySem.W.specialIn K (.ref (He.ma K (He.ga K C) f)) "__get__") (some (some (.builtin "property.__get__"))) &&
  (decide (PySem.W.takesIn K (.ref (He.ma K (He.ga K C) f)) = some true) && (match PySem.W.recIn K (He.ma K (He.ga K C) f) "property" with
    | some (.ref _ :: _) => true
    | _ => false)))
theorem propB_ok {K : Fg} {C f : Str} (h : propB K C f = true) : PropOf K (He.ga K C) f (He.ma K (He.ga K C) f) ((Pth.p C f).ad K) := by
  obtain ⟨h1, h2⟩ := He.ba h
  obtain ⟨h3, h4⟩ := He.ba h2
  obtain ⟨h5, h6⟩ := He.ba h4
  refine ⟨He.eqO_ok h1, He.eqO_ok h3, of_decide_eq_true h5, ?_⟩
  show ∃ rest, PySem.W.recIn K (He.ma K (He.ga K C) f) "property" = some (.ref (getter K (He.ma K (He.ga K C) f)) :: rest)
  unfold getter
  split at h6
  · rename_i g r q
    rw [q]
    exact ⟨r, rfl⟩
  · cases h6
/-- a tuple of the table x, by its key -/
def tupAt (K : Fg) (x k : Str) : Addr := match PySem.W.nsIn K (He.ga K x) k with
  | some (some (.ref a)) => a
  | _ => 0
def tupAtB (K : Fg) (x k : Str) (vs : List V) : Bool := He.eqO (PySem.W.nsIn K (He.ga K x) k) (some (some (.ref (tupAt K x k)))) && (match K.lookup (tupAt K x k) with
  | some o => (match o.data with
    | .seq its _ => decide (o.cls = .type "tuple") && (decide (its.size ≤ sizeLine) && He.relAll vs its.toList)
    | _ => false)
  | none => false)
theorem tupAtB_ok {K : Fg} {x k : Str} {vs : List V} (h : tupAtB K x k vs = true) : PySem.W.nsIn K (He.ga K x) k = some (some (.ref (tupAt K x k))) ∧ ∀ H, SqT K H (tupAt K x k) vs := by
  obtain ⟨h1, h2⟩ := He.ba h
  refine ⟨He.eqO_ok h1, fun H => ?_⟩
  cases q : K.lookup (tupAt K x k) with
  | none =>
    rw [q] at h2
    cases h2
  | some o =>
    rw [q] at h2
    cases d : o.data with
    | seq its n =>
      have h3 : (match o.data with
        | .seq its _ => decide (o.cls = .type "tuple") && (decide (its.size ≤ sizeLine) && He.relAll vs its.toList)
        | _ => false) = true := h2
      rw [d] at h3
      obtain ⟨k1, k2⟩ := He.ba h3
      obtain ⟨k3, k4⟩ := He.ba k2
      exact .inr ⟨o, its, n, q, of_decide_eq_true k1, d, of_decide_eq_true k3, He.relAll_ok k4⟩
    | _ =>
      have h3 : (match o.data with
        | .seq its _ => decide (o.cls = .type "tuple") && (decide (its.size ≤ sizeLine) && He.relAll vs its.toList)
        | _ => false) = true := h2
      rw [d] at h3
      cases h3
/-! ### super().__init__ -/
def cellB (K : Fg) (cc D : Addr) : Bool := match K.lookup cc with
  | some ⟨_, _, .cell (some (.ref d)), _⟩ => decide (d = D)
  | _ => false
def fileB (K : Fg) (c : Addr) (file : Str) : Bool := match K.lookup c with
  | some ⟨_, _, .fields vs, _⟩ => (match (vs : Array Value)[2]? with
    | some (Value.str x _) => decide (x = file)
    | _ => false)
  | _ => false
/-- the class C says super().__init__ in its own __init__; the next one stands in B -/
def supB (K : Fg) (C B : Str) (file : Str) : Bool := (match K.lookup (He.ma K (He.ga K C) "__init__") with
  | some ⟨_, _, .func u, _⟩ => (match u.closure, u.code with
    | [(_, cc)], .ref cd => cellB K cc (He.ga K C) && fileB K cd file
    | _, _ => false)
  | _ => false) && (He.eqO (PySem.W.nsIn K PySem.cStatics "thirdparty.any") (some none) && (decide (PySem.W.mroIn K (He.ga K C) (.ref (He.ga K C)) = some true) &&
    (He.eqO (PySem.W.ks_superIn K (He.ga K C) (He.ga K C) "__init__") (some (some (.ref (He.ma K (He.ga K B) "__init__")))) && ((PySem.W.clsIn K (He.ga K C)).isSome && PySem.W.isFn K (.ref (He.ma K (He.ga K B) "__init__"))))))
theorem cellB_ok {K : Fg} {cc D : Addr} (h : cellB K cc D = true) : ∃ cl cld csl, K.lookup cc = some ⟨cl, cld, .cell (some (.ref D)), csl⟩ := by
  unfold cellB at h
  split at h
  · rename_i a b d e q
    rw [of_decide_eq_true h] at q
    exact ⟨_, _, _, q⟩
  · cases h
theorem fileB_ok {K : Fg} {c : Addr} {file : Str} (h : fileB K c file = true) : ∃ ccl cdd vs ccs t, K.lookup c = some ⟨ccl, cdd, .fields vs, ccs⟩ ∧ vs[2]? = some (.str file t) := by
  unfold fileB at h
  split at h
  · rename_i a b vs e q
    split at h
    · rename_i x t z
      rw [of_decide_eq_true h] at z
      exact ⟨_, _, _, _, t, q, z⟩
    · cases h
  · cases h
/-! ### the hook -/
abbrev AlB : Type := Bool × List FnT × List (Option (List (Option (Str × Int))))
structure Plan where
  fa : List He.Fa
  ds : List DefA
  ex : List (Fg → Bool)
  ts : List He.Tab
def Plan.obs (p : Plan) (K : Fg) : AlB := ((p.fa.all fun f => f.ok K) && ((p.ds.all fun d => d.ok K) && p.ex.all fun b => b K), p.ds.map fun d => fnT K (d.pth.ad K), p.ts.map fun t => He.dicW K (t.1 K))
def Plan.val (p : Plan) (w : World) : AlB := (true, p.ds.map DefA.val, p.ts.map fun t => some (He.keysIn w.params t.2))
def Plan.Says (p : Plan) (w : World) (K : Fg) : Prop := p.obs K = p.val w
/-- what of an object is followed: a dict's values, a def's code and keyword defaults, a class's own names, a record's first fields -/
def next (o : Obj) : List Addr := match o.data with
  | .dict es _ => es.toList.flatMap fun e => He.refV e.val
  | .func u => He.refV u.code ++ (He.refV u.kwdefaults ++ u.closure.map (·.2))
  | .cls u => [u.ns]
  | .fields vs => (match o.cls with
    | .type "property" => vs.toList.flatMap He.refV
    | _ => [])
  | _ => []
def grow (g : Addr → Option Obj) (as : List Addr) : List Addr := as.flatMap fun a => match g a with
  | some o => next o
  | none => []
/-- round by round -/
def rounds (g : Addr → Option Obj) : Nat → List Addr → List Addr
  | 0, as => as
  | n + 1, as => as ++ rounds g n (grow g as)
def Plan.look (p : Plan) (n : Nat) (g : Addr → Option Obj) : AlB := p.obs (He.frG g (PySem.cStatics :: rounds g n [mainGlobals]))
def Plan.hook (p : Plan) (n : Nat) : PySem.W.Hook where
  α := AlB
  obs := fun s => p.look n s.heap.get?
  val := fun w => p.val w
  says := fun w h => ∃ K : Fg, K.In h ∧ p.Says w K
  of := fun _ _ e => ⟨_, He.frG_in, e⟩
  keeps := fun _ _ _ ⟨K, hK, c⟩ k => ⟨K, PySem.W.Frag.In.keeps hK k, c⟩
theorem Plan.look_eq {p : Plan} {n : Nat} {g : Addr → Option Obj} {s : Shared} (h : ∀ a, g a = s.heap.get? a) : p.look n g = (p.hook n).obs s := by
  have e : g = s.heap.get? := funext h
  rw [e] <;> rfl
section
variable {p : Plan} {w : World} {K : Fg}
theorem Plan.Says.one (c : p.Says w K) : (p.fa.all fun f => f.ok K) = true ∧ (p.ds.all fun d => d.ok K) = true ∧ (p.ex.all fun b => b K) = true := by
  obtain ⟨h1, h2⟩ := He.ba (congrArg (fun z : AlB => z.1) c)
  obtain ⟨h3, h4⟩ := He.ba h2
  exact ⟨h1, h3, h4⟩
theorem Plan.Says.fact (c : p.Says w K) (i : Nat) {f : He.Fa} (h : p.fa[i]? = some f := by rfl) : f.ok K = true := List.all_eq_true.mp c.one.1 f (List.mem_of_getElem? h)
theorem Plan.Says.more (c : p.Says w K) (i : Nat) {b : Fg → Bool} (h : p.ex[i]? = some b := by rfl) : b K = true := List.all_eq_true.mp c.one.2.2 b (List.mem_of_getElem? h)
theorem Plan.Says.tell (c : p.Says w K) (i : Nat) {d : DefA} (h : p.ds[i]? = some d := by rfl) : fnT K (d.pth.ad K) = d.val ∧ d.ok K = true := by
  have e : p.ds.map (fun d => fnT K (d.pth.ad K)) = p.ds.map DefA.val := congrArg (fun z : AlB => z.2.1) c
  have e2 : (p.ds.map fun d => fnT K (d.pth.ad K))[i]? = (p.ds.map DefA.val)[i]? := by rw [e]
  rw [List.getElem?_map, List.getElem?_map, h] at e2
  exact ⟨Option.some.inj e2, List.all_eq_true.mp c.one.2.1 d (List.mem_of_getElem? h)⟩
theorem Plan.Says.def_ (c : p.Says w K) (i : Nat) {d : DefA} (h : p.ds[i]? = some d := by rfl) (hc : d.clo = [] := by rfl) : ∃ fd, FnA K d (d.pth.ad K) fd := DefA.funD (c.tell i h).1 (c.tell i h).2 hc
theorem Plan.Says.tab (c : p.Says w K) (i : Nat) {t : He.Tab} (h : p.ts[i]? = some t := by rfl) : ∃ es n, KDict K w (t.1 K) es n := by
  have e : p.ts.map (fun t => He.dicW K (t.1 K)) = p.ts.map fun t => some (He.keysIn w.params t.2) := congrArg (fun z : AlB => z.2.2) c
  have e2 : (p.ts.map fun t => He.dicW K (t.1 K))[i]? = (p.ts.map fun t => some (He.keysIn w.params t.2))[i]? := by rw [e]
  rw [List.getElem?_map, List.getElem?_map, h] at e2
  exact He.dicW_ok (Option.some.inj e2)
end
end Bo

/-! H1 -/
set_option Elab.async false
set_option linter.all false
set_option maxRecDepth 100000
set_option maxHeartbeats 4000000
namespace Bo
open PySem PySem.Spec PyProof.Rows L2
def topS (i : Nat) : Stmt := PySem.Challenge.pw_blockorder_k22_whole_chains_and_full_sys.main.body.getD i (.Pass ⟨0, 0, 0, 0⟩)
abbrev s_is_name : Stmt := topS 18
abbrev s_sorted_dict : Stmt := topS 19
abbrev s_need_item : Stmt := topS 20
abbrev s_need_new_names : Stmt := topS 21
abbrev s_need_different : Stmt := topS 22
abbrev s_with_equation : Stmt := topS 23
abbrev s_with_row : Stmt := topS 24
abbrev s_unknowns_added : Stmt := topS 25
abbrev s_equation_added : Stmt := topS 26
abbrev s_need_ends : Stmt := topS 27
abbrev s_entry_added : Stmt := topS 29
abbrev s_equation_removed : Stmt := topS 31
abbrev s_unknown_removed : Stmt := topS 32
abbrev s_need_edit : Stmt := topS 35
abbrev s_edited : Stmt := topS 36
abbrev s_found_path : Stmt := topS 38
abbrev s_largest : Stmt := topS 39
abbrev s_owners_of : Stmt := topS 40
abbrev s_columns_of : Stmt := topS 41
abbrev s_reached : Stmt := topS 42
abbrev s_spare_side : Stmt := topS 43
abbrev s_open_side : Stmt := topS 44
abbrev s_smallest_cover : Stmt := topS 45
abbrev s_Part___init__ : Stmt := inClass (topS 48) 0
abbrev s_Part_equations : Stmt := inClass (topS 48) 1
abbrev s_Part_unknowns : Stmt := inClass (topS 48) 2
abbrev s_Part_surplus : Stmt := inClass (topS 48) 3
abbrev s_Block___init__ : Stmt := inClass (topS 52) 0
abbrev s_Block_place : Stmt := inClass (topS 52) 1
abbrev s_Block_needs : Stmt := inClass (topS 52) 2
abbrev s_steps_of : Stmt := topS 54
abbrev s_closed_sets : Stmt := topS 55
abbrev s_groups_of : Stmt := topS 56
abbrev s_solving_order : Stmt := topS 57
abbrev s_Structure___init__ : Stmt := inClass (topS 58) 0
abbrev s_Structure_made_block : Stmt := inClass (topS 58) 1
abbrev s_Structure_equations : Stmt := inClass (topS 58) 2
abbrev s_Structure_unknowns : Stmt := inClass (topS 58) 3
abbrev s_Structure_rank : Stmt := inClass (topS 58) 5
abbrev s_Structure_over : Stmt := inClass (topS 58) 8
abbrev s_Structure_under : Stmt := inClass (topS 58) 10
abbrev s_Structure_blocks : Stmt := inClass (topS 58) 11
abbrev s_Structure_walk : Stmt := inClass (topS 58) 12
abbrev s_Structure_need_item : Stmt := inClass (topS 58) 13
abbrev s_Structure_entry_kind : Stmt := inClass (topS 58) 14
abbrev s_Structure_block_of : Stmt := inClass (topS 58) 15
abbrev s_Structure_closed_set : Stmt := inClass (topS 58) 16
abbrev s_System___init__ : Stmt := inClass (topS 64) 2
abbrev s_System_edit_table : Stmt := inClass (topS 64) 11
abbrev s_System_change : Stmt := inClass (topS 64) 12
abbrev s_System_perform : Stmt := inClass (topS 64) 13
abbrev s_System_add_unknown : Stmt := inClass (topS 64) 14
abbrev s_System_add_equation : Stmt := inClass (topS 64) 15
abbrev s_System_add_entry : Stmt := inClass (topS 64) 16
abbrev s_System_remove_equation : Stmt := inClass (topS 64) 18
abbrev s_System_remove_unknown : Stmt := inClass (topS 64) 19
abbrev s_System_structure : Stmt := inClass (topS 64) 30
abbrev s__law_begin : Stmt := topS 66
abbrev s__law_draw : Stmt := topS 67
abbrev s__law_pick : Stmt := topS 68
abbrev s__law_name : Stmt := topS 69
abbrev s__law_names : Stmt := topS 70
abbrev s__law_system : Stmt := topS 71
abbrev s__law_shuffled : Stmt := topS 72
abbrev s__law_shown : Stmt := topS 73
abbrev s__law_one_block_right : Stmt := topS 74
abbrev s_law : Stmt := topS 75
def d_is_name : DefA := { pth := .g "is_name", name := "is_name", qual := "is_name", st := s_is_name }
def d_sorted_dict : DefA := { pth := .g "sorted_dict", name := "sorted_dict", qual := "sorted_dict", st := s_sorted_dict }
def d_need_item : DefA := { pth := .g "need_item", name := "need_item", qual := "need_item", st := s_need_item }
def d_need_new_names : DefA := { pth := .g "need_new_names", name := "need_new_names", qual := "need_new_names", st := s_need_new_names }
def d_need_different : DefA := { pth := .g "need_different", name := "need_different", qual := "need_different", st := s_need_different }
def d_with_equation : DefA := { pth := .g "with_equation", name := "with_equation", qual := "with_equation", st := s_with_equation }
def d_with_row : DefA := { pth := .g "with_row", name := "with_row", qual := "with_row", st := s_with_row }
def d_unknowns_added : DefA := { pth := .g "unknowns_added", name := "unknowns_added", qual := "unknowns_added", st := s_unknowns_added }
def d_equation_added : DefA := { pth := .g "equation_added", name := "equation_added", qual := "equation_added", st := s_equation_added }
def d_need_ends : DefA := { pth := .g "need_ends", name := "need_ends", qual := "need_ends", st := s_need_ends }
def d_entry_added : DefA := { pth := .g "entry_added", name := "entry_added", qual := "entry_added", st := s_entry_added }
def d_equation_removed : DefA := { pth := .g "equation_removed", name := "equation_removed", qual := "equation_removed", st := s_equation_removed }
def d_unknown_removed : DefA := { pth := .g "unknown_removed", name := "unknown_removed", qual := "unknown_removed", st := s_unknown_removed }
def d_need_edit : DefA := { pth := .g "need_edit", name := "need_edit", qual := "need_edit", st := s_need_edit }
def d_edited : DefA := { pth := .g "edited", name := "edited", qual := "edited", st := s_edited, kwd := [("level", .int 0)] }
def d_found_path : DefA := { pth := .g "found_path", name := "found_path", qual := "found_path", st := s_found_path }
def d_largest : DefA := { pth := .g "largest", name := "largest", qual := "largest", st := s_largest }
def d_owners_of : DefA := { pth := .g "owners_of", name := "owners_of", qual := "owners_of", st := s_owners_of }
def d_columns_of : DefA := { pth := .g "columns_of", name := "columns_of", qual := "columns_of", st := s_columns_of }
def d_reached : DefA := { pth := .g "reached", name := "reached", qual := "reached", st := s_reached }
def d_spare_side : DefA := { pth := .g "spare_side", name := "spare_side", qual := "spare_side", st := s_spare_side }
def d_open_side : DefA := { pth := .g "open_side", name := "open_side", qual := "open_side", st := s_open_side }
def d_smallest_cover : DefA := { pth := .g "smallest_cover", name := "smallest_cover", qual := "smallest_cover", st := s_smallest_cover }
def d_Part___init__ : DefA := { pth := .m "Part" "__init__", name := "__init__", qual := "Part.__init__", st := s_Part___init__ }
def d_Part_equations : DefA := { pth := .p "Part" "equations", name := "equations", qual := "Part.equations", st := s_Part_equations }
def d_Part_unknowns : DefA := { pth := .p "Part" "unknowns", name := "unknowns", qual := "Part.unknowns", st := s_Part_unknowns }
def d_Part_surplus : DefA := { pth := .p "Part" "surplus", name := "surplus", qual := "Part.surplus", st := s_Part_surplus }
def d_Block___init__ : DefA := { pth := .m "Block" "__init__", name := "__init__", qual := "Block.__init__", st := s_Block___init__, clo := ["__class__"] }
def d_Block_place : DefA := { pth := .p "Block" "place", name := "place", qual := "Block.place", st := s_Block_place }
def d_Block_needs : DefA := { pth := .p "Block" "needs", name := "needs", qual := "Block.needs", st := s_Block_needs }
def d_steps_of : DefA := { pth := .g "steps_of", name := "steps_of", qual := "steps_of", st := s_steps_of }
def d_closed_sets : DefA := { pth := .g "closed_sets", name := "closed_sets", qual := "closed_sets", st := s_closed_sets }
def d_groups_of : DefA := { pth := .g "groups_of", name := "groups_of", qual := "groups_of", st := s_groups_of }
def d_solving_order : DefA := { pth := .g "solving_order", name := "solving_order", qual := "solving_order", st := s_solving_order }
def d_Structure___init__ : DefA := { pth := .m "Structure" "__init__", name := "__init__", qual := "Structure.__init__", st := s_Structure___init__ }
def d_Structure_made_block : DefA := { pth := .m "Structure" "made_block", name := "made_block", qual := "Structure.made_block", st := s_Structure_made_block }
def d_Structure_equations : DefA := { pth := .p "Structure" "equations", name := "equations", qual := "Structure.equations", st := s_Structure_equations }
def d_Structure_unknowns : DefA := { pth := .p "Structure" "unknowns", name := "unknowns", qual := "Structure.unknowns", st := s_Structure_unknowns }
def d_Structure_rank : DefA := { pth := .p "Structure" "rank", name := "rank", qual := "Structure.rank", st := s_Structure_rank }
def d_Structure_over : DefA := { pth := .p "Structure" "over", name := "over", qual := "Structure.over", st := s_Structure_over }
def d_Structure_under : DefA := { pth := .p "Structure" "under", name := "under", qual := "Structure.under", st := s_Structure_under }
def d_Structure_blocks : DefA := { pth := .p "Structure" "blocks", name := "blocks", qual := "Structure.blocks", st := s_Structure_blocks }
def d_Structure_walk : DefA := { pth := .m "Structure" "walk", name := "walk", qual := "Structure.walk", st := s_Structure_walk, kwd := [("reverse", .bl false)] }
def d_Structure_need_item : DefA := { pth := .m "Structure" "need_item", name := "need_item", qual := "Structure.need_item", st := s_Structure_need_item }
def d_Structure_entry_kind : DefA := { pth := .m "Structure" "entry_kind", name := "entry_kind", qual := "Structure.entry_kind", st := s_Structure_entry_kind }
def d_Structure_block_of : DefA := { pth := .m "Structure" "block_of", name := "block_of", qual := "Structure.block_of", st := s_Structure_block_of }
def d_Structure_closed_set : DefA := { pth := .m "Structure" "closed_set", name := "closed_set", qual := "Structure.closed_set", st := s_Structure_closed_set }
def d_System___init__ : DefA := { pth := .m "System" "__init__", name := "__init__", qual := "System.__init__", st := s_System___init__ }
def d_System_edit_table : DefA := { pth := .m "System" "edit_table", name := "edit_table", qual := "System.edit_table", st := s_System_edit_table }
def d_System_change : DefA := { pth := .m "System" "change", name := "change", qual := "System.change", st := s_System_change }
def d_System_perform : DefA := { pth := .m "System" "perform", name := "perform", qual := "System.perform", st := s_System_perform }
def d_System_add_unknown : DefA := { pth := .m "System" "add_unknown", name := "add_unknown", qual := "System.add_unknown", st := s_System_add_unknown }
def d_System_add_equation : DefA := { pth := .m "System" "add_equation", name := "add_equation", qual := "System.add_equation", st := s_System_add_equation }
def d_System_add_entry : DefA := { pth := .m "System" "add_entry", name := "add_entry", qual := "System.add_entry", st := s_System_add_entry }
def d_System_remove_equation : DefA := { pth := .m "System" "remove_equation", name := "remove_equation", qual := "System.remove_equation", st := s_System_remove_equation }
def d_System_remove_unknown : DefA := { pth := .m "System" "remove_unknown", name := "remove_unknown", qual := "System.remove_unknown", st := s_System_remove_unknown }
def d_System_structure : DefA := { pth := .p "System" "structure", name := "structure", qual := "System.structure", st := s_System_structure }
def d__law_begin : DefA := { pth := .g "_law_begin", name := "_law_begin", qual := "_law_begin", st := s__law_begin }
def d__law_draw : DefA := { pth := .g "_law_draw", name := "_law_draw", qual := "_law_draw", st := s__law_draw }
def d__law_pick : DefA := { pth := .g "_law_pick", name := "_law_pick", qual := "_law_pick", st := s__law_pick }
def d__law_name : DefA := { pth := .g "_law_name", name := "_law_name", qual := "_law_name", st := s__law_name }
def d__law_names : DefA := { pth := .g "_law_names", name := "_law_names", qual := "_law_names", st := s__law_names }
def d__law_system : DefA := { pth := .g "_law_system", name := "_law_system", qual := "_law_system", st := s__law_system }
def d__law_shuffled : DefA := { pth := .g "_law_shuffled", name := "_law_shuffled", qual := "_law_shuffled", st := s__law_shuffled }
def d__law_shown : DefA := { pth := .g "_law_shown", name := "_law_shown", qual := "_law_shown", st := s__law_shown }
def d__law_one_block_right : DefA := { pth := .g "_law_one_block_right", name := "_law_one_block_right", qual := "_law_one_block_right", st := s__law_one_block_right }
def d_law : DefA := { pth := .g "law", name := "law", qual := "law", st := s_law }
def d_OverPart___init__ : DefA := { pth := .m "OverPart" "__init__", name := "__init__", qual := "Part.__init__", st := s_Part___init__ }
def d_UnderPart___init__ : DefA := { pth := .m "UnderPart" "__init__", name := "__init__", qual := "Part.__init__", st := s_Part___init__ }
def d_WellPart___init__ : DefA := { pth := .m "WellPart" "__init__", name := "__init__", qual := "Part.__init__", st := s_Part___init__ }
def d_Block_equations : DefA := { pth := .p "Block" "equations", name := "equations", qual := "Part.equations", st := s_Part_equations }
def d_Block_unknowns : DefA := { pth := .p "Block" "unknowns", name := "unknowns", qual := "Part.unknowns", st := s_Part_unknowns }
def d_OverPart_equations : DefA := { pth := .p "OverPart" "equations", name := "equations", qual := "Part.equations", st := s_Part_equations }
def d_OverPart_unknowns : DefA := { pth := .p "OverPart" "unknowns", name := "unknowns", qual := "Part.unknowns", st := s_Part_unknowns }
def d_OverPart_surplus : DefA := { pth := .p "OverPart" "surplus", name := "surplus", qual := "Part.surplus", st := s_Part_surplus }
def d_UnderPart_equations : DefA := { pth := .p "UnderPart" "equations", name := "equations", qual := "Part.equations", st := s_Part_equations }
def d_UnderPart_unknowns : DefA := { pth := .p "UnderPart" "unknowns", name := "unknowns", qual := "Part.unknowns", st := s_Part_unknowns }
def d_UnderPart_surplus : DefA := { pth := .p "UnderPart" "surplus", name := "surplus", qual := "Part.surplus", st := s_Part_surplus }
def d_WellPart_equations : DefA := { pth := .p "WellPart" "equations", name := "equations", qual := "Part.equations", st := s_Part_equations }
def ds : List DefA := [d_is_name, d_sorted_dict, d_need_item, d_need_new_names, d_need_different, d_with_equation, d_with_row, d_unknowns_added, d_equation_added, d_need_ends, d_entry_added, d_equation_removed, d_unknown_removed, d_need_edit, d_edited, d_found_path, d_largest, d_owners_of, d_columns_of, d_reached, d_spare_side, d_open_side, d_smallest_cover, d_Part___init__, d_Part_equations, d_Part_unknowns, d_Part_surplus, d_Block___init__, d_Block_place, d_Block_needs, d_steps_of, d_closed_sets, d_groups_of, d_solving_order, d_Structure___init__, d_Structure_made_block, d_Structure_equations, d_Structure_unknowns, d_Structure_rank, d_Structure_over, d_Structure_under, d_Structure_blocks, d_Structure_walk, d_Structure_need_item, d_Structure_entry_kind, d_Structure_block_of, d_Structure_closed_set, d_System___init__, d_System_edit_table, d_System_change, d_System_perform, d_System_add_unknown, d_System_add_equation, d_System_add_entry, d_System_remove_equation, d_System_remove_unknown, d_System_structure, d__law_begin, d__law_draw, d__law_pick, d__law_name, d__law_names, d__law_system, d__law_shuffled, d__law_shown, d__law_one_block_right, d_law, d_OverPart___init__, d_UnderPart___init__, d_WellPart___init__, d_Block_equations, d_Block_unknowns, d_OverPart_equations, d_OverPart_unknowns, d_OverPart_surplus, d_UnderPart_equations, d_UnderPart_unknowns, d_UnderPart_surplus, d_WellPart_equations]
def fa : List He.Fa := [.glo "is_name",
  .glo "sorted_dict",
  .glo "need_item",
  .glo "need_new_names",
  .glo "need_different",
  .glo "with_equation",
  .glo "with_row",
  .glo "unknowns_added",
  .glo "equation_added",
  .glo "need_ends",
  .glo "entry_added",
  .glo "equation_removed",
  .glo "unknown_removed",
  .glo "need_edit",
  .glo "edited",
  .glo "found_path",
  .glo "largest",
  .glo "owners_of",
  .glo "columns_of",
  .glo "reached",
  .glo "spare_side",
  .glo "open_side",
  .glo "smallest_cover",
  .glo "steps_of",
  .glo "closed_sets",
  .glo "groups_of",
  .glo "solving_order",
  .glo "_law_begin",
  .glo "_law_draw",
  .glo "_law_pick",
  .glo "_law_name",
  .glo "_law_names",
  .glo "_law_system",
  .glo "_law_shuffled",
  .glo "_law_shown",
  .glo "_law_one_block_right",
  .glo "law",
  .glo "EDITS",
  .glo "COUNTS",
  .glo "Block",
  .cls "Block",
  .mkr "Block",
  .noat "Block" "own_equations",
  .noat "Block" "own_unknowns",
  .noat "Block" "links",
  .noat "Block" "own_place",
  .noat "Block" "own_needs",
  .glo "OverPart",
  .cls "OverPart",
  .mkr "OverPart",
  .noat "OverPart" "own_equations",
  .noat "OverPart" "own_unknowns",
  .noat "OverPart" "links",
  .glo "UnderPart",
  .cls "UnderPart",
  .mkr "UnderPart",
  .noat "UnderPart" "own_equations",
  .noat "UnderPart" "own_unknowns",
  .noat "UnderPart" "links",
  .glo "WellPart",
  .cls "WellPart",
  .mkr "WellPart",
  .noat "WellPart" "own_equations",
  .noat "WellPart" "own_unknowns",
  .noat "WellPart" "links",
  .glo "Structure",
  .cls "Structure",
  .mkr "Structure",
  .noat "Structure" "rows",
  .noat "Structure" "all_unknowns",
  .noat "Structure" "pairs",
  .noat "Structure" "given",
  .noat "Structure" "owners",
  .noat "Structure" "over_part",
  .noat "Structure" "under_part",
  .noat "Structure" "well_part",
  .noat "Structure" "follows",
  .noat "Structure" "closed",
  .noat "Structure" "groups",
  .noat "Structure" "numbers",
  .noat "Structure" "own_cover",
  .noat "Structure" "own_blocks",
  .glo "System",
  .cls "System",
  .mkr "System",
  .noat "System" "content",
  .noat "System" "opened",
  .noat "System" "past",
  .meth "Structure" "made_block",
  .meth "Structure" "walk",
  .meth "Structure" "need_item",
  .meth "Structure" "entry_kind",
  .meth "Structure" "block_of",
  .meth "Structure" "closed_set",
  .meth "System" "edit_table",
  .meth "System" "change",
  .meth "System" "perform",
  .meth "System" "add_unknown",
  .meth "System" "add_equation",
  .meth "System" "add_entry",
  .meth "System" "remove_equation",
  .meth "System" "remove_unknown",
  .free "isinstance",
  .free "str",
  .free "len",
  .free "all",
  .free "sorted",
  .free "range",
  .free "tuple",
  .free "dict",
  .free "list",
  .free "min",
  .free "max",
  .free "enumerate",
  .free "super",
  .int "MOST_ITEMS" 24,
  .int "LONGEST_NAME" 8,
  .int "MOST_LEVELS" 5,
  .str "LETTERS" "abcdefghijklmnopqrstuvwxyz",
  .str "FIGURES" "0123456789"]
def mainFile : Str := "/claim/cut.py"
def exs : List (Fg → Bool) := [fun K => propB K "Block" "equations",
  fun K => propB K "Block" "unknowns",
  fun K => propB K "Block" "place",
  fun K => propB K "Block" "needs",
  fun K => propB K "OverPart" "equations",
  fun K => propB K "OverPart" "unknowns",
  fun K => propB K "OverPart" "surplus",
  fun K => propB K "UnderPart" "equations",
  fun K => propB K "UnderPart" "unknowns",
  fun K => propB K "UnderPart" "surplus",
  fun K => propB K "WellPart" "equations",
  fun K => propB K "Structure" "equations",
  fun K => propB K "Structure" "unknowns",
  fun K => propB K "Structure" "rank",
  fun K => propB K "Structure" "over",
  fun K => propB K "Structure" "under",
  fun K => propB K "Structure" "blocks",
  fun K => propB K "System" "structure",
  fun K => He.valsB K (He.ga K "EDITS") [("add_unknown", .glo "unknowns_added"), ("add_equation", .glo "equation_added"), ("add_entry", .glo "entry_added"), ("remove_entry", .glo "entry_removed"), ("remove_equation", .glo "equation_removed"), ("remove_unknown", .glo "unknown_removed")],
  fun K => tupAtB K "COUNTS" "add_unknown" [.int 0, .non],
  fun K => tupAtB K "COUNTS" "add_equation" [.int 1, .non],
  fun K => tupAtB K "COUNTS" "add_entry" [.int 2, .int 2],
  fun K => tupAtB K "COUNTS" "remove_entry" [.int 2, .int 2],
  fun K => tupAtB K "COUNTS" "remove_equation" [.int 1, .int 1],
  fun K => tupAtB K "COUNTS" "remove_unknown" [.int 1, .int 1],
  fun K => supB K "Block" "Part" mainFile]
def tabs : List He.Tab := [(fun K => He.ga K "EDITS", ["add_unknown", "add_equation", "add_entry", "remove_entry", "remove_equation", "remove_unknown"]), (fun K => He.ga K "COUNTS", ["add_unknown", "add_equation", "add_entry", "remove_entry", "remove_equation", "remove_unknown"])]
def plan : Plan := { fa := fa, ds := ds, ex := exs, ts := tabs }
def loose0 : List PySem.Str := ["_wall", "copied", "BlockorderError", "InvalidName", "DuplicateItem", "UnknownItem", "DuplicateEntry", "UnknownEntry", "TooLarge", "EditFailed", "InvalidText", "MOST_ITEMS", "LONGEST_NAME", "MOST_LEVELS", "LETTERS"]
def loose1 : List PySem.Str := ["FIGURES", "is_name", "sorted_dict", "need_item", "need_new_names", "need_different", "with_equation", "with_row", "unknowns_added", "equation_added", "need_ends", "need_entry", "entry_added", "entry_removed", "equation_removed"]
def loose2 : List PySem.Str := ["unknown_removed", "EDITS", "COUNTS", "need_edit", "edited", "found_path", "largest", "owners_of", "columns_of", "reached", "spare_side", "open_side", "smallest_cover", "joined", "Part"]
def loose3 : List PySem.Str := ["OverPart", "WellPart", "UnderPart", "Block", "steps_of", "closed_sets", "groups_of", "solving_order", "Structure", "FIRST_WORD", "are_ascending", "columns_in", "head_in", "System", "_law_begin"]
def loose4 : List PySem.Str := ["_law_draw", "_law_pick", "_law_name", "_law_names", "_law_system", "_law_shuffled", "_law_shown", "_law_one_block_right"]
def loose : List PySem.Str := loose0 ++ loose1 ++ loose2 ++ loose3 ++ loose4
end Bo

/-! HR -/
set_option Elab.async false
set_option linter.all false
set_option maxRecDepth 100000
set_option maxHeartbeats 0
noncomputable section
namespace Bo
open PySem PySem.Spec PyProof.Rows L2
abbrev R : PySem.W.OpenRow := PySem.W.OpenLaw.row PySem.Challenge.rw_blockorder_k22_whole_chains_and_full_sys
abbrev qv : Program := PySem.W.view R.prog [75]
abbrev hk : PySem.W.Hook := plan.hook 6
def ob (s : PySem.W.SharedT) : AlB := plan.look 6 (HandSHeadRun.getT s)
theorem ob_eq (s : PySem.W.SharedT) : ob s = hk.obs s.abs := Plan.look_eq (HandSHeadRun.getT_eq s)
theorem run_f (w : World) : HandSHeadRun.RunEq R qv hk ob 9000 loose (w.withFollow "special-get-raises" false) := by intro os; kernel_rfl
theorem run_t (w : World) : HandSHeadRun.RunEq R qv hk ob 9000 loose (w.withFollow "special-get-raises" true) := by intro os; kernel_rfl
theorem run (w : World) : HandSHeadRun.RunEq R qv hk ob 9000 loose w :=
  PySem.W.byRow2 "special-get-raises" (P := fun w => HandSHeadRun.RunEq R qv hk ob 9000 loose w) run_f run_t w
end Bo
end

/-! SC -/
set_option Elab.async false
set_option linter.all false
set_option maxRecDepth 100000
namespace Bo
open PySem PySem.Spec PyProof.Rows L2
abbrev N_is_name : List Str := ["thing", "sign"]
theorem sc_is_name : FnScope N_is_name ["thing"] (defScope s_is_name) := ⟨rfl, rfl, rfl, by decide +kernel, rfl, by decide +kernel, by decide +kernel⟩
abbrev N_sorted_dict : List Str := ["table", "key"]
theorem sc_sorted_dict : FnScope N_sorted_dict ["table"] (defScope s_sorted_dict) := ⟨rfl, rfl, rfl, by decide +kernel, rfl, by decide +kernel, by decide +kernel⟩
abbrev N_need_item : List Str := ["kind", "name", "names"]
theorem sc_need_item : FnScope N_need_item ["kind", "name", "names"] (defScope s_need_item) := ⟨rfl, rfl, rfl, by decide +kernel, rfl, by decide +kernel, by decide +kernel⟩
abbrev N_need_new_names : List Str := ["kind", "names", "known", "name"]
theorem sc_need_new_names : FnScope N_need_new_names ["kind", "names", "known"] (defScope s_need_new_names) := ⟨rfl, rfl, rfl, by decide +kernel, rfl, by decide +kernel, by decide +kernel⟩
abbrev N_need_different : List Str := ["kind", "names", "start", "place"]
theorem sc_need_different : FnScope N_need_different ["kind", "names", "start"] (defScope s_need_different) := ⟨rfl, rfl, rfl, by decide +kernel, rfl, by decide +kernel, by decide +kernel⟩
abbrev N_with_equation : List Str := ["content", "name", "constant", "row", "columns", "rows", "constants", "unknown", "coefficient"]
theorem sc_with_equation : FnScope N_with_equation ["content", "name", "constant", "row"] (defScope s_with_equation) := ⟨rfl, rfl, rfl, by decide +kernel, rfl, by decide +kernel, by decide +kernel⟩
abbrev N_with_row : List Str := ["content", "equation", "row", "columns", "rows", "constants"]
theorem sc_with_row : FnScope N_with_row ["content", "equation", "row"] (defScope s_with_row) := ⟨rfl, rfl, rfl, by decide +kernel, rfl, by decide +kernel, by decide +kernel⟩
abbrev N_unknowns_added : List Str := ["content", "arguments", "columns", "rows", "constants"]
theorem sc_unknowns_added : FnScope N_unknowns_added ["content", "arguments"] (defScope s_unknowns_added) := ⟨rfl, rfl, rfl, by decide +kernel, rfl, by decide +kernel, by decide +kernel⟩
abbrev N_equation_added : List Str := ["content", "arguments", "name", "unknowns", "unknown"]
theorem sc_equation_added : FnScope N_equation_added ["content", "arguments"] (defScope s_equation_added) := ⟨rfl, rfl, rfl, by decide +kernel, rfl, by decide +kernel, by decide +kernel⟩
abbrev N_need_ends : List Str := ["content", "equation", "unknown", "columns", "rows", "constants"]
theorem sc_need_ends : FnScope N_need_ends ["content", "equation", "unknown"] (defScope s_need_ends) := ⟨rfl, rfl, rfl, by decide +kernel, rfl, by decide +kernel, by decide +kernel⟩
abbrev N_entry_added : List Str := ["content", "arguments", "equation", "unknown", "row"]
theorem sc_entry_added : FnScope N_entry_added ["content", "arguments"] (defScope s_entry_added) := ⟨rfl, rfl, rfl, by decide +kernel, rfl, by decide +kernel, by decide +kernel⟩
abbrev N_equation_removed : List Str := ["content", "arguments", "columns", "rows", "constants", "kept", "name"]
theorem sc_equation_removed : FnScope N_equation_removed ["content", "arguments"] (defScope s_equation_removed) := ⟨rfl, rfl, rfl, by decide +kernel, rfl, by decide +kernel, by decide +kernel⟩
abbrev N_unknown_removed : List Str := ["content", "arguments", "columns", "rows", "constants", "kept", "found", "other", "name"]
theorem sc_unknown_removed : FnScope N_unknown_removed ["content", "arguments"] (defScope s_unknown_removed) := ⟨rfl, rfl, rfl, by decide +kernel, rfl, by decide +kernel, by decide +kernel⟩
abbrev N_need_edit : List Str := ["edit", "counts", "least", "most"]
theorem sc_need_edit : FnScope N_need_edit ["edit", "counts"] (defScope s_need_edit) := ⟨rfl, rfl, rfl, by decide +kernel, rfl, by decide +kernel, by decide +kernel⟩
abbrev N_edited : List Str := ["content", "edit", "edits", "counts", "level", "change", "found", "inner"]
theorem sc_edited : FnScope N_edited ["content", "edit", "edits", "counts", "level"] (defScope s_edited) := ⟨rfl, rfl, rfl, by decide +kernel, rfl, by decide +kernel, by decide +kernel⟩
abbrev N_found_path : List Str := ["rows", "owners", "start", "came", "waiting", "place", "unknown"]
theorem sc_found_path : FnScope N_found_path ["rows", "owners", "start"] (defScope s_found_path) := ⟨rfl, rfl, rfl, by decide +kernel, rfl, by decide +kernel, by decide +kernel⟩
abbrev N_largest : List Str := ["rows", "owners", "given", "equation", "came", "unknown", "taker", "before"]
theorem sc_largest : FnScope N_largest ["rows"] (defScope s_largest) := ⟨rfl, rfl, rfl, by decide +kernel, rfl, by decide +kernel, by decide +kernel⟩
abbrev N_owners_of : List Str := ["assignment", "equation"]
theorem sc_owners_of : FnScope N_owners_of ["assignment"] (defScope s_owners_of) := ⟨rfl, rfl, rfl, by decide +kernel, rfl, by decide +kernel, by decide +kernel⟩
abbrev N_columns_of : List Str := ["rows", "unknowns", "equation", "unknown"]
theorem sc_columns_of : FnScope N_columns_of ["rows", "unknowns"] (defScope s_columns_of) := ⟨rfl, rfl, rfl, by decide +kernel, rfl, by decide +kernel, by decide +kernel⟩
abbrev N_reached : List Str := ["links", "partners", "starts", "near", "start", "far", "waiting", "other", "partner"]
theorem sc_reached : FnScope N_reached ["links", "partners", "starts"] (defScope s_reached) := ⟨rfl, rfl, rfl, by decide +kernel, rfl, by decide +kernel, by decide +kernel⟩
abbrev N_spare_side : List Str := ["rows", "assignment", "starts", "equation"]
theorem sc_spare_side : FnScope N_spare_side ["rows", "assignment"] (defScope s_spare_side) := ⟨rfl, rfl, rfl, by decide +kernel, rfl, by decide +kernel, by decide +kernel⟩
abbrev N_open_side : List Str := ["rows", "unknowns", "assignment", "owners", "starts", "unknown"]
theorem sc_open_side : FnScope N_open_side ["rows", "unknowns", "assignment"] (defScope s_open_side) := ⟨rfl, rfl, rfl, by decide +kernel, rfl, by decide +kernel, by decide +kernel⟩
abbrev N_smallest_cover : List Str := ["rows", "assignment", "spare", "needed", "items", "equation", "unknown"]
theorem sc_smallest_cover : FnScope N_smallest_cover ["rows", "assignment"] (defScope s_smallest_cover) := ⟨rfl, rfl, rfl, by decide +kernel, rfl, by decide +kernel, by decide +kernel⟩
abbrev N_Part___init__ : List Str := ["self", "equations", "unknowns", "entries", "pair"]
theorem sc_Part___init__ : FnScope N_Part___init__ ["self", "equations", "unknowns", "entries"] (defScope s_Part___init__) := ⟨rfl, rfl, rfl, by decide +kernel, rfl, by decide +kernel, by decide +kernel⟩
abbrev N_Part_equations : List Str := ["self"]
theorem sc_Part_equations : FnScope N_Part_equations ["self"] (defScope s_Part_equations) := ⟨rfl, rfl, rfl, by decide +kernel, rfl, by decide +kernel, by decide +kernel⟩
abbrev N_Part_unknowns : List Str := ["self"]
theorem sc_Part_unknowns : FnScope N_Part_unknowns ["self"] (defScope s_Part_unknowns) := ⟨rfl, rfl, rfl, by decide +kernel, rfl, by decide +kernel, by decide +kernel⟩
abbrev N_Part_surplus : List Str := ["self"]
theorem sc_Part_surplus : FnScope N_Part_surplus ["self"] (defScope s_Part_surplus) := ⟨rfl, rfl, rfl, by decide +kernel, rfl, by decide +kernel, by decide +kernel⟩
abbrev N_Block___init__ : List Str := ["self", "place", "needs", "equations", "unknowns", "entries"]
abbrev N_Block_place : List Str := ["self"]
theorem sc_Block_place : FnScope N_Block_place ["self"] (defScope s_Block_place) := ⟨rfl, rfl, rfl, by decide +kernel, rfl, by decide +kernel, by decide +kernel⟩
abbrev N_Block_needs : List Str := ["self"]
theorem sc_Block_needs : FnScope N_Block_needs ["self"] (defScope s_Block_needs) := ⟨rfl, rfl, rfl, by decide +kernel, rfl, by decide +kernel, by decide +kernel⟩
abbrev N_steps_of : List Str := ["rows", "equations", "owners", "found", "equation", "others", "unknown", "other"]
theorem sc_steps_of : FnScope N_steps_of ["rows", "equations", "owners"] (defScope s_steps_of) := ⟨rfl, rfl, rfl, by decide +kernel, rfl, by decide +kernel, by decide +kernel⟩
abbrev N_closed_sets : List Str := ["steps", "found", "equation", "known", "waiting", "other"]
theorem sc_closed_sets : FnScope N_closed_sets ["steps"] (defScope s_closed_sets) := ⟨rfl, rfl, rfl, by decide +kernel, rfl, by decide +kernel, by decide +kernel⟩
abbrev N_groups_of : List Str := ["closed", "found", "equation", "group", "other"]
theorem sc_groups_of : FnScope N_groups_of ["closed"] (defScope s_groups_of) := ⟨rfl, rfl, rfl, by decide +kernel, rfl, by decide +kernel, by decide +kernel⟩
abbrev N_solving_order : List Str := ["groups", "closed", "found", "placed", "waiting", "group", "other", "equation"]
theorem sc_solving_order : FnScope N_solving_order ["groups", "closed"] (defScope s_solving_order) := ⟨rfl, rfl, rfl, by decide +kernel, rfl, by decide +kernel, by decide +kernel⟩
abbrev N_Structure___init__ : List Str := ["self", "rows", "unknowns", "equation", "unknown", "spare", "spare_unknowns", "open_unknowns", "open_equations", "equations", "one", "inner", "number", "group"]
theorem sc_Structure___init__ : FnScope N_Structure___init__ ["self", "rows", "unknowns"] (defScope s_Structure___init__) := ⟨rfl, rfl, rfl, by decide +kernel, rfl, by decide +kernel, by decide +kernel⟩
abbrev N_Structure_made_block : List Str := ["self", "number", "group", "needed", "equation", "other", "others"]
theorem sc_Structure_made_block : FnScope N_Structure_made_block ["self", "number"] (defScope s_Structure_made_block) := ⟨rfl, rfl, rfl, by decide +kernel, rfl, by decide +kernel, by decide +kernel⟩
abbrev N_Structure_equations : List Str := ["self"]
theorem sc_Structure_equations : FnScope N_Structure_equations ["self"] (defScope s_Structure_equations) := ⟨rfl, rfl, rfl, by decide +kernel, rfl, by decide +kernel, by decide +kernel⟩
abbrev N_Structure_unknowns : List Str := ["self"]
theorem sc_Structure_unknowns : FnScope N_Structure_unknowns ["self"] (defScope s_Structure_unknowns) := ⟨rfl, rfl, rfl, by decide +kernel, rfl, by decide +kernel, by decide +kernel⟩
abbrev N_Structure_rank : List Str := ["self"]
theorem sc_Structure_rank : FnScope N_Structure_rank ["self"] (defScope s_Structure_rank) := ⟨rfl, rfl, rfl, by decide +kernel, rfl, by decide +kernel, by decide +kernel⟩
abbrev N_Structure_over : List Str := ["self"]
theorem sc_Structure_over : FnScope N_Structure_over ["self"] (defScope s_Structure_over) := ⟨rfl, rfl, rfl, by decide +kernel, rfl, by decide +kernel, by decide +kernel⟩
abbrev N_Structure_under : List Str := ["self"]
theorem sc_Structure_under : FnScope N_Structure_under ["self"] (defScope s_Structure_under) := ⟨rfl, rfl, rfl, by decide +kernel, rfl, by decide +kernel, by decide +kernel⟩
abbrev N_Structure_blocks : List Str := ["self"]
theorem sc_Structure_blocks : FnScope N_Structure_blocks ["self"] (defScope s_Structure_blocks) := ⟨rfl, rfl, rfl, by decide +kernel, rfl, by decide +kernel, by decide +kernel⟩
abbrev N_Structure_walk : List Str := ["self", "reverse", "number"]
abbrev N_Structure_need_item : List Str := ["self", "item", "items", "name"]
theorem sc_Structure_need_item : FnScope N_Structure_need_item ["self", "item"] (defScope s_Structure_need_item) := ⟨rfl, rfl, rfl, by decide +kernel, rfl, by decide +kernel, by decide +kernel⟩
abbrev N_Structure_entry_kind : List Str := ["self", "equation", "unknown", "part", "block"]
theorem sc_Structure_entry_kind : FnScope N_Structure_entry_kind ["self", "equation", "unknown"] (defScope s_Structure_entry_kind) := ⟨rfl, rfl, rfl, by decide +kernel, rfl, by decide +kernel, by decide +kernel⟩
abbrev N_Structure_block_of : List Str := ["self", "item", "block"]
theorem sc_Structure_block_of : FnScope N_Structure_block_of ["self", "item"] (defScope s_Structure_block_of) := ⟨rfl, rfl, rfl, by decide +kernel, rfl, by decide +kernel, by decide +kernel⟩
abbrev N_Structure_closed_set : List Str := ["self", "equation"]
theorem sc_Structure_closed_set : FnScope N_Structure_closed_set ["self", "equation"] (defScope s_Structure_closed_set) := ⟨rfl, rfl, rfl, by decide +kernel, rfl, by decide +kernel, by decide +kernel⟩
abbrev N_System___init__ : List Str := ["self"]
theorem sc_System___init__ : FnScope N_System___init__ ["self"] (defScope s_System___init__) := ⟨rfl, rfl, rfl, by decide +kernel, rfl, by decide +kernel, by decide +kernel⟩
abbrev N_System_edit_table : List Str := ["self"]
theorem sc_System_edit_table : FnScope N_System_edit_table ["self"] (defScope s_System_edit_table) := ⟨rfl, rfl, rfl, by decide +kernel, rfl, by decide +kernel, by decide +kernel⟩
abbrev N_System_change : List Str := ["self", "content"]
theorem sc_System_change : FnScope N_System_change ["self", "content"] (defScope s_System_change) := ⟨rfl, rfl, rfl, by decide +kernel, rfl, by decide +kernel, by decide +kernel⟩
abbrev N_System_perform : List Str := ["self", "edit", "edits", "counts"]
theorem sc_System_perform : FnScope N_System_perform ["self", "edit"] (defScope s_System_perform) := ⟨rfl, rfl, rfl, by decide +kernel, rfl, by decide +kernel, by decide +kernel⟩
abbrev N_System_add_unknown : List Str := ["self", "names"]
theorem sc_System_add_unknown : FnScope N_System_add_unknown ["self", "names"] (defScope s_System_add_unknown) := ⟨rfl, rfl, rfl, by decide +kernel, rfl, by decide +kernel, by decide +kernel⟩
abbrev N_System_add_equation : List Str := ["self", "name", "unknowns"]
theorem sc_System_add_equation : FnScope N_System_add_equation ["self", "name", "unknowns"] (defScope s_System_add_equation) := ⟨rfl, rfl, rfl, by decide +kernel, rfl, by decide +kernel, by decide +kernel⟩
abbrev N_System_add_entry : List Str := ["self", "equation", "unknown"]
theorem sc_System_add_entry : FnScope N_System_add_entry ["self", "equation", "unknown"] (defScope s_System_add_entry) := ⟨rfl, rfl, rfl, by decide +kernel, rfl, by decide +kernel, by decide +kernel⟩
abbrev N_System_remove_equation : List Str := ["self", "name"]
theorem sc_System_remove_equation : FnScope N_System_remove_equation ["self", "name"] (defScope s_System_remove_equation) := ⟨rfl, rfl, rfl, by decide +kernel, rfl, by decide +kernel, by decide +kernel⟩
abbrev N_System_remove_unknown : List Str := ["self", "name"]
theorem sc_System_remove_unknown : FnScope N_System_remove_unknown ["self", "name"] (defScope s_System_remove_unknown) := ⟨rfl, rfl, rfl, by decide +kernel, rfl, by decide +kernel, by decide +kernel⟩
abbrev N_System_structure : List Str := ["self", "name"]
theorem sc_System_structure : FnScope N_System_structure ["self"] (defScope s_System_structure) := ⟨rfl, rfl, rfl, by decide +kernel, rfl, by decide +kernel, by decide +kernel⟩
abbrev N__law_begin : List Str := ["_law_script"]
theorem sc__law_begin : FnScope N__law_begin ["_law_script"] (defScope s__law_begin) := ⟨rfl, rfl, rfl, by decide +kernel, rfl, by decide +kernel, by decide +kernel⟩
abbrev N__law_draw : List Str := ["_law_tape", "_law_many", "_law_place", "_law_count", "_law_cell", "_law_found"]
theorem sc__law_draw : FnScope N__law_draw ["_law_tape", "_law_many"] (defScope s__law_draw) := ⟨rfl, rfl, rfl, by decide +kernel, rfl, by decide +kernel, by decide +kernel⟩
abbrev N__law_pick : List Str := ["_law_tape", "_law_items"]
theorem sc__law_pick : FnScope N__law_pick ["_law_tape", "_law_items"] (defScope s__law_pick) := ⟨rfl, rfl, rfl, by decide +kernel, rfl, by decide +kernel, by decide +kernel⟩
abbrev N__law_name : List Str := ["_law_tape", "_law_used", "_law_letters", "_law_count", "_law_name_here", "_law_k", "_law_front"]
theorem sc__law_name : FnScope N__law_name ["_law_tape", "_law_used"] (defScope s__law_name) := ⟨rfl, rfl, rfl, by decide +kernel, rfl, by decide +kernel, by decide +kernel⟩
abbrev N__law_names : List Str := ["_law_tape", "_law_many", "_law_found", "_law_k"]
theorem sc__law_names : FnScope N__law_names ["_law_tape", "_law_many"] (defScope s__law_names) := ⟨rfl, rfl, rfl, by decide +kernel, rfl, by decide +kernel, by decide +kernel⟩
abbrev N__law_system : List Str := ["_law_rows", "_law_unknowns", "_law_system_here", "_law_unknown", "_law_equation"]
theorem sc__law_system : FnScope N__law_system ["_law_rows", "_law_unknowns"] (defScope s__law_system) := ⟨rfl, rfl, rfl, by decide +kernel, rfl, by decide +kernel, by decide +kernel⟩
abbrev N__law_shuffled : List Str := ["_law_tape", "_law_items", "_law_left", "_law_found"]
theorem sc__law_shuffled : FnScope N__law_shuffled ["_law_tape", "_law_items"] (defScope s__law_shuffled) := ⟨rfl, rfl, rfl, by decide +kernel, rfl, by decide +kernel, by decide +kernel⟩
abbrev N__law_shown : List Str := ["_law_parts", "_law_part"]
theorem sc__law_shown : FnScope N__law_shown ["_law_parts"] (defScope s__law_shown) := ⟨rfl, rfl, rfl, by decide +kernel, rfl, by decide +kernel, by decide +kernel⟩
abbrev N__law_one_block_right : List Str := ["_law_system_here", "_law_names_here", "_law_others", "_law_structure", "_law_over", "_law_under"]
theorem sc__law_one_block_right : FnScope N__law_one_block_right ["_law_system_here", "_law_names_here", "_law_others"] (defScope s__law_one_block_right) := ⟨rfl, rfl, rfl, by decide +kernel, rfl, by decide +kernel, by decide +kernel⟩
abbrev N_law : List Str := ["_law_script", "_law_tape", "_law_names_here", "_law_others", "_law_chain", "_law_structure", "_law_block", "_law_k", "_law_ring", "_law_full", "_law_name_here"]
theorem sc_law : FnScope N_law ["_law_script"] (defScope s_law) := ⟨rfl, rfl, rfl, by decide +kernel, rfl, by decide +kernel, by decide +kernel⟩
end Bo

/-! B0 -/
set_option Elab.async false
set_option linter.all false
set_option maxRecDepth 100000
set_option maxHeartbeats 1000000
/-! What every def's proof leans on. -/
namespace Bo
open PySem PySem.Spec PyProof.Rows L2
/-- the top's facts, over the module's names -/
structure TX (w : World) (K : Fg) (mg : Str → Option Value) : Prop where
  says : plan.Says w K
  gl : ∀ x v, PySem.W.nsIn K mainGlobals x = some v → mg x = v
theorem TX.mk' {w : World} {K : Fg} {mg : Str → Option Value} {h : Heap} (X : K.In h) (G : h.Ns mainGlobals mg) (c : plan.Says w K) : TX w K mg :=
  ⟨c, fun x v e => by
    cases v with
    | none => exact PySem.W.mg_none_of X G e
    | some u => exact PySem.W.mg_of X G e⟩
section
variable {w : World} {K : Fg} {mg : Str → Option Value}
theorem TX.g (T : TX w K mg) (i : Nat) {x : Str} (h : fa[i]? = some (.glo x) := by rfl) : mg x = some (.ref (He.ga K x)) := T.gl _ _ (He.eqO_ok (T.says.fact i (f := .glo x) h))
theorem TX.f (T : TX w K mg) (i : Nat) {x : Str} (h : fa[i]? = some (.free x) := by rfl) : mg x = none := T.gl _ _ (He.eqO_ok (T.says.fact i (f := .free x) h))
theorem TX.cls (T : TX w K mg) (i : Nat) {x : Str} (h : fa[i]? = some (.cls x) := by rfl) : Cls K (He.ga K x) := He.cls_ok (T.says.fact i (f := .cls x) h)
theorem TX.mkr (T : TX w K mg) (i : Nat) {x : Str} (h : fa[i]? = some (.mkr x) := by rfl) : Mk K (He.ga K x) (He.ma K (He.ga K x) "__init__") := He.mkr_ok (T.says.fact i (f := .mkr x) h)
theorem TX.noat (T : TX w K mg) (i : Nat) {x f : Str} (h : fa[i]? = some (.noat x f) := by rfl) : NoAttr K (He.ga K x) f := He.noat_ok (T.says.fact i (f := .noat x f) h)
theorem TX.meth (T : TX w K mg) (i : Nat) {x m : Str} (h : fa[i]? = some (.meth x m) := by rfl) : Meth K (He.ga K x) m (He.ma K (He.ga K x) m) := He.meth_ok (T.says.fact i (f := .meth x m) h)
theorem TX.int (T : TX w K mg) (i : Nat) {x : Str} {z : Int} (h : fa[i]? = some (.int x z) := by rfl) : ∃ t, mg x = some (.int z t) := by
  have c := T.says.fact i (f := .int x z) h
  have c2 : (match PySem.W.nsIn K mainGlobals x with
    | some (some (.int j _)) => decide (j = z)
    | _ => false) = true := c
  split at c2
  · rename_i j t e
    have ej : j = z := of_decide_eq_true c2
    exact ⟨t, by rw [← ej]; exact T.gl _ _ e⟩
  · cases c2
theorem TX.str (T : TX w K mg) (i : Nat) {x z : Str} (h : fa[i]? = some (.str x z) := by rfl) : ∃ t, mg x = some (.str z t) := by
  have c := T.says.fact i (f := .str x z) h
  have c2 : (match PySem.W.nsIn K mainGlobals x with
    | some (some (.str y _)) => decide (y = z)
    | _ => false) = true := c
  split at c2
  · rename_i j t e
    have ej : j = z := of_decide_eq_true c2
    exact ⟨t, by rw [← ej]; exact T.gl _ _ e⟩
  · cases c2
end
/-- a def keeps its promise, and how its arguments bind -/
def Ok (P : Program) (w : World) (K : Fg) (mg : Str → Option Value) (base : Heap) (k : Nat) (d : DefA) (ps : List Str) (sp : Sp) : Prop :=
  ∃ fd, FnOk P w K mg base CX0 k (d.pth.ad K) fd ps sp ∧ Binds K fd ps [] ∧ PySem.W.keepIn K (.ref (d.pth.ad K)) = true
section
variable {P : Program} {w : World} {K : Fg} {mg : Str → Option Value} {base : Heap}
theorem mkOk (T : TX w K mg) (i : Nat) {d : DefA} {N ps : List Str} {k : Nat} {sp : Sp} (h : ds[i]? = some d) (hc : d.clo = []) (hw : d.kwd = []) (S : FnScope N ps (defScope d.st))
    (hb : ∀ (kV doc pm : Value) (an : Option Addr) (cdv ct : Value) (us : List Value), us.length = ps.length → bindArgs (PySem.W.fnOf d.name d.qual (defArgs d.st) (defBody d.st) (defScope d.st) .none kV doc pm an cdv ct) ⟨us, []⟩ = pure (ps.zip us))
    (len : ∀ vs H Q E, sp vs H Q E → vs.length = ps.length)
    (hbody : ∀ (cdv : Value) (A : Around) (outer : List Env) (s : Shared) (H : Hp) (vs : List V) (Q : VK) (E : XK), Room k (A.deeper (envOfC d.qual (defScope d.st) s.heap.objs.size (d.pth.ad K) cdv)) → sp vs H Q E →
      ∃ t, PSs (cxOf CX0 P w K mg base N d.qual (defScope d.st) (d.pth.ad K) cdv A outer s H E).nox (defBody d.st) t ∧ t { nx := fun _ H' => Q .non H', rt := Q } (start N vs) H) : Ok P w K mg base (k + 1) d ps sp := by
  obtain ⟨fd, F⟩ := T.says.def_ i h hc
  have F' : FunD K d.name d.qual (defArgs d.st) (defBody d.st) (defScope d.st) [] [] (d.pth.ad K) fd := by
    have e : d.kws K = [] := by
      unfold DefA.kws
      rw [hw]
      rfl
    have q : FunD K d.name d.qual (defArgs d.st) (defBody d.st) (defScope d.st) [] (d.kws K) (d.pth.ad K) fd := F
    rw [e] at q
    exact q
  refine ⟨fd, F'.ok S len fun cdv A outer s H vs Q E hr hs => ?_, F'.bindsN hb, F'.kp⟩
  obtain ⟨t, h1, h2⟩ := hbody cdv A outer s H vs Q E hr hs
  exact ⟨t, h1.nox, h2⟩
end
/-! ### heaps -/
theorem same_new {H : Hp} {p : Addr} {o : HO} (h : H p = none) : Same H (upd H p o) := fun b x e => by
  rw [upd_ne (ne_of_none e h)]
  exact e
theorem Same.new {H H1 : Hp} {p : Addr} {o : HO} (s : Same H H1) (h : H1 p = none) : Same H (upd H1 p o) := s.trans (same_new h)
/-- what is tracked in H and stands at none of l stands as before -/
def But (l : List Addr) (H H' : Hp) : Prop := ∀ b o, H b = some o → b ∉ l → H' b = some o
theorem But.refl (l : List Addr) (H : Hp) : But l H H := fun _ _ h _ => h
theorem But.trans {l : List Addr} {H H1 H2 : Hp} (a : But l H H1) (b : But l H1 H2) : But l H H2 := fun c o h n => b c o (a c o h n) n
theorem But.mono {l m : List Addr} {H H' : Hp} (a : But l H H') (h : ∀ b ∈ l, b ∈ m) : But m H H' := fun c o e n => a c o e fun z => n (h c z)
theorem Same.but {H H' : Hp} (s : Same H H') (l : List Addr) : But l H H' := fun c o e _ => s c o e
theorem But.same {H H' : Hp} (s : But [] H H') : Same H H' := fun c o e => s c o e (by simp)
theorem But.new {l : List Addr} {H H1 : Hp} {p : Addr} {o : HO} (s : But l H H1) (h : H1 p = none) : But l H (upd H1 p o) := s.trans (Same.but (same_new h) l)
theorem But.put {l : List Addr} {H H1 : Hp} {p : Addr} {o : HO} (s : But l H H1) (h : p ∈ l) : But l H (upd H1 p o) := fun c u e n => by
  rw [upd_ne (fun z => n (by rw [z]; exact h))]
  exact s c u e n
/-- an object that is new since H -/
theorem But.newer {l : List Addr} {H H1 : Hp} {p : Addr} (s : But l H H1) (h : H1 p = none) (hp : p ∉ l) : H p = none := by
  cases q : H p with
  | none => rfl
  | some o =>
    have := s p o q hp
    rw [h] at this
    cases this
/-- p was new: it may be forgotten -/
theorem But.drop {l : List Addr} {H H1 : Hp} {p : Addr} (s : But (p :: l) H H1) (h : H p = none) : But l H H1 := fun c o e n => s c o e fun z => by
  rcases List.mem_cons.mp z with z | z
  · rw [z, h] at e
    cases e
  · exact n z
theorem Same.tup {K : Fg} {H H' : Hp} {a : Addr} {xs : List V} (e : Same H H') (h : SqT K H a xs) : SqT K H' a xs := by
  rcases h with (h | ⟨o, h⟩) | h
  · exact .inl (.inl (e _ _ h))
  · exact .inl (.inr ⟨o, e _ _ h⟩)
  · exact .inr h
/-! ### constants of the module -/
section
variable {X : Cx} {x : Str} {t : Tok} {pos : Pos}
theorem pe_gint {z : Int} (hg : Gl X x) (hm : X.mg x = some (.int z t)) (hd : (x == ("__debug__" : Str)) = false := by decide) : PE X (.Name x pos) (tC (.int z)) := pe_glob hg hm ⟨t, rfl⟩ hd
theorem pe_gstr {z : Str} (hg : Gl X x) (hm : X.mg x = some (.str z t)) (hd : (x == ("__debug__" : Str)) = false := by decide) : PE X (.Name x pos) (tC (.str z)) := pe_glob hg hm ⟨t, rfl⟩ hd
theorem pe_gref {a : Addr} (hg : Gl X x) (hm : X.mg x = some (.ref a)) (hd : (x == ("__debug__" : Str)) = false := by decide) : PE X (.Name x pos) (tC (.ref a)) := pe_glob hg hm rfl hd
end
theorem ifT {c A B : Prop} [Decidable c] (h : c) (a : A) : if decide c = true then A else B := by
  rw [decide_eq_true h]
  exact iteT a
theorem ifF {c A B : Prop} [Decidable c] (h : ¬ c) (b : B) : if decide c = true then A else B := by
  rw [decide_eq_false h]
  exact iteF b
theorem ifNT {c A B : Prop} [Decidable c] (h : ¬ c) (a : A) : if (!decide c) = true then A else B := by
  rw [decide_eq_false h]
  exact iteT a
theorem ifNF {c A B : Prop} [Decidable c] (h : c) (b : B) : if (!decide c) = true then A else B := by
  rw [decide_eq_true h]
  exact iteF b
/-! ### texts in lists -/
def txs (l : List Str) : List V := l.map V.str
@[simp] theorem txs_len (l : List Str) : (txs l).length = l.length := by unfold txs; exact List.length_map ..
theorem txs_flat (l : List Str) : (txs l).all flatV = true := by
  unfold txs
  rw [List.all_eq_true]
  intro v hv
  obtain ⟨x, _, rfl⟩ := List.mem_map.mp hv
  rfl
theorem inV_txs (x : Str) (l : List Str) : inV (.str x) (txs l) = decide (x ∈ l) := by
  unfold inV txs
  rw [List.any_map]
  by_cases h : x ∈ l
  · rw [decide_eq_true h, List.any_eq_true]
    exact ⟨x, h, by show decide (x = x) = true; exact decide_eq_true rfl⟩
  · rw [decide_eq_false h, List.any_eq_false]
    intro y hy
    show ¬ decide (y = x) = true
    intro e
    exact h (of_decide_eq_true e ▸ hy)
theorem txs_at {l : List Str} {i : Nat} {v : V} (h : (txs l)[i]? = some v) : ∃ x, l[i]? = some x ∧ v = .str x := by
  unfold txs at h
  rw [List.getElem?_map] at h
  cases q : l[i]? with
  | none =>
    rw [q] at h
    cases h
  | some x =>
    rw [q] at h
    exact ⟨x, rfl, (Option.some.inj h).symm⟩
theorem txs_get {l : List Str} {i : Nat} {x : Str} (h : l[i]? = some x) : (txs l)[i]? = some (.str x) := by
  unfold txs
  rw [List.getElem?_map, h]
  rfl
theorem small {n : Nat} (h : n ≤ 1000) : n ≤ sizeLine := Nat.le_of_lt (small1000 h)
/-! ### dicts with text keys -/
def tk (d : List (Str × V)) : List (Key × V) := d.map fun p => (Sum.inr p.1, p.2)
@[simp] theorem tk_len (d : List (Str × V)) : (tk d).length = d.length := by unfold tk; exact List.length_map ..
theorem tk_val (d : List (Str × V)) (k : Str) : valV (tk d) (Sum.inr k) = dget d k := by
  induction d with
  | nil => rfl
  | cons p d ih =>
    rw [dget_cons]
    by_cases h : p.1 = k
    · rw [if_pos h]
      exact valV_pos (congrArg Sum.inr h)
    · rw [if_neg h, ← ih]
      exact valV_neg fun e => h (Sum.inr.inj e)
theorem tk_put (d : List (Str × V)) (k : Str) (v : V) : putK (tk d) (Sum.inr k) v = tk (dput d k v) := by
  unfold putK dput tk
  rw [List.any_map]
  have e : (d.any ((fun kv : Key × V => decide (kv.1 = Sum.inr k)) ∘ fun p => (Sum.inr p.1, p.2))) = d.any fun p => decide (p.1 = k) := by
    congr 1
    funext p
    show decide ((Sum.inr p.1 : Key) = Sum.inr k) = decide (p.1 = k)
    by_cases h : p.1 = k
    · simp [h]
    · have h2 : ¬ (Sum.inr p.1 : Key) = Sum.inr k := fun q => h (Sum.inr.inj q)
      rw [decide_eq_false h, decide_eq_false h2]
  rw [e]
  by_cases hh : (d.any fun p => decide (p.1 = k)) = true
  · rw [if_pos hh, if_pos hh, List.map_map, List.map_map]
    apply List.map_congr_left
    intro p _
    simp only [Function.comp]
    by_cases h : p.1 = k
    · rw [if_pos h, if_pos (congrArg Sum.inr h)]
    · rw [if_neg h, if_neg fun q => h (Sum.inr.inj q)]
  · rw [if_neg hh, if_neg hh, List.map_append]
    rfl
theorem tk_keys (d : List (Str × V)) : (tk d).map (·.1) = (d.map (·.1)).map Sum.inr := by
  unfold tk
  rw [List.map_map, List.map_map]
  rfl
/-- a dict of text keys stands at a -/
def DictAt (H : Hp) (a : Addr) (d : List (Str × V)) : Prop := H a = some (.dK (tk d))
theorem DictAt.get {H : Hp} {a : Addr} {d : List (Str × V)} (h : DictAt H a d) (k : Str) : DGet H a (.str k) (dget d k) := by
  rw [← tk_val]
  exact DGet.k (k := Sum.inr k) h
theorem DictAt.put {H : Hp} {a : Addr} {d : List (Str × V)} (h : DictAt H a d) (k : Str) (v : V) (hl : d.length < sizeLine) : DPut H a (.str k) v (upd H a (.dK (tk (dput d k v)))) := by
  rw [← tk_put]
  exact DPut.k (k := Sum.inr k) h (by rw [tk_len]; exact hl)
end Bo

/-! FX -/
set_option Elab.async false
set_option linter.all false
set_option maxRecDepth 100000
namespace Bo
open PySem PySem.Spec PyProof.Rows L2
section
variable {w : World} {K : Fg} {mg : Str → Option Value}
theorem TX.g_is_name (T : TX w K mg) : mg "is_name" = some (.ref (He.ga K "is_name")) := T.g 0
theorem TX.g_sorted_dict (T : TX w K mg) : mg "sorted_dict" = some (.ref (He.ga K "sorted_dict")) := T.g 1
theorem TX.g_need_item (T : TX w K mg) : mg "need_item" = some (.ref (He.ga K "need_item")) := T.g 2
theorem TX.g_need_new_names (T : TX w K mg) : mg "need_new_names" = some (.ref (He.ga K "need_new_names")) := T.g 3
theorem TX.g_need_different (T : TX w K mg) : mg "need_different" = some (.ref (He.ga K "need_different")) := T.g 4
theorem TX.g_with_equation (T : TX w K mg) : mg "with_equation" = some (.ref (He.ga K "with_equation")) := T.g 5
theorem TX.g_with_row (T : TX w K mg) : mg "with_row" = some (.ref (He.ga K "with_row")) := T.g 6
theorem TX.g_unknowns_added (T : TX w K mg) : mg "unknowns_added" = some (.ref (He.ga K "unknowns_added")) := T.g 7
theorem TX.g_equation_added (T : TX w K mg) : mg "equation_added" = some (.ref (He.ga K "equation_added")) := T.g 8
theorem TX.g_need_ends (T : TX w K mg) : mg "need_ends" = some (.ref (He.ga K "need_ends")) := T.g 9
theorem TX.g_entry_added (T : TX w K mg) : mg "entry_added" = some (.ref (He.ga K "entry_added")) := T.g 10
theorem TX.g_equation_removed (T : TX w K mg) : mg "equation_removed" = some (.ref (He.ga K "equation_removed")) := T.g 11
theorem TX.g_unknown_removed (T : TX w K mg) : mg "unknown_removed" = some (.ref (He.ga K "unknown_removed")) := T.g 12
theorem TX.g_need_edit (T : TX w K mg) : mg "need_edit" = some (.ref (He.ga K "need_edit")) := T.g 13
theorem TX.g_edited (T : TX w K mg) : mg "edited" = some (.ref (He.ga K "edited")) := T.g 14
theorem TX.g_found_path (T : TX w K mg) : mg "found_path" = some (.ref (He.ga K "found_path")) := T.g 15
theorem TX.g_largest (T : TX w K mg) : mg "largest" = some (.ref (He.ga K "largest")) := T.g 16
theorem TX.g_owners_of (T : TX w K mg) : mg "owners_of" = some (.ref (He.ga K "owners_of")) := T.g 17
theorem TX.g_columns_of (T : TX w K mg) : mg "columns_of" = some (.ref (He.ga K "columns_of")) := T.g 18
theorem TX.g_reached (T : TX w K mg) : mg "reached" = some (.ref (He.ga K "reached")) := T.g 19
theorem TX.g_spare_side (T : TX w K mg) : mg "spare_side" = some (.ref (He.ga K "spare_side")) := T.g 20
theorem TX.g_open_side (T : TX w K mg) : mg "open_side" = some (.ref (He.ga K "open_side")) := T.g 21
theorem TX.g_smallest_cover (T : TX w K mg) : mg "smallest_cover" = some (.ref (He.ga K "smallest_cover")) := T.g 22
theorem TX.g_steps_of (T : TX w K mg) : mg "steps_of" = some (.ref (He.ga K "steps_of")) := T.g 23
theorem TX.g_closed_sets (T : TX w K mg) : mg "closed_sets" = some (.ref (He.ga K "closed_sets")) := T.g 24
theorem TX.g_groups_of (T : TX w K mg) : mg "groups_of" = some (.ref (He.ga K "groups_of")) := T.g 25
theorem TX.g_solving_order (T : TX w K mg) : mg "solving_order" = some (.ref (He.ga K "solving_order")) := T.g 26
theorem TX.g__law_begin (T : TX w K mg) : mg "_law_begin" = some (.ref (He.ga K "_law_begin")) := T.g 27
theorem TX.g__law_draw (T : TX w K mg) : mg "_law_draw" = some (.ref (He.ga K "_law_draw")) := T.g 28
theorem TX.g__law_pick (T : TX w K mg) : mg "_law_pick" = some (.ref (He.ga K "_law_pick")) := T.g 29
theorem TX.g__law_name (T : TX w K mg) : mg "_law_name" = some (.ref (He.ga K "_law_name")) := T.g 30
theorem TX.g__law_names (T : TX w K mg) : mg "_law_names" = some (.ref (He.ga K "_law_names")) := T.g 31
theorem TX.g__law_system (T : TX w K mg) : mg "_law_system" = some (.ref (He.ga K "_law_system")) := T.g 32
theorem TX.g__law_shuffled (T : TX w K mg) : mg "_law_shuffled" = some (.ref (He.ga K "_law_shuffled")) := T.g 33
theorem TX.g__law_shown (T : TX w K mg) : mg "_law_shown" = some (.ref (He.ga K "_law_shown")) := T.g 34
theorem TX.g__law_one_block_right (T : TX w K mg) : mg "_law_one_block_right" = some (.ref (He.ga K "_law_one_block_right")) := T.g 35
theorem TX.g_law (T : TX w K mg) : mg "law" = some (.ref (He.ga K "law")) := T.g 36
theorem TX.g_EDITS (T : TX w K mg) : mg "EDITS" = some (.ref (He.ga K "EDITS")) := T.g 37
theorem TX.g_COUNTS (T : TX w K mg) : mg "COUNTS" = some (.ref (He.ga K "COUNTS")) := T.g 38
theorem TX.g_Block (T : TX w K mg) : mg "Block" = some (.ref (He.ga K "Block")) := T.g 39
theorem TX.cls_Block (T : TX w K mg) : Cls K (He.ga K "Block") := T.cls 40
theorem TX.mkr_Block (T : TX w K mg) : Mk K (He.ga K "Block") (He.ma K (He.ga K "Block") "__init__") := T.mkr 41
theorem TX.no_Block_own_equations (T : TX w K mg) : NoAttr K (He.ga K "Block") "own_equations" := T.noat 42
theorem TX.no_Block_own_unknowns (T : TX w K mg) : NoAttr K (He.ga K "Block") "own_unknowns" := T.noat 43
theorem TX.no_Block_links (T : TX w K mg) : NoAttr K (He.ga K "Block") "links" := T.noat 44
theorem TX.no_Block_own_place (T : TX w K mg) : NoAttr K (He.ga K "Block") "own_place" := T.noat 45
theorem TX.no_Block_own_needs (T : TX w K mg) : NoAttr K (He.ga K "Block") "own_needs" := T.noat 46
theorem TX.g_OverPart (T : TX w K mg) : mg "OverPart" = some (.ref (He.ga K "OverPart")) := T.g 47
theorem TX.cls_OverPart (T : TX w K mg) : Cls K (He.ga K "OverPart") := T.cls 48
theorem TX.mkr_OverPart (T : TX w K mg) : Mk K (He.ga K "OverPart") (He.ma K (He.ga K "OverPart") "__init__") := T.mkr 49
theorem TX.no_OverPart_own_equations (T : TX w K mg) : NoAttr K (He.ga K "OverPart") "own_equations" := T.noat 50
theorem TX.no_OverPart_own_unknowns (T : TX w K mg) : NoAttr K (He.ga K "OverPart") "own_unknowns" := T.noat 51
theorem TX.no_OverPart_links (T : TX w K mg) : NoAttr K (He.ga K "OverPart") "links" := T.noat 52
theorem TX.g_UnderPart (T : TX w K mg) : mg "UnderPart" = some (.ref (He.ga K "UnderPart")) := T.g 53
theorem TX.cls_UnderPart (T : TX w K mg) : Cls K (He.ga K "UnderPart") := T.cls 54
theorem TX.mkr_UnderPart (T : TX w K mg) : Mk K (He.ga K "UnderPart") (He.ma K (He.ga K "UnderPart") "__init__") := T.mkr 55
theorem TX.no_UnderPart_own_equations (T : TX w K mg) : NoAttr K (He.ga K "UnderPart") "own_equations" := T.noat 56
theorem TX.no_UnderPart_own_unknowns (T : TX w K mg) : NoAttr K (He.ga K "UnderPart") "own_unknowns" := T.noat 57
theorem TX.no_UnderPart_links (T : TX w K mg) : NoAttr K (He.ga K "UnderPart") "links" := T.noat 58
theorem TX.g_WellPart (T : TX w K mg) : mg "WellPart" = some (.ref (He.ga K "WellPart")) := T.g 59
theorem TX.cls_WellPart (T : TX w K mg) : Cls K (He.ga K "WellPart") := T.cls 60
theorem TX.mkr_WellPart (T : TX w K mg) : Mk K (He.ga K "WellPart") (He.ma K (He.ga K "WellPart") "__init__") := T.mkr 61
theorem TX.no_WellPart_own_equations (T : TX w K mg) : NoAttr K (He.ga K "WellPart") "own_equations" := T.noat 62
theorem TX.no_WellPart_own_unknowns (T : TX w K mg) : NoAttr K (He.ga K "WellPart") "own_unknowns" := T.noat 63
theorem TX.no_WellPart_links (T : TX w K mg) : NoAttr K (He.ga K "WellPart") "links" := T.noat 64
theorem TX.g_Structure (T : TX w K mg) : mg "Structure" = some (.ref (He.ga K "Structure")) := T.g 65
theorem TX.cls_Structure (T : TX w K mg) : Cls K (He.ga K "Structure") := T.cls 66
theorem TX.mkr_Structure (T : TX w K mg) : Mk K (He.ga K "Structure") (He.ma K (He.ga K "Structure") "__init__") := T.mkr 67
theorem TX.no_Structure_rows (T : TX w K mg) : NoAttr K (He.ga K "Structure") "rows" := T.noat 68
theorem TX.no_Structure_all_unknowns (T : TX w K mg) : NoAttr K (He.ga K "Structure") "all_unknowns" := T.noat 69
theorem TX.no_Structure_pairs (T : TX w K mg) : NoAttr K (He.ga K "Structure") "pairs" := T.noat 70
theorem TX.no_Structure_given (T : TX w K mg) : NoAttr K (He.ga K "Structure") "given" := T.noat 71
theorem TX.no_Structure_owners (T : TX w K mg) : NoAttr K (He.ga K "Structure") "owners" := T.noat 72
theorem TX.no_Structure_over_part (T : TX w K mg) : NoAttr K (He.ga K "Structure") "over_part" := T.noat 73
theorem TX.no_Structure_under_part (T : TX w K mg) : NoAttr K (He.ga K "Structure") "under_part" := T.noat 74
theorem TX.no_Structure_well_part (T : TX w K mg) : NoAttr K (He.ga K "Structure") "well_part" := T.noat 75
theorem TX.no_Structure_follows (T : TX w K mg) : NoAttr K (He.ga K "Structure") "follows" := T.noat 76
theorem TX.no_Structure_closed (T : TX w K mg) : NoAttr K (He.ga K "Structure") "closed" := T.noat 77
theorem TX.no_Structure_groups (T : TX w K mg) : NoAttr K (He.ga K "Structure") "groups" := T.noat 78
theorem TX.no_Structure_numbers (T : TX w K mg) : NoAttr K (He.ga K "Structure") "numbers" := T.noat 79
theorem TX.no_Structure_own_cover (T : TX w K mg) : NoAttr K (He.ga K "Structure") "own_cover" := T.noat 80
theorem TX.no_Structure_own_blocks (T : TX w K mg) : NoAttr K (He.ga K "Structure") "own_blocks" := T.noat 81
theorem TX.g_System (T : TX w K mg) : mg "System" = some (.ref (He.ga K "System")) := T.g 82
theorem TX.cls_System (T : TX w K mg) : Cls K (He.ga K "System") := T.cls 83
theorem TX.mkr_System (T : TX w K mg) : Mk K (He.ga K "System") (He.ma K (He.ga K "System") "__init__") := T.mkr 84
theorem TX.no_System_content (T : TX w K mg) : NoAttr K (He.ga K "System") "content" := T.noat 85
theorem TX.no_System_opened (T : TX w K mg) : NoAttr K (He.ga K "System") "opened" := T.noat 86
theorem TX.no_System_past (T : TX w K mg) : NoAttr K (He.ga K "System") "past" := T.noat 87
theorem TX.m_Structure_made_block (T : TX w K mg) : Meth K (He.ga K "Structure") "made_block" (He.ma K (He.ga K "Structure") "made_block") := T.meth 88
theorem TX.m_Structure_walk (T : TX w K mg) : Meth K (He.ga K "Structure") "walk" (He.ma K (He.ga K "Structure") "walk") := T.meth 89
theorem TX.m_Structure_need_item (T : TX w K mg) : Meth K (He.ga K "Structure") "need_item" (He.ma K (He.ga K "Structure") "need_item") := T.meth 90
theorem TX.m_Structure_entry_kind (T : TX w K mg) : Meth K (He.ga K "Structure") "entry_kind" (He.ma K (He.ga K "Structure") "entry_kind") := T.meth 91
theorem TX.m_Structure_block_of (T : TX w K mg) : Meth K (He.ga K "Structure") "block_of" (He.ma K (He.ga K "Structure") "block_of") := T.meth 92
theorem TX.m_Structure_closed_set (T : TX w K mg) : Meth K (He.ga K "Structure") "closed_set" (He.ma K (He.ga K "Structure") "closed_set") := T.meth 93
theorem TX.m_System_edit_table (T : TX w K mg) : Meth K (He.ga K "System") "edit_table" (He.ma K (He.ga K "System") "edit_table") := T.meth 94
theorem TX.m_System_change (T : TX w K mg) : Meth K (He.ga K "System") "change" (He.ma K (He.ga K "System") "change") := T.meth 95
theorem TX.m_System_perform (T : TX w K mg) : Meth K (He.ga K "System") "perform" (He.ma K (He.ga K "System") "perform") := T.meth 96
theorem TX.m_System_add_unknown (T : TX w K mg) : Meth K (He.ga K "System") "add_unknown" (He.ma K (He.ga K "System") "add_unknown") := T.meth 97
theorem TX.m_System_add_equation (T : TX w K mg) : Meth K (He.ga K "System") "add_equation" (He.ma K (He.ga K "System") "add_equation") := T.meth 98
theorem TX.m_System_add_entry (T : TX w K mg) : Meth K (He.ga K "System") "add_entry" (He.ma K (He.ga K "System") "add_entry") := T.meth 99
theorem TX.m_System_remove_equation (T : TX w K mg) : Meth K (He.ga K "System") "remove_equation" (He.ma K (He.ga K "System") "remove_equation") := T.meth 100
theorem TX.m_System_remove_unknown (T : TX w K mg) : Meth K (He.ga K "System") "remove_unknown" (He.ma K (He.ga K "System") "remove_unknown") := T.meth 101
theorem TX.f_isinstance (T : TX w K mg) : mg "isinstance" = none := T.f 102
theorem TX.f_str (T : TX w K mg) : mg "str" = none := T.f 103
theorem TX.f_len (T : TX w K mg) : mg "len" = none := T.f 104
theorem TX.f_all (T : TX w K mg) : mg "all" = none := T.f 105
theorem TX.f_sorted (T : TX w K mg) : mg "sorted" = none := T.f 106
theorem TX.f_range (T : TX w K mg) : mg "range" = none := T.f 107
theorem TX.f_tuple (T : TX w K mg) : mg "tuple" = none := T.f 108
theorem TX.f_dict (T : TX w K mg) : mg "dict" = none := T.f 109
theorem TX.f_list (T : TX w K mg) : mg "list" = none := T.f 110
theorem TX.f_min (T : TX w K mg) : mg "min" = none := T.f 111
theorem TX.f_max (T : TX w K mg) : mg "max" = none := T.f 112
theorem TX.f_enumerate (T : TX w K mg) : mg "enumerate" = none := T.f 113
theorem TX.f_super (T : TX w K mg) : mg "super" = none := T.f 114
theorem TX.int_MOST_ITEMS (T : TX w K mg) : ∃ t, mg "MOST_ITEMS" = some (.int 24 t) := T.int 115
theorem TX.int_LONGEST_NAME (T : TX w K mg) : ∃ t, mg "LONGEST_NAME" = some (.int 8 t) := T.int 116
theorem TX.int_MOST_LEVELS (T : TX w K mg) : ∃ t, mg "MOST_LEVELS" = some (.int 5 t) := T.int 117
theorem TX.str_LETTERS (T : TX w K mg) : ∃ t, mg "LETTERS" = some (.str "abcdefghijklmnopqrstuvwxyz" t) := T.str 118
theorem TX.str_FIGURES (T : TX w K mg) : ∃ t, mg "FIGURES" = some (.str "0123456789" t) := T.str 119
theorem TX.p_Block_equations (T : TX w K mg) : PropOf K (He.ga K "Block") "equations" (He.ma K (He.ga K "Block") "equations") ((Pth.p "Block" "equations").ad K) := propB_ok (T.says.more 0 (b := fun K => propB K "Block" "equations"))
theorem TX.p_Block_unknowns (T : TX w K mg) : PropOf K (He.ga K "Block") "unknowns" (He.ma K (He.ga K "Block") "unknowns") ((Pth.p "Block" "unknowns").ad K) := propB_ok (T.says.more 1 (b := fun K => propB K "Block" "unknowns"))
theorem TX.p_Block_place (T : TX w K mg) : PropOf K (He.ga K "Block") "place" (He.ma K (He.ga K "Block") "place") ((Pth.p "Block" "place").ad K) := propB_ok (T.says.more 2 (b := fun K => propB K "Block" "place"))
theorem TX.p_Block_needs (T : TX w K mg) : PropOf K (He.ga K "Block") "needs" (He.ma K (He.ga K "Block") "needs") ((Pth.p "Block" "needs").ad K) := propB_ok (T.says.more 3 (b := fun K => propB K "Block" "needs"))
theorem TX.p_OverPart_equations (T : TX w K mg) : PropOf K (He.ga K "OverPart") "equations" (He.ma K (He.ga K "OverPart") "equations") ((Pth.p "OverPart" "equations").ad K) := propB_ok (T.says.more 4 (b := fun K => propB K "OverPart" "equations"))
theorem TX.p_OverPart_unknowns (T : TX w K mg) : PropOf K (He.ga K "OverPart") "unknowns" (He.ma K (He.ga K "OverPart") "unknowns") ((Pth.p "OverPart" "unknowns").ad K) := propB_ok (T.says.more 5 (b := fun K => propB K "OverPart" "unknowns"))
theorem TX.p_OverPart_surplus (T : TX w K mg) : PropOf K (He.ga K "OverPart") "surplus" (He.ma K (He.ga K "OverPart") "surplus") ((Pth.p "OverPart" "surplus").ad K) := propB_ok (T.says.more 6 (b := fun K => propB K "OverPart" "surplus"))
theorem TX.p_UnderPart_equations (T : TX w K mg) : PropOf K (He.ga K "UnderPart") "equations" (He.ma K (He.ga K "UnderPart") "equations") ((Pth.p "UnderPart" "equations").ad K) := propB_ok (T.says.more 7 (b := fun K => propB K "UnderPart" "equations"))
theorem TX.p_UnderPart_unknowns (T : TX w K mg) : PropOf K (He.ga K "UnderPart") "unknowns" (He.ma K (He.ga K "UnderPart") "unknowns") ((Pth.p "UnderPart" "unknowns").ad K) := propB_ok (T.says.more 8 (b := fun K => propB K "UnderPart" "unknowns"))
theorem TX.p_UnderPart_surplus (T : TX w K mg) : PropOf K (He.ga K "UnderPart") "surplus" (He.ma K (He.ga K "UnderPart") "surplus") ((Pth.p "UnderPart" "surplus").ad K) := propB_ok (T.says.more 9 (b := fun K => propB K "UnderPart" "surplus"))
theorem TX.p_WellPart_equations (T : TX w K mg) : PropOf K (He.ga K "WellPart") "equations" (He.ma K (He.ga K "WellPart") "equations") ((Pth.p "WellPart" "equations").ad K) := propB_ok (T.says.more 10 (b := fun K => propB K "WellPart" "equations"))
theorem TX.p_Structure_equations (T : TX w K mg) : PropOf K (He.ga K "Structure") "equations" (He.ma K (He.ga K "Structure") "equations") ((Pth.p "Structure" "equations").ad K) := propB_ok (T.says.more 11 (b := fun K => propB K "Structure" "equations"))
theorem TX.p_Structure_unknowns (T : TX w K mg) : PropOf K (He.ga K "Structure") "unknowns" (He.ma K (He.ga K "Structure") "unknowns") ((Pth.p "Structure" "unknowns").ad K) := propB_ok (T.says.more 12 (b := fun K => propB K "Structure" "unknowns"))
theorem TX.p_Structure_rank (T : TX w K mg) : PropOf K (He.ga K "Structure") "rank" (He.ma K (He.ga K "Structure") "rank") ((Pth.p "Structure" "rank").ad K) := propB_ok (T.says.more 13 (b := fun K => propB K "Structure" "rank"))
theorem TX.p_Structure_over (T : TX w K mg) : PropOf K (He.ga K "Structure") "over" (He.ma K (He.ga K "Structure") "over") ((Pth.p "Structure" "over").ad K) := propB_ok (T.says.more 14 (b := fun K => propB K "Structure" "over"))
theorem TX.p_Structure_under (T : TX w K mg) : PropOf K (He.ga K "Structure") "under" (He.ma K (He.ga K "Structure") "under") ((Pth.p "Structure" "under").ad K) := propB_ok (T.says.more 15 (b := fun K => propB K "Structure" "under"))
theorem TX.p_Structure_blocks (T : TX w K mg) : PropOf K (He.ga K "Structure") "blocks" (He.ma K (He.ga K "Structure") "blocks") ((Pth.p "Structure" "blocks").ad K) := propB_ok (T.says.more 16 (b := fun K => propB K "Structure" "blocks"))
theorem TX.p_System_structure (T : TX w K mg) : PropOf K (He.ga K "System") "structure" (He.ma K (He.ga K "System") "structure") ((Pth.p "System" "structure").ad K) := propB_ok (T.says.more 17 (b := fun K => propB K "System" "structure"))
theorem TX.vals_EDITS (T : TX w K mg) : (fun K => He.valsB K (He.ga K "EDITS") [("add_unknown", .glo "unknowns_added"), ("add_equation", .glo "equation_added"), ("add_entry", .glo "entry_added"), ("remove_entry", .glo "entry_removed"), ("remove_equation", .glo "equation_removed"), ("remove_unknown", .glo "unknown_removed")]) K = true := T.says.more 18 (b := fun K => He.valsB K (He.ga K "EDITS") [("add_unknown", .glo "unknowns_added"), ("add_equation", .glo "equation_added"), ("add_entry", .glo "entry_added"), ("remove_entry", .glo "entry_removed"), ("remove_equation", .glo "equation_removed"), ("remove_unknown", .glo "unknown_removed")])
theorem TX.t_COUNTS_add_unknown (T : TX w K mg) : PySem.W.nsIn K (He.ga K "COUNTS") "add_unknown" = some (some (.ref (tupAt K "COUNTS" "add_unknown"))) ∧ ∀ H, SqT K H (tupAt K "COUNTS" "add_unknown") [.int 0, .non] := tupAtB_ok (T.says.more 19 (b := fun K => tupAtB K "COUNTS" "add_unknown" [.int 0, .non]))
theorem TX.t_COUNTS_add_equation (T : TX w K mg) : PySem.W.nsIn K (He.ga K "COUNTS") "add_equation" = some (some (.ref (tupAt K "COUNTS" "add_equation"))) ∧ ∀ H, SqT K H (tupAt K "COUNTS" "add_equation") [.int 1, .non] := tupAtB_ok (T.says.more 20 (b := fun K => tupAtB K "COUNTS" "add_equation" [.int 1, .non]))
theorem TX.t_COUNTS_add_entry (T : TX w K mg) : PySem.W.nsIn K (He.ga K "COUNTS") "add_entry" = some (some (.ref (tupAt K "COUNTS" "add_entry"))) ∧ ∀ H, SqT K H (tupAt K "COUNTS" "add_entry") [.int 2, .int 2] := tupAtB_ok (T.says.more 21 (b := fun K => tupAtB K "COUNTS" "add_entry" [.int 2, .int 2]))
theorem TX.t_COUNTS_remove_entry (T : TX w K mg) : PySem.W.nsIn K (He.ga K "COUNTS") "remove_entry" = some (some (.ref (tupAt K "COUNTS" "remove_entry"))) ∧ ∀ H, SqT K H (tupAt K "COUNTS" "remove_entry") [.int 2, .int 2] := tupAtB_ok (T.says.more 22 (b := fun K => tupAtB K "COUNTS" "remove_entry" [.int 2, .int 2]))
theorem TX.t_COUNTS_remove_equation (T : TX w K mg) : PySem.W.nsIn K (He.ga K "COUNTS") "remove_equation" = some (some (.ref (tupAt K "COUNTS" "remove_equation"))) ∧ ∀ H, SqT K H (tupAt K "COUNTS" "remove_equation") [.int 1, .int 1] := tupAtB_ok (T.says.more 23 (b := fun K => tupAtB K "COUNTS" "remove_equation" [.int 1, .int 1]))
theorem TX.t_COUNTS_remove_unknown (T : TX w K mg) : PySem.W.nsIn K (He.ga K "COUNTS") "remove_unknown" = some (some (.ref (tupAt K "COUNTS" "remove_unknown"))) ∧ ∀ H, SqT K H (tupAt K "COUNTS" "remove_unknown") [.int 1, .int 1] := tupAtB_ok (T.says.more 24 (b := fun K => tupAtB K "COUNTS" "remove_unknown" [.int 1, .int 1]))
abbrev ix_is_name : Nat := 0
abbrev ix_sorted_dict : Nat := 1
abbrev ix_need_item : Nat := 2
abbrev ix_need_new_names : Nat := 3
abbrev ix_need_different : Nat := 4
abbrev ix_with_equation : Nat := 5
abbrev ix_with_row : Nat := 6
abbrev ix_unknowns_added : Nat := 7
abbrev ix_equation_added : Nat := 8
abbrev ix_need_ends : Nat := 9
abbrev ix_entry_added : Nat := 10
abbrev ix_equation_removed : Nat := 11
abbrev ix_unknown_removed : Nat := 12
abbrev ix_need_edit : Nat := 13
abbrev ix_edited : Nat := 14
abbrev ix_found_path : Nat := 15
abbrev ix_largest : Nat := 16
abbrev ix_owners_of : Nat := 17
abbrev ix_columns_of : Nat := 18
abbrev ix_reached : Nat := 19
abbrev ix_spare_side : Nat := 20
abbrev ix_open_side : Nat := 21
abbrev ix_smallest_cover : Nat := 22
abbrev ix_Part___init__ : Nat := 23
abbrev ix_Part_equations : Nat := 24
abbrev ix_Part_unknowns : Nat := 25
abbrev ix_Part_surplus : Nat := 26
abbrev ix_Block___init__ : Nat := 27
abbrev ix_Block_place : Nat := 28
abbrev ix_Block_needs : Nat := 29
abbrev ix_steps_of : Nat := 30
abbrev ix_closed_sets : Nat := 31
abbrev ix_groups_of : Nat := 32
abbrev ix_solving_order : Nat := 33
abbrev ix_Structure___init__ : Nat := 34
abbrev ix_Structure_made_block : Nat := 35
abbrev ix_Structure_equations : Nat := 36
abbrev ix_Structure_unknowns : Nat := 37
abbrev ix_Structure_rank : Nat := 38
abbrev ix_Structure_over : Nat := 39
abbrev ix_Structure_under : Nat := 40
abbrev ix_Structure_blocks : Nat := 41
abbrev ix_Structure_walk : Nat := 42
abbrev ix_Structure_need_item : Nat := 43
abbrev ix_Structure_entry_kind : Nat := 44
abbrev ix_Structure_block_of : Nat := 45
abbrev ix_Structure_closed_set : Nat := 46
abbrev ix_System___init__ : Nat := 47
abbrev ix_System_edit_table : Nat := 48
abbrev ix_System_change : Nat := 49
abbrev ix_System_perform : Nat := 50
abbrev ix_System_add_unknown : Nat := 51
abbrev ix_System_add_equation : Nat := 52
abbrev ix_System_add_entry : Nat := 53
abbrev ix_System_remove_equation : Nat := 54
abbrev ix_System_remove_unknown : Nat := 55
abbrev ix_System_structure : Nat := 56
abbrev ix__law_begin : Nat := 57
abbrev ix__law_draw : Nat := 58
abbrev ix__law_pick : Nat := 59
abbrev ix__law_name : Nat := 60
abbrev ix__law_names : Nat := 61
abbrev ix__law_system : Nat := 62
abbrev ix__law_shuffled : Nat := 63
abbrev ix__law_shown : Nat := 64
abbrev ix__law_one_block_right : Nat := 65
abbrev ix_law : Nat := 66
abbrev ix_OverPart___init__ : Nat := 67
abbrev ix_UnderPart___init__ : Nat := 68
abbrev ix_WellPart___init__ : Nat := 69
abbrev ix_Block_equations : Nat := 70
abbrev ix_Block_unknowns : Nat := 71
abbrev ix_OverPart_equations : Nat := 72
abbrev ix_OverPart_unknowns : Nat := 73
abbrev ix_OverPart_surplus : Nat := 74
abbrev ix_UnderPart_equations : Nat := 75
abbrev ix_UnderPart_unknowns : Nat := 76
abbrev ix_UnderPart_surplus : Nat := 77
abbrev ix_WellPart_equations : Nat := 78
end
end Bo

/-! E1 -/
set_option Elab.async false
set_option linter.all false
set_option maxRecDepth 100000
set_option maxHeartbeats 1000000
namespace Bo
open PySem PySem.Spec PyProof.Rows L2
section
variable {P : Program} {w : World} {K : Fg} {mg : Str → Option Value} {base : Heap}
abbrev sLetters : Str := "abcdefghijklmnopqrstuvwxyz"
abbrev sFigures : Str := "0123456789"
/-- a name: one to eight signs, letters or figures, the first a letter -/
structure NameOk (x : Str) : Prop where
  pos : 0 < x.length
  len : x.length ≤ 8
  first : ∃ c, x.cps.toList[0]? = some c ∧ c ∈ sLetters.cps.toList
  all : ∀ c ∈ x.cps.toList, c ∈ (sLetters ++ sFigures).cps.toList
def spIsName : Sp := fun vs H Q _ => ∃ x, vs = [.str x] ∧ NameOk x ∧ ∀ H', Same H H' → Q (.bl true) H'
theorem ok_is_name (T : TX w K mg) : Ok P w K mg base 1 d_is_name ["thing"] spIsName := by
  refine mkOk T ix_is_name rfl rfl rfl sc_is_name (fun _ _ _ _ _ _ us hl => match us, hl with | [_], _ => rfl) (fun vs H Q E h => ?_) (fun cdv A outer s H vs Q E hr h => ?_)
  · obtain ⟨x, rfl, _⟩ := h
    rfl
  · obtain ⟨x, rfl, n, q⟩ := h
    obtain ⟨t1, mL⟩ := T.str_LETTERS
    obtain ⟨t2, mF⟩ := T.str_FIGURES
    obtain ⟨t3, mG⟩ := T.int_LONGEST_NAME
    refine ⟨_, pss_cons (ps_if (PW.pt (pw_or (pt_not (pt_val (pe_callB call_isi (by rfl) T.f_isinstance boot_isinstance (pa_cons (pv 0) (pa_cons (pe_bltn (v := .ty "str") rfl T.f_str PyProof.Rows.boot_str rfl) pa_nil)))))
        (pw_or (pt_not (pt_chain op_le op_le pe_int (pe_callB call_len (by rfl) T.f_len PySem.boot_len (pa_cons (pv 0) pa_nil)) (pe_gint rfl mG)))
          (pw_or1 (pt_cmpR op_notIn_sign (pe_ix ix_str (pv 0) pe_int (fun _ _ => rfl)) (pe_gstr rfl mL) rfl)))))
        (pss_one (ps_ret pe_bl)) pss_nil)
      (pss_one (ps_ret (pe_callB (cr_all rfl) (by rfl) T.f_all boot_all (pa_cons
        (pe_lc (own := [("sign", 1)]) (g := gName 1) (tt := tYes) (by rfl) sc_is_name.nd (pi_str (pv 0)) (blkOk_by (N := N_is_name) (sc := defScope s_is_name) (by decide +kernel))
          (fun _ _ _ _ _ => pg_name (i := 1) sc_is_name.nd rfl (Or.inl rfl)) (fun _ _ _ _ _ => pts_nil)
          (fun _ _ _ _ _ => pe_cmpR op_in_sign (pv 1) (pe_op op_add_str (pe_gstr rfl mL) (pe_gstr rfl mF)) rfl)) pa_nil)))), ?_⟩
    -- isinstance(thing, str); 1 <= len(thing) <= LONGEST_NAME
    refine ⟨_, rfl, _, _, _, _, true, rfl, .ty _, .base (.str _), kit_ty (by decide +kernel), _, rfl, iteF ?_⟩
    refine ⟨_, rfl, _, _, rfl, ⟨small (by have := n.len; omega), rfl⟩, _, _, rfl, rfl, _, rfl, ifT (by have := n.pos; omega) ?_⟩
    refine ⟨_, _, rfl, rfl, _, rfl, ifNF (by have := n.len; omega) ?_⟩
    -- thing[0] not in LETTERS
    obtain ⟨c, hc, hin⟩ := n.first
    refine ⟨_, rfl, _, _, c, rfl, rfl, small (by have := n.len; omega), atI_nat (j := 0) hc, c, _, rfl, rfl, _, rfl, ifNF hin ?_⟩
    -- all(..)
    refine ⟨_, rfl, _, rfl, fun D nD => ?_⟩
    refine lc_it walk_str (fun i H1 => Same H H1 ∧ ∃ bs : List Bool, bs.length = i ∧ (∀ b ∈ bs, b = true) ∧ H1 D = some (.lst (bs.map V.bl))) ⟨same_new nD, [], rfl, by simp, upd_same⟩ (fun _ _ _ _ => True.intro) ?_ ?_
    · rintro i v H1 H2 hi ⟨s1, bs, hb, hall, hD⟩ ⟨rfl, d, hd, rfl⟩
      refine ⟨rfl, _, rfl, _, _, rfl, rfl, small (by decide), d, _, rfl, rfl, _, hD, ?_, ?_⟩
      · rw [List.length_map, hb]
        exact small1000 (by
          have e : x.length = x.cps.size := rfl
          have := n.len
          omega)
      · have hm : d ∈ x.cps.toList := by
          obtain ⟨h1, h2⟩ := Array.getElem?_eq_some_iff.mp hd
          rw [← h2]
          exact Array.getElem_mem_toList h1
        have ht : decide (d ∈ (sLetters ++ sFigures).cps.toList) = true := decide_eq_true (n.all d hm)
        refine ⟨fun b o e => ?_, bs ++ [true], by simp [hb], ?_, ?_⟩
        · rw [upd_ne (ne_of_none e nD)]
          exact s1 b o e
        · intro b hb
          rcases List.mem_append.mp hb with z | z
          · exact hall b z
          · exact List.mem_singleton.mp z
        · rw [upd_same, List.map_append]
          exact congrArg (fun z => some (HO.lst (bs.map V.bl ++ [V.bl z]))) ht
    · rintro H1 ⟨s1, bs, hb, hall, hD⟩
      refine ⟨D, bs, rfl, SqL.of hD, ?_⟩
      have e : bs.all id = true := List.all_eq_true.mpr fun b hb => hall b hb
      rw [e]
      exact q H1 s1
end
end Bo

/-! B2 -/
set_option Elab.async false
set_option linter.all false
set_option maxRecDepth 100000
set_option maxHeartbeats 1000000
/-! Comprehensions whose parts leave the heap as it is. -/
namespace Bo
open PySem PySem.Spec PyProof.Rows L2
section
variable {J : It} {xs : List V} {G : Hp → Prop}
theorem take_filterMap {α β : Type} (f : α → Option β) {l : List α} {i : Nat} {x : α} (h : l[i]? = some x) : (l.take (i + 1)).filterMap f = (l.take i).filterMap f ++ (f x).toList := by
  rw [List.take_add_one, h, List.filterMap_append]
  cases e : f x <;> simp [e]
theorem lc_pure (w : Walk J xs.length G (YAt xs)) {g : TG} {tt : TT} {te : TE} {vs : List Nat} {σ : L2.St} {H1 : Hp} {D : Addr} {Qd : Hp → Prop} (hD : H1 D = none) (sel : V → Option V) (hz : xs.length ≤ 1000)
    (hG : ∀ H, Same H1 H → G H)
    (hs : ∀ x H (R : V → Hp → Prop) (N : Hp → Prop), x ∈ xs → Same H1 H → (match sel x with | some y => R y H | none => N H) →
      g x (wipe σ vs) H fun σ2 H2 => wipe σ2 vs = wipe σ vs ∧ tt σ2 H2 fun b H3 => if b = true then te σ2 H3 R else N H3)
    (hd : ∀ H, Same H1 H → H D = some (.lst (xs.filterMap sel)) → Qd H) :
    ∃ W : Nat → Nat → Hp → Prop, (∃ m, W 0 m (upd H1 D (.lst []))) ∧ ∀ i m H, W i m H →
      (J.stop i H ∧ Qd H) ∨ (J.go i H ∧ ∃ Nx : Hp → Prop, (∀ H', Nx H' → ∃ m', m' < m ∧ W (i + 1) m' H') ∧ ∀ x H', J.yld i H x H' → g x (wipe σ vs) H' fun σ2 H2 => wipe σ2 vs = wipe σ vs ∧ tt σ2 H2 fun b H3 =>
        if b = true then te σ2 H3 fun y H4 => ∃ acc, H4 D = some (.lst acc) ∧ acc.length < sizeLine ∧ Nx (upd H4 D (.lst (acc ++ [y]))) else Nx H3) := by
  refine lc_it w (fun i H => Same H1 H ∧ H D = some (.lst ((xs.take i).filterMap sel))) ⟨same_new hD, by rw [upd_same]; rfl⟩ (fun i H _ p => hG H p.1) (fun i x H H' hi p y => ?_) (fun H p => hd H p.1 (by rw [p.2, List.take_length]))
  obtain ⟨p1, p2⟩ := p
  obtain ⟨rfl, hx⟩ := y
  refine hs x H' _ _ (List.mem_of_getElem? hx) p1 ?_
  cases e : sel x with
  | some y =>
    refine ⟨_, p2, ?_, fun b o q => ?_, ?_⟩
    · refine small1000 (Nat.le_trans (List.length_filterMap_le ..) (Nat.le_trans (by rw [List.length_take]; exact Nat.min_le_right ..) hz))
    · rw [upd_ne (ne_of_none q hD)]
      exact p1 b o q
    · rw [upd_same, take_filterMap sel hx, e]
      rfl
  | none => exact ⟨p1, by rw [p2, take_filterMap sel hx, e]; simp⟩
/-- the dict that pairs make, one behind another -/
def mk (l : List (Str × V)) : List (Str × V) := l.foldl (fun acc p => dput acc p.1 p.2) []
theorem mk_snoc (l : List (Str × V)) (p : Str × V) : mk (l ++ [p]) = dput (mk l) p.1 p.2 := by
  unfold mk
  rw [List.foldl_append]
  rfl
theorem mk_len (l : List (Str × V)) : (mk l).length ≤ l.length := by
  have h : ∀ (l acc : List (Str × V)), (l.foldl (fun acc p => dput acc p.1 p.2) acc).length ≤ acc.length + l.length := by
    intro l
    induction l with
    | nil => intro acc; simp
    | cons p l ih =>
      intro acc
      have := ih (dput acc p.1 p.2)
      have := len_put_le acc p.1 p.2
      simp only [List.foldl_cons, List.length_cons]
      omega
  have := h l []
  simpa [mk] using this
theorem mk_nd {l : List (Str × V)} (nd : (l.map (·.1)).Nodup) : mk l = l := by
  have h : ∀ (l acc : List (Str × V)), ((acc ++ l).map (·.1)).Nodup → l.foldl (fun acc p => dput acc p.1 p.2) acc = acc ++ l := by
    intro l
    induction l with
    | nil => intro acc _; simp
    | cons p l ih =>
      intro acc nd
      have hn : p.1 ∉ acc.map (·.1) := fun hm => by
        rw [List.map_append, List.map_cons] at nd
        exact (List.nodup_append.mp nd).2.2 _ hm _ List.mem_cons_self rfl
      rw [List.foldl_cons, dput_new _ hn, ih]
      · simp
      · simpa using nd
  simpa [mk] using h l [] (by simpa using nd)
theorem dc_it {n : Nat} {Y : Nat → Hp → V → Hp → Prop} (w : Walk J n G Y) {g : TG} {tt : TT} {tk' tv : TE} {vs : List Nat} {σ : L2.St} {H1 : Hp} {D : Addr} {Qd : Hp → Prop} (Pv : Nat → Hp → Prop) (h0 : Pv 0 (upd H1 D (.dK []))) (hG : ∀ i H, i ≤ n → Pv i H → G H)
    (hs : ∀ i x H H', i < n → Pv i H → Y i H x H' → g x (wipe σ vs) H' fun σ2 H2 => wipe σ2 vs = wipe σ vs ∧ tt σ2 H2 fun b H3 =>
      if b = true then tk' σ2 H3 fun y H4 => tv σ2 H4 fun z H5 => ∃ kvs k, y = kV k ∧ H5 D = some (.dK kvs) ∧ kvs.length < sizeLine ∧ Pv (i + 1) (upd H5 D (.dK (putK kvs k z))) else Pv (i + 1) H3) (hd : ∀ H, Pv n H → Qd H) :
    ∃ W : Nat → Nat → Hp → Prop, (∃ m, W 0 m (upd H1 D (.dK []))) ∧ ∀ i m H, W i m H →
      (J.stop i H ∧ Qd H) ∨ (J.go i H ∧ ∃ Nx : Hp → Prop, (∀ H', Nx H' → ∃ m', m' < m ∧ W (i + 1) m' H') ∧ ∀ x H', J.yld i H x H' → g x (wipe σ vs) H' fun σ2 H2 => wipe σ2 vs = wipe σ vs ∧ tt σ2 H2 fun b H3 =>
        if b = true then tk' σ2 H3 fun y H4 => tv σ2 H4 fun z H5 => ∃ kvs k, y = kV k ∧ H5 D = some (.dK kvs) ∧ kvs.length < sizeLine ∧ Nx (upd H5 D (.dK (putK kvs k z))) else Nx H3) := by
  refine ⟨fun i m H => m = n - i ∧ i ≤ n ∧ Pv i H, ⟨n, by simp, Nat.zero_le _, h0⟩, ?_⟩
  rintro i m H ⟨rfl, hi, p⟩
  have q := hG i H hi p
  rcases Nat.lt_or_ge i n with hlt | hge
  · exact .inr ⟨w.goes i H hlt q, Pv (i + 1), fun H' p' => ⟨n - (i + 1), by omega, rfl, hlt, p'⟩, fun x H' y => hs i x H H' hlt p (w.yields i H x H' hlt q y)⟩
  · obtain rfl : i = n := by omega
    exact .inl ⟨w.stops H q, hd H p⟩
theorem dc_pure (w : Walk J xs.length G (YAt xs)) {g : TG} {tt : TT} {tk' tv : TE} {vs : List Nat} {σ : L2.St} {H1 : Hp} {D : Addr} {Qd : Hp → Prop} (hD : H1 D = none) (sel : V → Option (Str × V)) (hz : xs.length ≤ 1000)
    (hG : ∀ H, Same H1 H → G H)
    (hs : ∀ x H (R : V → V → Hp → Prop) (N : Hp → Prop), x ∈ xs → Same H1 H → (match sel x with | some y => R (.str y.1) y.2 H | none => N H) →
      g x (wipe σ vs) H fun σ2 H2 => wipe σ2 vs = wipe σ vs ∧ tt σ2 H2 fun b H3 => if b = true then tk' σ2 H3 fun y H4 => tv σ2 H4 fun z H5 => R y z H5 else N H3)
    (hd : ∀ H, Same H1 H → DictAt H D (mk (xs.filterMap sel)) → Qd H) :
    ∃ W : Nat → Nat → Hp → Prop, (∃ m, W 0 m (upd H1 D (.dK []))) ∧ ∀ i m H, W i m H →
      (J.stop i H ∧ Qd H) ∨ (J.go i H ∧ ∃ Nx : Hp → Prop, (∀ H', Nx H' → ∃ m', m' < m ∧ W (i + 1) m' H') ∧ ∀ x H', J.yld i H x H' → g x (wipe σ vs) H' fun σ2 H2 => wipe σ2 vs = wipe σ vs ∧ tt σ2 H2 fun b H3 =>
        if b = true then tk' σ2 H3 fun y H4 => tv σ2 H4 fun z H5 => ∃ kvs k, y = kV k ∧ H5 D = some (.dK kvs) ∧ kvs.length < sizeLine ∧ Nx (upd H5 D (.dK (putK kvs k z))) else Nx H3) := by
  refine dc_it w (fun i H => Same H1 H ∧ DictAt H D (mk ((xs.take i).filterMap sel))) ⟨same_new hD, by unfold DictAt; rw [upd_same]; rfl⟩ (fun i H _ p => hG H p.1) (fun i x H H' hi p y => ?_) (fun H p => hd H p.1 (by have := p.2; rwa [List.take_length] at this))
  obtain ⟨p1, p2⟩ := p
  obtain ⟨rfl, hx⟩ := y
  refine hs x H' _ _ (List.mem_of_getElem? hx) p1 ?_
  · cases e : sel x with
    | some y =>
      refine ⟨_, Sum.inr y.1, rfl, p2, ?_, fun b o q => ?_, ?_⟩
      · rw [tk_len]
        refine small1000 (Nat.le_trans (mk_len _) (Nat.le_trans (List.length_filterMap_le ..) (Nat.le_trans (by rw [List.length_take]; exact Nat.min_le_right ..) hz)))
      · rw [upd_ne (ne_of_none q hD)]
        exact p1 b o q
      · unfold DictAt
        rw [upd_same, take_filterMap sel hx, e, tk_put]
        show some (HO.dK (tk (dput _ _ _))) = some (HO.dK (tk (mk (_ ++ [y]))))
        rw [mk_snoc]
    | none => exact ⟨p1, by rw [take_filterMap sel hx, e]; simpa using p2⟩
end
end Bo

/-! E2 -/
set_option Elab.async false
set_option linter.all false
set_option maxRecDepth 100000
set_option maxHeartbeats 1000000
namespace Bo
open PySem PySem.Spec PyProof.Rows L2
section
variable {β : Type}
theorem self_fm {D : List (Str × β)} (nd : (D.map (·.1)).Nodup) : (D.map (·.1)).filterMap (fun k => (dget D k).map fun v => (k, v)) = D := by
  have h : ∀ (L : List (Str × β)), (∀ p ∈ L, dget D p.1 = some p.2) → (L.map (·.1)).filterMap (fun k => (dget D k).map fun v => (k, v)) = L := by
    intro L
    induction L with
    | nil => intro _; rfl
    | cons p L ih =>
      intro hL
      rw [List.map_cons, List.filterMap_cons, hL p List.mem_cons_self]
      simp only [Option.map_some]
      rw [ih fun q hq => hL q (List.mem_cons_of_mem _ hq)]
  exact h D fun p hp => dget_of_mem nd hp
theorem perm_fm {D : List (Str × β)} (nd : (D.map (·.1)).Nodup) {ys : List Str} (h : ys.Perm (D.map (·.1))) : (ys.filterMap (fun k => (dget D k).map fun v => (k, v))).Perm D := by
  have := h.filterMap (fun k => (dget D k).map fun v => (k, v))
  rwa [self_fm nd] at this
end
theorem fm_txs {β : Type} (f : V → Option β) (l : List Str) : (txs l).filterMap f = l.filterMap fun x => f (.str x) := by
  unfold txs
  rw [List.filterMap_map]
  rfl
/-- what is read as a dict of text keys -/
def DictR (H : Hp) (a : Addr) (d : List (Str × V)) : Prop := Rd H a (.dK (tk d))
theorem DictAt.r {H : Hp} {a : Addr} {d : List (Str × V)} (h : DictAt H a d) : DictR H a d := .inl h
theorem DictR.get {H : Hp} {a : Addr} {d : List (Str × V)} (h : DictR H a d) (k : Str) : DGet H a (.str k) (dget d k) := by
  rw [← tk_val]
  exact .inl ⟨tk d, Sum.inr k, h, rfl, rfl⟩
theorem DictR.same {H H' : Hp} {a : Addr} {d : List (Str × V)} (h : DictR H a d) (s : Same H H') : DictR H' a d := by
  rcases h with h | ⟨o, h⟩
  · exact .inl (s _ _ h)
  · exact .inr ⟨o, s _ _ h⟩
section
variable {P : Program} {w : World} {K : Fg} {mg : Str → Option Value} {base : Heap}
def spSortedDict : Sp := fun vs H Q _ => ∃ (a : Addr) (D : List (Str × V)), vs = [.ref a] ∧ DictR H a D ∧ (D.map (·.1)).Nodup ∧ D.length ≤ 60 ∧
  ∀ (D' : List (Str × V)) (p : Addr) (H' : Hp), D'.Perm D → Same H H' → H p = none → DictAt H' p D' → Q (.ref p) H'
theorem ok_sorted_dict (T : TX w K mg) : Ok P w K mg base 1 d_sorted_dict ["table"] spSortedDict := by
  refine mkOk T ix_sorted_dict rfl rfl rfl sc_sorted_dict (fun _ _ _ _ _ _ us hl => match us, hl with | [_], _ => rfl) (fun vs H Q E h => ?_) (fun cdv A outer s H vs Q E hr h => ?_)
  · obtain ⟨a, D, rfl, _⟩ := h
    rfl
  · obtain ⟨a, D, rfl, hR, nd, hl, q⟩ := h
    have hu := hu_of hr
    refine ⟨_, pss_one (ps_ret (pe_dc (own := [("key", 1)]) (g := gName 1) (tt := tYes) (by rfl) sc_sorted_dict.nd
      (pi_list (pe_callB (call_sortedD rfl) (by rfl) T.f_sorted boot_sorted (pa_cons (pv 0) pa_nil))) (blkOk_by (N := N_sorted_dict) (sc := defScope s_sorted_dict) (by decide +kernel))
      (fun _ _ _ _ _ => pg_name (i := 1) sc_sorted_dict.nd rfl (Or.inl rfl)) (fun _ _ _ _ _ => pts_nil) (fun _ _ _ _ _ => pv 1) (fun _ _ _ _ _ => pe_dget hu (pv 0) (pv 1) (fun _ _ => rfl)))), ?_⟩
    refine ⟨_, rfl, a, tk D, D.map (·.1), rfl, hR, tk_keys D, by rw [List.length_map]; omega, fun ys p perm srt np => ?_⟩
    refine ⟨p, rfl, ⟨_, SqL.of upd_same⟩, fun D0 nD0 => ?_⟩
    have hmem : ∀ k ∈ ys, ∃ v, dget D k = some v := fun k hk => Option.isSome_iff_exists.mp (dget_isSome.mpr (perm.mem_iff.mp hk))
    have s1 : Same H (upd H p (.lst (ys.map V.str))) := same_new np
    refine dc_pure (walk_list (xs := txs ys)) nD0 (fun v => match v with | .str k => (dget D k).map fun x => (k, x) | _ => none) (by rw [txs_len, perm.length_eq, List.length_map]; omega) (fun H1 s2 => s2.seq (SqL.of upd_same)) (fun x H1 R N hx s2 hh => ?_) (fun H1 s2 hD => ?_)
    · obtain ⟨k, hk, rfl⟩ := List.mem_map.mp hx
      obtain ⟨v, hv⟩ := hmem k hk
      simp only [hv, Option.map_some] at hh
      exact ⟨rfl, _, rfl, _, rfl, _, rfl, a, v, rfl, hv ▸ ((hR.same s1).same s2).get k, hh⟩
    · rw [fm_txs] at hD
      have pm := perm_fm nd perm
      have nd' : ((ys.filterMap (fun k => (dget D k).map fun v => (k, v))).map (·.1)).Nodup := (pm.map (·.1)).nodup_iff.mpr nd
      have e := mk_nd nd'
      refine q _ D0 H1 pm (s1.trans s2) (Same.free s1 nD0) ?_
      have e2 : mk (ys.filterMap fun x => (match V.str x with | .str k => (dget D k).map fun x => (k, x) | _ => none)) = ys.filterMap (fun k => (dget D k).map fun v => (k, v)) := e
      rwa [e2] at hD
/-- the checks that pass: an item that stands in a dict or a tuple -/
def spNeedItem (K : Fg) : Sp := fun vs H Q _ => ∃ (k x : Str) (a : Addr), vs = [.str k, .str x, .ref a] ∧ ((∃ D, DictAt H a D ∧ x ∈ D.map (·.1)) ∨ ∃ l, SqT K H a (txs l) ∧ x ∈ l) ∧ Q .non H
end
end Bo

/-! S1 -/
set_option Elab.async false
set_option linter.all false
set_option maxRecDepth 100000
set_option maxHeartbeats 1000000
/-! {**d, k: v}. -/
namespace PySem
section
variable {prog : Program} {w : World} {K : Type} [DecidableEq K] {knd : KeyKind prog w K} {A : Around} {E : Value → Shared → Prop} {s : Shared}
/-- one pair laid into a dict, its hash told -/
theorem put_pair {d : Addr} {kvs : List (K × Value)} {k : K} {key v : Value} {Q : Unit → Shared → Prop} (hkey : knd.is k key = true) (hm : s.heap.DictOf knd d kvs) (hz : kvs.length ≤ sizeLine)
    (hQ : ∀ h', h'.DictOf knd d (stored kvs k v) → Heap.SameBut d s.heap h' → Q () { s with heap := h' }) : wpAny (model prog w) A (dictPut d (knd.hash k) key v) Q E s := by
  obtain ⟨o, es, ep, ho, hc, hd, hk, hp, hn⟩ := hm
  have hes : es.size ≤ sizeLine := by
    have e1 := hp.length
    have e2 : es.toList.length = es.size := by simp
    omega
  have same : (es.findIdx? fun e => knd.is k e.key) = kvs.findIdx? fun kv => decide (kv.1 = k) := by
    rw [← hp.findIdx k]
    obtain ⟨l⟩ := es
    simp
  unfold dictPut
  refine wpAny_bind (wpAny_dictFind_of hkey ho hd hk ?_)
  cases hi : es.findIdx? fun e => knd.is k e.key with
  | some i =>
    have hany := any_of_findIdx_some (same ▸ hi)
    refine wpAny_updateDict ho hd (hQ _ ⟨_, _, ep, Heap.get?_update_self _ ho (Obj.isFreed_of_dict (Obj.data_mapDict hd _)), hc.mapDict _, Obj.data_mapDict hd _, hk.modify _ _, ?_, ?_⟩ (Heap.SameBut.update ..))
    · rw [stored, if_pos hany]
      have hl : (es.toList.findIdx? fun e => knd.is k e.key) = some i := by
        rw [← hi]
        obtain ⟨l⟩ := es
        simp
      have q := hp.modify hn hl v
      obtain ⟨l⟩ := es
      simpa using q
    · rw [stored, if_pos hany, keys_map_store]
      exact hn
  | none =>
    have hnot : k ∉ kvs.map (·.1) := not_mem_of_findIdx_none (same ▸ hi)
    have hany : ¬ (kvs.any fun kv => decide (kv.1 = k)) = true := fun z => by
      obtain ⟨kv, hkv, he⟩ := List.any_eq_true.mp z
      exact hnot (List.mem_map.mpr ⟨kv, hkv, of_decide_eq_true he⟩)
    refine wpAny_updateDictKeys (hz := hes) ho hd (hQ _ ⟨_, _, ep + 1, Heap.get?_update_self _ ho (Obj.isFreed_of_dict (Obj.data_mapDictKeys hd _)), hc.mapDictKeys _, Obj.data_mapDictKeys hd _, hk.push hkey _, ?_, ?_⟩ (Heap.SameBut.update ..))
    · rw [stored, if_neg hany]
      have q := hp.append hkey (knd.hash k) v
      obtain ⟨l⟩ := es
      simpa using q
    · rw [stored, if_neg hany, List.map_append, List.nodup_append]
      refine ⟨hn, by simp, fun a ha b hb e => ?_⟩
      simp only [List.map_cons, List.map_nil, List.mem_singleton] at hb
      exact hnot (hb ▸ e ▸ ha)
end
section
variable {prog : Program} {w : World} {K : Type} [DecidableEq K] {knd : KeyKind prog w K} {A : Around} {E : Value → Shared → Prop} {s : Shared}
theorem merge_map {d o : Addr} {kvs more : List (K × Value)} {Q : Unit → Shared → Prop} (hnr : ∀ k v, knd.is k v = true → ∀ a, v ≠ .ref a) (hdo : d ≠ o) (hoS : (o == sysModules) = false) (hd : s.heap.DictOf knd d kvs) (ho : s.heap.DictOf knd o more)
    (hz : kvs.length + more.length ≤ sizeLine) (hQ : ∀ h', h'.DictOf knd d (merged kvs more) → h'.DictOf knd o more → Heap.SameBut d s.heap h' → Q () { s with heap := h' }) :
    wpAny (model prog w) A (mergeMapping d (.ref o) false) Q E s := by
  obtain ⟨od, esd, epd, hod, hcd, hdd, hkd, hpd, hnd⟩ := id hd
  obtain ⟨oo, eso, epo, hoo, hco, hdo', hko, hpo, hno⟩ := id ho
  have hlen : more.length = eso.size := by rw [← hpo.length]; simp
  unfold mergeMapping
  refine wpAny_bind (wpAny_isInstance ho.typeIs isSubtype_dict_dict ?_)
  dsimp only
  rw [if_pos rfl]
  refine wpAny_bind (wpAny_specialOf ho.typeIs F.slot_dict_iter.lookup ?_)
  simp only [beq_self_eq_true]
  refine wpAny_bind (wpAny_pure ?_)
  dsimp only
  rw [if_neg (by rw [hoS]; exact Bool.false_ne_true)]
  have loop : wpAny (model prog w) A (do
      let es ← dictEntries o
      let epoch ← dictEpoch o
      forIn (List.range es.size) PUnit.unit fun i (_ : PUnit) => (do
        let l ← dictEntries o
        match l[i]? with
          | some e => do
            holding [e.key, e.val] (if false = true then (do
                let f ← dictFind d e.key e.hash
                if f.isSome = true then do
                    rule "dict.merge.duplicate-key"
                    let x ← newExc (Value.type "KeyError") [e.key]
                    raiseNew x
                    dictPut d e.hash e.key e.val
                  else dictPut d e.hash e.key e.val)
              else dictPut d e.hash e.key e.val)
            let ep ← dictEpoch o
            if (ep != epoch) = true then do
                (unsupported "dict.changed-during-merge" : Sem PUnit)
                pure (ForInStep.yield PUnit.unit)
              else pure (ForInStep.yield PUnit.unit)
          | _ => do
            (unsupported "dict.changed-during-merge" : Sem PUnit)
            pure (ForInStep.yield PUnit.unit) : Sem (ForInStep PUnit))
      pure ()) Q E s := by
    refine wpAny_bind (wpAny_dictEntries hoo hdo' ?_)
    refine wpAny_bind (wpAny_dictEpoch hoo hdo' ?_)
    refine wpAny_bind ?_
    rw [List.range_eq_range']
    refine wpAny_forIn_list _
      (fun rest _ s' => ∃ h' i, s' = { s with heap := h' } ∧ rest = List.range' i (eso.size - i) ∧ i ≤ eso.size ∧ h'.DictOf knd d (merged kvs (more.take i)) ∧ h'.get? o = some oo ∧ Heap.SameBut d s.heap h')
      _ ?_ ?_ _ _ ⟨s.heap, 0, rfl, by simp, Nat.zero_le _, by simpa [merged] using hd, hoo, Heap.SameBut.refl _ _⟩
    · rintro x rest b s' ⟨h', i, rfl, hr, hi, hd', hoo', hs'⟩
      have hlt : i < eso.size := by
        rcases Nat.lt_or_ge i eso.size with h | h
        · exact h
        · rw [Nat.sub_eq_zero_of_le h] at hr
          simp at hr
      have e1 : eso.size - i = (eso.size - (i + 1)) + 1 := by omega
      rw [e1, List.range'_succ] at hr
      obtain ⟨rfl, hrest⟩ := List.cons.inj hr
      refine wpAny_bind (wpAny_dictEntries hoo' hdo' ?_)
      rw [Array.getElem?_eq_getElem hlt]
      obtain ⟨⟨k, v⟩, hkv⟩ : ∃ kv, more[x]? = some kv := ⟨more[x]'(by rw [hlen]; exact hlt), List.getElem?_eq_getElem _⟩
      obtain ⟨hkey, hval⟩ := hpo.get? (e := eso[x]) (by simp [hlt]) hkv
      obtain ⟨k', hkey', hhash⟩ := hko eso[x] (Array.getElem_mem hlt)
      obtain rfl : k' = k := knd.inj _ _ _ hkey' hkey
      dsimp only
      rw [if_neg Bool.false_ne_true, hhash, hval]
      have hmx : (merged kvs (more.take x)).length ≤ sizeLine := by
        have q1 := merged_length_le kvs (more.take x)
        have q2 : (more.take x).length ≤ more.length := by rw [List.length_take]; omega
        omega
      refine wpAny_bind (wpAny_holding (put_pair hkey hd' hmx fun h'' hd'' hs'' => ?_))
      have hoo'' : h''.get? o = some oo := (hs''.2 o (Ne.symm hdo)).trans hoo'
      refine wpAny_bind (wpAny_dictEpoch hoo'' hdo' ?_)
      rw [if_neg (by simp)]
      exact wpAny_pure ⟨h'', x + 1, rfl, hrest, hlt, by rw [merged_take_succ kvs more x (k', v) hkv]; exact hd'', hoo'', hs'.trans hs''⟩
    · rintro b s' ⟨h', i, rfl, hr, hi, hd', hoo', hs'⟩
      have hin : i = eso.size := by
        rcases Nat.lt_or_ge i eso.size with h | h
        · have e1 : eso.size - i = (eso.size - (i + 1)) + 1 := by omega
          rw [e1, List.range'_succ] at hr
          cases hr
        · exact Nat.le_antisymm hi h
      rw [hin, ← hlen, List.take_length] at hd'
      exact wpAny_pure (hQ h' hd' ⟨oo, eso, epo, hoo', hco, hdo', hko, hpo, hno⟩ hs')
  refine wpAny_bind (wpAny_dictEntries hod hdd ?_)
  split
  · refine wpAny_bind (wpAny_dictEntries hoo hdo' ?_)
    refine wpAny_bind ?_
    rw [← Array.forIn_toList]
    refine wpAny_forIn_list _ (fun rest _ s' => s' = s ∧ ∀ e ∈ rest, e ∈ eso) _ ?_ ?_ _ _ ⟨rfl, fun e he => Array.mem_toList_iff.mp he⟩
    · rintro e rest b s' ⟨rfl, he⟩
      obtain ⟨k, hk, _⟩ := hko e (he e List.mem_cons_self)
      have hn := hnr k _ hk
      split
      · rename_i a q
        exact absurd q (hn a)
      · exact wpAny_pure ⟨rfl, fun x hx => he x (List.mem_cons_of_mem _ hx)⟩
    · rintro b s' ⟨rfl, _⟩
      exact loop
  · exact loop
end
/-- the display with one star ahead and one pair behind, spelt out -/
theorem display_star (a k v : Sem Value) : dictDisplay [(none, a), (some k, v)] = (do
    let d ← alloc { cls := .type "dict", data := .dict #[] }
    let m ← holding [.ref d] a
    (((holding [.ref d, m] (mergeMapping d m false)).onRaise fun x => do let _ ← holding [.ref d, m, x] (runValue (.builtin "proto.let_go" {}))).tryCatch fun e => do
        if ← isInstance e (.type "AttributeError") then
          rule "dict.display.not-a-mapping"; raiseError "TypeError" s!"'{← typeNameOf m}' object is not a mapping"
        throw e).onRaise fun x => do let _ ← holding [.ref d, x] (runValue (.builtin "proto.let_go" {}))
    let sub ← holding [.ref d] (subDict [(k, v)])
    (holding [.ref d, .ref sub] (mergeMapping d (.ref sub) false)).onRaise fun x => do let _ ← holding [.ref d, x] (runValue (.builtin "proto.let_go" {}))
    pure (.ref d)) := by
  unfold dictDisplay
  have e17 : ([(k, v)].length == 17) = false := rfl
  have e0 : [(k, v)].isEmpty = false := rfl
  simp only [List.forIn_cons, List.forIn_nil, List.isEmpty_nil, if_true, List.nil_append, bind_assoc, pure_bind, e17, e0, Bool.false_eq_true, if_false]
end PySem
namespace Bo
open PySem PySem.Spec PyProof.Rows L2
theorem not_ref {P : Program} {w : World} (k : Key) (v : Value) (h : (mixKind P w).is k v = true) (a : Addr) : v ≠ .ref a := fun e => by
  subst e
  rcases keyIs_shape (show keyIs k (Value.ref a) = true from h) with ⟨i, t, _, e⟩ | ⟨x, t, _, e⟩
  · cases e
  · cases e
section
variable {X : Cx} {pins : List (Addr × Obj)} {σ : L2.St} {H : Hp} {s : Shared}
theorem d_merge {E : Value → Shared → Prop} {D a : Addr} {kvs more : List (Key × V)} {Q : Unit → Shared → Prop} (I : Inv X pins σ H s) (hD : H D = some (.dK kvs)) (hO : Rd H a (.dK more)) (hne : D ≠ a) (hz : kvs.length + more.length ≤ sizeLine)
    (h : ∀ s', Inv X pins σ (upd H D (.dK (mergeK kvs more))) s' → Q () s') : wpAny (model X.prog X.w) X.A (mergeMapping D (.ref a) false) Q E s := by
  obtain ⟨_, hd, vs, rel, dd⟩ := dk_of I.hok hD
  obtain ⟨_, ho, ws, rel2, dd2⟩ := dk_rd I.hok hO
  refine merge_map (fun k v => not_ref k v) hne ho dd dd2 (by rw [← rel.length, ← rel2.length]; exact hz) fun h' dd' _ hs => h _ ?_
  have he : ∃ q, h'.get? D = some q := let ⟨q, _, _, hq, _⟩ := dd'; ⟨q, hq⟩
  exact d_write I (by rw [hD]; exact True.intro) hs he (dk_new (by have := length_mergeK more kvs; omega) hd (rel2.merge rel) dd')
/-- {**d, k: v}: p the new dict, q the small dict of the pair -/
def tDStar (ta tk' tv : TE) : TE := fun σ H Q => ∀ p, H p = none → ta σ (upd H p (.dK [])) fun x H1 => ∃ (a : Addr) (D : List (Key × V)), x = .ref a ∧ a ≠ p ∧ Rd H1 a (.dK D) ∧ H1 p = some (.dK []) ∧ D.length ≤ 1000 ∧
  ∀ q, H1 q = none → q ≠ p → tk' σ (upd (upd H1 p (.dK (mergeK [] D))) q (.dK [])) fun y H3 => tv σ H3 fun z H4 => ∃ k, y = kV k ∧ H4 p = some (.dK (mergeK [] D)) ∧ H4 q = some (.dK []) ∧
    Q (.ref p) (upd (upd H4 q (.dK [(k, z)])) p (.dK (putK (mergeK [] D) k z)))
theorem pe_dstar {a k v : Expr} {pos : Pos} {ta tk' tv : TE} (ha : PE X a ta) (hk : PE X k tk') (hv : PE X v tv) : PE X (.Dict [none, some k] [a, v] pos) (tDStar ta tk' tv) := by
  refine ⟨fun pins s σ H Q I h => ?_⟩
  have hn := I.hok.fresh (Nat.le_refl s.heap.objs.size)
  have I1 := I.laid (a := s.heap.objs.size) (o := .dK []) (h' := s.heap.push { cls := .type "dict", data := .dict #[] }) (t' := s.toks) (fun _ _ q => Heap.get?_push_of_some _ q) (Nat.le_refl _) (dk_empty s.heap I.big)
  rw [arm_eval_Dict]
  show wpAny _ _ (do standAt pos; dictDisplay [(none, do let x ← eval a X.env; standAt pos; pure x), (some (eval k X.env), do let x ← eval v X.env; standAt pos; pure x)]) _ _ _
  rw [display_star]
  refine wpAny_bind (wpAny_standAt (wpAny_bind (wpAny_alloc ?_)))
  refine wpAny_bind (wpAny_holding (wpAny_bind (thn (ha.run pins _ σ _ _ I1 (h _ hn)) fun u s1 ⟨x, H1, I2, rx, b, D, ex, nb, hR, hp, hl, q⟩ => wpAny_bind (wpAny_standAt (wpAny_pure ?_)))))
  subst ex
  obtain rfl : u = Value.ref b := rx
  have small : ([] : List (Key × V)).length + D.length ≤ sizeLine := by
    rw [sizeLine_eq, List.length_nil]
    omega
  refine wpAny_bind (wpAny_onRaise (wpAny_tryCatch (wpAny_onRaise (wpAny_holding (d_merge I2 hp hR (Ne.symm nb) small fun s2 I3 => ?_)))))
  have hn2 := I3.hok.fresh (Nat.le_refl s2.heap.objs.size)
  have nq : s2.heap.objs.size ≠ s.heap.objs.size := fun e => by
    rw [e, upd_same] at hn2
    cases hn2
  have hn1 : H1 s2.heap.objs.size = none := by rwa [upd_ne nq] at hn2
  have I4 := I3.laid (a := s2.heap.objs.size) (o := .dK []) (h' := s2.heap.push { cls := .type "dict", data := .dict #[] }) (t' := s2.toks) (fun _ _ q => Heap.get?_push_of_some _ q) (Nat.le_refl _) (dk_empty s2.heap I3.big)
  refine wpAny_bind (wpAny_holding (wpAny_subDict (knd := mixKind X.prog X.w) (show 1 ≤ 15 by decide) (evalPairs_cons (thn (hk.run pins _ σ _ _ I4 (q _ hn1 nq)) fun ku s3 ⟨y, H3, I5, ry, q3⟩ => wpAny_bind (thn (hv.run pins s3 σ H3 _ I5 q3) fun vu s4 ⟨z, H4, I6, rz, kk, ek, e1, e2, q4⟩ => wpAny_bind (wpAny_standAt (wpAny_pure (evalPairs_nil ?_))))))))
  subst ek
  obtain ⟨z0, hd0, vs0, r0, dd0⟩ := dk_of I6.hok e2
  cases r0
  refine ⟨[(kk, vu)], ⟨kV_is ry, rfl, True.intro⟩, dd0, fun h' dd' hs => ?_⟩
  have he : ∃ o, h'.get? s2.heap.objs.size = some o := let ⟨o, _, _, ho, _⟩ := dd'; ⟨o, ho⟩
  have I7 := d_write (t' := s4.toks + [(ku, vu)].length) I6 (by rw [e2]; exact True.intro) hs he (dk_new (kvs := [(kk, z)]) (by show 1 ≤ sizeLine; decide) hd0 (.cons ⟨rfl, rz⟩ .nil) dd')
  have e3 : upd H4 s2.heap.objs.size (.dK [(kk, z)]) s.heap.objs.size = some (.dK (mergeK [] D)) := by rw [upd_ne (Ne.symm nq)]; exact e1
  have hz : (mergeK [] D).length + [(kk, z)].length ≤ sizeLine := by
    have q1 := length_mergeK D []
    rw [sizeLine_eq]
    simp only [List.length_nil, List.length_cons] at q1 ⊢
    omega
  exact wpAny_bind (wpAny_onRaise (wpAny_holding (d_merge I7 e3 (.inl upd_same) (Ne.symm nq) hz fun s5 I8 => wpAny_pure ⟨.ref s.heap.objs.size, _, I8, rfl, q4⟩)))
end
end Bo

/-! S2 -/
set_option Elab.async false
set_option linter.all false
set_option maxRecDepth 100000
set_option maxHeartbeats 1000000
/-! a, *b = a tuple of one item. -/
namespace Bo
open PySem PySem.Spec PyProof.Rows L2
/-- the same walk, begun one turn later -/
theorem later {prog : Program} {w : World} {A : Around} {I : Addr} {fp wr : List Addr} {G : Array GenState → Array GenState → Prop} {n : Nat} {P : Nat → Value → Prop} {St : Nat → Shared → Prop}
    (W : WalksS prog w A I fp wr G (n + 1) P St) : WalksS prog w A I fp wr G n (fun i v => P (i + 1) v) (fun i s => St (i + 1) s) :=
  ⟨W.sub, W.grefl, W.gtrans, fun i => W.frame (i + 1), fun i s Q E hi => W.item (i + 1) s Q E (by omega), W.done, fun i => W.self (i + 1)⟩
def gHead (K : Fg) (g1 g2 : TG) : TG := fun v σ H Q => ∃ a x, v = .ref a ∧ SqT K H a [x] ∧ ∀ l, H l = none → g1 x σ (upd H l (.lst [])) fun σ1 H1 => g2 (.ref l) σ1 H1 Q
theorem pg_head {X : Cx} {e1 e2 : Expr} {p pos : Pos} {k : Nat} {g1 g2 : TG} (hc : X.calm = true) (h1 : PG X e1 g1) (h2 : PG X e2 g2) (hs : assignEach [e1, .Starred e2 p] X.env = [(false, assign e1 X.env), (true, assign e2 X.env)] := by rfl) :
    PG X (.Tuple [e1, .Starred e2 p] k pos) (gHead X.K g1 g2) := by
  refine ⟨fun pins s σ H v u Q I r hw => ?_⟩
  obtain ⟨a, x, e, hq, hw⟩ := hw
  subst e
  obtain rfl : u = Value.ref a := r
  obtain ⟨its, rv, ht, hz⟩ := I.tuple hq
  obtain ⟨x', rfl, rx⟩ : ∃ x', its = [x'] ∧ RelV x x' := Vals.one rv
  have hh := I.ok.hd hc
  have ht : s.heap.IsTuple a [x'].toArray := ht
  have hlt : a ≠ s.heap.objs.size := by
    obtain ⟨o, ho, _⟩ := ht
    exact Nat.ne_of_lt (Heap.lt_size ho)
  rw [arm_assign_Tuple]
  refine wpAny_bind (wpAny_standAt ?_)
  unfold unpack
  rw [hs]
  show wpAny _ _ (holding [Value.ref a] (unpackItems (Value.ref a) 2 (some 1)) >>= _) _ _ _
  refine wpAny_bind (wpAny_holding ?_)
  unfold unpackItems notIterableAtAll
  refine wpAny_bind (wpAny_bind (wpAny_specialOf ht.typeIs PySem.F.slot_tuple_iter.lookup ?_))
  refine wpAny_pure ?_
  simp only [Bool.false_eq_true, if_false]
  refine wpAny_bind (wpAny_holding (wpAny_pyIter_tuple ht ?_))
  have hT0 : (s.heap.push { cls := .type "tuple_iterator", data := .fields #[.ref a, rawInt 0] }).IsTupleIter s.heap.objs.size a 0 := ⟨_, Heap.get?_push_size _ rfl, rfl, rfl⟩
  refine wpAny_bind (wpAny_holding (wpAny_draw_tuple hlt 1 0 _ _ hT0 (ht.push _) (by simp) fun h1' hit hs1 => ?_))
  have ht1 : h1'.IsTuple a [x'].toArray := (ht.push _).extBut hs1.extBut hlt
  rw [if_neg (by simp)]
  have W := later (n := 0) (Walks.tuple (prog := X.prog) (w := X.w) (A := X.A.in1) hh s.heap.objs.size a hlt [x'].toArray).toS
  refine wpAny_bind (wpAny_holding (wpAny_collect_iter (T := "tuple_iterator") (.inr (.inr (.inr rfl))) W (fun i s' st => ?_) ⟨hit, ht1⟩ (fun b hb => ?_) (by simp) (fun s' acc mv hacc => ?_) (by decide)))
  · obtain ⟨⟨o, ho, hc, _⟩, _⟩ := st
    exact ⟨o, ho, hc⟩
  · obtain ⟨o, ho, _⟩ := hit
    obtain ⟨o2, ho2, _⟩ := ht1
    simp only [List.mem_cons, List.not_mem_nil, or_false] at hb
    rcases hb with rfl | rfl
    · exact Heap.lt_size ho
    · exact Heap.lt_size ho2
  · have e0 : acc.toList = [] := by
      have := hacc.1
      cases acc with
      | mk l => simpa using this
    rw [e0]
    rw [if_neg (by decide)]
    have kp : ∀ b o, s.heap.get? b = some o → s'.heap.get? b = some o := fun b o q => by
      have nb : b ≠ s.heap.objs.size := Nat.ne_of_lt (Heap.lt_size q)
      exact mv.heap b o (by simpa using nb) ((hs1.2 b nb).trans (Heap.get?_push_of_some _ q))
    obtain ⟨hh2, g2', d2, t2, o2⟩ := s'
    have eg : g2' = s.gens := mv.gens
    have ed : d2 = s.drawn := mv.drawn
    have eo : o2 = s.os := mv.os
    subst eg ed eo
    have I1 : Inv X pins σ H { s with heap := hh2, toks := t2 } := I.kept kp
    refine wpAny_bind (wpAny_newList ?_)
    have hn := I1.hok.fresh (Nat.le_refl hh2.objs.size)
    have I2 := I1.laid (a := hh2.objs.size) (o := .lst []) (h' := hh2.push { cls := .type "list", data := .seq ([] : List Value).toArray }) (t' := t2) (fun _ _ q => Heap.get?_push_of_some _ q) (Nat.le_refl _) ⟨Nat.zero_le _, [], 0, .nil, Heap.get?_push_size _ rfl⟩
    refine wpAny_pure ?_
    show wpAny _ _ (assignInOrder [assign e1 X.env, assign e2 X.env] [x', Value.ref hh2.objs.size]) _ _ _
    refine assignInOrder_cons (thn (h1.run pins _ σ _ x x' _ I2 rx (hw _ hn)) fun _ s3 ⟨σ3, H3, I3, q3⟩ => ?_)
    refine assignInOrder_cons (thn (h2.run pins _ σ3 H3 (.ref hh2.objs.size) _ _ I3 rfl q3) fun _ s4 ⟨σ4, H4, I4, q4⟩ => ?_)
    exact assignInOrder_nil ⟨σ4, H4, I4, q4⟩
end Bo

/-! S3 -/
set_option Elab.async false
set_option linter.all false
set_option maxRecDepth 100000
set_option maxHeartbeats 1000000
/-! tuple(d), d a dict. -/
namespace PySem.W
open PySem PySem.Spec PyProof.Rows
section
variable {prog : Program} {w : World} {A : Around} {E : Value → Shared → Prop} {s : Shared} {T : String} {r d : Addr} {n : Nat} {P : Nat → Value → Prop} {OK : Heap → Prop}
theorem code_tuple_src {Q : Value → Shared → Prop} (K : KdlSrc prog w "dict" r d n P OK) (hh : A.handled = none) (hok : OK s.heap) (hn : n ≤ sizeLine)
    (h : ∀ (h' : Heap) (tk : Nat) (acc : Array Value), (∀ b o, s.heap.get? b = some o → h'.get? b = some o) → ItemsOf P acc n → Q (.ref h'.objs.size) { s with heap := h'.push { cls := .type "tuple", data := .seq acc }, toks := tk }) :
    codeAny (model prog w) A (.call (.builtin "tuple.__new__") ⟨[.type "tuple", .ref r], []⟩) (wants Q E) s := by
  refine codeAny_of_tree ?_
  show wpAny _ A.in1 (do checkBuiltinCall "tuple.__new__" ⟨[.type "tuple", .ref r], []⟩; again (.builtin "tuple.__new__" ⟨[.type "tuple", .ref r], []⟩)) _ _ s
  refine wpAny_bind (wpAny_of_eq (PySem.F.newCall_tuple_1 _) (wpAny_pure ⟨plainId_quiet PySem.F.plain_tuple_new _, codeAny_builtin PySem.F.entry_tuple_new ?_⟩))
  rw [Around.under_plainId PySem.F.plain_tuple_new _]
  have hsub := sub_tuple_self
  have hinit := init_tuple_lookup
  have hmh := madeHere_tuple
  have hTI : s.TypeIs (.ref r) "dict" := K.type s hok
  have hh1 : A.in1.handled = none := hh
  wp_walk using wpAny_typeOf hTI, kdu_collect (A := A.in1) K hh1 hok hn
  intro h' tk acc hk hacc
  show wpAny _ _ (Builtin.Tuple.tupleExact acc.toList.toArray >>= fun v => ret v) _ _ _
  unfold Builtin.Tuple.tupleExact
  refine wpAny_bind (wpAny_newObj_type ?_ (by show acc.toList.toArray.size ≤ sizeLine; rw [Array.toArray_toList, hacc.1]; exact hn))
  refine wpAny_pure ?_
  rw [Array.toArray_toList]
  exact h h' tk acc hk hacc
theorem call_tuple_src {Q : Value → Shared → Prop} (K : KdlSrc prog w "dict" r d n P OK) (hh : A.handled = none) (hok : OK s.heap) (hn : n ≤ sizeLine)
    (hQ : ∀ (h' : Heap) (tk : Nat) (acc : Array Value), (∀ b o, s.heap.get? b = some o → h'.get? b = some o) → ItemsOf P acc n → Q (.ref h'.objs.size) { s with heap := h'.push { cls := .type "tuple", data := .seq acc }, toks := tk }) :
    wpAny (model prog w) A (call (.type "tuple") [.ref r]) Q E s := by
  refine callType_codes (Q₁ := fun obj s1 => s1.TypeIs obj "tuple" ∧ Q obj s1) PySem.F.called_tuple (PySem.F.typeCall_tuple_1 _) PySem.F.entry_object_init
    (code_tuple_src (A := A.in1) K hh hok hn fun h' tk acc hk hacc => ⟨⟨_, Heap.get?_push_size _ rfl, rfl⟩, hQ h' tk acc hk hacc⟩) fun obj s1 h1 => ?_
  exact ⟨h1.1, PySem.F.args_object_init_2 obj _, object_init_meets PySem.F.called_tuple.init.lookup PySem.F.called_tuple.made (by decide) prog w A.in1 _ s1 ⟨h1.1, rfl, h1.2⟩⟩
end
end PySem.W
namespace Bo
open PySem PySem.Spec PyProof.Rows L2
theorem call_tupleD {X : Cx} (hcalm : X.calm = true) : CallR X (.type "tuple") (fun xs H Q => ∃ (a : Addr) (kvs : List (Key × V)), xs = [.ref a] ∧ Rd H a (.dK kvs) ∧ ∀ p, H p = none → Q (.ref p) (upd H p (.tup (kvs.map fun kv => kV kv.1)))) := by
  intro pins s σ H xs us Q I r q
  obtain ⟨a, kvs, ex, hd, q⟩ := q
  subst ex
  obtain ⟨u, eu, rx⟩ := vals1 r
  subst eu
  cases rx
  obtain ⟨z, lo, vs, rel, dd⟩ := dk_rd I.hok hd
  obtain ⟨ep, hat⟩ := dd.dictAt
  have ek : (kvs.map fun kv => kV kv.1) = vs.map fun p => kV p.1 := by
    have e := congrArg (List.map kV) rel.keys
    rw [List.map_map, List.map_map] at e
    exact e
  refine PySem.W.call_tuple_src (PySem.W.kdl_dict (knd := mixKind X.prog X.w) (kvs := vs) (ep := ep) lo) (I.ok.hd hcalm) hat (by rw [← rel.length]; exact z) fun h' tk acc hk hacc => ?_
  have hv : Vals (vs.map fun p => kV p.1) acc.toList := keys_at (by rw [Array.length_toList]; exact hacc.1) fun j v e => hacc.2 j v (by rw [← Array.getElem?_toList]; exact e)
  have I1 : Inv X pins σ H { s with heap := h', toks := tk } := I.kept hk
  have I2 : Inv X pins σ (upd H h'.objs.size (.tup (kvs.map fun kv => kV kv.1))) { s with heap := h'.push { cls := .type "tuple", data := .seq acc }, toks := tk } :=
    I1.laid (t' := tk) (fun b o e => Heap.get?_push_of_some _ e) (Nat.le_refl _) (show ObjOk X.prog X.w _ _ _ (.tup (kvs.map fun kv => kV kv.1)) from ⟨by rw [List.length_map]; exact z, acc.toList, by rw [ek]; exact hv, by
      rw [Array.toArray_toList]
      exact ⟨_, Heap.get?_push_size _ rfl, rfl, _, rfl⟩⟩)
  exact ⟨.ref h'.objs.size, _, I2, rfl, q _ (I1.hok.fresh (Nat.le_refl _))⟩
/-- sorted(t), t a tuple of texts -/
theorem call_sortedT {X : Cx} : CallR X (.builtin "sorted") (fun xs H Q => ∃ (a : Addr) (ks : List Str), xs = [.ref a] ∧ SqT X.K H a (ks.map V.str) ∧ ks.length < 64 ∧
    ∀ ys p, ys.Perm ks → sortedS ys = true → H p = none → Q (.ref p) (upd H p (.lst (ys.map V.str)))) := by
  intro pins s σ H xs us Q I r q
  obtain ⟨a, ks, ex, ht, h64, q⟩ := q
  subst ex
  obtain ⟨u, eu, rx⟩ := vals1 r
  subst eu
  cases rx
  obtain ⟨its, rv, hT, hz⟩ := I.tuple ht
  obtain ⟨o, ho, hc, n, hd⟩ := hT
  have hal : its.length = ks.length := by rw [← rv.length, List.length_map]
  have hS : StrsAre its ks := rv.strs
  refine Calls.call_function_entry PyProof.Rows.kind_sorted PyProof.Rows.plain_sorted PyProof.Rows.entry_sorted (PyProof.Rows.args_sorted1 _) ?_
  unfold Builtin.«sorted»
  refine wpAny_bind (m := checkCount "sorted" 1 1 _) (wpAny_pure ?_)
  refine wpAny_bind (wpAny_collect_seq a (.inr rfl) ho hc hd (fun h' hk => ?_) (by rw [List.size_toArray, hal, sizeLine_eq]; omega))
  have I1 : Inv X pins σ H { s with heap := h' } := I.kept (t' := s.toks) hk
  have e0 : its.toArray.toList = its := by simp
  rw [e0]
  refine wpAny_bind (wpAny_newList ?_ (by rw [hal, sizeLine_eq]; omega))
  have hoL : (h'.push (seqObj "list" its.toArray 0)).get? h'.objs.size = some (seqObj "list" its.toArray 0) := Heap.get?_push_size _ rfl
  show wpAny _ _ _ _ _ { s with heap := h'.push (seqObj "list" its.toArray 0) }
  refine wpAny_bind (wpAny_holding (wpAny_call_entry PyProof.Rows.slot_list_sort ⟨_, hoL, rfl⟩ PyProof.Rows.entry_list_sort
    (list_sort_treeK strKind_oneLt (s := { s with heap := h'.push (seqObj "list" its.toArray 0) }) hoL hS.keysOf (fun v₁ v₂ rest e => keyKind_strs (by rw [← e]; exact hS)) (by rw [hal]; exact h64) fun st' hp hs => ⟨_, rfl, ?_⟩)
    (PyProof.Rows.args_list_sort _)))
  obtain ⟨ys, g1, g2, g3⟩ := sorted_out_str hS hp hs
  obtain ⟨e', he'⟩ := PyProof.Rows.sortedHeap_at (vs := its) (out := (arrOf st').map (·.2)) hoL
  have hlen : (ys.map V.str).length ≤ sizeLine := by
    rw [List.length_map, g2.length_eq]
    exact Nat.le_trans (Nat.le_of_lt h64) (by decide)
  refine wpAny_pure ⟨_, rfl, .ref h'.objs.size, upd H h'.objs.size (.lst (ys.map V.str)), I1.laid (t' := s.toks) (fun b u e => ?_) (Nat.le_refl _)
    (show ObjOk X.prog X.w _ _ _ (.lst (ys.map V.str)) from ⟨hlen, ((arrOf st').map (·.2)).toList, e', vals_of_strs g1, by rw [Array.toArray_toList]; exact he'⟩), rfl, q ys _ g2 g3 (I1.hok.fresh (Nat.le_refl _))⟩
  have hb : b < h'.objs.size := Heap.lt_size e
  rw [PyProof.Rows.sortedHeap_old (Nat.ne_of_lt hb) (by rw [size_push']; exact Nat.lt_succ_of_lt hb)]
  exact Heap.get?_push_of_some _ e
end Bo

/-! E3 -/
set_option Elab.async false
set_option linter.all false
set_option maxRecDepth 100000
set_option maxHeartbeats 1000000
namespace Bo
open PySem PySem.Spec PyProof.Rows L2
section
variable {P : Program} {w : World} {K : Fg} {mg : Str → Option Value} {base : Heap}
theorem hu1 {k : Nat} {A : Around} (hr : Room k A) : A.units + 1 < cLine := hu_of hr
theorem ok_need_item (T : TX w K mg) : Ok P w K mg base 1 d_need_item ["kind", "name", "names"] (spNeedItem K) := by
  refine mkOk T ix_need_item rfl rfl rfl sc_need_item (fun _ _ _ _ _ _ us hl => match us, hl with | [_, _, _], _ => rfl) (fun vs H Q E h => ?_) (fun cdv A outer s H vs Q E hr h => ?_)
  · obtain ⟨k, x, a, rfl, _⟩ := h
    rfl
  · obtain ⟨k, x, a, rfl, hx, q⟩ := h
    have hu := hu_of hr
    rcases hx with ⟨D, hD, hm⟩ | ⟨l, hl, hm⟩
    · refine ⟨_, pss_one (ps_if (PW.pt (pw_or (pt_not (pt_val (pe_callB call_isi (by rfl) T.f_isinstance boot_isinstance (pa_cons (pv 1) (pa_cons (pe_bltn (v := .ty "str") rfl T.f_str PyProof.Rows.boot_str rfl) pa_nil)))))
        (pw_or1 (pt_cmp (pc_dnotin hu (pv 1) (pv 2)))))) (pss_one ps_never) pss_nil), ?_⟩
      obtain ⟨v, hv⟩ := Option.isSome_iff_exists.mp (dget_isSome.mpr hm)
      refine ⟨_, rfl, _, _, _, _, true, rfl, .ty _, .base (.str _), kit_ty (by decide +kernel), _, rfl, ?_⟩
      exact ⟨_, rfl, _, rfl, a, some v, rfl, hv ▸ hD.get x, _, rfl, q⟩
    · refine ⟨_, pss_one (ps_if (PW.pt (pw_or (pt_not (pt_val (pe_callB call_isi (by rfl) T.f_isinstance boot_isinstance (pa_cons (pv 1) (pa_cons (pe_bltn (v := .ty "str") rfl T.f_str PyProof.Rows.boot_str rfl) pa_nil)))))
        (pw_or1 (pt_cmpR op_notIn_seq (pv 1) (pv 2) rfl)))) (pss_one ps_never) pss_nil), ?_⟩
      refine ⟨_, rfl, _, _, _, _, true, rfl, .ty _, .base (.str _), kit_ty (by decide +kernel), _, rfl, ?_⟩
      refine ⟨_, rfl, _, rfl, a, txs l, rfl, .inr hl, rfl, txs_flat l, _, rfl, ?_⟩
      rw [inV_txs, decide_eq_true hm]
      exact q
/-- names that differ, from a place on -/
def spNeedDiff (K : Fg) : Sp := fun vs H Q _ => ∃ (k : Str) (a : Addr) (l : List Str) (n : Nat), vs = [.str k, .ref a, .int n] ∧ SqL K H a (txs l) ∧ l.Nodup ∧ l.length ≤ 1000 ∧ n ≤ 1000 ∧ ∀ H', Same H H' → Q .non H'
theorem ok_need_different (T : TX w K mg) : Ok P w K mg base 1 d_need_different ["kind", "names", "start"] (spNeedDiff K) := by
  refine mkOk T ix_need_different rfl rfl rfl sc_need_different (fun _ _ _ _ _ _ us hl => match us, hl with | [_, _, _], _ => rfl) (fun vs H Q E h => ?_) (fun cdv A outer s H vs Q E hr h => ?_)
  · obtain ⟨k, a, l, n, rfl, _⟩ := h
    rfl
  · obtain ⟨k, a, l, n, rfl, hl, nd, hz, hn, q⟩ := h
    refine ⟨_, pss_one (ps_for PassesOwn.never rfl (pi_range2 (by rfl) T.f_range (pa_cons (pv 2) (pa_cons (pe_callB call_len_seq (by rfl) T.f_len PySem.boot_len (pa_cons (pv 1) pa_nil)) pa_nil)))
      (pg_name (i := 3) sc_need_different.nd rfl (.inl rfl))
      (pss_one (ps_if (pt_cmpR op_in_seq (pe_ix ix_list (pv 1) (pv 3) (fun _ _ => rfl)) (pe_slice sl_list (pv 1) po_none (po_some (pv 3))) rfl) (pss_one ps_never) pss_nil))), ?_⟩
    refine ⟨_, rfl, _, rfl, a, _, rfl, .inl hl, n, (txs l).length, rfl, ⟨by omega, by omega, by rw [txs_len]; omega, by rw [txs_len]; omega⟩, ?_⟩
    refine for_it walk_range (fun i σ H1 => ∃ z, σ = [some (.str k), some (.ref a), some (.int n), z] ∧ Same H H1) ⟨none, rfl, Same.refl H⟩ (fun _ _ _ _ _ => True.intro) ?_ ?_
    · rintro i x σ H1 H2 hi ⟨z, rfl, s1⟩ ⟨rfl, rfl⟩
      rw [txs_len] at hi
      have hlt : n + i < l.length := by omega
      obtain ⟨y, hy⟩ : ∃ y, l[n + i]? = some y := ⟨l[n + i], List.getElem?_eq_getElem hlt⟩
      refine ⟨_, rfl, _, rfl, a, txs l, ((n + i : Nat) : Int), _, rfl, by push_cast; rfl, s1.seq hl, atI_nat (txs_get hy), ?_⟩
      refine ⟨_, rfl, _, rfl, ((n + i : Nat) : Int), by push_cast; rfl, a, txs l, rfl, s1.seq hl, fun p np => ?_⟩
      have ec : cutV (txs l) none (some ((n + i : Nat) : Int)) = txs (l.take (n + i)) := by
        unfold cutV
        rw [HT.sIx_none, HT.sIx_nat, txs_len, List.drop_zero]
        unfold txs
        rw [List.map_take, Nat.min_eq_left (by omega)]
        rfl
      rw [ec]
      refine ⟨p, txs (l.take (n + i)), rfl, .inl (SqL.of upd_same), rfl, txs_flat _, _, rfl, ?_⟩
      have hno : ¬ y ∈ l.take (n + i) := fun hm => by
        obtain ⟨j, hj, e⟩ := List.mem_iff_getElem.mp hm
        rw [List.length_take] at hj
        have e2 : l[j]? = some y := by
          rw [List.getElem_take] at e
          rw [← e]
          exact List.getElem?_eq_getElem _
        have := nd_ix nd e2 hy
        omega
      rw [inV_txs, decide_eq_false hno]
      exact ⟨_, rfl, Same.new s1 np⟩
    · rintro σ H1 ⟨z, rfl, s1⟩
      exact q H1 s1
def spNeedNew (K : Fg) : Sp := fun vs H Q _ => ∃ (k : Str) (a b : Addr) (ns ks : List Str), vs = [.str k, .ref a, .ref b] ∧ SqT K H a (txs ns) ∧ SqT K H b (txs ks) ∧ (ks ++ ns).Nodup ∧ (ks ++ ns).length ≤ 24 ∧ (∀ x ∈ ns, NameOk x) ∧ ∀ H', Same H H' → Q .non H'
theorem ok_need_new_names (T : TX w K mg) : Ok P w K mg base 2 d_need_new_names ["kind", "names", "known"] (spNeedNew K) := by
  refine mkOk T ix_need_new_names rfl rfl rfl sc_need_new_names (fun _ _ _ _ _ _ us hl => match us, hl with | [_, _, _], _ => rfl) (fun vs H Q E h => ?_) (fun cdv A outer s H vs Q E hr h => ?_)
  · obtain ⟨k, a, b, ns, ks, rfl, _⟩ := h
    rfl
  · obtain ⟨k, a, b, ns, ks, rfl, ha, hb, nd, hz, hok, q⟩ := h
    obtain ⟨f1, G1, b1, k1⟩ := ok_is_name (P := P) (base := base) T
    obtain ⟨f2, G2, b2, k2⟩ := ok_need_different (P := P) (base := base) T
    obtain ⟨t3, mG⟩ := T.int_MOST_ITEMS
    have hl : ks.length + ns.length ≤ 24 := by rw [← List.length_append]; exact hz
    refine ⟨_, pss_cons (ps_for PassesOwn.never rfl (pi_tup (pv 1)) (pg_name (i := 3) sc_need_new_names.nd rfl (.inl rfl))
        (pss_one (ps_if (pt_not (pt_val (pe_call G1 hr (by rfl) T.g_is_name k1 b1 .nil pass0 (pa_cons (pv 3) pa_nil)))) (pss_one ps_never) pss_nil)))
      (pss_cons (ps_expr (pe_call G2 hr (by rfl) T.g_need_different k2 b2 .nil pass0 (pa_cons (pv 0) (pa_cons (pe_lst (StX.pa_star (pv 2) (StX.pa_star (pv 1) pa_nil))) (pa_cons (pe_callB call_len_seq (by rfl) T.f_len PySem.boot_len (pa_cons (pv 2) pa_nil)) pa_nil)))))
      (pss_one (ps_if (pt_cmpR op_gt (pe_op op_add (pe_callB call_len_seq (by rfl) T.f_len PySem.boot_len (pa_cons (pv 2) pa_nil)) (pe_callB call_len_seq (by rfl) T.f_len PySem.boot_len (pa_cons (pv 1) pa_nil))) (pe_gint rfl mG) (nomark _)) (pss_one ps_never) pss_nil))), ?_⟩
    refine ⟨_, rfl, a, rfl, ⟨_, ha⟩, ?_⟩
    refine for_it walk_tup (fun i σ H1 => ∃ z, σ = [some (.str k), some (.ref a), some (.ref b), z] ∧ Same H H1) ⟨none, rfl, Same.refl H⟩ (fun i σ H1 _ ⟨_, _, s1⟩ => Same.tup s1 ha) ?_ ?_
    · rintro i x σ H1 H2 hi ⟨z, rfl, s1⟩ ⟨rfl, hx⟩
      obtain ⟨y, hy, rfl⟩ := txs_at hx
      refine ⟨_, rfl, y, rfl, hok y (List.mem_of_getElem? hy), fun H3 s3 => ⟨_, rfl, ?_⟩⟩
      exact ⟨_, rfl, s1.trans s3⟩
    · rintro σ H1 ⟨z, rfl, s1⟩
      refine ⟨_, rfl, _, rfl, b, txs ks, rfl, .inl (Same.tup s1 hb), _, rfl, a, txs ns, rfl, .inl (Same.tup s1 ha), ?_⟩
      have e : txs ks ++ (txs ns ++ []) = txs (ks ++ ns) := by
        rw [List.append_nil]
        unfold txs
        rw [List.map_append]
      refine ⟨by rw [e]; exact small (by rw [txs_len]; omega), fun p np => ?_⟩
      have s2 := Same.new s1 (o := .lst (txs ks ++ (txs ns ++ []))) np
      refine ⟨_, rfl, b, txs ks, rfl, .inr (Same.tup s2 hb), k, p, ks ++ ns, ks.length, by rw [txs_len]; rfl, SqL.of (by rw [upd_same, e]), nd, by omega, by omega, fun H2 s3 => ?_⟩
      have s4 := s2.trans s3
      refine ⟨_, rfl, b, txs ks, rfl, .inr (Same.tup s4 hb), _, rfl, a, txs ns, rfl, .inr (Same.tup s4 ha), _, _, rfl, rfl, _, _, rfl, rfl, _, rfl, ifF (by rw [txs_len, txs_len]; omega) ?_⟩
      exact q H2 s4
end
end Bo

/-! E4 -/
set_option Elab.async false
set_option linter.all false
set_option maxRecDepth 100000
set_option maxHeartbeats 1000000
namespace Bo
open PySem PySem.Spec PyProof.Rows L2
/-! ### a system's content -/
/-- what a content says: its unknowns, its equations, its entries -/
structure Grf where
  us : List Str
  es : List Str
  adj : Str → Str → Bool
abbrev Row : Type := Str × Addr × List Str
/-- ones -/
def ones (l : List Str) : List (Str × V) := l.map fun u => (u, V.int 1)
theorem ones_keys (l : List Str) : (ones l).map (·.1) = l := by
  unfold ones
  rw [List.map_map]
  exact List.map_id'' (fun _ => rfl) l
theorem ones_perm {l : List Str} {D : List (Str × V)} (h : D.Perm (ones l)) : ∃ l', D = ones l' ∧ l'.Perm l := by
  refine ⟨D.map (·.1), ?_, by have := h.map (·.1); rwa [ones_keys] at this⟩
  unfold ones
  rw [List.map_map]
  refine (List.map_id D).symm.trans ?_
  apply List.map_congr_left
  intro p hp
  obtain ⟨u, _, e⟩ := List.mem_map.mp (h.mem_iff.mp hp)
  show p = (p.1, V.int 1)
  rw [← e]
def refs (L : List Row) : List (Str × V) := L.map fun p => (p.1, V.ref p.2.1)
theorem refs_keys (L : List Row) : (refs L).map (·.1) = L.map (·.1) := by
  unfold refs
  rw [List.map_map]
  rfl
structure RowsAt (H : Hp) (d : Addr) (L : List Row) : Prop where
  at_ : DictAt H d (refs L)
  row : ∀ p ∈ L, DictAt H p.2.1 (ones p.2.2)
theorem RowsAt.same {H H' : Hp} {d : Addr} {L : List Row} (h : RowsAt H d L) (s : Same H H') : RowsAt H' d L := ⟨s _ _ h.at_, fun p hp => s _ _ (h.row p hp)⟩
/-- the plain facts of a content -/
structure Cn (U : List Str) (L : List Row) (C : List (Str × V)) (G : Grf) : Prop where
  und : U.Nodup
  us : ∀ u, u ∈ U ↔ u ∈ G.us
  lnd : (L.map (·.1)).Nodup
  es : ∀ e, e ∈ L.map (·.1) ↔ e ∈ G.es
  cnd : (C.map (·.1)).Nodup
  cs : ∀ e, e ∈ C.map (·.1) ↔ e ∈ G.es
  rnd : ∀ p ∈ L, p.2.2.Nodup
  row : ∀ p ∈ L, ∀ u, u ∈ p.2.2 ↔ (u ∈ G.us ∧ G.adj p.1 u = true)
  ul : G.us.length ≤ 24
  el : G.es.length ≤ 24
structure ContAt (H : Hp) (c : Addr) (G : Grf) : Prop where
  ex : ∃ (cols rows consts : Addr) (U : List Str) (L : List Row) (C : List (Str × V)), H c = some (.tup [.ref cols, .ref rows, .ref consts]) ∧ H cols = some (.tup (txs U)) ∧ RowsAt H rows L ∧ DictAt H consts C ∧ Cn U L C G
theorem ContAt.same {H H' : Hp} {c : Addr} {G : Grf} (h : ContAt H c G) (s : Same H H') : ContAt H' c G := by
  obtain ⟨cols, rows, consts, U, L, C, h1, h2, h3, h4, h5⟩ := h.ex
  exact ⟨cols, rows, consts, U, L, C, s _ _ h1, s _ _ h2, h3.same s, s _ _ h4, h5⟩
section
variable {U : List Str} {L : List Row} {C : List (Str × V)} {G : Grf}
theorem Cn.ulen (c : Cn U L C G) : U.length ≤ 24 := Nat.le_trans (len_le_of_sub c.und fun u hu => (c.us u).mp hu) c.ul
theorem Cn.llen (c : Cn U L C G) : L.length ≤ 24 := by
  have := len_le_of_sub c.lnd fun u hu => (c.es u).mp hu
  rw [List.length_map] at this
  exact Nat.le_trans this c.el
theorem Cn.clen (c : Cn U L C G) : C.length ≤ 24 := by
  have := len_le_of_sub c.cnd fun u hu => (c.cs u).mp hu
  rw [List.length_map] at this
  exact Nat.le_trans this c.el
theorem Cn.rlen (c : Cn U L C G) {p : Row} (hp : p ∈ L) : p.2.2.length ≤ 24 := Nat.le_trans (len_le_of_sub (c.rnd p hp) fun u hu => (((c.row p hp) u).mp hu).1) c.ul
end
/-! ### {**d, k: v} with text keys -/
theorem merge_tk : ∀ (more acc : List (Str × V)), mergeK (tk acc) (tk more) = tk (more.foldl (fun acc p => dput acc p.1 p.2) acc)
  | [], acc => rfl
  | p :: more, acc => by
    show mergeK (putK (tk acc) (Sum.inr p.1) p.2) (tk more) = _
    rw [tk_put]
    exact merge_tk more (dput acc p.1 p.2)
theorem merge_nil {d : List (Str × V)} (nd : (d.map (·.1)).Nodup) : mergeK [] (tk d) = tk d := by
  have := merge_tk d []
  rw [show d.foldl (fun acc p => dput acc p.1 p.2) [] = mk d from rfl, mk_nd nd] at this
  exact this
theorem dstar_fin {H H1 H4 : Hp} {p q : Addr} {D : List (Str × V)} {k : Str} {z : V} (nd : (D.map (·.1)).Nodup) (np : H p = none) (s1 : Same (upd H p (.dK [])) H1) (nq : H1 q = none) (qp : q ≠ p)
    (s4 : Same (upd (upd H1 p (.dK (mergeK [] (tk D)))) q (.dK [])) H4) :
    H4 p = some (.dK (mergeK [] (tk D))) ∧ H4 q = some (.dK []) ∧ Same H (upd (upd H4 q (.dK [(Sum.inr k, z)])) p (.dK (putK (mergeK [] (tk D)) (Sum.inr k) z))) ∧
      DictAt (upd (upd H4 q (.dK [(Sum.inr k, z)])) p (.dK (putK (mergeK [] (tk D)) (Sum.inr k) z))) p (dput D k z) := by
  refine ⟨s4 _ _ (by rw [upd_ne (Ne.symm qp), upd_same]), s4 _ _ upd_same, fun b o e => ?_, ?_⟩
  · have e1 : H1 b = some o := s1 _ _ (by rw [upd_ne (ne_of_none e np)]; exact e)
    have bp : b ≠ p := ne_of_none e np
    have bq : b ≠ q := ne_of_none e1 nq
    rw [upd_ne bp, upd_ne bq]
    exact s4 _ _ (by rw [upd_ne bq, upd_ne bp]; exact e1)
  · unfold DictAt
    rw [upd_same, merge_nil nd, tk_put]
/-- a row replaced -/
def setRow (L : List Row) (e : Str) (a : Addr) (r : List Str) : List Row := L.map fun p => if p.1 = e then (p.1, a, r) else p
theorem setRow_keys (L : List Row) (e : Str) (a : Addr) (r : List Str) : (setRow L e a r).map (·.1) = L.map (·.1) := by
  unfold setRow
  rw [List.map_map]
  apply List.map_congr_left
  intro p _
  simp only [Function.comp]
  split <;> rfl
theorem setRow_refs {L : List Row} {e : Str} (a : Addr) (r : List Str) (h : e ∈ L.map (·.1)) : dput (refs L) e (.ref a) = refs (setRow L e a r) := by
  unfold dput
  rw [if_pos (any_key.mpr (by rw [refs_keys]; exact h))]
  unfold refs setRow
  rw [List.map_map, List.map_map]
  apply List.map_congr_left
  intro p _
  simp only [Function.comp]
  split <;> rfl
theorem mem_setRow {L : List Row} {e : Str} {a : Addr} {r : List Str} {p : Row} (h : p ∈ setRow L e a r) : (p = (e, a, r)) ∨ (p ∈ L ∧ p.1 ≠ e) := by
  obtain ⟨q, hq, eq⟩ := List.mem_map.mp h
  by_cases c : q.1 = e
  · rw [if_pos c] at eq
    exact .inl (by rw [← eq, c])
  · rw [if_neg c] at eq
    exact .inr ⟨eq ▸ hq, eq ▸ c⟩
/-- an equation's row as it is to be -/
def Grf.setRow (G : Grf) (e : Str) (r : List Str) : Grf := { G with adj := fun e' u => if e' = e then decide (u ∈ r) else G.adj e' u }
section
variable {P : Program} {w : World} {K : Fg} {mg : Str → Option Value} {base : Heap}
def spWithRow : Sp := fun vs H Q _ => ∃ (c : Addr) (G : Grf) (e : Str) (r : Addr) (l : List Str), vs = [.ref c, .str e, .ref r] ∧ ContAt H c G ∧ DictAt H r (ones l) ∧ l.Nodup ∧ (∀ u ∈ l, u ∈ G.us) ∧ e ∈ G.es ∧
  ∀ c' H', Same H H' → ContAt H' c' (G.setRow e l) → Q (.ref c') H'
theorem ok_with_row (T : TX w K mg) : Ok P w K mg base 2 d_with_row ["content", "equation", "row"] spWithRow := by
  refine mkOk T ix_with_row rfl rfl rfl sc_with_row (fun _ _ _ _ _ _ us hl => match us, hl with | [_, _, _], _ => rfl) (fun vs H Q E h => ?_) (fun cdv A outer s H vs Q E hr h => ?_)
  · obtain ⟨c, G, e, r, l, rfl, _⟩ := h
    rfl
  · obtain ⟨c, G, e, r, l, rfl, hc, hr0, nd, hsub, he, q⟩ := h
    obtain ⟨f1, G1, b1, k1⟩ := ok_sorted_dict (P := P) (base := base) T
    obtain ⟨cols, rows, consts, U, L, C, h1, h2, h3, h4, cn⟩ := hc.ex
    have hlen : l.length ≤ 24 := Nat.le_trans (len_le_of_sub nd hsub) cn.ul
    refine ⟨_, pss_cons (ps_asg (pv 0) (pg_tup rfl (pgs_cons (pg_name (i := 3) sc_with_row.nd rfl (.inl rfl)) (pgs_cons (pg_name (i := 4) sc_with_row.nd rfl (.inl rfl)) (pgs_cons (pg_name (i := 5) sc_with_row.nd rfl (.inl rfl)) pgs_nil)))))
      (pss_one (ps_ret (pe_tup (pa_cons (pv 3) (pa_cons (pe_dstar (pv 4) (pv 1) (pe_call G1 hr (by rfl) T.g_sorted_dict k1 b1 .nil pass0 (pa_cons (pv 2) pa_nil))) (pa_cons (pv 5) pa_nil)))))), ?_⟩
    refine ⟨_, rfl, c, _, rfl, SqT.of h1, rfl, _, _, rfl, _, _, rfl, _, _, rfl, rfl, ?_⟩
    refine ⟨_, rfl, fun p np => ⟨_, rfl, rows, tk (refs L), rfl, ne_of_none h3.at_ np, .inl (by rw [upd_ne (ne_of_none h3.at_ np)]; exact h3.at_), upd_same, by rw [tk_len]; unfold refs; rw [List.length_map]; have := cn.llen; omega, fun q' nq qp => ?_⟩⟩
    have ndr : ((refs L).map (·.1)).Nodup := by rw [refs_keys]; exact cn.lnd
    have s0 : Same (upd H p (.dK [])) (upd H p (.dK [])) := Same.refl _
    refine ⟨_, rfl, _, rfl, r, ones l, rfl, ?_, by rw [ones_keys]; exact nd, by unfold ones; rw [List.length_map]; omega, fun D' p' H4 pm s4 np' hD => ⟨Sum.inr e, rfl, ?_⟩⟩
    · have n1 : r ≠ p := ne_of_none hr0 np
      have n2 : r ≠ q' := ne_of_none (by rw [upd_ne n1]; exact hr0) nq
      exact .inl (by rw [upd_ne n2, upd_ne n1, upd_ne n1]; exact hr0)
    · obtain ⟨f1, f2, f3, f4⟩ := dstar_fin (k := e) (z := .ref p') ndr np s0 nq qp s4
      refine ⟨f1, f2, _, rfl, small (by show 3 ≤ 1000; decide), fun c' nc' => ?_⟩
      obtain ⟨l', rfl, pm'⟩ := ones_perm pm
      rw [setRow_refs p' l' (by rw [cn.es]; exact he)] at f4
      have sf := Same.new f3 nc' (o := .tup [.ref cols, .ref p, .ref consts])
      have ss := same_new nc' (o := .tup [.ref cols, .ref p, .ref consts])
      have pp : p' ≠ p := fun z => by
        rw [z, upd_ne (Ne.symm qp), upd_same] at np'
        cases np'
      have pq : p' ≠ q' := fun z => by
        rw [z, upd_same] at np'
        cases np'
      refine q c' _ sf ⟨cols, p, consts, U, setRow L e p' l', C, upd_same, sf _ _ h2, ⟨ss _ _ f4, fun x hx => ?_⟩, sf _ _ h4, ⟨cn.und, cn.us, by rw [setRow_keys]; exact cn.lnd, by rw [setRow_keys]; exact cn.es, cn.cnd, cn.cs, fun x hx => ?_, fun x hx u => ?_, cn.ul, cn.el⟩⟩
      · rcases mem_setRow hx with rfl | ⟨hx, _⟩
        · refine ss _ _ ?_
          rw [upd_ne pp, upd_ne pq]
          exact hD
        · exact sf _ _ (h3.row x hx)
      · rcases mem_setRow hx with rfl | ⟨hx, _⟩
        · exact pm'.nodup_iff.mpr nd
        · exact cn.rnd x hx
      · rcases mem_setRow hx with rfl | ⟨hx, hne⟩
        · show u ∈ l' ↔ (u ∈ G.us ∧ (if e = e then decide (u ∈ l) else G.adj e u) = true)
          rw [if_pos rfl, pm'.mem_iff]
          exact ⟨fun h => ⟨hsub u h, decide_eq_true h⟩, fun h => of_decide_eq_true h.2⟩
        · show u ∈ x.2.2 ↔ (u ∈ G.us ∧ (if x.1 = e then decide (u ∈ l) else G.adj x.1 u) = true)
          rw [if_neg hne]
          exact cn.row x hx u
end
end Bo

/-! E5 -/
set_option Elab.async false
set_option linter.all false
set_option maxRecDepth 100000
set_option maxHeartbeats 1000000
namespace Bo
open PySem PySem.Spec PyProof.Rows L2
theorem ContAt.congr {H : Hp} {c : Addr} {G G' : Grf} (h : ContAt H c G) (hu : ∀ u, u ∈ G.us ↔ u ∈ G'.us) (he : ∀ e, e ∈ G.es ↔ e ∈ G'.es) (ul : G'.us.length ≤ 24) (el : G'.es.length ≤ 24)
    (ha : ∀ e ∈ G.es, ∀ u ∈ G.us, G.adj e u = G'.adj e u) : ContAt H c G' := by
  obtain ⟨cols, rows, consts, U, L, C, h1, h2, h3, h4, cn⟩ := h.ex
  refine ⟨cols, rows, consts, U, L, C, h1, h2, h3, h4, cn.und, fun u => (cn.us u).trans (hu u), cn.lnd, fun e => (cn.es e).trans (he e), cn.cnd, fun e => (cn.cs e).trans (he e), cn.rnd, fun p hp u => ?_, ul, el⟩
  rw [cn.row p hp u]
  have hpe : p.1 ∈ G.es := (cn.es _).mp (List.mem_map.mpr ⟨p, hp, rfl⟩)
  constructor
  · rintro ⟨q1, q2⟩
    exact ⟨(hu u).mp q1, ha _ hpe _ q1 ▸ q2⟩
  · rintro ⟨q1, q2⟩
    have q3 := (hu u).mpr q1
    exact ⟨q3, (ha _ hpe _ q3).symm ▸ q2⟩
def Grf.addP (G : Grf) (e u : Str) : Grf := { G with adj := fun e' u' => (decide (e' = e) && decide (u' = u)) || G.adj e' u' }
def Grf.addU (G : Grf) (x : Str) : Grf := { G with us := G.us ++ [x], adj := fun e u => G.adj e u && !decide (u = x) }
def Grf.addE (G : Grf) (x : Str) : Grf := { G with es := G.es ++ [x], adj := fun e u => G.adj e u && !decide (e = x) }
theorem ones_put {l : List Str} {u : Str} (h : u ∉ l) : dput (ones l) u (.int 1) = ones (l ++ [u]) := by
  rw [dput_new _ (by rw [ones_keys]; exact h)]
  unfold ones
  rw [List.map_append]
  rfl
theorem refs_get {L : List Row} (nd : (L.map (·.1)).Nodup) {p : Row} (h : p ∈ L) : dget (refs L) p.1 = some (.ref p.2.1) :=
  dget_of_mem (by rw [refs_keys]; exact nd) (List.mem_map.mpr ⟨p, h, rfl⟩)
section
variable {P : Program} {w : World} {K : Fg} {mg : Str → Option Value} {base : Heap}
def spNeedEnds : Sp := fun vs H Q _ => ∃ (c : Addr) (G : Grf) (e u : Str), vs = [.ref c, .str e, .str u] ∧ ContAt H c G ∧ e ∈ G.es ∧ u ∈ G.us ∧ Q .non H
theorem ok_need_ends (T : TX w K mg) : Ok P w K mg base 2 d_need_ends ["content", "equation", "unknown"] spNeedEnds := by
  refine mkOk T ix_need_ends rfl rfl rfl sc_need_ends (fun _ _ _ _ _ _ us hl => match us, hl with | [_, _, _], _ => rfl) (fun vs H Q E h => ?_) (fun cdv A outer s H vs Q E hr h => ?_)
  · obtain ⟨c, G, e, u, rfl, _⟩ := h
    rfl
  · obtain ⟨c, G, e, u, rfl, hc, he, hu', q⟩ := h
    obtain ⟨f1, G1, b1, k1⟩ := ok_need_item (P := P) (base := base) T
    obtain ⟨cols, rows, consts, U, L, C, h1, h2, h3, h4, cn⟩ := hc.ex
    refine ⟨_, pss_cons (ps_asg (pv 0) (pg_tup rfl (pgs_cons (pg_name (i := 3) sc_need_ends.nd rfl (.inl rfl)) (pgs_cons (pg_name (i := 4) sc_need_ends.nd rfl (.inl rfl)) (pgs_cons (pg_name (i := 5) sc_need_ends.nd rfl (.inl rfl)) pgs_nil)))))
      (pss_cons (ps_expr (pe_call G1 hr (by rfl) T.g_need_item k1 b1 .nil pass0 (pa_cons pe_str (pa_cons (pv 1) (pa_cons (pv 4) pa_nil)))))
      (pss_one (ps_expr (pe_call G1 hr (by rfl) T.g_need_item k1 b1 .nil pass0 (pa_cons pe_str (pa_cons (pv 2) (pa_cons (pv 3) pa_nil))))))), ?_⟩
    refine ⟨_, rfl, c, _, rfl, SqT.of h1, rfl, _, _, rfl, _, _, rfl, _, _, rfl, rfl, ?_⟩
    refine ⟨_, rfl, _, rfl, _, _, rows, rfl, .inl ⟨refs L, h3.at_, by rw [refs_keys]; exact (cn.es e).mpr he⟩, ?_⟩
    exact ⟨_, rfl, _, rfl, _, _, cols, rfl, .inr ⟨U, SqT.of h2, (cn.us u).mpr hu'⟩, q⟩
def spEntryAdded (K : Fg) : Sp := fun vs H Q _ => ∃ (c a : Addr) (G : Grf) (e u : Str), vs = [.ref c, .ref a] ∧ SqT K H a [.str e, .str u] ∧ ContAt H c G ∧ e ∈ G.es ∧ u ∈ G.us ∧ G.adj e u = false ∧
  ∀ c' H', Same H H' → ContAt H' c' (G.addP e u) → Q (.ref c') H'
theorem ok_entry_added (T : TX w K mg) : Ok P w K mg base 3 d_entry_added ["content", "arguments"] (spEntryAdded K) := by
  refine mkOk T ix_entry_added rfl rfl rfl sc_entry_added (fun _ _ _ _ _ _ us hl => match us, hl with | [_, _], _ => rfl) (fun vs H Q E h => ?_) (fun cdv A outer s H vs Q E hr h => ?_)
  · obtain ⟨c, a, G, e, u, rfl, _⟩ := h
    rfl
  · obtain ⟨c, a, G, e, u, rfl, ha, hc, he, hu', hno, q⟩ := h
    obtain ⟨f1, G1, b1, k1⟩ := ok_need_ends (P := P) (base := base) T
    obtain ⟨f2, G2, b2, k2⟩ := ok_with_row (P := P) (base := base) T
    obtain ⟨cols, rows, consts, U, L, C, h1, h2, h3, h4, cn⟩ := id hc.ex
    have hu := hu_of hr
    refine ⟨_, pss_cons (ps_asg (pv 1) (pg_tup rfl (pgs_cons (pg_name (i := 2) sc_entry_added.nd rfl (.inl rfl)) (pgs_cons (pg_name (i := 3) sc_entry_added.nd rfl (.inl rfl)) pgs_nil))))
      (pss_cons (ps_expr (pe_call G1 hr (by rfl) T.g_need_ends k1 b1 .nil pass0 (pa_cons (pv 0) (pa_cons (pv 2) (pa_cons (pv 3) pa_nil)))))
      (pss_cons (ps_set (i := 4) sc_entry_added.nd rfl (.inl rfl) (pe_dget hu (pe_ix ix_tup (pv 0) pe_int (fun _ _ => rfl)) (pv 2) (fun _ _ => rfl)))
      (pss_cons (ps_if (pt_cmp (pc_din hu (pv 3) (pv 4))) (pss_one ps_never) pss_nil)
      (pss_one (ps_ret (pe_call G2 hr (by rfl) T.g_with_row k2 b2 .nil pass0 (pa_cons (pv 0) (pa_cons (pv 2) (pa_cons (pe_dstar (pv 4) (pv 3) pe_int) pa_nil))))))))), ?_⟩
    refine ⟨_, rfl, a, _, rfl, ha, rfl, _, _, rfl, _, _, rfl, rfl, ?_⟩
    refine ⟨_, rfl, _, rfl, _, rfl, c, G, e, u, rfl, hc, he, hu', ?_⟩
    obtain ⟨p, hp, rfl⟩ := List.mem_map.mp ((cn.es e).mpr he)
    have hrow := h3.row p hp
    have hnot : u ∉ p.2.2 := fun hm => by
      have := ((cn.row p hp u).mp hm).2
      rw [hno] at this
      cases this
    have ndp := cn.rnd p hp
    refine ⟨_, rfl, c, _, 1, _, rfl, rfl, SqT.of h1, atI_nat (j := 1) rfl, _, rfl, rows, _, rfl, (refs_get cn.lnd hp) ▸ h3.at_.get p.1, ?_⟩
    refine ⟨_, rfl, _, rfl, p.2.1, none, rfl, (dget_none.mpr (by rw [ones_keys]; exact hnot)) ▸ hrow.get u, _, rfl, ?_⟩
    refine ⟨_, rfl, _, rfl, fun d nd => ⟨_, rfl, p.2.1, tk (ones p.2.2), rfl, ne_of_none hrow nd, .inl (by rw [upd_ne (ne_of_none hrow nd)]; exact hrow), upd_same, by rw [tk_len]; unfold ones; rw [List.length_map]; have := cn.rlen hp; omega, fun q' nq qp => ⟨_, rfl, Sum.inr u, rfl, ?_⟩⟩⟩
    obtain ⟨f1, f2, f3, f4⟩ := dstar_fin (k := u) (z := .int 1) (D := ones p.2.2) (by rw [ones_keys]; exact ndp) nd (Same.refl _) nq qp (Same.refl _)
    rw [ones_put hnot] at f4
    refine ⟨f1, f2, c, G, p.1, d, p.2.2 ++ [u], rfl, hc.same f3, f4, ?_, ?_, he, fun c' H' s2 hc' => ?_⟩
    · rw [List.nodup_append]
      exact ⟨ndp, by simp, fun x hx y hy z => hnot (by simp at hy; rw [← hy, ← z]; exact hx)⟩
    · intro x hx
      rcases List.mem_append.mp hx with hx | hx
      · exact ((cn.row p hp x).mp hx).1
      · rw [List.mem_singleton.mp hx]
        exact hu'
    · refine q c' H' (f3.trans s2) (hc'.congr (fun _ => Iff.rfl) (fun _ => Iff.rfl) cn.ul cn.el fun e' he' u' hu2 => ?_)
      show (if e' = p.1 then decide (u' ∈ p.2.2 ++ [u]) else G.adj e' u') = ((decide (e' = p.1) && decide (u' = u)) || G.adj e' u')
      by_cases h : e' = p.1
      · subst h
        rw [if_pos rfl, decide_eq_true rfl, Bool.true_and]
        have r := cn.row p hp u'
        by_cases hu3 : u' = u
        · subst hu3
          simp
        · rw [decide_eq_false hu3, Bool.false_or]
          cases hz : G.adj p.1 u' with
          | true => exact decide_eq_true (List.mem_append.mpr (.inl (r.mpr ⟨hu2, hz⟩)))
          | false =>
            refine decide_eq_false fun hm => ?_
            rcases List.mem_append.mp hm with hm | hm
            · have := (r.mp hm).2
              rw [hz] at this
              cases this
            · exact hu3 (List.mem_singleton.mp hm)
      · rw [if_neg h, decide_eq_false h]
        rfl
end
end Bo

/-! E6 -/
set_option Elab.async false
set_option linter.all false
set_option maxRecDepth 100000
set_option maxHeartbeats 1000000
namespace Bo
open PySem PySem.Spec PyProof.Rows L2
theorem txs_app (a b : List Str) : txs a ++ txs b = txs (a ++ b) := by
  unfold txs
  rw [List.map_append]
theorem nodup_snoc {l : List Str} {x : Str} (h : l.Nodup) (hx : x ∉ l) : (l ++ [x]).Nodup := by
  rw [List.nodup_append]
  exact ⟨h, by simp, fun a ha b hb e => hx (by simp at hb; rw [← hb, ← e]; exact ha)⟩
section
variable {P : Program} {w : World} {K : Fg} {mg : Str → Option Value} {base : Heap}
def spUnkAdded (K : Fg) : Sp := fun vs H Q _ => ∃ (c a : Addr) (G : Grf) (x : Str), vs = [.ref c, .ref a] ∧ SqT K H a (txs [x]) ∧ ContAt H c G ∧ NameOk x ∧ x ∉ G.us ∧ G.us.length + 1 ≤ 24 ∧
  ∀ c' H', Same H H' → ContAt H' c' (G.addU x) → Q (.ref c') H'
theorem ok_unknowns_added (T : TX w K mg) : Ok P w K mg base 3 d_unknowns_added ["content", "arguments"] (spUnkAdded K) := by
  refine mkOk T ix_unknowns_added rfl rfl rfl sc_unknowns_added (fun _ _ _ _ _ _ us hl => match us, hl with | [_, _], _ => rfl) (fun vs H Q E h => ?_) (fun cdv A outer s H vs Q E hr h => ?_)
  · obtain ⟨c, a, G, x, rfl, _⟩ := h
    rfl
  · obtain ⟨c, a, G, x, rfl, ha, hc, hok, hx, hl, q⟩ := h
    obtain ⟨f1, G1, b1, k1⟩ := ok_need_new_names (P := P) (base := base) T
    obtain ⟨cols, rows, consts, U, L, C, h1, h2, h3, h4, cn⟩ := id hc.ex
    have hU : U.length ≤ G.us.length := len_le_of_sub cn.und fun u hu => (cn.us u).mp hu
    have hxU : x ∉ U := fun h => hx ((cn.us x).mp h)
    have nd : (U ++ [x]).Nodup := nodup_snoc cn.und hxU
    have hlen : (U ++ [x]).length ≤ 24 := by rw [List.length_append]; show U.length + 1 ≤ 24; omega
    refine ⟨_, pss_cons (ps_asg (pv 0) (pg_tup rfl (pgs_cons (pg_name (i := 2) sc_unknowns_added.nd rfl (.inl rfl)) (pgs_cons (pg_name (i := 3) sc_unknowns_added.nd rfl (.inl rfl)) (pgs_cons (pg_name (i := 4) sc_unknowns_added.nd rfl (.inl rfl)) pgs_nil)))))
      (pss_cons (ps_expr (pe_call G1 hr (by rfl) T.g_need_new_names k1 b1 .nil pass0 (pa_cons pe_str (pa_cons (pv 1) (pa_cons (pv 2) pa_nil)))))
      (pss_one (ps_ret (pe_tup (pa_cons (pe_callTy call_tuple_of (by rfl) T.f_tuple PyProof.Rows.boot_tuple (pa_cons (pe_callB call_sortedT (by rfl) T.f_sorted boot_sorted (pa_cons (pe_op op_catA (pv 2) (pv 1)) pa_nil)) pa_nil)) (pa_cons (pv 3) (pa_cons (pv 4) pa_nil))))))), ?_⟩
    refine ⟨_, rfl, c, _, rfl, SqT.of h1, rfl, _, _, rfl, _, _, rfl, _, _, rfl, rfl, ?_⟩
    refine ⟨_, rfl, _, rfl, _, a, cols, [x], U, rfl, ha, SqT.of h2, nd, hlen, fun z hz => by rw [List.mem_singleton.mp hz]; exact hok, fun H1 s1 => ?_⟩
    refine ⟨_, rfl, _, rfl, cols, a, txs U, txs [x], rfl, rfl, SqT.of (s1 _ _ h2), Same.tup s1 ha, small (by rw [txs_len, txs_len]; have := cn.ulen; show U.length + 1 ≤ 1000; omega), fun hx0 => ?_, fun _ hy => (nomatch hy), fun hx0 hy p np => ?_⟩
    rotate_left
    · have s2 := Same.new s1 (o := .tup (txs U ++ txs [x])) np
      have st : SqT K (upd H1 p (.tup (txs U ++ txs [x]))) p (txs (U ++ [x])) := by
        rw [txs_app]
        exact SqT.of upd_same
      refine ⟨_, U ++ [x], rfl, st, Nat.lt_of_le_of_lt hlen (by decide), fun ys p' pm srt np' => ⟨p', txs ys, rfl, .inl ⟨SqL.of upd_same, fun t nt => ⟨_, rfl, _, rfl, small (by show 3 ≤ 1000; decide), fun c' nc' => ?_⟩⟩⟩⟩
      have s3 := Same.new s2 (o := .lst (ys.map V.str)) np'
      have s4 := Same.new s3 (o := .tup (txs ys)) nt
      have s5 := Same.new s4 (o := .tup [.ref t, .ref rows, .ref consts]) nc'
      refine q c' _ s5 ⟨t, rows, consts, ys, L, C, upd_same, ?_, h3.same s5, s5 _ _ h4, pm.nodup_iff.mpr nd, fun u => ?_, cn.lnd, cn.es, cn.cnd, cn.cs, cn.rnd, fun pp hp u => ?_, ?_, cn.el⟩
      · rw [upd_ne (fun z => by rw [← z, upd_same] at nc'; cases nc'), upd_same]
      · rw [pm.mem_iff, List.mem_append]
        show _ ↔ u ∈ G.us ++ [x]
        rw [List.mem_append, cn.us]
      · show _ ↔ u ∈ G.us ++ [x] ∧ (G.adj pp.1 u && !decide (u = x)) = true
        rw [cn.row pp hp u, List.mem_append, List.mem_singleton]
        by_cases hux : u = x
        · subst hux
          simp [hx]
        · simp [hux]
      · show (G.us ++ [x]).length ≤ 24
        rw [List.length_append]
        exact hl
    · have e0 : U = [] := by
        cases U with
        | nil => rfl
        | cons _ _ => cases hx0
      have st : SqT K H1 a (txs (U ++ [x])) := by
        rw [e0]
        exact Same.tup s1 ha
      refine ⟨_, U ++ [x], rfl, st, Nat.lt_of_le_of_lt hlen (by decide), fun ys p' pm srt np' => ⟨p', txs ys, rfl, .inl ⟨SqL.of upd_same, fun t nt => ⟨_, rfl, _, rfl, small (by show 3 ≤ 1000; decide), fun c' nc' => ?_⟩⟩⟩⟩
      have s3 := Same.new s1 (o := .lst (ys.map V.str)) np'
      have s4 := Same.new s3 (o := .tup (txs ys)) nt
      have s5 := Same.new s4 (o := .tup [.ref t, .ref rows, .ref consts]) nc'
      refine q c' _ s5 ⟨t, rows, consts, ys, L, C, upd_same, ?_, h3.same s5, s5 _ _ h4, pm.nodup_iff.mpr nd, fun u => ?_, cn.lnd, cn.es, cn.cnd, cn.cs, cn.rnd, fun pp hp u => ?_, ?_, cn.el⟩
      · rw [upd_ne (fun z => by rw [← z, upd_same] at nc'; cases nc'), upd_same]
      · rw [pm.mem_iff, List.mem_append]
        show _ ↔ u ∈ G.us ++ [x]
        rw [List.mem_append, cn.us]
      · show _ ↔ u ∈ G.us ++ [x] ∧ (G.adj pp.1 u && !decide (u = x)) = true
        rw [cn.row pp hp u, List.mem_append, List.mem_singleton]
        by_cases hux : u = x
        · subst hux
          simp [hx]
        · simp [hux]
      · show (G.us ++ [x]).length ≤ 24
        rw [List.length_append]
        exact hl
end
end Bo

/-! E7 -/
set_option Elab.async false
set_option linter.all false
set_option maxRecDepth 100000
set_option maxHeartbeats 1000000
namespace Bo
open PySem PySem.Spec PyProof.Rows L2
theorem perm_map_inv {α β : Type} {f : α → β} {D M : List β} (h : D.Perm M) : ∀ L : List α, M = L.map f → ∃ L' : List α, L'.Perm L ∧ D = L'.map f := by
  induction h with
  | nil =>
    intro L e
    cases L with
    | nil => exact ⟨[], .nil, rfl⟩
    | cons a L => cases e
  | cons x _ ih =>
    intro L e
    cases L with
    | nil => cases e
    | cons a L =>
      rw [List.map_cons] at e
      obtain ⟨e1, e2⟩ := List.cons.inj e
      obtain ⟨L', p, q⟩ := ih L e2
      exact ⟨a :: L', .cons a p, by rw [List.map_cons, e1, q]⟩
  | swap x y l =>
    intro L e
    cases L with
    | nil => cases e
    | cons a L =>
      cases L with
      | nil => cases e
      | cons b L =>
        rw [List.map_cons, List.map_cons] at e
        obtain ⟨e1, e2⟩ := List.cons.inj e
        obtain ⟨e3, e4⟩ := List.cons.inj e2
        exact ⟨b :: a :: L, .swap a b L, by rw [List.map_cons, List.map_cons, e1, e3, e4]⟩
  | trans _ _ ih1 ih2 =>
    intro L e
    obtain ⟨L1, p1, q1⟩ := ih2 L e
    obtain ⟨L2, p2, q2⟩ := ih1 L1 q1
    exact ⟨L2, p2.trans p1, q2⟩
theorem refs_perm {L : List Row} {D : List (Str × V)} (h : D.Perm (refs L)) : ∃ L', D = refs L' ∧ L'.Perm L := by
  obtain ⟨L', p, q⟩ := perm_map_inv (f := fun p : Row => (p.1, V.ref p.2.1)) h L rfl
  exact ⟨L', q, p⟩
theorem refs_snoc {L : List Row} {e : Str} (a : Addr) (h : e ∉ L.map (·.1)) : dput (refs L) e (.ref a) = refs (L ++ [(e, a, [])]) := by
  rw [dput_new _ (by rw [refs_keys]; exact h)]
  unfold refs
  rw [List.map_append]
  rfl
section
variable {P : Program} {w : World} {K : Fg} {mg : Str → Option Value} {base : Heap}
def spWithEq (K : Fg) : Sp := fun vs H Q _ => ∃ (c r : Addr) (G : Grf) (e : Str), vs = [.ref c, .str e, .int 0, .ref r] ∧ H r = some (.lst []) ∧ ContAt H c G ∧ NameOk e ∧ e ∉ G.es ∧ G.es.length + 1 ≤ 24 ∧
  ∀ c' H', Same H H' → ContAt H' c' (G.addE e) → Q (.ref c') H'
theorem ok_with_equation (T : TX w K mg) : Ok P w K mg base 3 d_with_equation ["content", "name", "constant", "row"] (spWithEq K) := by
  refine mkOk T ix_with_equation rfl rfl rfl sc_with_equation (fun _ _ _ _ _ _ us hl => match us, hl with | [_, _, _, _], _ => rfl) (fun vs H Q E h => ?_) (fun cdv A outer s H vs Q E hr h => ?_)
  · obtain ⟨c, r, G, e, rfl, _⟩ := h
    rfl
  · obtain ⟨c, r, G, e, rfl, hrow, hc, hok, he, hl, q⟩ := h
    obtain ⟨f1, G1, b1, k1⟩ := ok_need_new_names (P := P) (base := base) T
    obtain ⟨f2, G2, b2, k2⟩ := ok_need_different (P := P) (base := base) T
    obtain ⟨f3, G3, b3, k3⟩ := ok_sorted_dict (P := P) (base := base) T
    obtain ⟨cols, rows, consts, U, L, C, h1, h2, h3, h4, cn⟩ := id hc.ex
    have hr1 : Room 1 _ := hr.mono (by decide)
    have heL : e ∉ L.map (·.1) := fun h => he ((cn.es e).mp h)
    have heC : e ∉ C.map (·.1) := fun h => he ((cn.cs e).mp h)
    have hLl : (L.map (·.1)).length ≤ G.es.length := len_le_of_sub cn.lnd fun u hu => (cn.es u).mp hu
    have hLl' : L.length ≤ 23 := by rw [List.length_map] at hLl; omega
    have hCl : C.length ≤ 23 := by
      have := len_le_of_sub cn.cnd fun u hu => (cn.cs u).mp hu
      rw [List.length_map] at this
      omega
    refine ⟨_, pss_cons (ps_asg (pv 0) (pg_tup rfl (pgs_cons (pg_name (i := 4) sc_with_equation.nd rfl (.inl rfl)) (pgs_cons (pg_name (i := 5) sc_with_equation.nd rfl (.inl rfl)) (pgs_cons (pg_name (i := 6) sc_with_equation.nd rfl (.inl rfl)) pgs_nil)))))
      (pss_cons (ps_expr (pe_call G1 hr (by rfl) T.g_need_new_names k1 b1 .nil pass0 (pa_cons pe_str (pa_cons (pe_tup (pa_cons (pv 1) pa_nil)) (pa_cons (pe_callTy (call_tupleD rfl) (by rfl) T.f_tuple PyProof.Rows.boot_tuple (pa_cons (pv 5) pa_nil)) pa_nil)))))
      (pss_cons (ps_for PassesOwn.never rfl (pi_list (pv 3)) (pg_tup rfl (pgs_cons (pg_name (i := 7) sc_with_equation.nd rfl (.inl rfl)) (pgs_cons (pg_name (i := 8) sc_with_equation.nd rfl (.inl rfl)) pgs_nil))) pss_never)
      (pss_cons (ps_expr (pe_call G2 hr1 (by rfl) T.g_need_different k2 b2 .nil pass0 (pa_cons pe_str (pa_cons
          (pe_lc (own := [("unknown", 7), ("coefficient", 8)]) (g := gTup K 2 (gCons (gName 7) (gCons (gName 8) gNil))) (tt := tYes) (by rfl) sc_with_equation.nd (pi_list (pv 3)) (blkOk_by (N := N_with_equation) (sc := defScope s_with_equation) (by decide +kernel))
            (fun _ _ _ _ _ => pg_tup rfl (pgs_cons (pg_name (i := 7) sc_with_equation.nd rfl (Or.inl rfl)) (pgs_cons (pg_name (i := 8) sc_with_equation.nd rfl (Or.inl rfl)) pgs_nil))) (fun _ _ _ _ _ => pts_nil) (fun _ _ _ _ _ => pv 7)) (pa_cons pe_int pa_nil)))))
      (pss_one (ps_ret (pe_tup (pa_cons (pv 4)
        (pa_cons (pe_call G3 hr1 (by rfl) T.g_sorted_dict k3 b3 .nil pass0 (pa_cons (pe_dstar (pv 5) (pv 1) (pe_call G3 hr1 (by rfl) T.g_sorted_dict k3 b3 .nil pass0 (pa_cons (pe_callTy (call_dictP rfl) (by rfl) T.f_dict PyProof.Rows.boot_dict (pa_cons (pv 3) pa_nil)) pa_nil))) pa_nil))
        (pa_cons (pe_call G3 hr1 (by rfl) T.g_sorted_dict k3 b3 .nil pass0 (pa_cons (pe_dstar (pv 6) (pv 1) (pv 2)) pa_nil)) pa_nil))))))))), ?_⟩
    refine ⟨_, rfl, c, _, rfl, SqT.of h1, rfl, _, _, rfl, _, _, rfl, _, _, rfl, rfl, ?_⟩
    -- need_new_names("equation", (name,), tuple(rows))
    refine ⟨_, rfl, small (by show 1 ≤ 1000; decide), fun t nt => ⟨_, rfl, rows, tk (refs L), rfl, .inl (same_new nt _ _ h3.at_), fun t2 nt2 => ?_⟩⟩
    have s1 := same_new nt (o := .tup [V.str e])
    have s2 := Same.new s1 nt2 (o := .tup ((tk (refs L)).map fun kv => kV kv.1))
    have ek : (tk (refs L)).map (fun kv => kV kv.1) = txs (L.map (·.1)) := by
      unfold tk refs txs
      rw [List.map_map, List.map_map, List.map_map]
      rfl
    refine ⟨_, t, t2, [e], L.map (·.1), rfl, SqT.of ((same_new nt2) _ _ upd_same), by rw [ek]; exact SqT.of upd_same, nodup_snoc cn.lnd heL, by rw [List.length_append, List.length_map]; show L.length + 1 ≤ 24; omega, fun z hz => by rw [List.mem_singleton.mp hz]; exact hok, fun H3 s3 => ?_⟩
    have s4 := s2.trans s3
    -- the loop over no pairs
    refine ⟨_, rfl, r, rfl, ⟨[], SqL.of (s4 _ _ hrow)⟩, for_list (K := K) (a := r) (xs := []) (fun i σ H1 => σ = [some (.ref c), some (.str e), some (.int 0), some (.ref r), some (.ref cols), some (.ref rows), some (.ref consts), none, none] ∧ H1 = H3) ⟨rfl, rfl⟩ (fun i σ H1 _ ⟨_, e1⟩ => e1 ▸ SqL.of (s4 _ _ hrow)) (fun i x σ H1 hx _ => (nomatch hx)) ?_⟩
    rintro σ H1 ⟨rfl, rfl⟩
    -- need_different("unknown", [..], 0)
    refine ⟨_, rfl, r, rfl, ⟨[], SqL.of (s4 _ _ hrow)⟩, fun D nD => ?_⟩
    refine lc_pure (walk_list (xs := [])) nD (fun _ => none) (by simp) (fun H2 s5 => s5.seq (SqL.of (s4 _ _ hrow))) (fun x H2 R N hx => (nomatch hx)) (fun H2 s5 hD => ?_)
    have s6 := s4.trans s5
    refine ⟨_, D, [], 0, rfl, SqL.of hD, List.nodup_nil, by decide, by decide, fun H4 s7 => ?_⟩
    have s8 := s6.trans s7
    -- the new content
    refine ⟨_, rfl, fun p np => ⟨_, rfl, rows, tk (refs L), rfl, ne_of_none (s8 _ _ h3.at_) np, .inl (same_new np _ _ (s8 _ _ h3.at_)), upd_same, by rw [tk_len]; unfold refs; rw [List.length_map]; omega, fun q1 nq1 qp1 => ?_⟩⟩
    have ndr : ((refs L).map (·.1)).Nodup := by rw [refs_keys]; exact cn.lnd
    have n1 : r ≠ p := ne_of_none (s8 _ _ hrow) np
    have n2 : r ≠ q1 := ne_of_none (by rw [upd_ne n1]; exact s8 _ _ hrow) nq1
    refine ⟨_, rfl, _, rfl, r, [], [], rfl, SqL.of (by rw [upd_ne n2, upd_ne n1, upd_ne n1]; exact s8 _ _ hrow), .nil, fun d nd => ?_⟩
    refine ⟨d, [], rfl, .inl upd_same, List.nodup_nil, by decide, fun D' p' H5 pm s9 np' hD' => ⟨Sum.inr e, rfl, ?_⟩⟩
    obtain rfl : D' = [] := pm.eq_nil
    have s10 := (same_new nd (o := .dK (mergeK [] []))).trans s9
    obtain ⟨g1, g2, g3, g4⟩ := dstar_fin (k := e) (z := .ref p') ndr np (Same.refl _) nq1 qp1 s10
    rw [refs_snoc p' heL] at g4
    refine ⟨g1, g2, p, refs (L ++ [(e, p', [])]), rfl, .inl g4, by rw [refs_keys, List.map_append]; exact nodup_snoc cn.lnd heL, by unfold refs; rw [List.length_map, List.length_append]; show L.length + 1 ≤ 60; omega, fun D2 p2 H6 pm2 s11 np2 hD2 => ?_⟩
    obtain ⟨L', rfl, pmL⟩ := refs_perm pm2
    have hD'6 : DictAt H6 p' [] := by
      refine s11 _ _ ?_
      have pp : p' ≠ p := fun z => by
        rw [z, (same_new nd) _ _ (by rw [upd_ne (Ne.symm qp1), upd_same])] at np'
        cases np'
      have pq : p' ≠ q1 := fun z => by
        rw [z, (same_new nd) _ _ upd_same] at np'
        cases np'
      rw [upd_ne pp, upd_ne pq]
      exact hD'
    have s12 := (s8.trans g3).trans s11
    -- the constants
    refine fun d2 nd2 => ⟨_, rfl, consts, tk C, rfl, ne_of_none (s12 _ _ h4) nd2, .inl (same_new nd2 _ _ (s12 _ _ h4)), upd_same, by rw [tk_len]; omega, fun q2 nq2 qp2 => ⟨_, rfl, _, rfl, Sum.inr e, rfl, ?_⟩⟩
    obtain ⟨j1, j2, j3, j4⟩ := dstar_fin (k := e) (z := .int 0) cn.cnd nd2 (Same.refl _) nq2 qp2 (Same.refl _)
    rw [dput_new _ heC] at j4
    refine ⟨j1, j2, d2, C ++ [(e, V.int 0)], rfl, .inl j4, by rw [List.map_append]; exact nodup_snoc cn.cnd heC, by rw [List.length_append]; show C.length + 1 ≤ 60; omega, fun C' p3 H7 pm3 s13 np3 hC' => ?_⟩
    have s14 := (s12.trans j3).trans s13
    refine ⟨small (by show 3 ≤ 1000; decide), fun c' nc' => ?_⟩
    have s15 := same_new nc' (o := .tup [.ref cols, .ref p2, .ref p3])
    have s16 := s14.trans s15
    have keep := (j3.trans s13).trans s15
    refine q c' _ s16 ⟨cols, p2, p3, U, L', C', upd_same, s16 _ _ h2, ⟨keep _ _ hD2, fun x hx => ?_⟩, s15 _ _ hC', ⟨cn.und, cn.us, ?_, fun z => ?_, ?_, fun z => ?_, fun x hx => ?_, fun x hx u => ?_, cn.ul, ?_⟩⟩
    · rcases List.mem_append.mp (pmL.mem_iff.mp hx) with hx | hx
      · exact s16 _ _ (h3.row x hx)
      · rw [List.mem_singleton.mp hx]
        exact keep _ _ hD'6
    · exact (pmL.map (·.1)).nodup_iff.mpr (by rw [List.map_append]; exact nodup_snoc cn.lnd heL)
    · rw [(pmL.map (·.1)).mem_iff, List.map_append, List.mem_append, cn.es]
      show _ ↔ z ∈ G.es ++ [e]
      rw [List.mem_append]
      rfl
    · exact (pm3.map (·.1)).nodup_iff.mpr (by rw [List.map_append]; exact nodup_snoc cn.cnd heC)
    · rw [(pm3.map (·.1)).mem_iff, List.map_append, List.mem_append, cn.cs]
      show _ ↔ z ∈ G.es ++ [e]
      rw [List.mem_append]
      rfl
    · rcases List.mem_append.mp (pmL.mem_iff.mp hx) with hx | hx
      · exact cn.rnd x hx
      · rw [List.mem_singleton.mp hx]
        exact List.nodup_nil
    · show u ∈ x.2.2 ↔ (u ∈ G.us ∧ (G.adj x.1 u && !decide (x.1 = e)) = true)
      rcases List.mem_append.mp (pmL.mem_iff.mp hx) with hx | hx
      · have hne : ¬ x.1 = e := fun z => heL (z ▸ List.mem_map.mpr ⟨x, hx, rfl⟩)
        rw [decide_eq_false hne, cn.row x hx u]
        simp
      · rw [List.mem_singleton.mp hx]
        simp
    · show (G.es ++ [e]).length ≤ 24
      rw [List.length_append]
      exact hl
def spEqAdded (K : Fg) : Sp := fun vs H Q _ => ∃ (c a : Addr) (G : Grf) (e : Str), vs = [.ref c, .ref a] ∧ SqT K H a [.str e] ∧ ContAt H c G ∧ NameOk e ∧ e ∉ G.es ∧ G.es.length + 1 ≤ 24 ∧
  ∀ c' H', Same H H' → ContAt H' c' (G.addE e) → Q (.ref c') H'
theorem ok_equation_added (T : TX w K mg) : Ok P w K mg base 4 d_equation_added ["content", "arguments"] (spEqAdded K) := by
  refine mkOk T ix_equation_added rfl rfl rfl sc_equation_added (fun _ _ _ _ _ _ us hl => match us, hl with | [_, _], _ => rfl) (fun vs H Q E h => ?_) (fun cdv A outer s H vs Q E hr h => ?_)
  · obtain ⟨c, a, G, e, rfl, _⟩ := h
    rfl
  · obtain ⟨c, a, G, e, rfl, ha, hc, hok, he, hl, q⟩ := h
    obtain ⟨f1, G1, b1, k1⟩ := ok_with_equation (P := P) (base := base) T
    refine ⟨_, pss_cons (ps_asg (pv 1) (pg_head rfl (pg_name (i := 2) sc_equation_added.nd rfl (.inl rfl)) (pg_name (i := 3) sc_equation_added.nd rfl (.inl rfl))))
      (pss_one (ps_ret (pe_call G1 hr (by rfl) T.g_with_equation k1 b1 .nil pass0 (pa_cons (pv 0) (pa_cons (pv 2) (pa_cons pe_int (pa_cons
        (pe_lc (own := [("unknown", 4)]) (g := gName 4) (tt := tYes) (by rfl) sc_equation_added.nd (pi_list (pv 3)) (blkOk_by (N := N_equation_added) (sc := defScope s_equation_added) (by decide +kernel))
          (fun _ _ _ _ _ => pg_name (i := 4) sc_equation_added.nd rfl (Or.inl rfl)) (fun _ _ _ _ _ => pts_nil) (fun _ _ _ _ _ => pe_tup (pa_cons (pv 4) (pa_cons pe_int pa_nil)))) pa_nil))))))), ?_⟩
    refine ⟨_, rfl, a, .str e, rfl, ha, fun l nl => ?_⟩
    have s1 := same_new nl (o := .lst [])
    refine ⟨_, rfl, _, rfl, _, rfl, l, rfl, ⟨[], SqL.of upd_same⟩, fun D nD => ?_⟩
    refine lc_pure (walk_list (xs := [])) nD (fun _ => none) (by simp) (fun H2 s5 => s5.seq (SqL.of upd_same)) (fun x H2 R N hx => (nomatch hx)) (fun H2 s5 hD => ?_)
    have s6 := s1.trans s5
    exact ⟨c, D, G, e, rfl, hD, hc.same s6, hok, he, hl, fun c' H' s7 hc' => q c' H' (s6.trans s7) hc'⟩
end
end Bo

/-! B3 -/
set_option Elab.async false
set_option linter.all false
set_option maxRecDepth 100000
set_option maxHeartbeats 1000000
/-! Comprehensions over the keys of a dict of text keys. -/
namespace Bo
open PySem PySem.Spec PyProof.Rows L2
theorem lock_back {H H' : Hp} {d : Addr} {od : Obj} {u : HO} (hd : H d = some u) (s : Same (upd H d (.frz od u)) H') : H' d = some (.frz od u) ∧ Same H (upd H' d u) := by
  refine ⟨s _ _ upd_same, fun b o e => ?_⟩
  by_cases hb : b = d
  · subst hb
    rw [upd_same, ← e, hd]
  · rw [upd_ne hb]
    exact s _ _ (by rw [upd_ne hb]; exact e)
/-- while d is locked: the rest stands -/
theorem lock_at {H : Hp} {d b : Addr} {od : Obj} {u o : HO} (h : H b = some o) (hb : b ≠ d) : upd H d (.frz od u) b = some o := by
  rw [upd_ne hb]
  exact h
theorem keys_at {D : List (Str × V)} {i : Nat} {k : Key} {v : V} (h : (tk D)[i]? = some (k, v)) : (txs (D.map (·.1)))[i]? = some (kV k) := by
  unfold tk at h
  unfold txs
  rw [List.getElem?_map] at h
  rw [List.map_map, List.getElem?_map]
  cases q : D[i]? with
  | none =>
    rw [q] at h
    cases h
  | some p =>
    rw [q] at h
    obtain ⟨rfl, rfl⟩ := Prod.mk.inj (Option.some.inj h)
    rfl
theorem walk_tk {d : Addr} {o : Obj} {D : List (Str × V)} : Walk (Itk d o (tk D)) (txs (D.map (·.1))).length (fun H => H d = some (.frz o (.dK (tk D)))) (YAt (txs (D.map (·.1)))) := by
  have e : (txs (D.map (·.1))).length = (tk D).length := by rw [txs_len, List.length_map, tk_len]
  rw [e]
  refine walk_keys.mono (fun _ h => h) fun i H x H' _ _ y => ?_
  obtain ⟨e1, k, v, h1, rfl⟩ := y
  exact ⟨e1, keys_at h1⟩
section
variable {td te tv : TE} {g : TG} {tt : TT} {vs : List Nat} {σ : L2.St} {H : Hp} {d : Addr} {D : List (Str × V)} {Q : VK}
theorem lc_keys (hd : DictAt H d D) (hz : D.length ≤ 1000) (ht : ∀ od R, R (.ref d) (upd H d (.frz od (.dK (tk D)))) → td σ (upd H d (.frz od (.dK (tk D)))) R) (sel : Str → Option V)
    (hs : ∀ od k H2 (R : V → Hp → Prop) (N : Hp → Prop), k ∈ D.map (·.1) → Same (upd H d (.frz od (.dK (tk D)))) H2 → (match sel k with | some y => R y H2 | none => N H2) →
      g (.str k) (wipe σ vs) H2 fun σ2 H3 => wipe σ2 vs = wipe σ vs ∧ tt σ2 H3 fun b H4 => if b = true then te σ2 H4 R else N H4)
    (hq : ∀ p H', Same H H' → H p = none → H' p = some (.lst ((D.map (·.1)).filterMap sel)) → Q (.ref p) H') : tLockE (tLc (iKeys td) g tt te vs) σ H Q := by
  refine ⟨d, _, hd, True.intro, fun od => ?_⟩
  refine ht od _ ⟨d, od, rfl, .inl ⟨tk D, upd_same, fun p np => ?_⟩⟩
  have pd : p ≠ d := fun e => by rw [e, upd_same] at np; cases np
  have np' : H p = none := by rwa [upd_ne pd] at np
  refine lc_pure walk_tk np (fun v => match v with | .str k => sel k | _ => none) (by rw [txs_len, List.length_map]; exact hz) (fun H2 s => s _ _ upd_same) (fun x H2 R N hx s2 hh => ?_) (fun H2 s2 hD => ?_)
  · obtain ⟨k, hk, rfl⟩ := List.mem_map.mp hx
    exact hs od k H2 R N hk s2 hh
  · obtain ⟨h1, h2⟩ := lock_back hd s2
    refine ⟨h1, hq p _ h2 np' ?_⟩
    rw [upd_ne pd, hD, fm_txs]
theorem dc_keys (hd : DictAt H d D) (hz : D.length ≤ 1000) (ht : ∀ od R, R (.ref d) (upd H d (.frz od (.dK (tk D)))) → td σ (upd H d (.frz od (.dK (tk D)))) R) (sel : Str → Option V)
    (hs : ∀ od k H2 (R : V → V → Hp → Prop) (N : Hp → Prop), k ∈ D.map (·.1) → Same (upd H d (.frz od (.dK (tk D)))) H2 → (match sel k with | some y => R (.str k) y H2 | none => N H2) →
      g (.str k) (wipe σ vs) H2 fun σ2 H3 => wipe σ2 vs = wipe σ vs ∧ tt σ2 H3 fun b H4 => if b = true then te σ2 H4 fun y H5 => tv σ2 H5 fun z H6 => R y z H6 else N H4)
    (nd : (D.map (·.1)).Nodup)
    (hq : ∀ p H', Same H H' → H p = none → DictAt H' p ((D.map (·.1)).filterMap fun k => (sel k).map fun y => (k, y)) → Q (.ref p) H') : tLockE (tDc (iKeys td) g tt te tv vs) σ H Q := by
  refine ⟨d, _, hd, True.intro, fun od => ?_⟩
  refine ht od _ ⟨d, od, rfl, .inl ⟨tk D, upd_same, fun p np => ?_⟩⟩
  have pd : p ≠ d := fun e => by rw [e, upd_same] at np; cases np
  have np' : H p = none := by rwa [upd_ne pd] at np
  refine dc_pure walk_tk np (fun v => match v with | .str k => (sel k).map fun y => (k, y) | _ => none) (by rw [txs_len, List.length_map]; exact hz) (fun H2 s => s _ _ upd_same) (fun x H2 R N hx s2 hh => ?_) (fun H2 s2 hD => ?_)
  · obtain ⟨k, hk, rfl⟩ := List.mem_map.mp hx
    refine hs od k H2 R N hk s2 ?_
    cases e : sel k with
    | none =>
      simp only [e, Option.map_none] at hh
      exact hh
    | some y =>
      simp only [e, Option.map_some] at hh
      exact hh
  · obtain ⟨h1, h2⟩ := lock_back hd s2
    refine ⟨h1, hq p _ h2 np' ?_⟩
    unfold DictAt at hD ⊢
    rw [upd_ne pd, hD, fm_txs]
    have e : (((D.map (·.1)).filterMap fun k => (sel k).map fun y => (k, y)).map (·.1)).Nodup := by
      rw [List.map_filterMap]
      refine (nd.sublist ?_)
      have : ∀ l : List Str, (l.filterMap fun x => Option.map (fun x => x.1) (Option.map (fun y => (x, y)) (sel x))).Sublist l := by
        intro l
        induction l with
        | nil => exact List.Sublist.refl _
        | cons a l ih =>
          rw [List.filterMap_cons]
          cases sel a with
          | none => exact ih.cons _
          | some y => exact ih.cons₂ _
      exact this _
    have e2 := mk_nd e
    exact congrArg (fun z => some (HO.dK (tk z))) e2
end
end Bo

/-! B4 -/
set_option Elab.async false
set_option linter.all false
set_option maxRecDepth 100000
set_option maxHeartbeats 1000000
/-! Dict comprehensions whose values are new things, each made of a list of texts. -/
namespace Bo
open PySem PySem.Spec PyProof.Rows L2
/-- the things at the rows' places, all new since H1 -/
def NewRows (mkO : List Str → HO) (Obs : Str → List Str → Prop) (H1 : Hp) (ex : List Addr) (H : Hp) (L : List Row) : Prop := ∀ q ∈ L, H1 q.2.1 = none ∧ q.2.1 ∉ ex ∧ H q.2.1 = some (mkO q.2.2) ∧ Obs q.1 q.2.2
section
variable {J : It} {xs : List V} {G : Hp → Prop}
theorem dc_objs (w : Walk J xs.length G (YAt xs)) {g : TG} {tt : TT} {tk' tv : TE} {vs : List Nat} {σ : L2.St} {H1 : Hp} {D : Addr} {Qd : Hp → Prop} (hD : H1 D = none) (sel : V → Option Str) (mkO : List Str → HO) (Obs : Str → List Str → Prop) (hz : xs.length ≤ 1000) (nd : (xs.filterMap sel).Nodup)
    (hG : ∀ H, Same H1 H → G H)
    (hs : ∀ x H (R : V → V → Hp → Prop) (N : Hp → Prop), x ∈ xs → Same H1 H → (match sel x with | some k => ∀ a l H', Same H H' → H a = none → H' a = some (mkO l) → Obs k l → R (.str k) (.ref a) H' | none => N H) →
      g x (wipe σ vs) H fun σ2 H2 => wipe σ2 vs = wipe σ vs ∧ tt σ2 H2 fun b H3 => if b = true then tk' σ2 H3 fun y H4 => tv σ2 H4 fun z H5 => R y z H5 else N H3)
    (hd : ∀ H L, Same H1 H → L.map (·.1) = xs.filterMap sel → DictAt H D (refs L) → NewRows mkO Obs H1 [D] H L → Qd H) :
    ∃ W : Nat → Nat → Hp → Prop, (∃ m, W 0 m (upd H1 D (.dK []))) ∧ ∀ i m H, W i m H →
      (J.stop i H ∧ Qd H) ∨ (J.go i H ∧ ∃ Nx : Hp → Prop, (∀ H', Nx H' → ∃ m', m' < m ∧ W (i + 1) m' H') ∧ ∀ x H', J.yld i H x H' → g x (wipe σ vs) H' fun σ2 H2 => wipe σ2 vs = wipe σ vs ∧ tt σ2 H2 fun b H3 =>
        if b = true then tk' σ2 H3 fun y H4 => tv σ2 H4 fun z H5 => ∃ kvs k, y = kV k ∧ H5 D = some (.dK kvs) ∧ kvs.length < sizeLine ∧ Nx (upd H5 D (.dK (putK kvs k z))) else Nx H3) := by
  refine dc_it w (fun i H => Same H1 H ∧ ∃ L : List Row, L.map (·.1) = (xs.take i).filterMap sel ∧ DictAt H D (refs L) ∧ NewRows mkO Obs H1 [D] H L) ⟨same_new hD, [], by simp, by unfold DictAt; rw [upd_same]; rfl, fun _ h => (nomatch h)⟩
    (fun i H _ p => hG H p.1) (fun i x H H' hi p y => ?_) (fun H p => by
      obtain ⟨p1, L, p2, p3, p4⟩ := p
      exact hd H L p1 (by rw [p2, List.take_length]) p3 p4)
  obtain ⟨p1, L, p2, p3, p4⟩ := p
  obtain ⟨rfl, hx⟩ := y
  refine hs x H' _ _ (List.mem_of_getElem? hx) p1 ?_
  · cases e : sel x with
    | some k =>
      intro a l H5 s5 na ha hO
      have hlen : L.length ≤ 1000 := by
        have := congrArg List.length p2
        rw [List.length_map] at this
        rw [this]
        exact Nat.le_trans (List.length_filterMap_le ..) (Nat.le_trans (by rw [List.length_take]; exact Nat.min_le_right ..) hz)
      have hnew : k ∉ (refs L).map (·.1) := by
        rw [refs_keys, p2]
        intro hm
        have sub : ((xs.take i).filterMap sel ++ [k]).Sublist (xs.filterMap sel) := by
          have := take_filterMap sel hx
          rw [e] at this
          have h2 : ((xs.take (i + 1)).filterMap sel).Sublist (xs.filterMap sel) := (List.take_sublist _ _).filterMap sel
          rw [this] at h2
          exact h2
        have := List.Nodup.sublist sub nd
        rw [List.nodup_append] at this
        exact this.2.2 _ hm _ (by simp) rfl
      have hDa : H' D = some (.dK (tk (refs L))) := p3
      have aD : a ≠ D := fun z => by rw [z, hDa] at na; cases na
      refine ⟨tk (refs L), Sum.inr k, rfl, s5 _ _ p3, ?_, fun b o q => ?_, L ++ [(k, a, l)], ?_, ?_, ?_⟩
      · rw [tk_len]
        unfold refs
        rw [List.length_map]
        exact small1000 hlen
      · rw [upd_ne (ne_of_none q hD)]
        exact s5 _ _ (p1 b o q)
      · rw [List.map_append, p2, take_filterMap sel hx, e]
        rfl
      · unfold DictAt
        rw [upd_same, tk_put, dput_new _ hnew]
        unfold refs
        rw [List.map_append]
        rfl
      · intro q hq
        rcases List.mem_append.mp hq with hq | hq
        · obtain ⟨q1, q2, q3, q4⟩ := p4 q hq
          exact ⟨q1, q2, by rw [upd_ne (by simpa using q2)]; exact s5 _ _ q3, q4⟩
        · rw [List.mem_singleton.mp hq]
          exact ⟨Same.free p1 na, by simpa using aD, by rw [upd_ne aD]; exact ha, hO⟩
    | none => exact ⟨p1, L, by rw [p2, take_filterMap sel hx, e]; simp, p3, p4⟩
end
section
variable {td te tv : TE} {g : TG} {tt : TT} {vs : List Nat} {σ : L2.St} {H : Hp} {d : Addr} {D : List (Str × V)} {Q : VK}
theorem NewRows.unlock {mkO : List Str → HO} {Obs : Str → List Str → Prop} {H1 H : Hp} {ex : List Addr} {L : List Row} {d : Addr} {o u : HO} (h : NewRows mkO Obs H1 ex H L) (hd : H1 d = some o) : NewRows mkO Obs H1 ex (upd H d u) L := fun q hq => by
  obtain ⟨h1, h2, h3, h4⟩ := h q hq
  exact ⟨h1, h2, by rw [upd_ne (fun z => by rw [z, hd] at h1; cases h1)]; exact h3, h4⟩
theorem dc_keysO (hd : DictAt H d D) (hz : D.length ≤ 1000) (ht : ∀ od R, R (.ref d) (upd H d (.frz od (.dK (tk D)))) → td σ (upd H d (.frz od (.dK (tk D)))) R) (mkO : List Str → HO) (Obs : Str → List Str → Prop)
    (hs : ∀ od k H2 (R : V → V → Hp → Prop) (N : Hp → Prop), k ∈ D.map (·.1) → Same (upd H d (.frz od (.dK (tk D)))) H2 → (∀ a l H', Same H2 H' → H2 a = none → H' a = some (mkO l) → Obs k l → R (.str k) (.ref a) H') →
      g (.str k) (wipe σ vs) H2 fun σ2 H3 => wipe σ2 vs = wipe σ vs ∧ tt σ2 H3 fun b H4 => if b = true then te σ2 H4 fun y H5 => tv σ2 H5 fun z H6 => R y z H6 else N H4)
    (nd : (D.map (·.1)).Nodup)
    (hq : ∀ p L H', Same H H' → H p = none → L.map (·.1) = D.map (·.1) → DictAt H' p (refs L) → NewRows mkO Obs H [p] H' L → Q (.ref p) H') : tLockE (tDc (iKeys td) g tt te tv vs) σ H Q := by
  refine ⟨d, _, hd, True.intro, fun od => ?_⟩
  refine ht od _ ⟨d, od, rfl, .inl ⟨tk D, upd_same, fun p np => ?_⟩⟩
  have pd : p ≠ d := fun e => by rw [e, upd_same] at np; cases np
  have np' : H p = none := by rwa [upd_ne pd] at np
  have ef : (txs (D.map (·.1))).filterMap (fun v => match v with | .str k => some k | _ => none) = D.map (·.1) := by
    rw [fm_txs]
    exact List.filterMap_some ..
  refine dc_objs walk_tk np (fun v => match v with | .str k => some k | _ => none) mkO Obs (by rw [txs_len, List.length_map]; exact hz) (by rw [ef]; exact nd) (fun H2 s => s _ _ upd_same) (fun x H2 R N hx s2 hh => ?_) (fun H2 L s2 hL hD hN => ?_)
  · obtain ⟨k, hk, rfl⟩ := List.mem_map.mp hx
    exact hs od k H2 R N hk s2 hh
  · obtain ⟨h1, h2⟩ := lock_back hd s2
    have hN2 : NewRows mkO Obs H [p] (upd H2 d (.dK (tk D))) L := fun q hq => by
      obtain ⟨q1, q2, q3, q4⟩ := hN q hq
      have qd : q.2.1 ≠ d := fun z => by rw [z, upd_same] at q1; cases q1
      rw [upd_ne qd] at q1
      exact ⟨q1, q2, by rw [upd_ne qd]; exact q3, q4⟩
    refine ⟨h1, hq p L _ h2 np' (hL.trans ef) ?_ hN2⟩
    unfold DictAt at hD ⊢
    rw [upd_ne pd]
    exact hD
end
end Bo

/-! B5 -/
set_option Elab.async false
set_option linter.all false
set_option maxRecDepth 100000
set_option maxHeartbeats 1000000
namespace Bo
open PySem PySem.Spec PyProof.Rows L2
/-- a tuple outlasts a lock on a dict -/
theorem SqT.lock {K : Fg} {H : Hp} {a d : Addr} {xs : List V} {kvs : List (Key × V)} {od : Obj} (h : SqT K H a xs) (hd : H d = some (.dK kvs)) : SqT K (upd H d (.frz od (.dK kvs))) a xs := by
  rcases h with (h | ⟨o, h⟩) | h
  · exact .inl (.inl (lock_at h fun e => by rw [e, hd] at h; cases h))
  · exact .inl (.inr ⟨o, lock_at h fun e => by rw [e, hd] at h; cases h⟩)
  · exact .inr h
theorem SqL.lock {K : Fg} {H : Hp} {a d : Addr} {xs : List V} {kvs : List (Key × V)} {od : Obj} (h : SqL K H a xs) (hd : H d = some (.dK kvs)) : SqL K (upd H d (.frz od (.dK kvs))) a xs := by
  rcases h with (h | ⟨o, h⟩) | h
  · exact .inl (.inl (lock_at h fun e => by rw [e, hd] at h; cases h))
  · exact .inl (.inr ⟨o, lock_at h fun e => by rw [e, hd] at h; cases h⟩)
  · exact .inr h
theorem DictR.lock {H : Hp} {a d : Addr} {D : List (Str × V)} {kvs : List (Key × V)} {od : Obj} (h : DictR H a D) (hd : H d = some (.dK kvs)) : DictR (upd H d (.frz od (.dK kvs))) a D := by
  by_cases e : a = d
  · subst e
    rcases h with h | ⟨o, h⟩
    · rw [hd] at h
      cases h
      exact .inr ⟨od, upd_same⟩
    · rw [hd] at h
      cases h
  · rcases h with h | ⟨o, h⟩
    · exact .inl (lock_at h e)
    · exact .inr ⟨o, lock_at h e⟩
theorem pgn {X : Cx} {i : Nat} {x : Str} {pos : Pos} (hN : X.N.Nodup) (hi : X.N[i]? = some x := by rfl) (hx : Loc X.env.scope x := by first | exact .inl rfl | exact .inr rfl)
    (hf : X.fn x = true ∨ X.env.scope.names.lookup x = some .local := by first | exact .inl rfl | exact .inr rfl) : PG X (.Name x pos) (gName i) := pg_name hN hi hx hf
theorem pset {X : Cx} {i : Nat} {x : Str} {e : Expr} {te : TE} {pos pos' : Pos} (hN : X.N.Nodup) (he : PE X e te) (hi : X.N[i]? = some x := by rfl) (hx : Loc X.env.scope x := by first | exact .inl rfl | exact .inr rfl)
    (hs : swapsWith e (some (.Name x pos')) pos.line X.env = pure false := by rfl) (hf : X.fn x = true ∨ X.env.scope.names.lookup x = some .local := by first | exact .inl rfl | exact .inr rfl) : PS X (.Assign [.Name x pos'] e pos) (tAsg te (gName i)) := ps_set hN hi hx he hs hf
section
variable {td te tv : TE} {g : TG} {tt : TT} {vs : List Nat} {σ : L2.St} {H : Hp} {d : Addr} {D : List (Str × V)} {Q : VK}
/-- x = [.. for k in d ..] on one line -/
theorem ls_keys {i : Nat} {Dn : Ends} (hd : DictAt H d D) (hz : D.length ≤ 1000) (ht : ∀ od R, R (.ref d) (upd H d (.frz od (.dK (tk D)))) → td σ (upd H d (.frz od (.dK (tk D)))) R) (sel : Str → Option V)
    (hs : ∀ od k H2 (R : V → Hp → Prop) (N : Hp → Prop), k ∈ D.map (·.1) → Same (upd H d (.frz od (.dK (tk D)))) H2 → (match sel k with | some y => R y H2 | none => N H2) →
      g (.str k) (wipe σ vs) H2 fun σ2 H3 => wipe σ2 vs = wipe σ vs ∧ tt σ2 H3 fun b H4 => if b = true then te σ2 H4 R else N H4)
    (hq : ∀ p H', Same H H' → H p = none → H' p = some (.lst ((D.map (·.1)).filterMap sel)) → Dn.nx (σ.set i (some (.ref p))) H') : tLock (tAsg (tLc (iKeys td) g tt te vs) (gName i)) Dn σ H := by
  refine ⟨d, _, hd, True.intro, fun od => ?_⟩
  refine ht od _ ⟨d, od, rfl, .inl ⟨tk D, upd_same, fun p np => ?_⟩⟩
  have pd : p ≠ d := fun e => by rw [e, upd_same] at np; cases np
  have np' : H p = none := by rwa [upd_ne pd] at np
  refine lc_pure walk_tk np (fun v => match v with | .str k => sel k | _ => none) (by rw [txs_len, List.length_map]; exact hz) (fun H2 s => s _ _ upd_same) (fun x H2 R N hx s2 hh => ?_) (fun H2 s2 hD => ?_)
  · obtain ⟨k, hk, rfl⟩ := List.mem_map.mp hx
    exact hs od k H2 R N hk s2 hh
  · obtain ⟨h1, h2⟩ := lock_back hd s2
    refine ⟨h1, hq p _ h2 np' ?_⟩
    rw [upd_ne pd, hD, fm_txs]
/-- over a tuple or list of texts that stands: [.. for k in xs ..] -/
theorem lc_txs {K : Fg} {a : Addr} {xs : List Str} (h : SqT K H a (txs xs)) (hz : xs.length ≤ 1000) (ht : ∀ R, R (.ref a) H → td σ H R) (sel : Str → Option V)
    (hs : ∀ k H2 (R : V → Hp → Prop) (N : Hp → Prop), k ∈ xs → Same H H2 → (match sel k with | some y => R y H2 | none => N H2) →
      g (.str k) (wipe σ vs) H2 fun σ2 H3 => wipe σ2 vs = wipe σ vs ∧ tt σ2 H3 fun b H4 => if b = true then te σ2 H4 R else N H4)
    (hq : ∀ p H', Same H H' → H p = none → H' p = some (.lst (xs.filterMap sel)) → Q (.ref p) H') : tLc (iTup K td) g tt te vs σ H Q := by
  refine ht _ ⟨a, rfl, ⟨_, h⟩, fun p np => ?_⟩
  refine lc_pure (walk_tup (xs := txs xs)) np (fun v => match v with | .str k => sel k | _ => none) (by rw [txs_len]; exact hz) (fun H2 s => Same.tup s h) (fun x H2 R N hx s2 hh => ?_) (fun H2 s2 hD => ?_)
  · obtain ⟨k, hk, rfl⟩ := List.mem_map.mp hx
    exact hs k H2 R N hk s2 hh
  · exact hq p _ s2 np (by rw [hD, fm_txs])
theorem lc_lst {K : Fg} {a : Addr} {xs : List Str} (h : SqL K H a (txs xs)) (hz : xs.length ≤ 1000) (ht : ∀ R, R (.ref a) H → td σ H R) (sel : Str → Option V)
    (hs : ∀ k H2 (R : V → Hp → Prop) (N : Hp → Prop), k ∈ xs → Same H H2 → (match sel k with | some y => R y H2 | none => N H2) →
      g (.str k) (wipe σ vs) H2 fun σ2 H3 => wipe σ2 vs = wipe σ vs ∧ tt σ2 H3 fun b H4 => if b = true then te σ2 H4 R else N H4)
    (hq : ∀ p H', Same H H' → H p = none → H' p = some (.lst (xs.filterMap sel)) → Q (.ref p) H') : tLc (iList K td) g tt te vs σ H Q := by
  refine ht _ ⟨a, rfl, ⟨_, h⟩, fun p np => ?_⟩
  refine lc_pure (walk_list (xs := txs xs)) np (fun v => match v with | .str k => sel k | _ => none) (by rw [txs_len]; exact hz) (fun H2 s => s.seq h) (fun x H2 R N hx s2 hh => ?_) (fun H2 s2 hD => ?_)
  · obtain ⟨k, hk, rfl⟩ := List.mem_map.mp hx
    exact hs k H2 R N hk s2 hh
  · exact hq p _ s2 np (by rw [hD, fm_txs])
/-- {.. for k in xs ..}, xs a list of texts -/
theorem dc_lst {K : Fg} {a : Addr} {xs : List Str} (h : SqL K H a (txs xs)) (hz : xs.length ≤ 1000) (ht : ∀ R, R (.ref a) H → td σ H R) (sel : Str → Option (Str × V))
    (hs : ∀ k H2 (R : V → V → Hp → Prop) (N : Hp → Prop), k ∈ xs → Same H H2 → (match sel k with | some y => R (.str y.1) y.2 H2 | none => N H2) →
      g (.str k) (wipe σ vs) H2 fun σ2 H3 => wipe σ2 vs = wipe σ vs ∧ tt σ2 H3 fun b H4 => if b = true then te σ2 H4 fun y H5 => tv σ2 H5 fun z H6 => R y z H6 else N H4)
    (hq : ∀ p H', Same H H' → H p = none → DictAt H' p (mk (xs.filterMap sel)) → Q (.ref p) H') : tDc (iList K td) g tt te tv vs σ H Q := by
  refine ht _ ⟨a, rfl, ⟨_, h⟩, fun p np => ?_⟩
  refine dc_pure (walk_list (xs := txs xs)) np (fun v => match v with | .str k => sel k | _ => none) (by rw [txs_len]; exact hz) (fun H2 s => s.seq h) (fun x H2 R N hx s2 hh => ?_) (fun H2 s2 hD => ?_)
  · obtain ⟨k, hk, rfl⟩ := List.mem_map.mp hx
    exact hs k H2 R N hk s2 hh
  · exact hq p _ s2 np (by rwa [fm_txs] at hD)
end
end Bo

/-! E8 -/
set_option Elab.async false
set_option linter.all false
set_option maxRecDepth 100000
set_option maxHeartbeats 1000000
namespace Bo
open PySem PySem.Spec PyProof.Rows L2
def Grf.remE (G : Grf) (x : Str) : Grf := { G with es := G.es.filter fun e => !decide (e = x) }
def Grf.remU (G : Grf) (x : Str) : Grf := { G with us := G.us.filter fun u => !decide (u = x) }
theorem fm_if {α : Type} (p : Str → Bool) (f : Str → α) (l : List Str) : l.filterMap (fun k => if p k = true then some (f k) else none) = (l.filter p).map f := by
  induction l with
  | nil => rfl
  | cons a l ih =>
    rw [List.filterMap_cons, List.filter_cons]
    cases p a with
    | true => simp only [if_true, List.map_cons, ih]
    | false => simpa using ih
theorem refs_filter (L : List Row) (p : Str → Bool) : ((L.map (·.1)).filter p).filterMap (fun k => (dget (refs L) k).map fun v => (k, v)) = ((L.map (·.1)).filter p).filterMap (fun k => (dget (refs L) k).map fun v => (k, v)) := rfl
/-- the pairs with the keys in keep, in order -/
theorem pick_dict {β : Type} {D : List (Str × β)} (nd : (D.map (·.1)).Nodup) (p : Str → Bool) : ((D.map (·.1)).filter p).filterMap (fun k => (dget D k).map fun v => (k, v)) = D.filter fun q => p q.1 := by
  have h : ∀ (L : List (Str × β)), (∀ q ∈ L, dget D q.1 = some q.2) → ((L.map (·.1)).filter p).filterMap (fun k => (dget D k).map fun v => (k, v)) = L.filter fun q => p q.1 := by
    intro L
    induction L with
    | nil => intro _; rfl
    | cons q L ih =>
      intro hL
      have ih' := ih fun z hz => hL z (List.mem_cons_of_mem _ hz)
      rw [List.map_cons, List.filter_cons, List.filter_cons]
      cases p q.1 with
      | true =>
        simp only [if_true]
        rw [List.filterMap_cons, hL q List.mem_cons_self]
        simp only [Option.map_some]
        rw [ih']
      | false => simpa using ih'
  exact h D fun q hq => dget_of_mem nd hq
theorem pick_some {β : Type} {D : List (Str × β)} : ∀ {ks : List Str}, (∀ k ∈ ks, k ∈ D.map (·.1)) → ∃ C : List (Str × β), (ks.filterMap fun k => (dget D k).map fun v => (k, v)) = C ∧ C.map (·.1) = ks
  | [], _ => ⟨[], rfl, rfl⟩
  | k :: ks, h => by
    obtain ⟨v, hv⟩ := Option.isSome_iff_exists.mp (dget_isSome.mpr (h k List.mem_cons_self))
    obtain ⟨C, e1, e2⟩ := pick_some (ks := ks) fun z hz => h z (List.mem_cons_of_mem _ hz)
    refine ⟨(k, v) :: C, ?_, by rw [List.map_cons, e2]⟩
    rw [List.filterMap_cons, hv]
    simp only [Option.map_some]
    rw [e1]
theorem keys_filter {β : Type} (D : List (Str × β)) (p : Str → Bool) : (D.filter fun q => p q.1).map (·.1) = (D.map (·.1)).filter p := by
  rw [List.filter_map]
  rfl
theorem refs_fil (L : List Row) (p : Str → Bool) : (refs L).filter (fun q => p q.1) = refs (L.filter fun q => p q.1) := by
  unfold refs
  rw [List.filter_map]
  rfl
section
variable {P : Program} {w : World} {K : Fg} {mg : Str → Option Value} {base : Heap}
def spEqRemoved (K : Fg) : Sp := fun vs H Q _ => ∃ (c a : Addr) (G : Grf) (e : Str), vs = [.ref c, .ref a] ∧ SqT K H a [.str e] ∧ ContAt H c G ∧ e ∈ G.es ∧
  ∀ c' H', Same H H' → ContAt H' c' (G.remE e) → Q (.ref c') H'
theorem ok_equation_removed (T : TX w K mg) : Ok P w K mg base 2 d_equation_removed ["content", "arguments"] (spEqRemoved K) := by
  refine mkOk T ix_equation_removed rfl rfl rfl sc_equation_removed (fun _ _ _ _ _ _ us hl => match us, hl with | [_, _], _ => rfl) (fun vs H Q E h => ?_) (fun cdv A outer s H vs Q E hr h => ?_)
  · obtain ⟨c, a, G, e, rfl, _⟩ := h
    rfl
  · obtain ⟨c, a, G, e, rfl, ha, hc, he, q⟩ := h
    have hu := hu_of hr
    obtain ⟨f1, G1, b1, k1⟩ := ok_need_item (P := P) (base := base) T
    obtain ⟨cols, rows, consts, U, L, C, h1, h2, h3, h4, cn⟩ := id hc.ex
    refine ⟨_, pss_cons (ps_asg (pv 0) (pg_tup rfl (pgs_cons (pgn (i := 2) sc_equation_removed.nd) (pgs_cons (pgn (i := 3) sc_equation_removed.nd) (pgs_cons (pgn (i := 4) sc_equation_removed.nd) pgs_nil)))))
      (pss_cons (ps_expr (pe_call G1 hr (by rfl) T.g_need_item k1 b1 .nil pass0 (pa_cons pe_str (pa_cons (pe_ix ix_tup (pv 1) pe_int (fun _ _ => rfl)) (pa_cons (pv 3) pa_nil)))))
      (pss_cons (ps_lock (ps_setLc (i := 5) (own := [("name", 6)]) (g := gName 6) (by rfl) sc_equation_removed.nd rfl rfl (by rfl) (pi_keys (pv 3)) (blkOk_by (N := N_equation_removed) (sc := defScope s_equation_removed) (by decide +kernel))
          (fun _ _ _ _ _ => pgn (i := 6) sc_equation_removed.nd) (fun _ _ _ _ _ => pts_one (pt_cmpR op_ne (pv 6) (pe_ix (r := rIxT K) ix_tup (pv 1) pe_int (fun _ _ => rfl)) rfl)) (fun _ _ _ _ _ => pv 6)))
      (pss_one (ps_ret (pe_tup (pa_cons (pv 2) (pa_cons (pe_dc (own := [("name", 6)]) (g := gName 6) (tt := tYes) (by rfl) sc_equation_removed.nd (pi_list (pv 5)) (blkOk_by (N := N_equation_removed) (sc := defScope s_equation_removed) (by decide +kernel))
          (fun _ _ _ _ _ => pgn (i := 6) sc_equation_removed.nd) (fun _ _ _ _ _ => pts_nil) (fun _ _ _ _ _ => pv 6) (fun _ _ _ _ _ => pe_dget hu (pv 3) (pv 6) (fun _ _ => rfl)))
        (pa_cons (pe_dc (own := [("name", 6)]) (g := gName 6) (tt := tYes) (by rfl) sc_equation_removed.nd (pi_list (pv 5)) (blkOk_by (N := N_equation_removed) (sc := defScope s_equation_removed) (by decide +kernel))
          (fun _ _ _ _ _ => pgn (i := 6) sc_equation_removed.nd) (fun _ _ _ _ _ => pts_nil) (fun _ _ _ _ _ => pv 6) (fun _ _ _ _ _ => pe_dget hu (pv 4) (pv 6) (fun _ _ => rfl))) pa_nil)))))))), ?_⟩
    refine ⟨_, rfl, c, _, rfl, SqT.of h1, rfl, _, _, rfl, _, _, rfl, _, _, rfl, rfl, ?_⟩
    refine ⟨_, rfl, a, _, 0, .str e, rfl, rfl, ha, atI_nat (j := 0) rfl, _, rfl, _, _, rows, rfl, .inl ⟨refs L, h3.at_, by rw [refs_keys]; exact (cn.es e).mpr he⟩, ?_⟩
    have hlr : (refs L).length ≤ 24 := by unfold refs; rw [List.length_map]; exact cn.llen
    have ndr : ((refs L).map (·.1)).Nodup := by rw [refs_keys]; exact cn.lnd
    have hcl : C.length ≤ 24 := cn.clen
    refine ls_keys h3.at_ (by omega) (fun od R r => ⟨_, rfl, r⟩) (fun k => if (!decide (k = e)) = true then some (V.str k) else none) (fun od k H2 R N hk s2 hh => ?_) (fun kp H1 s1 nkp hkp => ?_)
    · refine ⟨rfl, _, rfl, _, rfl, a, [.str e], 0, .str e, rfl, rfl, Same.tup s2 (SqT.lock ha h3.at_), atI_nat (j := 0) rfl, rfl, ?_⟩
      by_cases hke : k = e
      · rw [hke]
        rw [hke, decide_eq_true rfl] at hh
        exact ⟨_, rfl, ifNF rfl hh⟩
      · rw [decide_eq_false hke] at hh
        exact ⟨_, rfl, ifNT (fun z => hke (V.str.inj z)) ⟨_, rfl, hh⟩⟩
    · have ek : ((refs L).map (·.1)).filterMap (fun k => if (!decide (k = e)) = true then some (V.str k) else none) = txs ((L.map (·.1)).filter fun k => !decide (k = e)) := by
        rw [fm_if, refs_keys]
        rfl
      rw [ek] at hkp
      have hkl : ((L.map (·.1)).filter fun k => !decide (k = e)).length ≤ 24 := by
        have := List.length_filter_le (fun k => !decide (k = e)) (L.map (·.1))
        rw [List.length_map] at this
        have := cn.llen
        omega
      refine ⟨_, rfl, ?_⟩
      refine dc_lst (SqL.of hkp) (by omega) (fun R r => ⟨_, rfl, r⟩) (fun k => (dget (refs L) k).map fun v => (k, v)) (fun k H2 R N hk s2 hh => ?_) (fun rp H2 s2 nrp hrp => ?_)
      · obtain ⟨v, hv⟩ := Option.isSome_iff_exists.mp (dget_isSome.mpr (by rw [refs_keys]; exact (List.mem_filter.mp hk).1))
        simp only [hv, Option.map_some] at hh
        exact ⟨rfl, _, rfl, _, rfl, _, rfl, rows, v, rfl, hv ▸ ((h3.same s1).same s2).at_.get k, hh⟩
      · refine dc_lst (SqL.of (s2 _ _ hkp)) (by omega) (fun R r => ⟨_, rfl, r⟩) (fun k => (dget C k).map fun v => (k, v)) (fun k H3 R N hk s3 hh => ?_) (fun cp H3 s3 ncp hcp => ?_)
        · obtain ⟨v, hv⟩ := Option.isSome_iff_exists.mp (dget_isSome.mpr ((cn.cs k).mpr ((cn.es k).mp (List.mem_filter.mp hk).1)))
          simp only [hv, Option.map_some] at hh
          exact ⟨rfl, _, rfl, _, rfl, _, rfl, consts, v, rfl, hv ▸ DictAt.get (s3 _ _ (s2 _ _ (s1 _ _ h4))) k, hh⟩
        · refine ⟨small (by show 3 ≤ 1000; decide), fun c' nc' => ?_⟩
          have sf := Same.new ((s1.trans s2).trans s3) nc' (o := .tup [.ref cols, .ref rp, .ref cp])
          have s4 := same_new nc' (o := .tup [.ref cols, .ref rp, .ref cp])
          have er := pick_dict ndr (fun k => !decide (k = e))
          rw [refs_keys, refs_fil L fun k => !decide (k = e)] at er
          have hrp' : DictAt H2 rp (refs (L.filter fun q => !decide (q.1 = e))) := by
            have e1 : ((L.filter fun q => !decide (q.1 = e)).map (·.1)).Nodup := by
              rw [keys_filter L fun k => !decide (k = e)]
              exact cn.lnd.sublist List.filter_sublist
            have := mk_nd (l := refs (L.filter fun q => !decide (q.1 = e))) (by rw [refs_keys]; exact e1)
            rw [er, this] at hrp
            exact hrp
          have nk : ((L.map (·.1)).filter fun k => !decide (k = e)).Nodup := cn.lnd.sublist List.filter_sublist
          obtain ⟨C', hC', kC'⟩ := pick_some (D := C) (ks := (L.map (·.1)).filter fun k => !decide (k = e)) fun k hk => (cn.cs k).mpr ((cn.es k).mp (List.mem_filter.mp hk).1)
          rw [hC', mk_nd (by rw [kC']; exact nk)] at hcp
          refine q c' _ sf ⟨cols, rp, cp, U, L.filter fun q => !decide (q.1 = e), C', upd_same, sf _ _ h2, ⟨s4 _ _ (s3 _ _ hrp'), fun x hx => sf _ _ (h3.row x (List.mem_filter.mp hx).1)⟩, s4 _ _ hcp, ⟨cn.und, cn.us, ?_, fun z => ?_, ?_, fun z => ?_, fun x hx => cn.rnd x (List.mem_filter.mp hx).1, fun x hx u => cn.row x (List.mem_filter.mp hx).1 u, cn.ul, ?_⟩⟩
          · rw [keys_filter L fun k => !decide (k = e)]
            exact cn.lnd.sublist List.filter_sublist
          · rw [keys_filter L fun k => !decide (k = e), List.mem_filter, cn.es]
            show _ ↔ z ∈ G.es.filter fun e' => !decide (e' = e)
            rw [List.mem_filter]
          · rw [kC']
            exact nk
          · rw [kC', List.mem_filter, cn.es]
            show _ ↔ z ∈ G.es.filter fun e' => !decide (e' = e)
            rw [List.mem_filter]
          · exact Nat.le_trans (List.length_filter_le _ _) cn.el
end
end Bo

/-! B6 -/
set_option Elab.async false
set_option linter.all false
set_option maxRecDepth 100000
set_option maxHeartbeats 1000000
namespace Bo
open PySem PySem.Spec PyProof.Rows L2
section
variable {X : Cx}
/-- name = {..} on one line, the name a local -/
theorem ps_setDc {i : Nat} {y : Str} {py : Pos} {kx vx tg iter : Expr} {ifs : List Expr} {scope : Scope} {own : List (Str × Nat)} {pos spos : Pos} {wi : TI} {g : TG} {tt : TT} {tk tv : TE} (hc : X.calm = true) (hN : X.N.Nodup) (hy : X.N[i]? = some y) (hyl : X.env.scope.names.lookup y = some .local)
    (hsw : swapsWith (.DictComp kx vx [⟨tg, iter, ifs, 0⟩] scope pos) (some (.Name y py)) spos.line X.env = pure true) (hi : PI X tg iter wi) (ok : BlkOk X.N X.env.scope scope own)
    (hg : ∀ (s : Shared) (H : Hp) (C : Addr) (cl : List (Str × Addr)) (fp : List Addr), PG (X.blk s H scope (compEnvC scope cl C X.env) fp) tg g) (ht : ∀ (s : Shared) (H : Hp) (C : Addr) (cl : List (Str × Addr)) (fp : List Addr), PTs (X.blk s H scope (compEnvC scope cl C X.env) fp) ifs tt)
    (hk : ∀ (s : Shared) (H : Hp) (C : Addr) (cl : List (Str × Addr)) (fp : List Addr), PE (X.blk s H scope (compEnvC scope cl C X.env) fp) kx tk)
    (he : ∀ (s : Shared) (H : Hp) (C : Addr) (cl : List (Str × Addr)) (fp : List Addr), PE (X.blk s H scope (compEnvC scope cl C X.env) fp) vx tv) (hs : ∀ x, foldedSetIterable iter X.env x = pure x := by intro _; rfl) :
    PS X (.Assign [.Name y py] (.DictComp kx vx [⟨tg, iter, ifs, 0⟩] scope pos) spos) (tAsg (tDc wi g tt tk tv (own.map (·.2))) (gName i)) := by
  refine ⟨fun pins s σ H D I h => ?_⟩
  rw [exec_Assign_Name_used _ _ _ _ hsw]
  refine wpAny_bind (wpAny_standAt (wpAny_bind ?_))
  show wpAny _ X.A (do let _ ← comprehension (.DictComp kx vx [⟨tg, iter, ifs, 0⟩] scope pos) scope X.env (firstIterPos [⟨tg, iter, ifs, 0⟩] pos) newDict false (eval iter X.env) (some (assign (.Name y py) X.env))) _ _ s
  have h : tDc wi g tt tk tv (own.map (·.2)) σ H (fun x H1 => gName i x σ H1 D.nx) := h
  refine wpAny_bind (thn (dc_core (Qf := fun _ s' => SP X pins D .next s') hc hN I hi ok hg ht hk he hs h fun L C s' m H' I' q hn f => ?_) fun _ s' hq => wpAny_pure (wpAny_pure hq))
  show wpAny _ _ (assign (.Name y py) X.env (.ref L)) _ _ _
  refine wpAny_assign_Name (store_ok2 (v := V.ref L) I' hN hy (.inl hyl) rfl (fun s2 I2 ⟨a, sb, ha⟩ => ?_) (.inr hyl))
  obtain ⟨f0, f1, f2, f3, f4, f5⟩ := f
  have haC : C ≠ a := by
    rcases ha with z | z
    · rw [z]; exact f1
    · exact fun e => f4 y a z e.symm
  refine ⟨m, hn.sameBut sb haC, fun h3 sb3 => ?_⟩
  exact ⟨_, H', I2.turned (t' := s2.toks) (fun b o hb e => (sb3.2 b hb).trans e) f0 f1 f3 f4 f5, q⟩
end
section
variable {td te tv : TE} {g : TG} {tt : TT} {vs : List Nat} {σ : L2.St} {H : Hp} {d : Addr} {D : List (Str × V)} {Q : VK}
theorem ds_keysO {i : Nat} {Dn : Ends} (hd : DictAt H d D) (hz : D.length ≤ 1000) (ht : ∀ od R, R (.ref d) (upd H d (.frz od (.dK (tk D)))) → td σ (upd H d (.frz od (.dK (tk D)))) R) (mkO : List Str → HO) (Obs : Str → List Str → Prop)
    (hs : ∀ od k H2 (R : V → V → Hp → Prop) (N : Hp → Prop), k ∈ D.map (·.1) → Same (upd H d (.frz od (.dK (tk D)))) H2 → (∀ a l H', Same H2 H' → H2 a = none → H' a = some (mkO l) → Obs k l → R (.str k) (.ref a) H') →
      g (.str k) (wipe σ vs) H2 fun σ2 H3 => wipe σ2 vs = wipe σ vs ∧ tt σ2 H3 fun b H4 => if b = true then te σ2 H4 fun y H5 => tv σ2 H5 fun z H6 => R y z H6 else N H4)
    (nd : (D.map (·.1)).Nodup)
    (hq : ∀ p L H', Same H H' → H p = none → L.map (·.1) = D.map (·.1) → DictAt H' p (refs L) → NewRows mkO Obs H [p] H' L → Dn.nx (σ.set i (some (.ref p))) H') : tLock (tAsg (tDc (iKeys td) g tt te tv vs) (gName i)) Dn σ H := by
  refine ⟨d, _, hd, True.intro, fun od => ?_⟩
  refine ht od _ ⟨d, od, rfl, .inl ⟨tk D, upd_same, fun p np => ?_⟩⟩
  have pd : p ≠ d := fun e => by rw [e, upd_same] at np; cases np
  have np' : H p = none := by rwa [upd_ne pd] at np
  have ef : (txs (D.map (·.1))).filterMap (fun v => match v with | .str k => some k | _ => none) = D.map (·.1) := by
    rw [fm_txs]
    exact List.filterMap_some ..
  refine dc_objs walk_tk np (fun v => match v with | .str k => some k | _ => none) mkO Obs (by rw [txs_len, List.length_map]; exact hz) (by rw [ef]; exact nd) (fun H2 s => s _ _ upd_same) (fun x H2 R N hx s2 hh => ?_) (fun H2 L s2 hL hD hN => ?_)
  · obtain ⟨k, hk, rfl⟩ := List.mem_map.mp hx
    exact hs od k H2 R N hk s2 hh
  · obtain ⟨h1, h2⟩ := lock_back hd s2
    have hN2 : NewRows mkO Obs H [p] (upd H2 d (.dK (tk D))) L := fun q hq => by
      obtain ⟨q1, q2, q3, q4⟩ := hN q hq
      have qd : q.2.1 ≠ d := fun z => by rw [z, upd_same] at q1; cases q1
      rw [upd_ne qd] at q1
      exact ⟨q1, q2, by rw [upd_ne qd]; exact q3, q4⟩
    refine ⟨h1, hq p L _ h2 np' (hL.trans ef) ?_ hN2⟩
    unfold DictAt at hD ⊢
    rw [upd_ne pd]
    exact hD
end
end Bo

/-! E9 -/
set_option Elab.async false
set_option linter.all false
set_option maxRecDepth 100000
set_option maxHeartbeats 1000000
namespace Bo
open PySem PySem.Spec PyProof.Rows L2
theorem ones_fm (l : List Str) (p : Str → Bool) : (l.filterMap fun k => (if p k = true then some (V.int 1) else none).map fun y => (k, y)) = ones (l.filter p) := by
  induction l with
  | nil => rfl
  | cons a l ih =>
    rw [List.filterMap_cons, List.filter_cons, ih]
    cases p a with
    | true => rfl
    | false => rfl
theorem ones_get {l : List Str} {u : Str} (h : u ∈ l) : dget (ones l) u = some (.int 1) := by
  induction l with
  | nil => cases h
  | cons a l ih =>
    show dget ((a, V.int 1) :: ones l) u = _
    rw [dget_cons]
    by_cases e : a = u
    · rw [if_pos e]
    · rw [if_neg e]
      rcases List.mem_cons.mp h with h | h
      · exact absurd h.symm e
      · exact ih h
theorem refs_ne_ones {L : List Row} {p : Row} (hp : p ∈ L) (l : List Str) : tk (ones l) ≠ tk (refs L) := by
  intro e
  have : (Sum.inr p.1, V.ref p.2.1) ∈ tk (refs L) := List.mem_map.mpr ⟨(p.1, V.ref p.2.1), List.mem_map.mpr ⟨p, hp, rfl⟩, rfl⟩
  rw [← e] at this
  obtain ⟨q, hq, e2⟩ := List.mem_map.mp this
  obtain ⟨u, _, rfl⟩ := List.mem_map.mp hq
  cases e2
section
variable {P : Program} {w : World} {K : Fg} {mg : Str → Option Value} {base : Heap}
def spUnkRemoved (K : Fg) : Sp := fun vs H Q _ => ∃ (c a : Addr) (G : Grf) (x : Str), vs = [.ref c, .ref a] ∧ SqT K H a [.str x] ∧ ContAt H c G ∧ x ∈ G.us ∧
  ∀ c' H', Same H H' → ContAt H' c' (G.remU x) → Q (.ref c') H'
theorem ok_unknown_removed (T : TX w K mg) : Ok P w K mg base 2 d_unknown_removed ["content", "arguments"] (spUnkRemoved K) := by
  refine mkOk T ix_unknown_removed rfl rfl rfl sc_unknown_removed (fun _ _ _ _ _ _ us hl => match us, hl with | [_, _], _ => rfl) (fun vs H Q E h => ?_) (fun cdv A outer s H vs Q E hr h => ?_)
  · obtain ⟨c, a, G, e, rfl, _⟩ := h
    rfl
  · obtain ⟨c, a, G, x, rfl, ha, hc, hx, q⟩ := h
    have hu := hu_of hr
    obtain ⟨f1, G1, b1, k1⟩ := ok_need_item (P := P) (base := base) T
    obtain ⟨cols, rows, consts, U, L, C, h1, h2, h3, h4, cn⟩ := id hc.ex
    refine ⟨_, pss_cons (ps_asg (pv 0) (pg_tup rfl (pgs_cons (pgn (i := 2) sc_unknown_removed.nd) (pgs_cons (pgn (i := 3) sc_unknown_removed.nd) (pgs_cons (pgn (i := 4) sc_unknown_removed.nd) pgs_nil)))))
      (pss_cons (ps_expr (pe_call G1 hr (by rfl) T.g_need_item k1 b1 .nil pass0 (pa_cons pe_str (pa_cons (pe_ix ix_tup (pv 1) pe_int (fun _ _ => rfl)) (pa_cons (pv 2) pa_nil)))))
      (pss_cons (pset (i := 5) sc_unknown_removed.nd (pe_callTy call_tuple_of (by rfl) T.f_tuple PyProof.Rows.boot_tuple (pa_cons
          (pe_lc (own := [("name", 8)]) (g := gName 8) (by rfl) sc_unknown_removed.nd (pi_tup (pv 2)) (blkOk_by (N := N_unknown_removed) (sc := defScope s_unknown_removed) (by decide +kernel))
            (fun _ _ _ _ _ => pgn (i := 8) sc_unknown_removed.nd) (fun _ _ _ _ _ => pts_one (pt_cmpR op_ne (pv 8) (pe_ix (r := rIxT K) ix_tup (pv 1) pe_int (fun _ _ => rfl)) rfl)) (fun _ _ _ _ _ => pv 8)) pa_nil)))
      (pss_cons (ps_lock (ps_setDc (i := 6) (own := [("name", 8)]) (g := gName 8) (tt := tYes) (by rfl) sc_unknown_removed.nd rfl rfl (by rfl) (pi_keys (pv 3)) (blkOk_by (N := N_unknown_removed) (sc := defScope s_unknown_removed) (by decide +kernel))
          (fun _ _ _ _ _ => pgn (i := 8) sc_unknown_removed.nd) (fun _ _ _ _ _ => pts_nil) (fun _ _ _ _ _ => pv 8)
          (fun _ _ _ _ _ => pe_lock (pe_dc (own := [("other", 7)]) (g := gName 7) (by rfl) sc_unknown_removed.nd (pi_keys (pe_dget hu (pv 3) (pv 8) (fun _ _ => rfl))) (blkOk_by (by kernel_rfl))
            (fun _ _ _ _ _ => pgn (i := 7) sc_unknown_removed.nd) (fun _ _ _ _ _ => pts_one (pt_cmpR (r := rIn K false) op_in_seq (pv 7) (pv 5) rfl)) (fun _ _ _ _ _ => pv 7)
            (fun _ _ _ _ _ => pe_dget hu (pe_dget hu (pv 3) (pv 8) (fun _ _ => rfl)) (pv 7) (fun _ _ => rfl))))))
      (pss_one (ps_ret (pe_tup (pa_cons (pv 5) (pa_cons (pv 6) (pa_cons (pv 4) pa_nil))))))))), ?_⟩
    refine ⟨_, rfl, c, _, rfl, SqT.of h1, rfl, _, _, rfl, _, _, rfl, _, _, rfl, rfl, ?_⟩
    refine ⟨_, rfl, a, _, 0, .str x, rfl, rfl, ha, atI_nat (j := 0) rfl, _, rfl, _, _, cols, rfl, .inr ⟨U, SqT.of h2, (cn.us x).mpr hx⟩, ?_⟩
    have hul := cn.ulen
    have hll := cn.llen
    dsimp only [tSeq, tAsg, tCB, tCons]
    refine lc_txs (SqT.of h2) (by omega) (fun R r => ⟨_, rfl, r⟩) (fun k => if (!decide (k = x)) = true then some (V.str k) else none) (fun k H2 R N hk s2 hh => ?_) (fun kp H1 s1 nkp hkp => ?_)
    · refine ⟨rfl, _, rfl, _, rfl, a, [.str x], 0, .str x, rfl, rfl, Same.tup s2 ha, atI_nat (j := 0) rfl, rfl, ?_⟩
      by_cases hke : k = x
      · rw [hke]
        rw [hke, decide_eq_true rfl] at hh
        exact ⟨_, rfl, ifNF rfl hh⟩
      · rw [decide_eq_false hke] at hh
        exact ⟨_, rfl, ifNT (fun z => hke (V.str.inj z)) ⟨_, rfl, hh⟩⟩
    · rw [fm_if] at hkp
      have hkp : H1 kp = some (.lst (txs (U.filter fun k => !decide (k = x)))) := hkp
      refine ⟨kp, _, rfl, .inl ⟨SqL.of hkp, fun t nt => ?_⟩⟩
      have s2 := same_new nt (o := .tup (txs (U.filter fun k => !decide (k = x))))
      have s12 := s1.trans s2
      have ndr : ((refs L).map (·.1)).Nodup := by rw [refs_keys]; exact cn.lnd
      have ht : SqT K (upd H1 t (.tup (txs (U.filter fun k => !decide (k = x))))) t (txs (U.filter fun k => !decide (k = x))) := SqT.of upd_same
      have h3' := h3.same s12
      refine ds_keysO h3'.at_ (by unfold refs; rw [List.length_map]; omega) (fun od R r => ⟨_, rfl, r⟩) (fun l => .dK (tk (ones l))) (fun k l => l.Nodup ∧ ∀ u, u ∈ l ↔ (u ∈ G.us ∧ ¬ u = x) ∧ G.adj k u = true) (fun od k H3 R N hk s3 hh => ?_) ndr (fun fp L' H3 s3 nfp hk hd hN => ?_)
      · rw [refs_keys] at hk
        obtain ⟨p, hp, rfl⟩ := List.mem_map.mp hk
        have hne : p.2.1 ≠ rows := fun z => by
          have e1 := h3'.row p hp
          have e2 := h3'.at_
          unfold DictAt at e1 e2
          rw [z, e2] at e1
          exact refs_ne_ones hp _ (HO.dK.inj (Option.some.inj e1)).symm
        have hrow : DictAt H3 p.2.1 (ones p.2.2) := s3 _ _ (lock_at (h3'.row p hp) hne)
        have hrows : DictR H3 rows (refs L) := DictR.same (DictR.lock h3'.at_.r h3'.at_) s3
        have hg := refs_get cn.lnd hp
        have hpl := cn.rlen hp
        refine ⟨rfl, _, rfl, ?_⟩
        refine dc_keys hrow (by unfold ones; rw [List.length_map]; omega) (fun od2 R2 r2 => ⟨_, rfl, _, rfl, rows, _, rfl, hg ▸ DictR.get (DictR.lock hrows hrow) p.1, r2⟩) (fun k => if (decide (k ∈ U.filter fun k => !decide (k = x))) = true then some (V.int 1) else none) (fun od2 k H4 R2 N2 hk4 s4 hh4 => ?_) (by rw [ones_keys]; exact cn.rnd p hp) (fun op H4 s4 nop hop => ?_)
        · rw [ones_keys] at hk4
          refine ⟨rfl, _, rfl, _, rfl, t, _, rfl, .inr (Same.tup s4 (SqT.lock (Same.tup s3 (SqT.lock ht h3'.at_)) hrow)), rfl, txs_flat _, ?_⟩
          rw [inV_txs]
          by_cases hku : k ∈ U.filter fun k => !decide (k = x)
          · rw [decide_eq_true hku] at hh4
            refine ⟨_, rfl, ?_⟩
            rw [decide_eq_true hku]
            have ok1 := ones_get hk4
            exact iteT ⟨_, rfl, _, rfl, _, rfl, rows, _, rfl, hg ▸ DictR.get (DictR.same (DictR.lock hrows hrow) s4) p.1, _, rfl, p.2.1, _, rfl, ok1 ▸ DictR.get (DictR.same (DictR.lock (DictAt.r hrow) hrow) s4) k, hh4⟩
          · rw [decide_eq_false hku] at hh4
            refine ⟨_, rfl, ?_⟩
            rw [decide_eq_false hku]
            exact iteF hh4
        · rw [ones_keys, ones_fm] at hop
          refine hh op (p.2.2.filter fun k => decide (k ∈ U.filter fun k => !decide (k = x))) H4 s4 nop hop ⟨(cn.rnd p hp).sublist List.filter_sublist, fun u => ?_⟩
          rw [List.mem_filter, decide_eq_true_iff, List.mem_filter, cn.row p hp u, cn.us]
          simp
          constructor
          · rintro ⟨⟨a1, a2⟩, _, a3⟩
            exact ⟨⟨a1, a3⟩, a2⟩
          · rintro ⟨⟨a1, a3⟩, a2⟩
            exact ⟨⟨a1, a2⟩, a1, a3⟩
      · rw [refs_keys] at hk
        refine ⟨_, rfl, _, rfl, _, rfl, small (by show 3 ≤ 1000; decide), fun c' nc' => ?_⟩
        have sf := Same.new (s12.trans s3) nc' (o := .tup [.ref t, .ref fp, .ref consts])
        have s4 := same_new nc' (o := .tup [.ref t, .ref fp, .ref consts])
        have hL' : L'.map (·.1) = L.map (·.1) := hk
        refine q c' _ sf ⟨t, fp, consts, U.filter fun k => !decide (k = x), L', C, upd_same, s4 _ _ (s3 _ _ upd_same), ⟨s4 _ _ hd, fun z hz => s4 _ _ (hN z hz).2.2.1⟩, sf _ _ h4, ⟨cn.und.sublist List.filter_sublist, fun u => ?_, by rw [hL']; exact cn.lnd, by rw [hL']; exact cn.es, cn.cnd, cn.cs, fun z hz => (hN z hz).2.2.2.1, fun z hz u => ?_, ?_, cn.el⟩⟩
        · show u ∈ U.filter _ ↔ u ∈ G.us.filter _
          rw [List.mem_filter, List.mem_filter, cn.us]
        · rw [(hN z hz).2.2.2.2 u]
          show _ ↔ u ∈ (G.us.filter fun u => !decide (u = x)) ∧ G.adj z.1 u = true
          rw [List.mem_filter]
          simp
        · exact Nat.le_trans (List.length_filter_le _ _) cn.ul
end
end Bo

/-! S4 -/
set_option Elab.async false
set_option linter.all false
set_option maxRecDepth 100000
set_option maxHeartbeats 1000000
/-! dict(d), d a written dict of the module. -/
namespace Bo
open PySem PySem.Spec PyProof.Rows L2
theorem keyOf_some {e : DictEntry} {k : Str} {z : Int} (h : He.keyOf e = some (k, z)) : ∃ t, e.key = .str k t ∧ e.hash = z := by
  unfold He.keyOf at h
  split at h
  · rename_i x t q
    obtain ⟨h5, h6⟩ := Prod.mk.inj (Option.some.inj h)
    exact ⟨t, by rw [q, h5], h6⟩
  · cases h
theorem keysOf_lit {prog : Program} {w : World} {l : List DictEntry} {ks : List Str} (h : l.map He.keyOf = He.keysIn w.params ks) : ∀ e ∈ l, ∃ k, (mixKind prog w).is k e.key = true ∧ e.hash = (mixKind prog w).hash k := by
  intro e he
  have hm : He.keyOf e ∈ l.map He.keyOf := List.mem_map.mpr ⟨e, he, rfl⟩
  rw [h] at hm
  obtain ⟨k, _, e2⟩ := List.mem_map.mp hm
  obtain ⟨t, h1, h2⟩ := keyOf_some e2.symm
  exact ⟨Sum.inr k, by rw [h1]; exact keyIs_str k t, h2⟩
theorem pairs_lit {prog : Program} {w : World} {g : Str → Value} : ∀ {l : List DictEntry} {ks : List Str}, l.map He.keyOf = He.keysIn w.params ks → ks.Nodup → (∀ k ∈ ks, (l.find? (·.key.isStr k)).map (·.val) = some (g k)) →
    Pairs (mixKind prog w) l (ks.map fun k => ((Sum.inr k : Key), g k))
  | [], [], _, _, _ => .nil
  | [], _ :: _, h, _, _ => by cases h
  | _ :: _, [], h, _, _ => by cases h
  | e :: l, k :: ks, h, nd, hg => by
    have h' : He.keyOf e :: l.map He.keyOf = some (k, PyData.keyHash w.params k) :: He.keysIn w.params ks := h
    injection h' with h1 h2
    obtain ⟨t, e1, e2⟩ := keyOf_some h1
    obtain ⟨n1, n2⟩ := List.nodup_cons.mp nd
    have hk : e.key.isStr k = true := by
      rw [e1, PySem.W.isStr_of]
      exact PySem.strKind_is prog w k t
    refine .cons (by rw [e1]; exact keyIs_str k t) ?_ (pairs_lit h2 n2 fun j hj => ?_)
    · have := hg k List.mem_cons_self
      rw [List.find?_cons, hk] at this
      exact Option.some.inj this
    · have := hg j (List.mem_cons_of_mem _ hj)
      have hn : e.key.isStr j = false := by
        rw [e1]
        cases q : (Value.str k t).isStr j with
        | false => rfl
        | true =>
          rw [PySem.W.isStr_of] at q
          have z : k = j := by simpa [Value.isStrOf] using q
          exact absurd (by rw [z]; exact hj) n1
      rw [List.find?_cons, hn] at this
      exact this
theorem call_dictK {X : Cx} {a : Addr} {ks : List Str} {vf : Str → Addr} (hk : He.dicW X.K a = some (He.keysIn X.w.params ks)) (nd : ks.Nodup) (hz : ks.length ≤ 1000) (hv : ∀ k ∈ ks, PySem.W.nsIn X.K a k = some (some (.ref (vf k)))) :
    CallR X (.type "dict") (fun xs H Q => xs = [.ref a] ∧ ∀ p, H p = none → Q (.ref p) (upd H p (.dK (tk (ks.map fun k => (k, V.ref (vf k))))))) := by
  intro pins s σ H xs us Q I r q
  obtain ⟨ex, q⟩ := q
  subst ex
  obtain ⟨u, eu, rx⟩ := vals1 r
  subst eu
  cases rx
  obtain ⟨es, n, KD⟩ := He.dicW_ok hk
  have hkey : es.toList.map He.keyOf = He.keysIn X.w.params ks := by
    have h := hk
    unfold He.dicW at h
    rw [KD.at_] at h
    have h1 : (match decide (("dict" : String) = "dict") && ((#[] : Array (Option Value)).isEmpty && !(a == sysModules)) with
      | true => some (es.toList.map He.keyOf)
      | false => none) = some (He.keysIn X.w.params ks) := h
    rw [KD.low] at h1
    exact Option.some.inj h1
  have hfind : ∀ k ∈ ks, (es.toList.find? (·.key.isStr k)).map (·.val) = some (Value.ref (vf k)) := fun k hm => by
    have h := hv k hm
    unfold PySem.W.nsIn at h
    rw [KD.at_] at h
    dsimp only at h
    split at h
    · rename_i e he
      rw [he]
      exact congrArg some (Option.some.inj (Option.some.inj h))
    · split at h
      · cases h
      · cases h
  have P1 := pairs_lit (prog := X.prog) (g := fun k => Value.ref (vf k)) hkey nd hfind
  have hD : s.heap.DictOf (mixKind X.prog X.w) a (ks.map fun k => ((Sum.inr k : Key), Value.ref (vf k))) := ⟨_, es, n, I.kIn _ _ KD.at_, ⟨rfl, rfl, rfl⟩, rfl, fun e he => keysOf_lit hkey e (Array.mem_toList_iff.mpr he), P1, by
    rw [List.map_map]
    exact List.Pairwise.map _ (fun x y h e => h (Sum.inr.inj e)) nd⟩
  refine kt_call_dict KD.low hD (by rw [List.length_map]; exact small hz) fun h' d' hs => ?_
  have hm : (s.heap.objs.size == sysModules) = false := beq_eq_false_iff_ne.mpr (Nat.ne_of_gt I.big)
  have rel : KV (tk (ks.map fun k => (k, V.ref (vf k)))) (ks.map fun k => ((Sum.inr k : Key), Value.ref (vf k))) := by
    have : ∀ l : List Str, KV (tk (l.map fun k => (k, V.ref (vf k)))) (l.map fun k => ((Sum.inr k : Key), Value.ref (vf k))) := by
      intro l
      induction l with
      | nil => exact .nil
      | cons k l ih => exact .cons ⟨rfl, rfl⟩ ih
    exact this ks
  exact ⟨.ref s.heap.objs.size, upd H s.heap.objs.size (.dK (tk (ks.map fun k => (k, V.ref (vf k))))), I.laid (t' := s.toks) (fun b u e => (hs.2 b (Nat.ne_of_lt (Heap.lt_size e))).trans (Heap.get?_push_of_some _ e)) (Nat.le_refl _)
    (show ObjOk X.prog X.w _ _ _ (.dK (tk (ks.map fun k => (k, V.ref (vf k))))) from ⟨by rw [tk_len, List.length_map]; exact small hz, hm, _, rel, d'⟩), rfl, q _ (I.hok.fresh (Nat.le_refl _))⟩
end Bo

/-! D1 -/
set_option Elab.async false
set_option linter.all false
set_option maxRecDepth 100000
set_option maxHeartbeats 1000000
/-! Data compared by == and !=. -/
namespace Bo
open PySem PySem.Spec PyProof.Rows L2
structure Sh (n : Nat) (d : PyData) : Prop where
  can : d.canLay0 = true
  dep : d.depth ≤ n
theorem Sh.mono {n m : Nat} {d : PyData} (h : Sh n d) (k : n ≤ m) : Sh m d := ⟨h.can, Nat.le_trans h.dep k⟩
theorem Sh.shaped {n : Nat} {d : PyData} (h : Sh n d) (k : n ≤ 64 := by decide) : SeqAt.shaped d = true := by
  unfold SeqAt.shaped
  rw [h.can, decide_eq_true (Nat.le_trans h.dep k)]
  rfl
theorem Sh.self {n : Nat} {d : PyData} (h : Sh n d) : PyData.eqv d d = true := SeqAt.eqv_refl d h.can
theorem sh_all {n : Nat} : ∀ {l : List PyData}, (∀ x ∈ l, Sh n x) → PyData.canLayAll0 l = true ∧ PyData.depthAll l ≤ n
  | [], _ => ⟨by simp only [PyData.canLayAll0], by simp only [PyData.depthAll]; exact Nat.zero_le _⟩
  | x :: l, h => by
    obtain ⟨h1, h2⟩ := sh_all (l := l) fun y hy => h y (List.mem_cons_of_mem _ hy)
    have h3 := h x List.mem_cons_self
    exact ⟨by simp only [PyData.canLayAll0, h1, h3.can, Bool.and_self], by simp only [PyData.depthAll]; have := h3.dep; omega⟩
theorem Sh.list {n : Nat} {l : List PyData} (h : ∀ x ∈ l, Sh n x) : Sh (n + 1) (.list l) :=
  ⟨by simp only [PyData.canLay0]; exact (sh_all h).1, by simp only [PyData.depth]; have := (sh_all h).2; omega⟩
theorem Sh.tuple {n : Nat} {l : List PyData} (h : ∀ x ∈ l, Sh n x) : Sh (n + 1) (.tuple l) :=
  ⟨by simp only [PyData.canLay0]; exact (sh_all h).1, by simp only [PyData.depth]; have := (sh_all h).2; omega⟩
theorem Sh.int (i : Int) : Sh 0 (.int i) := ⟨by simp only [PyData.canLay0], by simp only [PyData.depth]; exact Nat.le_refl _⟩
theorem Sh.bool (b : Bool) : Sh 0 (.bool b) := ⟨by simp only [PyData.canLay0], by simp only [PyData.depth]; exact Nat.le_refl _⟩
theorem strOk_of {x : Str} (h : ∀ c ∈ x.cps.toList, c < 0x110000) : PyData.strOk x = true := by
  unfold PyData.strOk
  rw [← Array.all_toList, List.all_eq_true]
  exact fun c hc => decide_eq_true (h c hc)
theorem name_small : ∀ c ∈ (sLetters ++ sFigures).cps.toList, c < 0x110000 := by decide +kernel
theorem Sh.txt {x : Str} (h : ∀ c ∈ x.cps.toList, c < 0x110000) : Sh 0 (.str x) := ⟨by simp only [PyData.canLay0]; exact strOk_of h, by simp only [PyData.depth]; exact Nat.le_refl _⟩
theorem Sh.name {x : Str} (h : NameOk x) : Sh 0 (.str x) := .txt fun c hc => name_small c (h.all c hc)
def strD (l : List Str) : List PyData := l.map PyData.str
theorem sh_strs {l : List Str} (h : ∀ x ∈ l, Sh 0 (.str x)) : ∀ d ∈ strD l, Sh 0 d := fun d hd => by
  obtain ⟨x, hx, rfl⟩ := List.mem_map.mp hd
  exact h x hx
theorem dp_txs {K : Fg} {H : Hp} : ∀ l : List Str, DpAll K H (txs l) (strD l)
  | [] => .nil
  | x :: l => .cons (.str x) (dp_txs l)
theorem dpAll_map {α : Type} {K : Fg} {H : Hp} {f : α → V} {g : α → PyData} : ∀ {l : List α}, (∀ x ∈ l, Dp K H (f x) (g x)) → DpAll K H (l.map f) (l.map g)
  | [], _ => .nil
  | x :: l, h => .cons (h x List.mem_cons_self) (dpAll_map fun y hy => h y (List.mem_cons_of_mem _ hy))
theorem tyT {K : Fg} {H : Hp} {a : Addr} {xs : List V} (h : SqT K H a xs) : TyX K H (.ref a) (.type "tuple") := by
  rcases h with (h | ⟨o, h⟩) | ⟨o, its, n, h, hc, _⟩
  · exact .base (.tup h)
  · exact .fTuple h
  · exact .kTuple h hc
end Bo

/-! E10 -/
set_option Elab.async false
set_option linter.all false
set_option maxRecDepth 100000
set_option maxHeartbeats 1000000
namespace Bo
open PySem PySem.Spec PyProof.Rows L2
section
variable {P : Program} {w : World} {K : Fg} {mg : Str → Option Value} {base : Heap}
/-- an edit whose count of arguments is right -/
structure EditOk (K : Fg) (H : Hp) (ed cn : Addr) (z : Str) (args : List Str) (cl : List (Str × V)) : Prop where
  at_ : SqT K H ed (txs (z :: args))
  sh : ∀ x ∈ z :: args, Sh 0 (.str x)
  cn : DictAt H cn cl
  na : z ≠ "attempt"
  al : args.length ≤ 30
  ct : ∃ (ct : Addr) (least : Int) (most : V), dget cl z = some (.ref ct) ∧ (∀ H, SqT K H ct [.int least, most]) ∧ least ≤ args.length ∧ (most = .non ∨ ∃ m : Int, most = .int m ∧ (args.length : Int) ≤ m)
def spNeedEdit (K : Fg) : Sp := fun vs H Q _ => ∃ (ed cn : Addr) (z : Str) (args : List Str) (cl : List (Str × V)), vs = [.ref ed, .ref cn] ∧ EditOk K H ed cn z args cl ∧ ∀ H', Same H H' → Q .non H'
theorem ok_need_edit (T : TX w K mg) : Ok P w K mg base 1 d_need_edit ["edit", "counts"] (spNeedEdit K) := by
  refine mkOk T ix_need_edit rfl rfl rfl sc_need_edit (fun _ _ _ _ _ _ us hl => match us, hl with | [_, _], _ => rfl) (fun vs H Q E h => ?_) (fun cdv A outer s H vs Q E hr h => ?_)
  · obtain ⟨ed, cn, z, args, cl, rfl, _⟩ := h
    rfl
  · obtain ⟨ed, cn, z, args, cl, rfl, O, q⟩ := h
    have hu := hu_of hr
    obtain ⟨ct, least, most, c1, c2, c3, c4⟩ := O.ct
    refine ⟨_, pss_cons (ps_if (PW.pt (pw_or (pt_not (pt_val (pe_callB call_isi (by rfl) T.f_isinstance boot_isinstance (pa_cons (pv 0) (pa_cons (pe_bltn (v := .ty "tuple") rfl T.f_tuple PyProof.Rows.boot_tuple rfl) pa_nil)))))
        (pw_or (pt_cmpR (op_eqD hr.units) (pv 0) (pe_tup pa_nil) rfl)
        (pw_or1 (pt_not (pt_val (pe_callB call_isi (by rfl) T.f_isinstance boot_isinstance (pa_cons (pe_ix ix_tup (pv 0) pe_int (fun _ _ => rfl)) (pa_cons (pe_bltn (v := .ty "str") rfl T.f_str PyProof.Rows.boot_str rfl) pa_nil)))))))))  (pss_one ps_never) pss_nil)
      (pss_cons (ps_if (pt_cmpR op_eq (pe_ix ix_tup (pv 0) pe_int (fun _ _ => rfl)) pe_str rfl) (pss_one ps_never) pss_nil)
      (pss_cons (ps_if (pt_cmp (pc_dnotin hu (pe_ix ix_tup (pv 0) pe_int (fun _ _ => rfl)) (pv 1))) (pss_one ps_never) pss_nil)
      (pss_cons (ps_asg (pe_dget hu (pv 1) (pe_ix ix_tup (pv 0) pe_int (fun _ _ => rfl)) (fun _ _ => rfl)) (pg_tup rfl (pgs_cons (pgn (i := 2) sc_need_edit.nd) (pgs_cons (pgn (i := 3) sc_need_edit.nd) pgs_nil))))
      (pss_one (ps_if (PW.pt (pw_or (pt_cmpR op_lt (pe_op op_sub (pe_callB call_len_seq (by rfl) T.f_len PySem.boot_len (pa_cons (pv 0) pa_nil)) pe_int) (pv 2) (nomark _))
        (pw_or1 (PW.pt (pw_and (pt_cmp (pc_notN (pv 3))) (pw_and1 (pt_cmpR op_gt (pe_op op_sub (pe_callB call_len_seq (by rfl) T.f_len PySem.boot_len (pa_cons (pv 0) pa_nil)) pe_int) (pv 3) (nomark _)))))))) (pss_one ps_never) pss_nil))))), ?_⟩
    refine ⟨_, rfl, _, _, _, _, true, rfl, .ty _, tyT O.at_, kit_ty (by decide +kernel), _, rfl, ?_⟩
    refine ⟨_, rfl, small (by decide), fun p np => ?_⟩
    have s1 := same_new np (o := .tup [])
    have hed1 := Same.tup s1 O.at_
    refine ⟨.tuple (strD (z :: args)), .tuple [], .tup hed1 (dp_txs _), .tup (SqT.of upd_same) .nil, (Sh.tuple (sh_strs O.sh)).shaped, (Sh.tuple (n := 0) (l := []) (fun _ h => (nomatch h))).shaped, _, rfl, ?_⟩
    show if false = true then _ else _
    refine iteF ?_
    refine ⟨_, rfl, ed, _, 0, .str z, rfl, rfl, hed1, atI_nat (j := 0) rfl, _, _, _, _, true, rfl, .ty _, .base (.str _), kit_ty (by decide +kernel), _, rfl, ?_⟩
    refine ⟨_, rfl, ed, _, 0, .str z, rfl, rfl, hed1, atI_nat (j := 0) rfl, rfl, _, rfl, ifF (fun e => O.na (V.str.inj e)) ?_⟩
    refine ⟨_, rfl, ed, _, 0, .str z, rfl, rfl, hed1, atI_nat (j := 0) rfl, _, rfl, cn, some (.ref ct), rfl, c1 ▸ DictAt.get (s1 _ _ O.cn) z, _, rfl, ?_⟩
    refine ⟨_, rfl, _, rfl, ed, _, 0, .str z, rfl, rfl, hed1, atI_nat (j := 0) rfl, cn, .ref ct, rfl, c1 ▸ DictAt.get (s1 _ _ O.cn) z, ?_⟩
    refine ⟨ct, _, rfl, c2 _, rfl, _, _, rfl, _, _, rfl, rfl, ?_⟩
    have hal := O.al
    refine ⟨_, rfl, ed, txs (z :: args), rfl, .inr hed1, _, _, rfl, rfl, _, rfl, _, _, rfl, rfl, _, rfl, ifF (by rw [txs_len, List.length_cons]; omega) ?_⟩
    rcases c4 with rfl | ⟨m, rfl, hm⟩
    · exact ⟨_, rfl, _, rfl, q _ s1⟩
    · refine ⟨_, rfl, _, rfl, ?_⟩
      refine ⟨_, rfl, ed, txs (z :: args), rfl, .inr hed1, _, _, rfl, rfl, _, rfl, _, _, rfl, rfl, _, rfl, ifF (by rw [txs_len, List.length_cons]; omega) ?_⟩
      exact q _ s1
end
end Bo

/-! E11 -/
set_option Elab.async false
set_option linter.all false
set_option maxRecDepth 100000
set_option maxHeartbeats 1000000
namespace Bo
open PySem PySem.Spec PyProof.Rows L2
section
variable {P : Program} {w : World} {K : Fg} {mg : Str → Option Value} {base : Heap}
/-- a def with a keyword-only parameter -/
def OkD (P : Program) (w : World) (K : Fg) (mg : Str → Option Value) (base : Heap) (k : Nat) (d : DefA) (ps : List Str) (dvs : List V) (sp : Sp) : Prop :=
  ∃ fd, FnOk P w K mg base CX0 k (d.pth.ad K) fd ps sp ∧ (∃ ds, Vals dvs ds ∧ Binds K fd ps ds) ∧ PySem.W.keepIn K (.ref (d.pth.ad K)) = true
theorem mkOkD (T : TX w K mg) (i : Nat) {d : DefA} {N ps : List Str} {k n : Nat} {sp : Sp} (h : ds[i]? = some d) (hc : d.clo = []) (hk : d.kws K ≠ []) (hn : n + (d.kws K).length = ps.length) (S : FnScope N ps (defScope d.st))
    (hb : ∀ (D : Addr) (doc pm : Value) (an : Option Addr) (cdv ct : Value) (us ks : List Value), us.length = n → ks.length = (d.kws K).length →
      KwChain D (((d.kws K).map (·.1)).zip ks) (bindArgs (PySem.W.fnOf d.name d.qual (defArgs d.st) (defBody d.st) (defScope d.st) .none (.ref D) doc pm an cdv ct) ⟨us, []⟩) (ps.zip (us ++ ks)))
    (len : ∀ vs H Q E, sp vs H Q E → vs.length = ps.length)
    (hbody : ∀ (cdv : Value) (A : Around) (outer : List Env) (s : Shared) (H : Hp) (vs : List V) (Q : VK) (E : XK), Room k (A.deeper (envOfC d.qual (defScope d.st) s.heap.objs.size (d.pth.ad K) cdv)) → sp vs H Q E →
      ∃ t, PSs (cxOf CX0 P w K mg base N d.qual (defScope d.st) (d.pth.ad K) cdv A outer s H E).nox (defBody d.st) t ∧ t { nx := fun _ H' => Q .non H', rt := Q } (start N vs) H) : OkD P w K mg base (k + 1) d ps ((d.kws K).map (·.2)) sp := by
  obtain ⟨fd, F⟩ := T.says.def_ i h hc
  have F : FunD K d.name d.qual (defArgs d.st) (defBody d.st) (defScope d.st) [] (d.kws K) (d.pth.ad K) fd := F
  refine ⟨fd, F.ok S len fun cdv A outer s H vs Q E hr hs => ?_, F.binds0 n hk hn hb, F.kp⟩
  obtain ⟨t, h1, h2⟩ := hbody cdv A outer s H vs Q E hr hs
  exact ⟨t, h1.nox, h2⟩
/-- an edit and what it makes of a graph -/
inductive Edit (K : Fg) : Str → List Str → Grf → Grf → Prop where
  | addU {G : Grf} {x : Str} (h : NameOk x) (n : x ∉ G.us) (l : G.us.length + 1 ≤ 24) : Edit K "add_unknown" [x] G (G.addU x)
  | addE {G : Grf} {e : Str} (h : NameOk e) (n : e ∉ G.es) (l : G.es.length + 1 ≤ 24) : Edit K "add_equation" [e] G (G.addE e)
  | addP {G : Grf} {e u : Str} (h1 : NameOk e) (h2 : NameOk u) (he : e ∈ G.es) (hu : u ∈ G.us) (n : G.adj e u = false) : Edit K "add_entry" [e, u] G (G.addP e u)
  | remE {G : Grf} {e : Str} (h : NameOk e) (he : e ∈ G.es) : Edit K "remove_equation" [e] G (G.remE e)
  | remU {G : Grf} {x : Str} (h : NameOk x) (hx : x ∈ G.us) : Edit K "remove_unknown" [x] G (G.remU x)
def edKeys : List Str := ["add_unknown", "add_equation", "add_entry", "remove_entry", "remove_equation", "remove_unknown"]
def edFn (K : Fg) (k : Str) : Addr := match PySem.W.nsIn K (He.ga K "EDITS") k with
  | some (some (.ref a)) => a
  | _ => 0
def edT (K : Fg) : List (Str × V) := edKeys.map fun k => (k, V.ref (edFn K k))
def coT (K : Fg) : List (Str × V) := edKeys.map fun k => (k, V.ref (tupAt K "COUNTS" k))
def spEdited (K : Fg) : Sp := fun vs H Q _ => ∃ (c ed es cn : Addr) (z : Str) (args : List Str) (G G' : Grf), vs = [.ref c, .ref ed, .ref es, .ref cn, .int 0] ∧ ContAt H c G ∧ SqT K H ed (txs (z :: args)) ∧ DictAt H es (edT K) ∧ DictAt H cn (coT K) ∧ Edit K z args G G' ∧
  ∀ c' H', Same H H' → ContAt H' c' G' → Q (.ref c') H'
def edL : List (Str × He.Dv) := [("add_unknown", .glo "unknowns_added"), ("add_equation", .glo "equation_added"), ("add_entry", .glo "entry_added"), ("remove_entry", .glo "entry_removed"), ("remove_equation", .glo "equation_removed"), ("remove_unknown", .glo "unknown_removed")]
theorem TX.edn (T : TX w K mg) {k g : Str} (h : (k, He.Dv.glo g) ∈ edL) :
    PySem.W.nsIn K (He.ga K "EDITS") k = some (some (.ref (He.ga K g))) := by
  obtain ⟨u, h1, h2⟩ := He.valsB_ok T.vals_EDITS h
  have e : u = Value.ref (He.ga K g) := h2
  rw [h1, e]
theorem TX.edf (T : TX w K mg) {k g : Str} (h : (k, He.Dv.glo g) ∈ edL) :
    edFn K k = He.ga K g := by
  unfold edFn
  rw [T.edn h]
theorem ok_edited (T : TX w K mg) : OkD P w K mg base 5 d_edited ["content", "edit", "edits", "counts", "level"] [.int 0] (spEdited K) := by
  refine mkOkD (n := 4) T ix_edited rfl rfl (by intro e; cases e) rfl sc_edited (fun D doc pm an cdv ct us ks h1 h2 => ?_) (fun vs H Q E h => ?_) (fun cdv A outer s H vs Q E hr h => ?_)
  · match us, ks, h1, h2 with
    | [a, b, c, d], [e], _, _ => exact ⟨_, _, _, _, _, _, rfl, rfl, rfl⟩
  · obtain ⟨c, ed, es, cn, z, args, G, G', rfl, _⟩ := h
    rfl
  · obtain ⟨c, ed, es, cn, z, args, G, G', rfl, hc, hed, hes, hcn, he, q⟩ := h
    have hu := hu_of hr
    have hr1 : Room 1 _ := hr.mono (by decide)
    obtain ⟨f1, G1, b1, k1⟩ := ok_need_edit (P := P) (base := base) T
    have main : ∀ {f : Addr} {fd : FuncData} {ps : List Str} {sp : Sp} (F : FnOk P w K mg base CX0 4 f fd ps sp) (hb : Binds K fd ps []) (kp : PySem.W.keepIn K (.ref f) = true), z ≠ "attempt" → (∀ x ∈ z :: args, Sh 0 (.str x)) → args.length ≤ 30 → dget (edT K) z = some (.ref f) →
        (∃ (ct : Addr) (least : Int) (most : V), dget (coT K) z = some (.ref ct) ∧ (∀ H, SqT K H ct [.int least, most]) ∧ least ≤ args.length ∧ (most = .non ∨ ∃ m : Int, most = .int m ∧ (args.length : Int) ≤ m)) →
        (∀ a H' Q', SqT K H' a (txs args) → Same H H' → (∀ c' H2, Same H' H2 → ContAt H2 c' G' → Q' (.ref c') H2) → sp [.ref c, .ref a] H' Q' E0) →
        ∃ t, PSs (cxOf CX0 P w K mg base N_edited d_edited.qual (defScope d_edited.st) (d_edited.pth.ad K) cdv A outer s H E).nox (defBody d_edited.st) t ∧ t { nx := fun _ H' => Q .non H', rt := Q } (L2.start N_edited [.ref c, .ref ed, .ref es, .ref cn, .int 0]) H := by
      intro f fd ps sp F hb kp hna hsh hal hf hct hsp
      refine ⟨_, pss_cons (ps_expr (pe_call G1 hr1 (by rfl) T.g_need_edit k1 b1 .nil pass0 (pa_cons (pv 1) (pa_cons (pv 3) pa_nil))))
        (pss_cons (ps_if (pt_cmpR op_ne (pe_ix ix_tup (pv 1) pe_int (fun _ _ => rfl)) pe_str rfl)
          (pss_cons (pset (i := 5) sc_edited.nd (pe_dget hu (pv 2) (pe_ix ix_tup (pv 1) pe_int (fun _ _ => rfl)) (fun _ _ => rfl)))
          (pss_one (ps_ret (pe_callL (i := 5) F hr (by rfl) (by first | exact Or.inl rfl | exact Or.inr (Or.inl rfl) | exact Or.inr (Or.inr rfl)) kp hb .nil pass0 (pa_cons (pv 0) (pa_cons (pe_slice sl_tupA (pv 1) (po_some pe_int) po_none) pa_nil)))))) pss_nil)
        pss_never), ?_⟩
      refine ⟨_, rfl, _, rfl, ed, cn, z, args, coT K, rfl, ⟨hed, hsh, hcn, hna, hal, hct⟩, fun H1 s1 => ?_⟩
      have hed1 := Same.tup s1 hed
      refine ⟨_, rfl, ed, _, 0, .str z, rfl, rfl, hed1, atI_nat (j := 0) rfl, rfl, _, rfl, ifNT (fun e => hna (V.str.inj e)) ?_⟩
      refine ⟨_, rfl, _, rfl, ed, _, 0, .str z, rfl, rfl, hed1, atI_nat (j := 0) rfl, es, .ref f, rfl, hf ▸ DictAt.get (s1 _ _ hes) z, ?_⟩
      refine ⟨rfl, _, rfl, _, rfl, ?_⟩
      have h1 : HT.sIx (txs (z :: args)).length 0 (some 1) = 1 := by
        have := HT.sIx_nat (txs (z :: args)).length 0 1
        rw [txs_len, List.length_cons] at this ⊢
        refine this.trans ?_
        omega
      refine ⟨1, rfl, ed, txs (z :: args), rfl, hed1, fun w => ?_, fun _ p np => ?_⟩
      · have := w.1
        rw [h1] at this
        omega
      · have ec : cutV (txs (z :: args)) (some 1) none = txs args := by
          unfold cutV
          rw [h1, HT.sIx_none]
          show (txs args).take _ = txs args
          exact List.take_of_length_le (by rw [txs_len, txs_len, List.length_cons]; omega)
        rw [ec]
        exact hsp p _ _ (SqT.of upd_same) (Same.new s1 np) fun c' H2 s2 hc2 => q c' H2 ((Same.new s1 np).trans s2) hc2
    have one : ∀ {k : Str} {x : Str}, Sh 0 (.str k) → NameOk x → ∀ y ∈ [k, x], Sh 0 (.str y) := fun hk hx y hy => by
      rcases List.mem_cons.mp hy with rfl | hy
      · exact hk
      · rw [List.mem_singleton.mp hy]
        exact .name hx
    have i0 : ∀ n : Nat, (0 : Int) ≤ (n : Int) := fun n => by omega
    cases he with
    | @addU _ x h n l =>
      obtain ⟨fd, F, hb, kp⟩ := ok_unknowns_added (P := P) (base := base) T
      exact main (F.mono (by decide)) hb kp (by decide +kernel) (one (.txt (by decide +kernel)) h) (by show 1 ≤ 30; decide) (by rw [show dget (edT K) "add_unknown" = some (.ref (edFn K "add_unknown")) from rfl, T.edf (k := "add_unknown") (g := "unknowns_added") (by simp [edL])]; rfl)
        ⟨_, 0, .non, rfl, T.t_COUNTS_add_unknown.2, i0 _, .inl rfl⟩ fun a H' Q' ha s2 hq => ⟨c, a, G, x, rfl, ha, hc.same s2, h, n, l, hq⟩
    | @addE _ e h n l =>
      obtain ⟨fd, F, hb, kp⟩ := ok_equation_added (P := P) (base := base) T
      exact main F hb kp (by decide +kernel) (one (.txt (by decide +kernel)) h) (by show 1 ≤ 30; decide) (by rw [show dget (edT K) "add_equation" = some (.ref (edFn K "add_equation")) from rfl, T.edf (k := "add_equation") (g := "equation_added") (by simp [edL])]; rfl)
        ⟨_, 1, .non, rfl, T.t_COUNTS_add_equation.2, Int.le_refl _, .inl rfl⟩ fun a H' Q' ha s2 hq => ⟨c, a, G, e, rfl, ha, hc.same s2, h, n, l, hq⟩
    | @addP _ e u hn1 hn2 he hu2 n =>
      obtain ⟨fd, F, hb, kp⟩ := ok_entry_added (P := P) (base := base) T
      exact main (F.mono (by decide)) hb kp (by decide +kernel) (fun y hy => by
          rcases List.mem_cons.mp hy with rfl | hy
          · exact .txt (by decide +kernel)
          · rcases List.mem_cons.mp hy with rfl | hy
            · exact .name hn1
            · rw [List.mem_singleton.mp hy]
              exact .name hn2) (by show 2 ≤ 30; decide) (by rw [show dget (edT K) "add_entry" = some (.ref (edFn K "add_entry")) from rfl, T.edf (k := "add_entry") (g := "entry_added") (by simp [edL])]; rfl)
        ⟨_, 2, .int 2, rfl, T.t_COUNTS_add_entry.2, Int.le_refl _, .inr ⟨2, rfl, Int.le_refl _⟩⟩ fun a H' Q' ha s2 hq => ⟨c, a, G, e, u, rfl, ha, hc.same s2, he, hu2, n, hq⟩
    | @remE _ e h he =>
      obtain ⟨fd, F, hb, kp⟩ := ok_equation_removed (P := P) (base := base) T
      exact main (F.mono (by decide)) hb kp (by decide +kernel) (one (.txt (by decide +kernel)) h) (by show 1 ≤ 30; decide) (by rw [show dget (edT K) "remove_equation" = some (.ref (edFn K "remove_equation")) from rfl, T.edf (k := "remove_equation") (g := "equation_removed") (by simp [edL])]; rfl)
        ⟨_, 1, .int 1, rfl, T.t_COUNTS_remove_equation.2, Int.le_refl _, .inr ⟨1, rfl, Int.le_refl _⟩⟩ fun a H' Q' ha s2 hq => ⟨c, a, G, e, rfl, ha, hc.same s2, he, hq⟩
    | @remU _ x h hx =>
      obtain ⟨fd, F, hb, kp⟩ := ok_unknown_removed (P := P) (base := base) T
      exact main (F.mono (by decide)) hb kp (by decide +kernel) (one (.txt (by decide +kernel)) h) (by show 1 ≤ 30; decide) (by rw [show dget (edT K) "remove_unknown" = some (.ref (edFn K "remove_unknown")) from rfl, T.edf (k := "remove_unknown") (g := "unknown_removed") (by simp [edL])]; rfl)
        ⟨_, 1, .int 1, rfl, T.t_COUNTS_remove_unknown.2, Int.le_refl _, .inr ⟨1, rfl, Int.le_refl _⟩⟩ fun a H' Q' ha s2 hq => ⟨c, a, G, x, rfl, ha, hc.same s2, hx, hq⟩
end
end Bo

/-! E12 -/
set_option Elab.async false
set_option linter.all false
set_option maxRecDepth 100000
set_option maxHeartbeats 1000000
namespace Bo
open PySem PySem.Spec PyProof.Rows L2
/-! ### a system -/
def SysFs (c o p : Addr) : List (Str × V) := [("content", .ref c), ("opened", .ref o), ("past", .ref p)]
structure SysAt (K : Fg) (H : Hp) (a p : Addr) (n : Nat) (G : Grf) : Prop where
  ex : ∃ (dx c o : Addr) (past : List V), H a = some (.ins (He.ga K "System") dx (SysFs c o p)) ∧ ContAt H c G ∧ H o = some (.lst []) ∧ o ≠ p ∧ H p = some (.lst past) ∧ past.length ≤ n
theorem SysAt.same {K : Fg} {H H' : Hp} {a p : Addr} {n : Nat} {G : Grf} (h : SysAt K H a p n G) (s : Same H H') : SysAt K H' a p n G := by
  obtain ⟨dx, c, o, past, h1, h2, h3, h4, h5, h6⟩ := h.ex
  exact ⟨dx, c, o, past, s _ _ h1, h2.same s, s _ _ h3, h4, s _ _ h5, h6⟩
theorem ContAt.but {H H' : Hp} {a p c dx C : Addr} {fs : List (Str × V)} {l : List V} {G : Grf} (h : ContAt H c G) (s : But [a, p] H H') (ha : H a = some (.ins C dx fs)) (hp : H p = some (.lst l)) : ContAt H' c G := by
  obtain ⟨cols, rows, consts, U, L, Cc, h1, h2, h3, h4, h5⟩ := h.ex
  have st : ∀ {b : Addr} {xs : List V}, H b = some (.tup xs) → H' b = some (.tup xs) := fun {b xs} e => s _ _ e fun hm => by
    rcases List.mem_cons.mp hm with z | z
    · rw [z, ha] at e
      cases e
    · rw [List.mem_singleton.mp z, hp] at e
      cases e
  have sd : ∀ {b : Addr} {xs : List (Key × V)}, H b = some (.dK xs) → H' b = some (.dK xs) := fun {b xs} e => s _ _ e fun hm => by
    rcases List.mem_cons.mp hm with z | z
    · rw [z, ha] at e
      cases e
    · rw [List.mem_singleton.mp z, hp] at e
      cases e
  exact ⟨cols, rows, consts, U, L, Cc, st h1, st h2, ⟨sd h3.at_, fun q hq => sd (h3.row q hq)⟩, sd h4, h5⟩
/-- a content without anything -/
def Grf.nil : Grf := ⟨[], [], fun _ _ => false⟩
section
variable {P : Program} {w : World} {K : Fg} {mg : Str → Option Value} {base : Heap}
def spSysInit (K : Fg) : Sp := fun vs H Q _ => ∃ (a dx : Addr), vs = [.ref a] ∧ H a = some (.ins (He.ga K "System") dx []) ∧ ∀ (p : Addr) (H' : Hp), But [a] H H' → H p = none → SysAt K H' a p 0 .nil → Q .non H'
theorem ok_System_init (T : TX w K mg) : Ok P w K mg base 1 d_System___init__ ["self"] (spSysInit K) := by
  refine mkOk T ix_System___init__ rfl rfl rfl sc_System___init__ (fun _ _ _ _ _ _ us hl => match us, hl with | [_], _ => rfl) (fun vs H Q E h => ?_) (fun cdv A outer s H vs Q E hr h => ?_)
  · obtain ⟨a, dx, rfl, _⟩ := h
    rfl
  · obtain ⟨a, dx, rfl, ha, q⟩ := h
    refine ⟨_, pss_cons (ps_fld (pv 0) (pe_tup (pa_cons (pe_tup pa_nil) (pa_cons pe_dnewK (pa_cons pe_dnewK pa_nil)))) rfl) (pss_cons (ps_fld (pv 0) (pe_lst pa_nil) rfl) (pss_one (ps_fld (pv 0) (pe_lst pa_nil) rfl))), ?_⟩
    refine ⟨small (by decide), fun t nt d1 n1 d2 n2 => ⟨small (by show 3 ≤ 1000; decide), fun c nc => ?_⟩⟩
    have s1 := same_new nt (o := .tup [])
    have s2 := Same.new s1 n1 (o := .dK [])
    have s3 := Same.new s2 n2 (o := .dK [])
    have s4 := Same.new s3 nc (o := .tup [.ref t, .ref d1, .ref d2])
    refine ⟨_, rfl, a, _, dx, _, rfl, s4 _ _ ha, T.cls_System, T.no_System_content, by show 0 < 1000; decide, ?_⟩
    refine ⟨small (by decide), fun o no => ?_⟩
    have e1 : putF "content" (.ref c) ([] : List (Str × V)) = ([("content", .ref c)] : List (Str × V)) := rfl
    rw [e1] at no ⊢
    have oa : o ≠ a := fun e => by rw [e, upd_same] at no; cases no
    refine ⟨_, rfl, a, _, dx, _, rfl, by rw [upd_ne (Ne.symm oa), upd_same], T.cls_System, T.no_System_opened, by show 1 < 1000; decide, ?_⟩
    have e2 : putF "opened" (.ref o) ([("content", .ref c)] : List (Str × V)) = ([("content", .ref c), ("opened", .ref o)] : List (Str × V)) := rfl
    rw [e2]
    refine ⟨small (by decide), fun p np => ?_⟩
    have pa' : p ≠ a := fun e => by rw [e, upd_same] at np; cases np
    have po : o ≠ p := fun e => by rw [← e, upd_ne oa, upd_same] at np; cases np
    refine ⟨_, rfl, a, _, dx, _, rfl, by rw [upd_ne (Ne.symm pa'), upd_same], T.cls_System, T.no_System_past, by show 2 < 1000; decide, ?_⟩
    have e3 : putF "past" (.ref p) ([("content", .ref c), ("opened", .ref o)] : List (Str × V)) = SysFs c o p := rfl
    rw [e3]
    have c0 := But.refl [a] (upd (upd (upd (upd H t (.tup [])) d1 (.dK [])) d2 (.dK [])) c (.tup [.ref t, .ref d1, .ref d2]))
    have c1 := c0.put (p := a) (o := .ins (He.ga K "System") dx ([("content", .ref c)] : List (Str × V))) (by simp)
    have c2 := But.new c1 no (o := .lst [])
    have c3 := c2.put (p := a) (o := .ins (He.ga K "System") dx ([("content", .ref c), ("opened", .ref o)] : List (Str × V))) (by simp)
    have c4 := But.new c3 np (o := .lst [])
    have c5 := c4.put (p := a) (o := .ins (He.ga K "System") dx (SysFs c o p)) (by simp)
    have b5 := (Same.but s4 [a]).trans c5
    have hpn : H p = none := But.newer ((Same.but s4 [a]).trans c3) np (by simpa using pa')
    have a4 := s4 _ _ ha
    have far : ∀ {b : Addr} {u : HO}, (upd (upd (upd (upd H t (.tup [])) d1 (.dK [])) d2 (.dK [])) c (.tup [.ref t, .ref d1, .ref d2])) b = some u → (∀ C x f, u ≠ .ins C x f) → _ := fun {b u} e hne => c5 b u e (fun hm => by
      rw [List.mem_singleton.mp hm, a4] at e
      exact hne _ _ _ (Option.some.inj e).symm)
    have ht1 : upd H t (.tup []) t = some (.tup []) := upd_same
    have hc := far (b := c) upd_same (by intro _ _ _ z; cases z)
    have ht := far (b := t) ((same_new nc) _ _ ((same_new n2) _ _ ((same_new n1) _ _ ht1))) (by intro _ _ _ z; cases z)
    have hd1 := far (b := d1) ((same_new nc) _ _ ((same_new n2) _ _ upd_same)) (by intro _ _ _ z; cases z)
    have hd2 := far (b := d2) ((same_new nc) _ _ upd_same) (by intro _ _ _ z; cases z)
    refine q p _ b5 hpn ⟨dx, c, o, [], upd_same, ⟨t, d1, d2, [], [], [], hc, ht, ⟨hd1, fun _ h => (nomatch h)⟩, hd2, ⟨.nil, fun _ => Iff.rfl, .nil, fun _ => Iff.rfl, .nil, fun _ => Iff.rfl, fun _ h => (nomatch h), fun _ h => (nomatch h), Nat.zero_le _, Nat.zero_le _⟩⟩, ?_, po, ?_, Nat.le_refl _⟩
    · rw [upd_ne oa, upd_ne po, upd_ne oa, upd_same]
    · rw [upd_ne pa', upd_same]
end
end Bo

/-! E13 -/
set_option Elab.async false
set_option linter.all false
set_option maxRecDepth 100000
set_option maxHeartbeats 1000000
namespace Bo
open PySem PySem.Spec PyProof.Rows L2
section
variable {P : Program} {w : World} {K : Fg} {mg : Str → Option Value} {base : Heap}
theorem TX.tabW (T : TX w K mg) (i : Nat) {t : He.Tab} (h : tabs[i]? = some t := by rfl) : He.dicW K (t.1 K) = some (He.keysIn w.params t.2) := by
  have e : plan.ts.map (fun t => He.dicW K (t.1 K)) = plan.ts.map fun t => some (He.keysIn w.params t.2) := congrArg (fun z : AlB => z.2.2) T.says
  have e2 : (tabs.map fun t => He.dicW K (t.1 K))[i]? = (tabs.map fun t => some (He.keysIn w.params t.2))[i]? := by
    show (plan.ts.map fun t => He.dicW K (t.1 K))[i]? = _
    rw [e]
    rfl
  rw [List.getElem?_map, List.getElem?_map, h] at e2
  exact Option.some.inj e2
theorem TX.tabE (T : TX w K mg) : He.dicW K (He.ga K "EDITS") = some (He.keysIn w.params edKeys) := T.tabW 0
theorem TX.tabC (T : TX w K mg) : He.dicW K (He.ga K "COUNTS") = some (He.keysIn w.params edKeys) := T.tabW 1
theorem TX.valE (T : TX w K mg) : ∀ k ∈ edKeys, PySem.W.nsIn K (He.ga K "EDITS") k = some (some (.ref (edFn K k))) := by
  have f : ∀ {k g : Str}, (k, He.Dv.glo g) ∈ edL → PySem.W.nsIn K (He.ga K "EDITS") k = some (some (.ref (edFn K k))) := fun h => by rw [T.edf h]; exact T.edn h
  intro k hk
  simp only [edKeys, List.mem_cons, List.not_mem_nil, or_false] at hk
  rcases hk with rfl | rfl | rfl | rfl | rfl | rfl
  · exact f (g := "unknowns_added") (by simp [edL])
  · exact f (g := "equation_added") (by simp [edL])
  · exact f (g := "entry_added") (by simp [edL])
  · exact f (g := "entry_removed") (by simp [edL])
  · exact f (g := "equation_removed") (by simp [edL])
  · exact f (g := "unknown_removed") (by simp [edL])
theorem TX.valC (T : TX w K mg) : ∀ k ∈ edKeys, PySem.W.nsIn K (He.ga K "COUNTS") k = some (some (.ref (tupAt K "COUNTS" k))) := by
  intro k hk
  simp only [edKeys, List.mem_cons, List.not_mem_nil, or_false] at hk
  rcases hk with rfl | rfl | rfl | rfl | rfl | rfl
  · exact T.t_COUNTS_add_unknown.1
  · exact T.t_COUNTS_add_equation.1
  · exact T.t_COUNTS_add_entry.1
  · exact T.t_COUNTS_remove_entry.1
  · exact T.t_COUNTS_remove_equation.1
  · exact T.t_COUNTS_remove_unknown.1
def spEditTable (K : Fg) : Sp := fun vs H Q _ => ∃ (a : Addr), vs = [.ref a] ∧ ∀ (t e c : Addr) (H' : Hp), Same H H' → H' t = some (.tup [.ref e, .ref c]) → DictAt H' e (edT K) → DictAt H' c (coT K) → Q (.ref t) H'
theorem ok_edit_table (T : TX w K mg) : Ok P w K mg base 1 d_System_edit_table ["self"] (spEditTable K) := by
  refine mkOk T ix_System_edit_table rfl rfl rfl sc_System_edit_table (fun _ _ _ _ _ _ us hl => match us, hl with | [_], _ => rfl) (fun vs H Q E h => ?_) (fun cdv A outer s H vs Q E hr h => ?_)
  · obtain ⟨a, rfl, _⟩ := h
    rfl
  · obtain ⟨a, rfl, q⟩ := h
    refine ⟨_, pss_one (ps_ret (pe_tup (pa_cons (pe_callTy (call_dictK T.tabE (by decide) (by decide) T.valE) (by rfl) T.f_dict PyProof.Rows.boot_dict (pa_cons (pe_gref rfl T.g_EDITS) pa_nil))
      (pa_cons (pe_callTy (call_dictK T.tabC (by decide) (by decide) T.valC) (by rfl) T.f_dict PyProof.Rows.boot_dict (pa_cons (pe_gref rfl T.g_COUNTS) pa_nil)) pa_nil)))), ?_⟩
    refine ⟨rfl, fun e ne => ⟨rfl, fun c nc => ⟨small (by show 2 ≤ 1000; decide), fun t nt => ?_⟩⟩⟩
    have s1 := same_new ne (o := .dK (tk (edT K)))
    have s2 := same_new nc (o := .dK (tk (coT K)))
    have s3 := same_new nt (o := .tup [.ref e, .ref c])
    exact q t e c _ ((s1.trans s2).trans s3) upd_same (s3 _ _ (s2 _ _ upd_same)) (s3 _ _ upd_same)
/-- a system's content is replaced -/
def spChange (K : Fg) : Sp := fun vs H Q _ => ∃ (a c' p n : Nat) (G G' : Grf), vs = [.ref a, .ref c'] ∧ SysAt K H a p n G ∧ n < 1000 ∧ ContAt H c' G' ∧ ∀ H', But [a, p] H H' → SysAt K H' a p (n + 1) G' → Q .non H'
theorem ok_change (T : TX w K mg) : Ok P w K mg base 1 d_System_change ["self", "content"] (spChange K) := by
  refine mkOk T ix_System_change rfl rfl rfl sc_System_change (fun _ _ _ _ _ _ us hl => match us, hl with | [_, _], _ => rfl) (fun vs H Q E h => ?_) (fun cdv A outer s H vs Q E hr h => ?_)
  · obtain ⟨a, c', p, n, G, G', rfl, _⟩ := h
    rfl
  · obtain ⟨a, c', p, n, G, G', rfl, hs, hn, hc', q⟩ := h
    obtain ⟨dx, c, o, past, h1, h2, h3, h4, h5, h6⟩ := hs.ex
    refine ⟨_, pss_cons (ps_if (pt_cmpR (op_eqD hr.units) (pe_fld (pv 0) rfl) (pe_lst pa_nil) rfl)
        (pss_one (ps_expr (pe_bm PySem.F.plainAttrs_list PySem.F.slot_list_append PySem.F.type_list_append mt_append (pe_fld (pv 0) rfl) (pa_cons (pe_fld (pv 0) rfl) pa_nil)))) pss_nil)
      (pss_one (ps_fld (pv 0) (pv 1) rfl)), ?_⟩
    refine ⟨_, rfl, a, _, dx, _, _, rfl, h1, T.cls_System, T.no_System_opened, rfl, small (by decide), fun l nl => ?_⟩
    have s1 := same_new nl (o := .lst [])
    refine ⟨.list [], .list [], .lst (SqL.of (s1 _ _ h3)) .nil, .lst (SqL.of upd_same) .nil, (Sh.list (n := 0) (l := []) (fun _ h => (nomatch h))).shaped, (Sh.list (n := 0) (l := []) (fun _ h => (nomatch h))).shaped, _, rfl, ?_⟩
    show if true = true then _ else _
    refine iteT ?_
    refine ⟨_, rfl, a, _, dx, _, _, rfl, s1 _ _ h1, T.cls_System, T.no_System_past, rfl, .inl ⟨rfl, _, SqL.of (s1 _ _ h5)⟩, ?_⟩
    refine ⟨_, rfl, a, _, dx, _, _, rfl, s1 _ _ h1, T.cls_System, T.no_System_content, rfl, p, past, _, rfl, rfl, s1 _ _ h5, small1000 (by omega), ?_⟩
    have pa' : p ≠ a := fun e => by rw [e, h1] at h5; cases h5
    have b1 := (Same.but s1 [a, p]).put (p := p) (o := .lst (past ++ [.ref c])) (by simp)
    refine ⟨_, rfl, _, rfl, a, _, dx, _, rfl, by rw [upd_ne (Ne.symm pa')]; exact s1 _ _ h1, T.cls_System, T.no_System_content, by show 3 < 1000; decide, ?_⟩
    have e3 : putF "content" (.ref c') (SysFs c o p) = SysFs c' o p := rfl
    rw [e3]
    have b2 := b1.put (p := a) (o := .ins (He.ga K "System") dx (SysFs c' o p)) (by simp)
    refine q _ b2 ⟨dx, c', o, past ++ [.ref c], upd_same, hc'.but b2 h1 h5, b2 o _ h3 (fun hm => ?_), h4, ?_, ?_⟩
    · rcases List.mem_cons.mp hm with z | z
      · rw [z, h1] at h3
        cases h3
      · exact h4 (List.mem_singleton.mp z)
    · rw [upd_ne pa', upd_same]
    · rw [List.length_append]
      show past.length + 1 ≤ n + 1
      omega
end
end Bo

/-! E14 -/
set_option Elab.async false
set_option linter.all false
set_option maxRecDepth 100000
set_option maxHeartbeats 1000000
namespace Bo
open PySem PySem.Spec PyProof.Rows L2
theorem SysAt.but {K : Fg} {H H' : Hp} {a p : Addr} {n : Nat} {G : Grf} (h : SysAt K H a p n G) (s : Same H H') : SysAt K H' a p n G := h.same s
section
variable {P : Program} {w : World} {K : Fg} {mg : Str → Option Value} {base : Heap}
def spPerform (K : Fg) : Sp := fun vs H Q _ => ∃ (a ed p n : Nat) (G G' : Grf) (z : Str) (args : List Str), vs = [.ref a, .ref ed] ∧ SysAt K H a p n G ∧ n < 1000 ∧ SqT K H ed (txs (z :: args)) ∧ Edit K z args G G' ∧
  ∀ H', But [a, p] H H' → SysAt K H' a p (n + 1) G' → Q .non H'
theorem ok_perform (T : TX w K mg) : Ok P w K mg base 6 d_System_perform ["self", "edit"] (spPerform K) := by
  refine mkOk T ix_System_perform rfl rfl rfl sc_System_perform (fun _ _ _ _ _ _ us hl => match us, hl with | [_, _], _ => rfl) (fun vs H Q E h => ?_) (fun cdv A outer s H vs Q E hr h => ?_)
  · obtain ⟨a, ed, p, n, G, G', z, args, rfl, _⟩ := h
    rfl
  · obtain ⟨a, ed, p, n, G, G', z, args, rfl, hs, hn, hed, he, q⟩ := h
    obtain ⟨f1, G1, b1, k1⟩ := ok_edit_table (P := P) (base := base) T
    obtain ⟨f2, G2, b2, k2⟩ := ok_change (P := P) (base := base) T
    obtain ⟨f3, G3, ⟨ds3, v3, b3⟩, k3⟩ := ok_edited (P := P) (base := base) T
    refine ⟨_, pss_cons (ps_asg (pe_meth0 (pv 0) T.cls_System T.m_System_edit_table G1 (hr.mono (by decide)) b1 .nil pass0) (pg_tup rfl (pgs_cons (pgn (i := 2) sc_System_perform.nd) (pgs_cons (pgn (i := 3) sc_System_perform.nd) pgs_nil))))
      (pss_one (ps_expr (pe_meth (pv 0) T.cls_System T.m_System_change G2 (hr.mono (by decide)) b2 .nil pass0
        (pa_cons (pe_call G3 hr (by rfl) T.g_edited k3 b3 v3 pass0 (pa_cons (pe_fld (pv 0) rfl) (pa_cons (pv 1) (pa_cons (pv 2) (pa_cons (pv 3) pa_nil))))) pa_nil)))), ?_⟩
    obtain ⟨dx, c, o, past, h1, h2, h3, h4, h5, h6⟩ := hs.ex
    refine ⟨_, rfl, a, dx, _, rfl, h1, rfl, a, rfl, fun t e c1 H1 s1 ht hE hC => ?_⟩
    refine ⟨t, _, rfl, SqT.of ht, rfl, _, _, rfl, _, _, rfl, rfl, ?_⟩
    refine ⟨_, rfl, a, dx, _, rfl, s1 _ _ h1, rfl, _, rfl, a, _, dx, _, _, rfl, s1 _ _ h1, T.cls_System, T.no_System_content, rfl, ?_⟩
    refine ⟨_, rfl, _, rfl, _, rfl, c, ed, e, c1, z, args, G, G', rfl, h2.same s1, Same.tup s1 hed, hE, hC, he, fun c' H2 s2 hc' => ?_⟩
    have s12 := s1.trans s2
    exact ⟨a, c', p, n, G, G', rfl, hs.same s12, hn, hc', fun H' b hs' => q H' ((Same.but s12 _).trans b) hs'⟩
/-- a def with a star parameter behind its others -/
def OkS (P : Program) (w : World) (K : Fg) (mg : Str → Option Value) (base : Heap) (k : Nat) (d : DefA) (sp : Sp) : Prop := FnR P w K mg base CX0 k (d.pth.ad K) sp ∧ PySem.W.keepIn K (.ref (d.pth.ad K)) = true
theorem mkOkS (T : TX w K mg) (i : Nat) {d : DefA} {N ps : List Str} {pv : Str} {k : Nat} {sp : Sp} (h : ds[i]? = some d) (hc : d.clo = []) (S : FnScope N (ps ++ [pv]) (defScope d.st))
    (hb : ∀ (kV doc pm : Value) (an : Option Addr) (cdv ct : Value) (us rest : List Value), us.length = ps.length → bindArgs (PySem.W.fnOf d.name d.qual (defArgs d.st) (defBody d.st) (defScope d.st) .none kV doc pm an cdv ct) ⟨us ++ rest, []⟩ = (newTuple rest >>= fun t => pure (ps.zip us ++ [(pv, t)])))
    (hbody : ∀ (cdv : Value) (A : Around) (outer : List Env) (s : Shared) (H : Hp) (vs : List V) (Q : VK) (E : XK), Room k (A.deeper (envOfC d.qual (defScope d.st) s.heap.objs.size (d.pth.ad K) cdv)) → sp vs H Q E →
      ∃ t, PSs (cxOf CX0 P w K mg base N d.qual (defScope d.st) (d.pth.ad K) cdv A outer s H E).nox (defBody d.st) t ∧ t { nx := fun _ H' => Q .non H', rt := Q } (start N vs) H) :
    OkS P w K mg base (k + 1) d (fun vs H Q E => ∃ ws rest, vs = ws ++ rest ∧ ws.length = ps.length ∧ rest.length ≤ sizeLine ∧ ∀ p, H p = none → sp (ws ++ [V.ref p]) (upd H p (.tup rest)) Q E) := by
  obtain ⟨fd, F⟩ := T.says.def_ i h hc
  obtain ⟨oc, od, dV, kV, doc, pm, an, cdv, ct, osl, rfl, lk, hcd, hD, _⟩ := F.ex
  obtain rfl : dV = .none := by
    rcases hD with ⟨_, e⟩ | ⟨e, _⟩
    · exact e
    · exact absurd rfl e
  refine ⟨StX.fn_star lk hcd S StX.cxUp_none (hb kV doc pm an cdv ct) fun A outer s H vs Q E hr hs => ?_, F.kp⟩
  obtain ⟨t, h1, h2⟩ := hbody cdv A outer s H vs Q E hr hs
  exact ⟨t, h1.nox, h2⟩
def spAddU (K : Fg) : Sp := fun vs H Q _ => ∃ (a p n : Nat) (G : Grf) (x : Str), vs = [.ref a, .str x] ∧ SysAt K H a p n G ∧ n < 1000 ∧ NameOk x ∧ x ∉ G.us ∧ G.us.length + 1 ≤ 24 ∧
  ∀ H', But [a, p] H H' → SysAt K H' a p (n + 1) (G.addU x) → Q .non H'
theorem ok_add_unknown (T : TX w K mg) : OkS P w K mg base 7 d_System_add_unknown (spAddU K) := by
  have M := mkOkS (P := P) (base := base) T ix_System_add_unknown (ps := ["self"]) (pv := "names") (k := 6) (sp := fun vs H Q _ => ∃ (a p n t : Nat) (G : Grf) (x : Str), vs = [.ref a, .ref t] ∧ SqT K H t [.str x] ∧ SysAt K H a p n G ∧ n < 1000 ∧ NameOk x ∧ x ∉ G.us ∧ G.us.length + 1 ≤ 24 ∧
    ∀ H', But [a, p] H H' → SysAt K H' a p (n + 1) (G.addU x) → Q .non H') rfl rfl sc_System_add_unknown (fun kV doc pm an cdv ct => StX.bind_star1 (B := fun us => bindArgs (PySem.W.fnOf d_System_add_unknown.name d_System_add_unknown.qual (defArgs d_System_add_unknown.st) (defBody d_System_add_unknown.st) (defScope d_System_add_unknown.st) .none kV doc pm an cdv ct) ⟨us, []⟩) (fun a => rfl) (fun a r rs => rfl)) (fun cdv A outer s H vs Q E hr h => ?_)
  · refine ⟨M.1.imp fun vs H Q E h => ?_, M.2⟩
    obtain ⟨a, p, n, G, x, rfl, hs, hn, hx, hxu, hl, q⟩ := h
    refine ⟨[.ref a], [.str x], rfl, rfl, small (by show 1 ≤ 1000; decide), fun t nt => ?_⟩
    have s1 := same_new nt (o := .tup [.str x])
    exact ⟨a, p, n, t, G, x, rfl, SqT.of upd_same, hs.same s1, hn, hx, hxu, hl, fun H' b hs' => q H' ((Same.but s1 _).trans b) hs'⟩
  · obtain ⟨a, p, n, t, G, x, rfl, ht, hs, hn, hx, hxu, hl, q⟩ := h
    obtain ⟨f1, G1, b1, k1⟩ := ok_perform (P := P) (base := base) T
    refine ⟨_, pss_one (ps_expr (pe_meth (pv 0) T.cls_System T.m_System_perform G1 hr b1 .nil pass0 (pa_cons (pe_tup (pa_cons pe_str (StX.pa_star (pv 1) pa_nil))) pa_nil))), ?_⟩
    obtain ⟨dx, c, o, past, h1, h2, h3, h4, h5, h6⟩ := hs.ex
    refine ⟨_, rfl, a, dx, _, rfl, h1, rfl, _, rfl, t, _, rfl, .inl ht, small (by show 2 ≤ 1000; decide), fun ed ned => ?_⟩
    have s1 := same_new ned (o := .tup [.str "add_unknown", .str x])
    exact ⟨a, ed, p, n, G, _, "add_unknown", [x], rfl, hs.same s1, hn, SqT.of upd_same, .addU hx hxu hl, fun H' b hs' => q H' ((Same.but s1 _).trans b) hs'⟩
def spAddE (K : Fg) : Sp := fun vs H Q _ => ∃ (a p n : Nat) (G : Grf) (x : Str), vs = [.ref a, .str x] ∧ SysAt K H a p n G ∧ n < 1000 ∧ NameOk x ∧ x ∉ G.es ∧ G.es.length + 1 ≤ 24 ∧
  ∀ H', But [a, p] H H' → SysAt K H' a p (n + 1) (G.addE x) → Q .non H'
theorem ok_add_equation (T : TX w K mg) : OkS P w K mg base 7 d_System_add_equation (spAddE K) := by
  have M := mkOkS (P := P) (base := base) T ix_System_add_equation (ps := ["self", "name"]) (pv := "unknowns") (k := 6) (sp := fun vs H Q _ => ∃ (a p n t : Nat) (G : Grf) (x : Str), vs = [.ref a, .str x, .ref t] ∧ SqT K H t [] ∧ SysAt K H a p n G ∧ n < 1000 ∧ NameOk x ∧ x ∉ G.es ∧ G.es.length + 1 ≤ 24 ∧
    ∀ H', But [a, p] H H' → SysAt K H' a p (n + 1) (G.addE x) → Q .non H') rfl rfl sc_System_add_equation (fun kV doc pm an cdv ct => StX.bind_star2 (B := fun us => bindArgs (PySem.W.fnOf d_System_add_equation.name d_System_add_equation.qual (defArgs d_System_add_equation.st) (defBody d_System_add_equation.st) (defScope d_System_add_equation.st) .none kV doc pm an cdv ct) ⟨us, []⟩) (fun a b => rfl) (fun a b r rs => rfl)) (fun cdv A outer s H vs Q E hr h => ?_)
  · refine ⟨M.1.imp fun vs H Q E h => ?_, M.2⟩
    obtain ⟨a, p, n, G, x, rfl, hs, hn, hx, hxu, hl, q⟩ := h
    refine ⟨[.ref a, .str x], [], rfl, rfl, small (by show 0 ≤ 1000; decide), fun t nt => ?_⟩
    have s1 := same_new nt (o := .tup [])
    exact ⟨a, p, n, t, G, x, rfl, SqT.of upd_same, hs.same s1, hn, hx, hxu, hl, fun H' b hs' => q H' ((Same.but s1 _).trans b) hs'⟩
  · obtain ⟨a, p, n, t, G, x, rfl, ht, hs, hn, hx, hxu, hl, q⟩ := h
    obtain ⟨f1, G1, b1, k1⟩ := ok_perform (P := P) (base := base) T
    refine ⟨_, pss_one (ps_expr (pe_meth (pv 0) T.cls_System T.m_System_perform G1 hr b1 .nil pass0 (pa_cons (pe_tup (pa_cons pe_str (pa_cons (pv 1) (StX.pa_star (pv 2) pa_nil)))) pa_nil))), ?_⟩
    obtain ⟨dx, c, o, past, h1, h2, h3, h4, h5, h6⟩ := hs.ex
    refine ⟨_, rfl, a, dx, _, rfl, h1, rfl, _, rfl, _, rfl, t, _, rfl, .inl ht, small (by show 2 ≤ 1000; decide), fun ed ned => ?_⟩
    have s1 := same_new ned (o := .tup [.str "add_equation", .str x])
    exact ⟨a, ed, p, n, G, _, "add_equation", [x], rfl, hs.same s1, hn, SqT.of upd_same, .addE hx hxu hl, fun H' b hs' => q H' ((Same.but s1 _).trans b) hs'⟩
def spAddP (K : Fg) : Sp := fun vs H Q _ => ∃ (a p n : Nat) (G : Grf) (e u : Str), vs = [.ref a, .str e, .str u] ∧ SysAt K H a p n G ∧ n < 1000 ∧ NameOk e ∧ NameOk u ∧ e ∈ G.es ∧ u ∈ G.us ∧ G.adj e u = false ∧
  ∀ H', But [a, p] H H' → SysAt K H' a p (n + 1) (G.addP e u) → Q .non H'
theorem ok_add_entry (T : TX w K mg) : Ok P w K mg base 7 d_System_add_entry ["self", "equation", "unknown"] (spAddP K) := by
  refine mkOk T ix_System_add_entry rfl rfl rfl sc_System_add_entry (fun _ _ _ _ _ _ us hl => match us, hl with | [_, _, _], _ => rfl) (fun vs H Q E h => ?_) (fun cdv A outer s H vs Q E hr h => ?_)
  · obtain ⟨a, p, n, G, e, u, rfl, _⟩ := h
    rfl
  · obtain ⟨a, p, n, G, e, u, rfl, hs, hn, h1', h2', he, hu, hno, q⟩ := h
    obtain ⟨f1, G1, b1, k1⟩ := ok_perform (P := P) (base := base) T
    refine ⟨_, pss_one (ps_expr (pe_meth (pv 0) T.cls_System T.m_System_perform G1 hr b1 .nil pass0 (pa_cons (pe_tup (pa_cons pe_str (pa_cons (pv 1) (pa_cons (pv 2) pa_nil)))) pa_nil))), ?_⟩
    obtain ⟨dx, c, o, past, h1, h2, h3, h4, h5, h6⟩ := hs.ex
    refine ⟨_, rfl, a, dx, _, rfl, h1, rfl, _, rfl, _, rfl, small (by show 3 ≤ 1000; decide), fun ed ned => ?_⟩
    have s1 := same_new ned (o := .tup [.str "add_entry", .str e, .str u])
    exact ⟨a, ed, p, n, G, _, "add_entry", [e, u], rfl, hs.same s1, hn, SqT.of upd_same, .addP h1' h2' he hu hno, fun H' b hs' => q H' ((Same.but s1 _).trans b) hs'⟩
def spRemE (K : Fg) : Sp := fun vs H Q _ => ∃ (a p n : Nat) (G : Grf) (x : Str), vs = [.ref a, .str x] ∧ SysAt K H a p n G ∧ n < 1000 ∧ NameOk x ∧ x ∈ G.es ∧
  ∀ H', But [a, p] H H' → SysAt K H' a p (n + 1) (G.remE x) → Q .non H'
theorem ok_remove_equation (T : TX w K mg) : Ok P w K mg base 7 d_System_remove_equation ["self", "name"] (spRemE K) := by
  refine mkOk T ix_System_remove_equation rfl rfl rfl sc_System_remove_equation (fun _ _ _ _ _ _ us hl => match us, hl with | [_, _], _ => rfl) (fun vs H Q E h => ?_) (fun cdv A outer s H vs Q E hr h => ?_)
  · obtain ⟨a, p, n, G, e, rfl, _⟩ := h
    rfl
  · obtain ⟨a, p, n, G, x, rfl, hs, hn, h1', he, q⟩ := h
    obtain ⟨f1, G1, b1, k1⟩ := ok_perform (P := P) (base := base) T
    refine ⟨_, pss_one (ps_expr (pe_meth (pv 0) T.cls_System T.m_System_perform G1 hr b1 .nil pass0 (pa_cons (pe_tup (pa_cons pe_str (pa_cons (pv 1) pa_nil))) pa_nil))), ?_⟩
    obtain ⟨dx, c, o, past, h1, h2, h3, h4, h5, h6⟩ := hs.ex
    refine ⟨_, rfl, a, dx, _, rfl, h1, rfl, _, rfl, small (by show 2 ≤ 1000; decide), fun ed ned => ?_⟩
    have s1 := same_new ned (o := .tup [.str "remove_equation", .str x])
    exact ⟨a, ed, p, n, G, _, "remove_equation", [x], rfl, hs.same s1, hn, SqT.of upd_same, .remE h1' he, fun H' b hs' => q H' ((Same.but s1 _).trans b) hs'⟩
def spRemU (K : Fg) : Sp := fun vs H Q _ => ∃ (a p n : Nat) (G : Grf) (x : Str), vs = [.ref a, .str x] ∧ SysAt K H a p n G ∧ n < 1000 ∧ NameOk x ∧ x ∈ G.us ∧
  ∀ H', But [a, p] H H' → SysAt K H' a p (n + 1) (G.remU x) → Q .non H'
theorem ok_remove_unknown (T : TX w K mg) : Ok P w K mg base 7 d_System_remove_unknown ["self", "name"] (spRemU K) := by
  refine mkOk T ix_System_remove_unknown rfl rfl rfl sc_System_remove_unknown (fun _ _ _ _ _ _ us hl => match us, hl with | [_, _], _ => rfl) (fun vs H Q E h => ?_) (fun cdv A outer s H vs Q E hr h => ?_)
  · obtain ⟨a, p, n, G, e, rfl, _⟩ := h
    rfl
  · obtain ⟨a, p, n, G, x, rfl, hs, hn, h1', he, q⟩ := h
    obtain ⟨f1, G1, b1, k1⟩ := ok_perform (P := P) (base := base) T
    refine ⟨_, pss_one (ps_expr (pe_meth (pv 0) T.cls_System T.m_System_perform G1 hr b1 .nil pass0 (pa_cons (pe_tup (pa_cons pe_str (pa_cons (pv 1) pa_nil))) pa_nil))), ?_⟩
    obtain ⟨dx, c, o, past, h1, h2, h3, h4, h5, h6⟩ := hs.ex
    refine ⟨_, rfl, a, dx, _, rfl, h1, rfl, _, rfl, small (by show 2 ≤ 1000; decide), fun ed ned => ?_⟩
    have s1 := same_new ned (o := .tup [.str "remove_unknown", .str x])
    exact ⟨a, ed, p, n, G, _, "remove_unknown", [x], rfl, hs.same s1, hn, SqT.of upd_same, .remU h1' he, fun H' b hs' => q H' ((Same.but s1 _).trans b) hs'⟩
end
end Bo

/-! F1 -/
set_option Elab.async false
set_option linter.all false
set_option maxRecDepth 100000
set_option maxHeartbeats 1000000
namespace Bo
open PySem PySem.Spec PyProof.Rows L2
theorem Same.over {H H1 : Hp} {p : Addr} {o : HO} (s : Same H H1) (h : H p = none) : Same H (upd H1 p o) := fun b u e => by
  rw [upd_ne (ne_of_none e h)]
  exact s b u e
theorem Rd.same {H H' : Hp} {a : Addr} {u : HO} (h : Rd H a u) (s : Same H H') : Rd H' a u := by
  rcases h with h | ⟨o, h⟩
  · exact .inl (s _ _ h)
  · exact .inr ⟨o, s _ _ h⟩
theorem DGet.same {H H' : Hp} {a : Addr} {y : V} {r : Option V} (h : DGet H a y r) (s : Same H H') : DGet H' a y r := by
  rcases h with ⟨kvs, k, h1, h2, h3⟩ | ⟨kvs, k, b, h1, h2, h3, h4⟩
  · exact .inl ⟨kvs, k, Rd.same h1 s, h2, h3⟩
  · exact .inr ⟨kvs, k, b, Rd.same h1 s, h2, s _ _ h3, h4⟩
/-- a dict of texts to texts -/
def sd (O : List (Str × Str)) : List (Str × V) := O.map fun p => (p.1, V.str p.2)
theorem sd_keys (O : List (Str × Str)) : (sd O).map (·.1) = O.map (·.1) := by
  unfold sd
  rw [List.map_map]
  rfl
@[simp] theorem sd_len (O : List (Str × Str)) : (sd O).length = O.length := by unfold sd; exact List.length_map ..
theorem sd_get (O : List (Str × Str)) (k : Str) : dget (sd O) k = (dget O k).map V.str := by
  induction O with
  | nil => rfl
  | cons p O ih =>
    show dget ((p.1, V.str p.2) :: sd O) k = _
    rw [dget_cons, dget_cons, ih]
    by_cases h : p.1 = k
    · rw [if_pos h, if_pos h]
      rfl
    · rw [if_neg h, if_neg h]
theorem sd_put (O : List (Str × Str)) (k v : Str) : dput (sd O) k (.str v) = sd (dput O k v) := by
  unfold dput
  have e : ((sd O).any fun p => decide (p.1 = k)) = O.any fun p => decide (p.1 = k) := by
    unfold sd
    rw [List.any_map]
    rfl
  rw [e]
  by_cases hh : (O.any fun p => decide (p.1 = k)) = true
  · rw [if_pos hh, if_pos hh]
    unfold sd
    rw [List.map_map, List.map_map]
    apply List.map_congr_left
    intro p _
    simp only [Function.comp]
    by_cases h : p.1 = k
    · rw [if_pos h, if_pos h]
    · rw [if_neg h, if_neg h]
  · rw [if_neg hh, if_neg hh]
    unfold sd
    rw [List.map_append]
    rfl
/-- rows: a dict from equations to tuples of unknowns -/
structure Rows3 (K : Fg) (H : Hp) (d : Addr) (es us : List Str) (R : Str → List Str) : Prop where
  at_ : ∃ L : List Row, DictR H d (refs L) ∧ L.map (·.1) = es ∧ ∀ p ∈ L, SqT K H p.2.1 (txs p.2.2) ∧ p.2.2 = R p.1
  nd : es.Nodup
  el : es.length ≤ 24
  ul : us.length ≤ 24
  sub : ∀ e ∈ es, ∀ u ∈ R e, u ∈ us
  rnd : ∀ e ∈ es, (R e).Nodup
theorem Rows3.same {K : Fg} {H H' : Hp} {d : Addr} {es us : List Str} {R : Str → List Str} (h : Rows3 K H d es us R) (s : Same H H') : Rows3 K H' d es us R := by
  obtain ⟨L, h1, h2, h3⟩ := h.at_
  exact ⟨⟨L, DictR.same h1 s, h2, fun p hp => ⟨Same.tup s (h3 p hp).1, (h3 p hp).2⟩⟩, h.nd, h.el, h.ul, h.sub, h.rnd⟩
theorem Rows3.get {K : Fg} {H : Hp} {d : Addr} {es us : List Str} {R : Str → List Str} (h : Rows3 K H d es us R) {e : Str} (he : e ∈ es) : ∃ a, DGet H d (.str e) (some (.ref a)) ∧ SqT K H a (txs (R e)) := by
  obtain ⟨L, h1, h2, h3⟩ := h.at_
  rw [← h2] at he
  obtain ⟨p, hp, rfl⟩ := List.mem_map.mp he
  have := refs_get (by rw [h2]; exact h.nd) hp
  refine ⟨p.2.1, this ▸ DictR.get h1 p.1, ?_⟩
  rw [← (h3 p hp).2]
  exact (h3 p hp).1
theorem Rows3.rl {K : Fg} {H : Hp} {d : Addr} {es us : List Str} {R : Str → List Str} (h : Rows3 K H d es us R) {e : Str} (he : e ∈ es) : (R e).length ≤ 24 := Nat.le_trans (len_le_of_sub (h.rnd e he) (h.sub e he)) h.ul
/-- the search's state: what it met, whom it will ask, how many it asked -/
structure Srch (es us : List Str) (R : Str → List Str) (O : List (Str × Str)) (s : Str) (C : List (Str × Str)) (W : List Str) (n : Nat) : Prop where
  tree : Tree O R s C
  hd : ∀ w ∈ W, w = s ∨ ∃ v ∈ C.map (·.1), dget O v = some w
  cl : ∀ u ∈ C.map (·.1), ∃ w ∈ W, dget O u = some w
  sub : ∀ w ∈ W, w ∈ es
  us : ∀ u ∈ C.map (·.1), u ∈ us
  len : W.length = C.length + 1
  s0 : s ∈ W
  seen : ∀ j e, j < n → W[j]? = some e → ∀ u ∈ R e, u ∈ C.map (·.1)
/-- a set of equations whose unknowns all have owners in it -/
structure Shut (es : List Str) (R : Str → List Str) (O : List (Str × Str)) (s : Str) (W : List Str) : Prop where
  s0 : s ∈ W
  sub : ∀ w ∈ W, w ∈ es
  hd : ∀ w ∈ W, w = s ∨ ∃ v, dget O v = some w
  cl : ∀ w ∈ W, ∀ u ∈ R w, ∃ w' ∈ W, dget O u = some w'
section
variable {P : Program} {w : World} {K : Fg} {mg : Str → Option Value} {base : Heap}
def spFound (K : Fg) : Sp := fun vs H Q _ => ∃ (rd od : Addr) (s : Str) (es us : List Str) (R : Str → List Str) (O : List (Str × Str)), vs = [.ref rd, .ref od, .str s] ∧ Rows3 K H rd es us R ∧ DictAt H od (sd O) ∧ (∀ u e, dget O u = some e → e ∈ es) ∧ s ∈ es ∧
  (∀ t came C u e H', Same H H' → H came = none → H' t = some (.tup [.ref came, .str u]) → DictAt H' came (sd (C ++ [(u, e)])) → C.length ≤ 24 → Tree O R s (C ++ [(u, e)]) → dget O u = none → Q (.ref t) H') ∧
  (∀ t came W H', Same H H' → H' t = some (.tup [.ref came, .non]) → Shut es R O s W → Q (.ref t) H')
theorem ok_found_path (T : TX w K mg) : Ok P w K mg base 1 d_found_path ["rows", "owners", "start"] (spFound K) := by
  refine mkOk T ix_found_path rfl rfl rfl sc_found_path (fun _ _ _ _ _ _ us hl => match us, hl with | [_, _, _], _ => rfl) (fun vs H Q E h => ?_) (fun cdv A outer s0 H vs Q E hr h => ?_)
  · obtain ⟨rd, od, s, es, us, R, O, rfl, _⟩ := h
    rfl
  · obtain ⟨rd, od, s, es, us, R, O, rfl, hR, hO, hOe, hs, q1, q2⟩ := h
    have hu := hu_of hr
    refine ⟨_, pss_cons (pset (i := 3) sc_found_path.nd pe_dnewK) (pss_cons (pset (i := 4) sc_found_path.nd (pe_lst (pa_cons (pv 2) pa_nil))) (pss_cons (pset (i := 5) sc_found_path.nd pe_int)
      (pss_cons (ps_while PassesOwn.never (pt_cmpR op_lt (pv 5) (pe_callB call_len_seq (by rfl) T.f_len PySem.boot_len (pa_cons (pv 4) pa_nil)) (nomark _))
        (pss_cons (ps_for PassesOwn.never rfl (pi_tup (pe_dget hu (pv 0) (pe_ix ix_list (pv 4) (pv 5) (fun _ _ => rfl)) (fun _ _ => rfl))) (pgn (i := 6) sc_found_path.nd)
          (pss_one (ps_if (pt_cmp (pc_dnotin hu (pv 6) (pv 3)))
            (pss_cons (ps_dput hu (pv 3) (pv 6) (pe_ix ix_list (pv 4) (pv 5) (fun _ _ => rfl)) rfl)
            (pss_cons (ps_if (pt_cmp (pc_dnotin hu (pv 6) (pv 1))) (pss_one (ps_ret (pe_tup (pa_cons (pv 3) (pa_cons (pv 6) pa_nil))))) pss_nil)
            (pss_one (ps_expr (pe_bm PySem.F.plainAttrs_list PySem.F.slot_list_append PySem.F.type_list_append mt_append (pv 4) (pa_cons (pe_dget hu (pv 1) (pv 6) (fun _ _ => rfl)) pa_nil)))))) pss_nil)))
        (pss_one (pset (i := 5) sc_found_path.nd (pe_op op_add (pv 5) pe_int)))))
      (pss_one (ps_ret (pe_tup (pa_cons (pv 3) (pa_cons pe_non pa_nil)))))))), ?_⟩
    refine fun ca nca => ⟨_, rfl, small (by show 1 ≤ 1000; decide), fun wl nwl => ?_⟩
    have wc : wl ≠ ca := fun e => by rw [e, upd_same] at nwl; cases nwl
    have nwl' : H wl = none := by rwa [upd_ne wc] at nwl
    have s1 : Same H (upd H ca (.dK [])) := same_new nca
    have s2 : Same H (upd (upd H ca (.dK [])) wl (.lst (txs [s]))) := Same.over s1 nwl'
    have keys0 : ∀ {C : List (Str × Str)} {W : List Str} {n : Nat}, Srch es us R O s C W n → C.length ≤ 24 := fun {C W n} S => by
      have := len_le_of_sub S.tree.nd S.us
      rw [List.length_map] at this
      exact Nat.le_trans this hR.ul
    refine ⟨fun m σ H1 => ∃ C W n z, m = 60 - n ∧ σ = [some (.ref rd), some (.ref od), some (.str s), some (.ref ca), some (.ref wl), some (.int (n : Nat)), z] ∧ Same H H1 ∧ H1 ca = some (.dK (tk (sd C))) ∧ H1 wl = some (.lst (txs W)) ∧ Srch es us R O s C W n ∧ n ≤ W.length,
      ⟨60, [], [s], 0, none, rfl, rfl, s2, by rw [upd_ne (Ne.symm wc), upd_same]; rfl, upd_same, ⟨.nil, fun w hw => .inl (List.mem_singleton.mp hw), fun u hu => (nomatch hu), fun w hw => by rw [List.mem_singleton.mp hw]; exact hs, fun u hu => (nomatch hu), rfl, by simp, fun j e hj => absurd hj (Nat.not_lt_zero _)⟩, Nat.zero_le _⟩, ?_⟩
    rintro m σ H1 ⟨C, W, n, z, rfl, rfl, s3, hC, hW, S, hn⟩
    have hWl : W.length ≤ 25 := by rw [S.len]; have := keys0 S; omega
    refine ⟨_, rfl, _, rfl, wl, txs W, rfl, .inl (SqL.of hW), _, _, rfl, rfl, _, rfl, ?_⟩
    rw [txs_len]
    by_cases hlt : n < W.length
    · rw [decide_eq_true (by omega : (n : Int) < (W.length : Int))]
      refine iteT ⟨fun σ' H' => ∃ m', m' < 60 - n ∧ _, fun _ _ h => h, ?_⟩
      obtain ⟨e, he⟩ : ∃ e, W[n]? = some e := ⟨W[n], List.getElem?_eq_getElem hlt⟩
      have hees : e ∈ es := S.sub e (List.mem_of_getElem? he)
      obtain ⟨a, ha1, ha2⟩ := hR.get hees
      have hRl := hR.rl hees
      refine ⟨_, rfl, _, rfl, _, rfl, wl, txs W, (n : Int), _, rfl, rfl, SqL.of hW, atI_nat (txs_get he), rd, .ref a, rfl, DGet.same ha1 s3, a, rfl, ⟨_, Same.tup s3 ha2⟩, ?_⟩
      refine for_it (walk_tup (xs := txs (R e))) (fun i σ H2 => ∃ C W z, σ = [some (.ref rd), some (.ref od), some (.str s), some (.ref ca), some (.ref wl), some (.int (n : Nat)), z] ∧ Same H H2 ∧ H2 ca = some (.dK (tk (sd C))) ∧ H2 wl = some (.lst (txs W)) ∧ Srch es us R O s C W n ∧ W[n]? = some e ∧ ∀ u ∈ (R e).take i, u ∈ C.map (·.1))
        ⟨C, W, z, rfl, s3, hC, hW, S, he, fun u hu => by simp at hu⟩ (fun i σ H2 _ hP => ?_) ?_ ?_
      · obtain ⟨_, _, _, _, s4, _⟩ := hP
        exact Same.tup s4 ha2
      · rintro i x σ H2 H3 hi ⟨C, W, z, rfl, s4, hC, hW, S, he, hseen⟩ ⟨rfl, hx⟩
        obtain ⟨u, hu', rfl⟩ := txs_at hx
        have huR : u ∈ R e := List.mem_of_getElem? hu'
        have tk1 : (R e).take (i + 1) = (R e).take i ++ [u] := by
          rw [List.take_add_one, hu']
          rfl
        have hOd : DictAt H3 od (sd O) := s4 _ _ hO
        have hWl : W.length ≤ 25 := by rw [S.len]; have := keys0 S; omega
        refine ⟨_, rfl, _, rfl, ca, _, rfl, DictAt.get hC u, _, rfl, ?_⟩
        rw [sd_get]
        cases hc : dget C u with
        | some e1 =>
          refine iteF ⟨C, W, _, rfl, s4, hC, hW, S, he, fun v hv => ?_⟩
          rw [tk1] at hv
          rcases List.mem_append.mp hv with hv | hv
          · exact hseen v hv
          · rw [List.mem_singleton.mp hv]
            exact dget_isSome.mp (by rw [hc]; rfl)
        | none =>
          have hnk : u ∉ C.map (·.1) := dget_none.mp hc
          refine iteT ⟨_, rfl, _, rfl, wl, txs W, (n : Int), _, rfl, rfl, SqL.of hW, atI_nat (txs_get he), _, rfl, _, rfl, ca, _, rfl, DictAt.put hC u (.str e) (small1000 (by rw [sd_len]; have := keys0 S; omega)), ?_⟩
          rw [sd_put, dput_new _ hnk]
          have s5 : Same H (upd H3 ca (.dK (tk (sd (C ++ [(u, e)]))))) := Same.over s4 nca
          have T5 : Tree O R s (C ++ [(u, e)]) := .snoc S.tree hnk huR (S.hd e (List.mem_of_getElem? he))
          refine ⟨_, rfl, _, rfl, od, _, rfl, DictAt.get (s5 _ _ hO) u, _, rfl, ?_⟩
          rw [sd_get]
          cases ho : dget O u with
          | none =>
            refine iteT ⟨_, rfl, _, rfl, small (by show 2 ≤ 1000; decide), fun t nt => ?_⟩
            exact q1 t ca C u e _ (Same.new s5 nt) nca upd_same ((same_new nt) _ _ upd_same) (keys0 S) T5 ho
          | some e2 =>
            have hw5 : upd H3 ca (.dK (tk (sd (C ++ [(u, e)])))) wl = some (.lst (txs W)) := by rw [upd_ne wc]; exact hW
            have hdg := DictAt.get (s5 _ _ hO) u
            rw [sd_get, ho] at hdg
            refine iteF ⟨_, rfl, .inl ⟨rfl, _, SqL.of hw5⟩, _, rfl, _, rfl, od, _, rfl, hdg, wl, txs W, _, rfl, rfl, hw5, small1000 (by rw [txs_len]; omega), ?_⟩
            have e5 : txs W ++ [V.str e2] = txs (W ++ [e2]) := txs_app W [e2]
            rw [e5]
            refine ⟨C ++ [(u, e)], W ++ [e2], _, rfl, Same.over s5 nwl', by rw [upd_ne (Ne.symm wc), upd_same], upd_same, ⟨T5, fun w hw => ?_, fun v hv => ?_, fun w hw => ?_, fun v hv => ?_, ?_, List.mem_append.mpr (.inl S.s0), fun j e' hj hje v hv => ?_⟩, ?_, fun v hv => ?_⟩
            · rcases List.mem_append.mp hw with hw | hw
              · rcases S.hd w hw with h | ⟨v, h1, h2⟩
                · exact .inl h
                · exact .inr ⟨v, by rw [List.map_append]; exact List.mem_append.mpr (.inl h1), h2⟩
              · rw [List.mem_singleton.mp hw]
                exact .inr ⟨u, by rw [List.map_append]; exact List.mem_append.mpr (.inr (by simp)), ho⟩
            · rw [List.map_append] at hv
              rcases List.mem_append.mp hv with hv | hv
              · obtain ⟨w, h1, h2⟩ := S.cl v hv
                exact ⟨w, List.mem_append.mpr (.inl h1), h2⟩
              · obtain rfl : v = u := List.mem_singleton.mp hv
                exact ⟨e2, List.mem_append.mpr (.inr (by simp)), ho⟩
            · rcases List.mem_append.mp hw with hw | hw
              · exact S.sub w hw
              · rw [List.mem_singleton.mp hw]
                exact hOe u e2 ho
            · rw [List.map_append] at hv
              rcases List.mem_append.mp hv with hv | hv
              · exact S.us v hv
              · obtain rfl : v = u := List.mem_singleton.mp hv
                exact hR.sub e hees v huR
            · rw [List.length_append, List.length_append, S.len]
              rfl
            · rw [List.map_append]
              have hj2 : j < W.length := by
                have := (List.getElem?_eq_some_iff.mp he).1
                omega
              rw [List.getElem?_append_left hj2] at hje
              exact List.mem_append.mpr (.inl (S.seen j e' hj hje v hv))
            · rw [List.getElem?_append_left (List.getElem?_eq_some_iff.mp he).1]
              exact he
            · rw [tk1] at hv
              rw [List.map_append]
              rcases List.mem_append.mp hv with hv | hv
              · exact List.mem_append.mpr (.inl (hseen v hv))
              · rw [List.mem_singleton.mp hv]
                exact List.mem_append.mpr (.inr (by simp))
      · rintro σ H2 ⟨C, W, z, rfl, s4, hC, hW, S, he, hseen⟩
        rw [txs_len, List.take_length] at hseen
        refine ⟨_, rfl, _, _, rfl, rfl, 60 - (n + 1), by omega, C, W, n + 1, _, rfl, rfl, s4, hC, hW, ⟨S.tree, S.hd, S.cl, S.sub, S.us, S.len, S.s0, fun j e' hj hje v hv => ?_⟩, (List.getElem?_eq_some_iff.mp he).1⟩
        rcases Nat.lt_or_ge j n with h | h
        · exact S.seen j e' h hje v hv
        · obtain rfl : j = n := by omega
          rw [he] at hje
          rw [← Option.some.inj hje] at hv
          exact hseen v hv
    · rw [decide_eq_false (by omega : ¬ (n : Int) < (W.length : Int))]
      refine iteF ?_
      have en : n = W.length := by omega
      refine ⟨_, rfl, small (by show 2 ≤ 1000; decide), fun t nt => q2 t ca W _ (Same.new s3 nt) upd_same ⟨S.s0, S.sub, fun w hw => ?_, fun w hw u hu => ?_⟩⟩
      · rcases S.hd w hw with h | ⟨v, _, h⟩
        · exact .inl h
        · exact .inr ⟨v, h⟩
      · obtain ⟨j, hj⟩ := List.mem_iff_getElem?.mp hw
        have hjl : j < W.length := (List.getElem?_eq_some_iff.mp hj).1
        exact S.cl u (S.seen j w (by omega) hj u hu)
end
end Bo

/-! F2 -/
set_option Elab.async false
set_option linter.all false
set_option maxRecDepth 100000
set_option maxHeartbeats 1000000
namespace Bo
open PySem PySem.Spec PyProof.Rows L2
theorem Rows3.lock {K : Fg} {H : Hp} {d : Addr} {es us : List Str} {R : Str → List Str} {kvs : List (Key × V)} {od : Obj} (h : Rows3 K H d es us R) (hd : H d = some (.dK kvs)) : Rows3 K (upd H d (.frz od (.dK kvs))) d es us R := by
  obtain ⟨L, h1, h2, h3⟩ := h.at_
  exact ⟨⟨L, DictR.lock h1 hd, h2, fun p hp => ⟨SqT.lock (h3 p hp).1 hd, (h3 p hp).2⟩⟩, h.nd, h.el, h.ul, h.sub, h.rnd⟩
theorem Rows3.open_ {K : Fg} {H : Hp} {d : Addr} {es us : List Str} {R : Str → List Str} {kvs : List (Key × V)} (h : Rows3 K H d es us R) (hd : H d = some (.dK kvs)) : ∃ L : List Row, DictAt H d (refs L) ∧ L.map (·.1) = es := by
  obtain ⟨L, h1, h2, _⟩ := h.at_
  rcases h1 with h1 | ⟨o, h1⟩
  · exact ⟨L, h1, h2⟩
  · rw [hd] at h1
    cases h1
/-- the two dicts are in form -/
structure Wf (us : List Str) (O G : List (Str × Str)) : Prop where
  o : (O.map (·.1)).Nodup
  g : (G.map (·.1)).Nodup
  u : ∀ u ∈ O.map (·.1), u ∈ us
theorem Wf.ol {us : List Str} {O G : List (Str × Str)} (h : Wf us O G) (hu : us.length ≤ 24) : (sd O).length < sizeLine := by
  rw [sd_len]
  have := len_le_of_sub h.o h.u
  rw [List.length_map] at this
  exact small1000 (by omega)
theorem Wf.gl {us es : List Str} {O G : List (Str × Str)} (h : Wf us O G) (he : es.length ≤ 24) (hs : ∀ e ∈ G.map (·.1), e ∈ es) : (sd G).length < sizeLine := by
  rw [sd_len]
  have := len_le_of_sub h.g hs
  rw [List.length_map] at this
  exact small1000 (by omega)
theorem Wf.put {us : List Str} {O G : List (Str × Str)} {v e : Str} (h : Wf us O G) (hv : v ∈ us) : Wf us (dput O v e) (dput G e v) :=
  ⟨keys_put_nd h.o v e, keys_put_nd h.g e v, fun u hu => by
    rcases mem_keys_put.mp hu with rfl | hu
    · exact hv
    · exact h.u u hu⟩
section
variable {P : Program} {w : World} {K : Fg} {mg : Str → Option Value} {base : Heap}
def spLargest (K : Fg) : Sp := fun vs H Q _ => ∃ (rd : Addr) (es us : List Str) (R : Str → List Str) (kvs : List (Key × V)), vs = [.ref rd] ∧ Rows3 K H rd es us R ∧ H rd = some (.dK kvs) ∧ Hall es R ∧
  ∀ p M H', Same H H' → H p = none → DictAt H' p (sd M) → Asg es R M → Q (.ref p) H'
theorem ok_largest (T : TX w K mg) : Ok P w K mg base 2 d_largest ["rows"] (spLargest K) := by
  refine mkOk T ix_largest rfl rfl rfl sc_largest (fun _ _ _ _ _ _ us hl => match us, hl with | [_], _ => rfl) (fun vs H Q E h => ?_) (fun cdv A outer s0 H vs Q E hr h => ?_)
  · obtain ⟨rd, es, us, R, kvs, rfl, _⟩ := h
    rfl
  · obtain ⟨rd, es, us, R, kvs, rfl, hR, hd, hh, q⟩ := h
    have hu := hu_of hr
    obtain ⟨f1, G1, b1, k1⟩ := ok_found_path (P := P) (base := base) T
    refine ⟨_, pss_cons (pset (i := 1) sc_largest.nd pe_dnewK) (pss_cons (pset (i := 2) sc_largest.nd pe_dnewK)
      (pss_cons (ps_lock (ps_for PassesOwn.never rfl (pi_keys (pv 0)) (pgn (i := 3) sc_largest.nd)
        (pss_cons (ps_asg (pe_call G1 hr (by rfl) T.g_found_path k1 b1 .nil pass0 (pa_cons (pv 0) (pa_cons (pv 1) (pa_cons (pv 3) pa_nil)))) (pg_tup rfl (pgs_cons (pgn (i := 4) sc_largest.nd) (pgs_cons (pgn (i := 5) sc_largest.nd) pgs_nil))))
        (pss_one (ps_while PassesOwn.never (pt_cmp (pc_notN (pv 5)))
          (pss_cons (pset (i := 6) sc_largest.nd (pe_dget hu (pv 4) (pv 5) (fun _ _ => rfl)))
          (pss_cons (pset (i := 7) sc_largest.nd (pe_dget1 hu (pv 2) (pv 6) ⟨rfl, rfl, rfl, rfl⟩))
          (pss_cons (ps_dput hu (pv 1) (pv 5) (pv 6) rfl)
          (pss_cons (ps_dput hu (pv 2) (pv 6) (pv 5) rfl)
          (pss_one (pset (i := 5) sc_largest.nd (pv 7))))))))))))
      (pss_one (ps_ret (pe_lock (pe_dc (own := [("equation", 3)]) (g := gName 3) (by rfl) sc_largest.nd (pi_keys (pv 0)) (blkOk_by (N := N_largest) (sc := defScope s_largest) (by decide +kernel))
        (fun _ _ _ _ _ => pgn (i := 3) sc_largest.nd) (fun _ _ _ _ _ => pts_one (pt_cmp (pc_din hu (pv 3) (pv 2)))) (fun _ _ _ _ _ => pv 3) (fun _ _ _ _ _ => pe_dget hu (pv 2) (pv 3) (fun _ _ => rfl)))))))), ?_⟩
    obtain ⟨L, hL, eL⟩ := hR.open_ hd
    have ekv : kvs = tk (refs L) := HO.dK.inj (Option.some.inj (hd.symm.trans hL))
    subst ekv
    refine fun ow now gi ngi => ?_
    have go : gi ≠ ow := fun e => by rw [e, upd_same] at ngi; cases ngi
    have ngi' : H gi = none := by rwa [upd_ne go] at ngi
    have owr : ow ≠ rd := fun e => by rw [e, hd] at now; cases now
    have gir : gi ≠ rd := fun e => by rw [e, hd] at ngi'; cases ngi'
    refine ⟨rd, .dK (tk (refs L)), by rw [upd_ne (Ne.symm gir), upd_ne (Ne.symm owr)]; exact hd, True.intro, fun od => ?_⟩
    refine ⟨_, rfl, rd, od, rfl, .inl ⟨tk (refs L), upd_same, ?_⟩⟩
    have hkeys : (refs L).map (·.1) = es := by rw [refs_keys]; exact eL
    have hHB : Rows3 K (upd H rd (.frz od (.dK (tk (refs L))))) rd es us R := hR.lock hd
    have nowB : upd H rd (.frz od (.dK (tk (refs L)))) ow = none := by rw [upd_ne owr]; exact now
    have ngiB : upd H rd (.frz od (.dK (tk (refs L)))) gi = none := by rw [upd_ne gir]; exact ngi'
    have sB : Same (upd H rd (.frz od (.dK (tk (refs L))))) (upd (upd (upd H ow (.dK [])) gi (.dK [])) rd (.frz od (.dK (tk (refs L))))) := fun b o e => by
      by_cases hb : b = rd
      · subst hb
        rw [upd_same] at e ⊢
        exact e
      · rw [upd_ne hb] at e ⊢
        rw [upd_ne (ne_of_none e ngi'), upd_ne (ne_of_none e now)]
        exact e
    refine for_it walk_tk (fun i σ H2 => ∃ O G z3 z4 z5 z6 z7, σ = [some (.ref rd), some (.ref ow), some (.ref gi), z3, z4, z5, z6, z7] ∧ Same (upd H rd (.frz od (.dK (tk (refs L))))) H2 ∧ H2 ow = some (.dK (tk (sd O))) ∧ H2 gi = some (.dK (tk (sd G))) ∧ Big es R i O G ∧ Wf us O G)
      ⟨[], [], none, none, none, none, none, rfl, sB, by rw [upd_ne owr, upd_ne (Ne.symm go), upd_same]; rfl, by rw [upd_ne gir, upd_same]; rfl, ⟨⟨fun u e => (by simp [dget_nil]), fun e u h => (by simp [dget_nil] at h)⟩, fun e he => (nomatch he), .inl fun e he => (by simp at he)⟩, ⟨.nil, .nil, fun u hu => (nomatch hu)⟩⟩
      (fun i σ H2 _ hP => ?_) ?_ ?_
    · obtain ⟨_, _, _, _, _, _, _, _, s2, _⟩ := hP
      exact s2 _ _ upd_same
    · rintro i x σ H2 H3 hi ⟨O, G, z3, z4, z5, z6, z7, rfl, s2, hO, hG, B, wf⟩ ⟨rfl, hx⟩
      rw [hkeys] at hx hi
      rw [txs_len] at hi
      obtain ⟨e, he, rfl⟩ := txs_at hx
      have hes : e ∈ es := List.mem_of_getElem? he
      have hmem : ∀ x ∈ G.map (·.1), x ∈ es := fun x hx => List.mem_of_mem_take (B.ks x hx)
      refine ⟨_, rfl, _, rfl, _, rfl, rd, ow, e, es, us, R, O, rfl, hHB.same s2, hO, fun u e' h => ?_, hes, fun t came C u e1 H4 s3 nca ht hC hCl hT hno => ?_, fun t came W H4 s3 ht S => ?_⟩
      · exact List.mem_of_mem_take (B.ks e' (dget_isSome.mp (by rw [(B.mt.inv u e').mp h]; rfl)))
      · refine ⟨t, _, rfl, SqT.of ht, rfl, _, _, rfl, _, _, rfl, rfl, ?_⟩
        have ncB : upd H rd (.frz od (.dK (tk (refs L)))) came = none := Same.free s2 nca
        have nco : came ≠ ow := fun z => by rw [z, hO] at nca; cases nca
        have ncg : came ≠ gi := fun z => by rw [z, hG] at nca; cases nca
        have G0 := B.fresh hR.nd he
        have hnd : ((C ++ [(u, e1)]).map (·.1)).Nodup := hT.nd
        have hee : ∀ q ∈ C ++ [(u, e1)], q.2 ∈ es := fun q hq => by
          obtain ⟨X, Y, eXY⟩ := List.append_of_mem hq
          have T2 : Tree O R e (X ++ [(q.1, q.2)]) := hT.pre (B := Y) (by rw [eXY]; simp)
          rcases T2.last.2.2.2 with z | ⟨w, _, hw⟩
          · rw [z]; exact hes
          · exact hmem _ (dget_isSome.mp (by rw [(B.mt.inv w q.2).mp hw]; rfl))
        refine ⟨fun m σ H5 => ∃ O' G' z5 z6 z7, σ = [some (.ref rd), some (.ref ow), some (.ref gi), some (.str e), some (.ref came), z5, z6, z7] ∧ Same (upd H rd (.frz od (.dK (tk (refs L))))) H5 ∧ H5 came = some (.dK (tk (sd (C ++ [(u, e1)])))) ∧ H5 ow = some (.dK (tk (sd O'))) ∧ H5 gi = some (.dK (tk (sd G'))) ∧ Wf us O' G' ∧
            ((∃ P v e2 B2, m = P.length + 1 ∧ z5 = some (.str v) ∧ Aug R e O G O' G' P v e2 ∧ C ++ [(u, e1)] = P ++ (v, e2) :: B2) ∨ (z5 = some .non ∧ Mt R O' G' ∧ ∀ x, x ∈ G'.map (·.1) ↔ x = e ∨ x ∈ G.map (·.1))),
          ⟨_, O, G, _, _, _, rfl, s2.trans s3, hC, s3 _ _ hO, s3 _ _ hG, wf, .inl ⟨C, u, e1, [], rfl, rfl, Aug.start hT B.mt G0 hno, rfl⟩⟩, ?_⟩
        rintro m σ H5 ⟨O', G', z5, z6, z7, rfl, s5, hC5, hO5, hG5, wf5, hst⟩
        rcases hst with ⟨Pp, v, e2, B2, rfl, rfl, A2, eC⟩ | ⟨rfl, mt5, hk5⟩
        · refine ⟨_, rfl, _, rfl, ⟨fun σ' H' => ∃ m', m' < Pp.length + 1 ∧ _, fun _ _ h => h, ?_⟩⟩
          have hin : (v, e2) ∈ C ++ [(u, e1)] := by rw [eC]; simp
          have hCg : dget (C ++ [(u, e1)]) v = some e2 := dget_of_mem hnd hin
          have he2 : e2 ∈ es := hee _ hin
          have hvu : v ∈ us := hR.sub e2 he2 v (hT.row hin)
          have hdC := DictAt.get hC5 v
          rw [sd_get, hCg] at hdC
          have hdG := DictAt.get hG5 e2
          rw [sd_get] at hdG
          have hG's : ∀ x ∈ G'.map (·.1), x ∈ es := fun x hx => hmem x ((A2.dom x).mp hx)
          refine ⟨_, rfl, _, rfl, came, _, rfl, hdC, ?_⟩
          refine ⟨_, rfl, gi, rfl, .inl ⟨_, .inl hG5⟩, _, rfl, _, hdG, ?_⟩
          refine ⟨_, rfl, _, rfl, _, rfl, ow, _, rfl, DictAt.put hO5 v (.str e2) (wf5.ol hR.ul), ?_⟩
          have hG6 : upd H5 ow (.dK (tk (dput (sd O') v (.str e2)))) gi = some (.dK (tk (sd G'))) := by rw [upd_ne go]; exact hG5
          refine ⟨_, rfl, _, rfl, _, rfl, gi, _, rfl, DictAt.put hG6 e2 (.str v) (wf5.gl hR.el hG's), ?_⟩
          rw [sd_put, sd_put]
          refine ⟨_, rfl, ?_⟩
          have s6 := Same.over (Same.over s5 nowB (o := .dK (tk (sd (dput O' v e2))))) ngiB (o := .dK (tk (sd (dput G' e2 v))))
          have hC6 : upd (upd H5 ow (.dK (tk (sd (dput O' v e2))))) gi (.dK (tk (sd (dput G' e2 v)))) came = some (.dK (tk (sd (C ++ [(u, e1)])))) := by rw [upd_ne ncg, upd_ne nco]; exact hC5
          have hO6 : upd (upd H5 ow (.dK (tk (sd (dput O' v e2))))) gi (.dK (tk (sd (dput G' e2 v)))) ow = some (.dK (tk (sd (dput O' v e2)))) := by rw [upd_ne (Ne.symm go), upd_same]
          cases h : dget G' e2 with
          | none =>
            obtain ⟨ee, m6⟩ := A2.done h
            refine ⟨0, by omega, dput O' v e2, dput G' e2 v, _, _, _, rfl, s6, hC6, hO6, upd_same, wf5.put hvu, .inr ⟨rfl, m6, fun x => ?_⟩⟩
            rw [mem_keys_put, A2.dom x, ee]
          | some b =>
            obtain ⟨P1, e3, P2, eP, A3⟩ := A2.step h
            refine ⟨P1.length + 1, ?_, dput O' v e2, dput G' e2 v, _, _, _, rfl, s6, hC6, hO6, upd_same, wf5.put hvu, .inl ⟨P1, b, e3, P2 ++ (v, e2) :: B2, rfl, rfl, A3, ?_⟩⟩
            · rw [eP, List.length_append, List.length_cons]
              omega
            · rw [eC, eP]
              simp
        · refine ⟨_, rfl, _, rfl, ?_⟩
          exact ⟨O', G', _, _, _, _, _, rfl, s5, hO5, hG5, B.found hR.nd he mt5 hk5, wf5⟩
      · refine ⟨t, _, rfl, SqT.of ht, rfl, _, _, rfl, _, _, rfl, rfl, ?_⟩
        refine ⟨fun m σ H5 => σ = [some (.ref rd), some (.ref ow), some (.ref gi), some (.str e), some (.ref came), some .non, z6, z7] ∧ H5 = H4, ⟨0, rfl, rfl⟩, ?_⟩
        rintro m σ H5 ⟨rfl, rfl⟩
        refine ⟨_, rfl, _, rfl, ?_⟩
        exact ⟨O, G, _, _, _, _, _, rfl, s2.trans s3, s3 _ _ hO, s3 _ _ hG, B.fail hR.nd he hh S.s0 S.sub S.hd S.cl, wf⟩
    · rintro σ H2 ⟨O, G, z3, z4, z5, z6, z7, rfl, s2, hO, hG, B, wf⟩
      rw [hkeys, txs_len] at B
      obtain ⟨h1, h2⟩ := lock_back hL s2
      refine ⟨h1, ?_⟩
      have hLF : DictAt (upd H2 rd (.dK (tk (refs L)))) rd (refs L) := upd_same
      have hGF : DictAt (upd H2 rd (.dK (tk (refs L)))) gi (sd G) := by
        show upd H2 rd _ gi = _
        rw [upd_ne gir]
        exact hG
      have hel := hR.el
      have hll : (refs L).length ≤ 24 := by
        have := congrArg List.length hkeys
        rw [List.length_map] at this
        omega
      refine dc_keys hLF (by omega) (fun od R r => ⟨_, rfl, r⟩) (fun k => (dget G k).map V.str) (fun od2 k H3 R N hk s3 hh' => ?_) (by rw [hkeys]; exact hR.nd) (fun p H3 s3 np hp => ?_)
      · have hg3 : DictR H3 gi (sd G) := DictR.same (DictR.lock (DictAt.r hGF) hLF) s3
        have hdg := DictR.get hg3 k
        rw [sd_get] at hdg
        refine ⟨rfl, _, rfl, _, rfl, gi, _, rfl, hdg, _, rfl, ?_⟩
        cases h : dget G k with
        | none =>
          rw [h] at hh'
          exact iteF hh'
        | some u =>
          rw [h] at hh' hdg
          exact iteT ⟨_, rfl, _, rfl, _, rfl, gi, _, rfl, hdg, hh'⟩
      · rw [hkeys] at hp
        have eM : (es.filterMap fun k => ((dget G k).map V.str).map fun y => (k, y)) = sd (es.filterMap fun k => (dget G k).map fun y => (k, y)) := by
          unfold sd
          rw [List.map_filterMap]
          congr 1
          funext k
          cases dget G k <;> rfl
        rw [eM] at hp
        have hks : (es.filterMap fun k => (dget G k).map fun y => (k, y)).map (·.1) = es.filter fun k => (dget G k).isSome := by
          have : ∀ l : List Str, (l.filterMap fun k => (dget G k).map fun y => (k, y)).map (·.1) = l.filter fun k => (dget G k).isSome := by
            intro l
            induction l with
            | nil => rfl
            | cons a l ih =>
              rw [List.filterMap_cons, List.filter_cons]
              cases dget G a with
              | none => simpa using ih
              | some y => simpa using ih
          exact this es
        have nd : ((es.filterMap fun k => (dget G k).map fun y => (k, y)).map (·.1)).Nodup := by
          rw [hks]
          exact hR.nd.sublist List.filter_sublist
        refine q p _ _ (h2.trans s3) (Same.free h2 np) hp (B.asg hR.nd (fun e => ?_) nd fun e he => ?_)
        · rw [hks, List.mem_filter, dget_isSome]
        · cases h : dget G e with
          | none =>
            refine dget_none.mpr fun hm => ?_
            rw [hks, List.mem_filter, h] at hm
            cases hm.2
          | some y => exact dget_of_mem nd (List.mem_filterMap.mpr ⟨e, he, by rw [h]; rfl⟩)
end
end Bo

/-! B7 -/
set_option Elab.async false
set_option linter.all false
set_option maxRecDepth 100000
set_option maxHeartbeats 1000000
namespace Bo
open PySem PySem.Spec PyProof.Rows L2
/-- new things at places, in a list's order -/
def NewObjs {β : Type} (mkO : β → HO) (H1 : Hp) (ex : List Addr) (H : Hp) (L : List (β × Addr)) : Prop := ∀ q ∈ L, H1 q.2 = none ∧ q.2 ∉ ex ∧ H q.2 = some (mkO q.1)
def ads {β : Type} (L : List (β × Addr)) : List V := L.map fun q => V.ref q.2
section
variable {β : Type} {J : It} {xs : List V} {G : Hp → Prop}
theorem lc_objs (w : Walk J xs.length G (YAt xs)) {g : TG} {tt : TT} {te : TE} {vs : List Nat} {σ : L2.St} {H1 : Hp} {D : Addr} {Qd : Hp → Prop} (hD : H1 D = none) (sel : V → Option β) (mkO : β → HO) (hz : xs.length ≤ 1000)
    (hG : ∀ H, Same H1 H → G H)
    (hs : ∀ x H (R : V → Hp → Prop) (N : Hp → Prop), x ∈ xs → Same H1 H → (match sel x with | some b => ∀ a H', Same H H' → H a = none → H' a = some (mkO b) → R (.ref a) H' | none => N H) →
      g x (wipe σ vs) H fun σ2 H2 => wipe σ2 vs = wipe σ vs ∧ tt σ2 H2 fun b H3 => if b = true then te σ2 H3 R else N H3)
    (hd : ∀ H L, Same H1 H → L.map (·.1) = xs.filterMap sel → H D = some (.lst (ads L)) → NewObjs mkO H1 [D] H L → Qd H) :
    ∃ W : Nat → Nat → Hp → Prop, (∃ m, W 0 m (upd H1 D (.lst []))) ∧ ∀ i m H, W i m H →
      (J.stop i H ∧ Qd H) ∨ (J.go i H ∧ ∃ Nx : Hp → Prop, (∀ H', Nx H' → ∃ m', m' < m ∧ W (i + 1) m' H') ∧ ∀ x H', J.yld i H x H' → g x (wipe σ vs) H' fun σ2 H2 => wipe σ2 vs = wipe σ vs ∧ tt σ2 H2 fun b H3 =>
        if b = true then te σ2 H3 fun y H4 => ∃ acc, H4 D = some (.lst acc) ∧ acc.length < sizeLine ∧ Nx (upd H4 D (.lst (acc ++ [y]))) else Nx H3) := by
  refine lc_it w (fun i H => Same H1 H ∧ ∃ L : List (β × Addr), L.map (·.1) = (xs.take i).filterMap sel ∧ H D = some (.lst (ads L)) ∧ NewObjs mkO H1 [D] H L) ⟨same_new hD, [], by simp, by rw [upd_same]; rfl, fun _ h => (nomatch h)⟩
    (fun i H _ p => hG H p.1) (fun i x H H' hi p y => ?_) (fun H p => by
      obtain ⟨p1, L, p2, p3, p4⟩ := p
      exact hd H L p1 (by rw [p2, List.take_length]) p3 p4)
  obtain ⟨p1, L, p2, p3, p4⟩ := p
  obtain ⟨rfl, hx⟩ := y
  refine hs x H' _ _ (List.mem_of_getElem? hx) p1 ?_
  cases e : sel x with
  | some b =>
    intro a H5 s5 na ha
    have hlen : L.length ≤ 1000 := by
      have := congrArg List.length p2
      rw [List.length_map] at this
      rw [this]
      exact Nat.le_trans (List.length_filterMap_le ..) (Nat.le_trans (by rw [List.length_take]; exact Nat.min_le_right ..) hz)
    have aD : a ≠ D := fun z => by rw [z, p3] at na; cases na
    refine ⟨ads L, s5 _ _ p3, ?_, fun b' o q => ?_, L ++ [(b, a)], ?_, ?_, ?_⟩
    · unfold ads
      rw [List.length_map]
      exact small1000 hlen
    · rw [upd_ne (ne_of_none q hD)]
      exact s5 _ _ (p1 b' o q)
    · rw [List.map_append, p2, take_filterMap sel hx, e]
      rfl
    · rw [upd_same]
      unfold ads
      rw [List.map_append]
      rfl
    · intro q hq
      rcases List.mem_append.mp hq with hq | hq
      · obtain ⟨q1, q2, q3⟩ := p4 q hq
        exact ⟨q1, q2, by rw [upd_ne (by simpa using q2)]; exact s5 _ _ q3⟩
      · rw [List.mem_singleton.mp hq]
        exact ⟨Same.free p1 na, by simpa using aD, by rw [upd_ne aD]; exact ha⟩
  | none => exact ⟨p1, L, by rw [p2, take_filterMap sel hx, e]; simp, p3, p4⟩
end
section
variable {β : Type} {td te tv : TE} {g : TG} {tt : TT} {vs : List Nat} {σ : L2.St} {H : Hp} {d : Addr} {D : List (Str × V)} {Q : VK}
/-- {.. : .. for k in d ..}, the keys any texts -/
theorem dc_keysP (hd : DictAt H d D) (hz : D.length ≤ 1000) (ht : ∀ od R, R (.ref d) (upd H d (.frz od (.dK (tk D)))) → td σ (upd H d (.frz od (.dK (tk D)))) R) (sel : Str → Option (Str × V))
    (hs : ∀ od k H2 (R : V → V → Hp → Prop) (N : Hp → Prop), k ∈ D.map (·.1) → Same (upd H d (.frz od (.dK (tk D)))) H2 → (match sel k with | some y => R (.str y.1) y.2 H2 | none => N H2) →
      g (.str k) (wipe σ vs) H2 fun σ2 H3 => wipe σ2 vs = wipe σ vs ∧ tt σ2 H3 fun b H4 => if b = true then te σ2 H4 fun y H5 => tv σ2 H5 fun z H6 => R y z H6 else N H4)
    (hq : ∀ p H', Same H H' → H p = none → DictAt H' p (mk ((D.map (·.1)).filterMap sel)) → Q (.ref p) H') : tLockE (tDc (iKeys td) g tt te tv vs) σ H Q := by
  refine ⟨d, _, hd, True.intro, fun od => ?_⟩
  refine ht od _ ⟨d, od, rfl, .inl ⟨tk D, upd_same, fun p np => ?_⟩⟩
  have pd : p ≠ d := fun e => by rw [e, upd_same] at np; cases np
  have np' : H p = none := by rwa [upd_ne pd] at np
  refine dc_pure walk_tk np (fun v => match v with | .str k => sel k | _ => none) (by rw [txs_len, List.length_map]; exact hz) (fun H2 s => s _ _ upd_same) (fun x H2 R N hx s2 hh => ?_) (fun H2 s2 hD => ?_)
  · obtain ⟨k, hk, rfl⟩ := List.mem_map.mp hx
    exact hs od k H2 R N hk s2 hh
  · obtain ⟨h1, h2⟩ := lock_back hd s2
    refine ⟨h1, hq p _ h2 np' ?_⟩
    unfold DictAt at hD ⊢
    rw [upd_ne pd, hD, fm_txs]
/-- [new things for k in d ..] -/
theorem lc_keysO (hd : DictAt H d D) (hz : D.length ≤ 1000) (ht : ∀ od R, R (.ref d) (upd H d (.frz od (.dK (tk D)))) → td σ (upd H d (.frz od (.dK (tk D)))) R) (sel : Str → Option β) (mkO : β → HO)
    (hs : ∀ od k H2 (R : V → Hp → Prop) (N : Hp → Prop), k ∈ D.map (·.1) → Same (upd H d (.frz od (.dK (tk D)))) H2 → (match sel k with | some b => ∀ a H', Same H2 H' → H2 a = none → H' a = some (mkO b) → R (.ref a) H' | none => N H2) →
      g (.str k) (wipe σ vs) H2 fun σ2 H3 => wipe σ2 vs = wipe σ vs ∧ tt σ2 H3 fun b H4 => if b = true then te σ2 H4 R else N H4)
    (hq : ∀ p L H', Same H H' → H p = none → L.map (·.1) = (D.map (·.1)).filterMap sel → H' p = some (.lst (ads L)) → NewObjs mkO H [p] H' L → Q (.ref p) H') : tLockE (tLc (iKeys td) g tt te vs) σ H Q := by
  refine ⟨d, _, hd, True.intro, fun od => ?_⟩
  refine ht od _ ⟨d, od, rfl, .inl ⟨tk D, upd_same, fun p np => ?_⟩⟩
  have pd : p ≠ d := fun e => by rw [e, upd_same] at np; cases np
  have np' : H p = none := by rwa [upd_ne pd] at np
  refine lc_objs walk_tk np (fun v => match v with | .str k => sel k | _ => none) mkO (by rw [txs_len, List.length_map]; exact hz) (fun H2 s => s _ _ upd_same) (fun x H2 R N hx s2 hh => ?_) (fun H2 L s2 hL hD hN => ?_)
  · obtain ⟨k, hk, rfl⟩ := List.mem_map.mp hx
    exact hs od k H2 R N hk s2 hh
  · obtain ⟨h1, h2⟩ := lock_back hd s2
    refine ⟨h1, hq p L _ h2 np' (by rw [hL, fm_txs]) (by rw [upd_ne pd]; exact hD) fun q hq' => ?_⟩
    obtain ⟨q1, q2, q3⟩ := hN q hq'
    have qd : q.2 ≠ d := fun z => by rw [z, upd_same] at q1; cases q1
    rw [upd_ne qd] at q1
    exact ⟨q1, q2, by rw [upd_ne qd]; exact q3⟩
/-- [new things for k in xs ..], xs a list of texts -/
theorem lc_lstO {K : Fg} {a : Addr} {xs : List Str} (h : SqL K H a (txs xs)) (hz : xs.length ≤ 1000) (ht : ∀ R, R (.ref a) H → td σ H R) (sel : Str → Option β) (mkO : β → HO)
    (hs : ∀ k H2 (R : V → Hp → Prop) (N : Hp → Prop), k ∈ xs → Same H H2 → (match sel k with | some b => ∀ a H', Same H2 H' → H2 a = none → H' a = some (mkO b) → R (.ref a) H' | none => N H2) →
      g (.str k) (wipe σ vs) H2 fun σ2 H3 => wipe σ2 vs = wipe σ vs ∧ tt σ2 H3 fun b H4 => if b = true then te σ2 H4 R else N H4)
    (hq : ∀ p L H', Same H H' → H p = none → L.map (·.1) = xs.filterMap sel → H' p = some (.lst (ads L)) → NewObjs mkO H [p] H' L → Q (.ref p) H') : tLc (iList K td) g tt te vs σ H Q := by
  refine ht _ ⟨a, rfl, ⟨_, h⟩, fun p np => ?_⟩
  refine lc_objs (walk_list (xs := txs xs)) np (fun v => match v with | .str k => sel k | _ => none) mkO (by rw [txs_len]; exact hz) (fun H2 s => s.seq h) (fun x H2 R N hx s2 hh => ?_) (fun H2 L s2 hL hD hN => ?_)
  · obtain ⟨k, hk, rfl⟩ := List.mem_map.mp hx
    exact hs k H2 R N hk s2 hh
  · exact hq p L _ s2 np (by rw [hL, fm_txs]) hD hN
end
end Bo

/-! F3 -/
set_option Elab.async false
set_option linter.all false
set_option maxRecDepth 100000
set_option maxHeartbeats 1000000
namespace Bo
open PySem PySem.Spec PyProof.Rows L2
/-- the pairs turned round -/
def turn (M : List (Str × Str)) : List (Str × Str) := M.map fun p => (p.2, p.1)
theorem fm_keys {β γ : Type} (D : List (Str × β)) (nd : (D.map (·.1)).Nodup) (f : Str → β → γ) : (D.map (·.1)).filterMap (fun k => (dget D k).map fun v => f k v) = D.map fun p => f p.1 p.2 := by
  have h : ∀ (L : List (Str × β)), (∀ p ∈ L, dget D p.1 = some p.2) → (L.map (·.1)).filterMap (fun k => (dget D k).map fun v => f k v) = L.map fun p => f p.1 p.2 := by
    intro L
    induction L with
    | nil => intro _; rfl
    | cons p L ih =>
      intro hL
      rw [List.map_cons, List.filterMap_cons, hL p List.mem_cons_self]
      simp only [Option.map_some, List.map_cons]
      rw [ih fun q hq => hL q (List.mem_cons_of_mem _ hq)]
  exact h D fun p hp => dget_of_mem nd hp
theorem turn_nd {M : List (Str × Str)} (nd : (M.map (·.1)).Nodup) (inj : ∀ e e' u, dget M e = some u → dget M e' = some u → e = e') : ((turn M).map (·.1)).Nodup := by
  unfold turn
  rw [List.map_map]
  have h : ∀ (L : List (Str × Str)), (L.map (·.1)).Nodup → (∀ p ∈ L, dget M p.1 = some p.2) → (L.map ((·.1) ∘ fun p : Str × Str => (p.2, p.1))).Nodup := by
    intro L
    induction L with
    | nil => intro _ _; exact .nil
    | cons p L ih =>
      intro h1 h2
      rw [List.map_cons] at h1 ⊢
      obtain ⟨n1, n2⟩ := List.nodup_cons.mp h1
      refine List.nodup_cons.mpr ⟨fun hm => ?_, ih n2 fun q hq => h2 q (List.mem_cons_of_mem _ hq)⟩
      obtain ⟨q, hq, e⟩ := List.mem_map.mp hm
      have e : q.2 = p.2 := e
      have a1 := h2 p List.mem_cons_self
      have a2 := h2 q (List.mem_cons_of_mem _ hq)
      rw [e] at a2
      exact n1 (inj _ _ _ a1 a2 ▸ List.mem_map.mpr ⟨q, hq, rfl⟩)
  exact h M nd fun p hp => dget_of_mem nd hp
theorem turn_get {M : List (Str × Str)} (nd : (M.map (·.1)).Nodup) (inj : ∀ e e' u, dget M e = some u → dget M e' = some u → e = e') (u e : Str) : dget (turn M) u = some e ↔ dget M e = some u := by
  constructor
  · intro h
    have := dget_mem h
    obtain ⟨p, hp, eq⟩ := List.mem_map.mp this
    obtain ⟨rfl, rfl⟩ := Prod.mk.inj eq
    exact dget_of_mem nd hp
  · intro h
    exact dget_of_mem (turn_nd nd inj) (List.mem_map.mpr ⟨(e, u), dget_mem h, rfl⟩)
section
variable {P : Program} {w : World} {K : Fg} {mg : Str → Option Value} {base : Heap}
def spOwners : Sp := fun vs H Q _ => ∃ (a : Addr) (M : List (Str × Str)), vs = [.ref a] ∧ DictAt H a (sd M) ∧ (M.map (·.1)).Nodup ∧ (∀ e e' u, dget M e = some u → dget M e' = some u → e = e') ∧ M.length ≤ 24 ∧
  ∀ p H', Same H H' → H p = none → DictAt H' p (sd (turn M)) → Q (.ref p) H'
theorem ok_owners_of (T : TX w K mg) : Ok P w K mg base 1 d_owners_of ["assignment"] spOwners := by
  refine mkOk T ix_owners_of rfl rfl rfl sc_owners_of (fun _ _ _ _ _ _ us hl => match us, hl with | [_], _ => rfl) (fun vs H Q E h => ?_) (fun cdv A outer s0 H vs Q E hr h => ?_)
  · obtain ⟨a, M, rfl, _⟩ := h
    rfl
  · obtain ⟨a, M, rfl, ha, nd, inj, hl, q⟩ := h
    have hu := hu_of hr
    refine ⟨_, pss_one (ps_ret (pe_lock (pe_dc (own := [("equation", 1)]) (g := gName 1) (tt := tYes) (by rfl) sc_owners_of.nd (pi_keys (pv 0)) (blkOk_by (N := N_owners_of) (sc := defScope s_owners_of) (by decide +kernel))
        (fun _ _ _ _ _ => pgn (i := 1) sc_owners_of.nd) (fun _ _ _ _ _ => pts_nil) (fun _ _ _ _ _ => pe_dget hu (pv 0) (pv 1) (fun _ _ => rfl)) (fun _ _ _ _ _ => pv 1)))), ?_⟩
    refine dc_keysP ha (by rw [sd_len]; omega) (fun od R r => ⟨_, rfl, r⟩) (fun k => (dget M k).map fun u => (u, V.str k)) (fun od k H2 R N hk s2 hh => ?_) (fun p H1 s1 np hp => ?_)
    · rw [sd_keys] at hk
      obtain ⟨u, hu'⟩ := Option.isSome_iff_exists.mp (dget_isSome.mpr hk)
      have hdg := DictR.get (DictR.same (DictR.lock (DictAt.r ha) ha) s2) k
      rw [sd_get, hu'] at hdg
      simp only [hu', Option.map_some] at hh
      exact ⟨rfl, _, rfl, _, rfl, a, _, rfl, hdg, _, rfl, hh⟩
    · rw [sd_keys, fm_keys M nd fun k u => (u, V.str k)] at hp
      have e : (M.map fun p => (p.2, V.str p.1)) = sd (turn M) := by
        unfold sd turn
        rw [List.map_map]
        rfl
      rw [e, mk_nd (by rw [sd_keys]; exact turn_nd nd inj)] at hp
      exact q p H1 s1 np hp
/-- a dict from unknowns to the equations in which they occur -/
def spColumns (K : Fg) : Sp := fun vs H Q _ => ∃ (rd ut : Addr) (es us : List Str) (R : Str → List Str) (kvs : List (Key × V)), vs = [.ref rd, .ref ut] ∧ Rows3 K H rd es us R ∧ H rd = some (.dK kvs) ∧ SqT K H ut (txs us) ∧ us.Nodup ∧
  ∀ p H', Same H H' → H p = none → Rows3 K H' p us es (fun u => es.filter fun e => decide (u ∈ R e)) → Q (.ref p) H'
theorem ok_columns_of (T : TX w K mg) : Ok P w K mg base 1 d_columns_of ["rows", "unknowns"] (spColumns K) := by
  refine mkOk T ix_columns_of rfl rfl rfl sc_columns_of (fun _ _ _ _ _ _ us hl => match us, hl with | [_, _], _ => rfl) (fun vs H Q E h => ?_) (fun cdv A outer s0 H vs Q E hr h => ?_)
  · obtain ⟨rd, ut, es, us, R, kvs, rfl, _⟩ := h
    rfl
  · obtain ⟨rd, ut, es, us, R, kvs, rfl, hR, hd, hut, nd, q⟩ := h
    have hu := hu_of hr
    refine ⟨_, pss_one (ps_ret (pe_dc (own := [("unknown", 3)]) (g := gName 3) (tt := tYes) (by rfl) sc_columns_of.nd (pi_tup (pv 1)) (blkOk_by (N := N_columns_of) (sc := defScope s_columns_of) (by decide +kernel))
        (fun _ _ _ _ _ => pgn (i := 3) sc_columns_of.nd) (fun _ _ _ _ _ => pts_nil) (fun _ _ _ _ _ => pv 3)
        (fun _ _ _ _ _ => pe_callTy (r := fun xs H Q => ∃ (p : Addr) (ys : List V), xs = [.ref p] ∧ ((SqL K H p ys ∧ ∀ l : Addr, H l = none → Q (.ref l) (upd H l (.tup ys))) ∨ (SqT K H p ys ∧ Q (.ref p) H))) call_tuple_of (by rfl) T.f_tuple PyProof.Rows.boot_tuple (pa_cons
          (pe_lock (pe_lc (own := [("equation", 2)]) (g := gName 2) (by rfl) sc_columns_of.nd (pi_keys (pv 0)) (blkOk_by (by kernel_rfl))
            (fun _ _ _ _ _ => pgn (i := 2) sc_columns_of.nd) (fun _ _ _ _ _ => pts_one (pt_cmpR (r := rIn K false) op_in_seq (pv 3) (pe_dget hu (pv 0) (pv 2) (fun _ _ => rfl)) rfl)) (fun _ _ _ _ _ => pv 2))) pa_nil)))), ?_⟩
    obtain ⟨L, hL, eL⟩ := hR.open_ hd
    have hkeys : (refs L).map (·.1) = es := by rw [refs_keys]; exact eL
    have hel := hR.el
    have hul := hR.ul
    have hll : (refs L).length ≤ 24 := by
      have := congrArg List.length hkeys
      rw [List.length_map] at this
      omega
    refine ⟨_, rfl, ut, rfl, ⟨_, hut⟩, fun p np => ?_⟩
    have ef : (txs us).filterMap (fun v => match v with | .str k => some k | _ => none) = us := by
      rw [fm_txs]
      exact List.filterMap_some ..
    refine dc_objs (walk_tup (xs := txs us)) np (fun v => match v with | .str k => some k | _ => none) (fun l => .tup (txs l)) (fun u l => l = es.filter fun e => decide (u ∈ R e)) (by rw [txs_len]; omega) (by rw [ef]; exact nd) (fun H1 s1 => Same.tup s1 hut) (fun x H1 Rr N hx s1 hh => ?_) (fun H1 Lc s1 hLc hD hN => ?_)
    · obtain ⟨u, hu', rfl⟩ := List.mem_map.mp hx
      refine ⟨rfl, _, rfl, ?_⟩
      dsimp only [tCB, tCons]
      have hL1 : DictAt H1 rd (refs L) := s1 _ _ hL
      refine lc_keys hL1 (by omega) (fun od R r => ⟨_, rfl, r⟩) (fun e => if (decide (u ∈ R e)) = true then some (V.str e) else none) (fun od e H2 Rr2 N2 he s2 hh2 => ?_) (fun lp H2 s2 nlp hlp => ?_)
      · rw [hkeys] at he
        have hR2 := ((hR.same s1).lock hL1).same s2 (K := K)
        obtain ⟨a, ha1, ha2⟩ := hR2.get he
        refine ⟨rfl, _, rfl, _, rfl, _, rfl, rd, _, rfl, ha1, a, _, rfl, .inr ha2, rfl, txs_flat _, _, rfl, ?_⟩
        rw [inV_txs]
        by_cases hm : u ∈ R e
        · rw [decide_eq_true hm] at hh2 ⊢
          exact iteT ⟨_, rfl, hh2⟩
        · rw [decide_eq_false hm] at hh2 ⊢
          exact iteF hh2
      · rw [hkeys, fm_if] at hlp
        have hlp : H2 lp = some (.lst (txs (es.filter fun e => decide (u ∈ R e)))) := hlp
        exact ⟨lp, _, rfl, .inl ⟨SqL.of hlp, fun l nl => hh l _ _ (Same.new s2 nl) (Same.free s2 nl) upd_same rfl⟩⟩
    · rw [ef] at hLc
      refine q p H1 s1 np ⟨⟨Lc, .inl hD, hLc, fun z hz => ⟨SqT.of (hN z hz).2.2.1, (hN z hz).2.2.2⟩⟩, nd, ?_, hel, fun u hu' e he => (List.mem_filter.mp he).1, fun u hu' => hR.nd.sublist List.filter_sublist⟩
      exact Nat.le_trans (by have := congrArg List.length hLc; rw [List.length_map] at this; exact Nat.le_refl _) hul
end
end Bo

/-! F4 -/
set_option Elab.async false
set_option linter.all false
set_option maxRecDepth 100000
set_option maxHeartbeats 1000000
namespace Bo
open PySem PySem.Spec PyProof.Rows L2
/-- a dict of texts to True -/
def tr (X : List Str) : List (Str × V) := X.map fun x => (x, V.bl true)
theorem tr_keys (X : List Str) : (tr X).map (·.1) = X := by
  unfold tr
  rw [List.map_map]
  exact List.map_id'' (fun _ => rfl) X
@[simp] theorem tr_len (X : List Str) : (tr X).length = X.length := by unfold tr; exact List.length_map ..
theorem tr_get (X : List Str) (x : Str) : (dget (tr X) x).isSome = decide (x ∈ X) := by
  by_cases h : x ∈ X
  · rw [decide_eq_true h]
    exact dget_isSome.mpr (by rw [tr_keys]; exact h)
  · rw [decide_eq_false h]
    rw [dget_none.mpr (by rw [tr_keys]; exact h)]
    rfl
theorem tr_put {X : List Str} {x : Str} (h : x ∉ X) : dput (tr X) x (.bl true) = tr (X ++ [x]) := by
  rw [dput_new _ (by rw [tr_keys]; exact h)]
  unfold tr
  rw [List.map_append]
  rfl
/-- what is reached from starts -/
structure Rch (ns fs starts : List Str) (Lk : Str → List Str) (Pt : List (Str × Str)) (X F : List Str) : Prop where
  xnd : X.Nodup
  fnd : F.Nodup
  xs : ∀ x ∈ X, x ∈ ns
  fs : ∀ f ∈ F, f ∈ fs
  st : ∀ s ∈ starts, s ∈ X
  cl : ∀ x ∈ X, ∀ f ∈ Lk x, f ∈ F
  pt : ∀ f ∈ F, ∃ n ∈ X, dget Pt f = some n
  src : ∀ f ∈ F, ∃ n ∈ X, f ∈ Lk n
  frm : ∀ x ∈ X, x ∈ starts ∨ ∃ f ∈ F, dget Pt f = some x
  ne : X ≠ [] → starts ≠ []
/-- the state on the way -/
structure Rst (ns fs starts : List Str) (Lk : Str → List Str) (Pt : List (Str × Str)) (X F W : List Str) : Prop where
  xnd : X.Nodup
  fnd : F.Nodup
  xs : ∀ x ∈ X, x ∈ ns
  fs : ∀ f ∈ F, f ∈ fs
  st : ∀ s ∈ starts, s ∈ X
  ws : ∀ w ∈ W, w ∈ X
  pt : ∀ f ∈ F, ∃ n ∈ X, dget Pt f = some n
  src : ∀ f ∈ F, ∃ n ∈ X, f ∈ Lk n
  frm : ∀ x ∈ X, x ∈ starts ∨ ∃ f ∈ F, dget Pt f = some x
  ne : X ≠ [] → starts ≠ []
  wl : W.length ≤ X.length
theorem last_mem {α : Type} {W : List α} {x : α} (h : W[W.length - 1]? = some x) : ∀ y, y ∈ W ↔ y ∈ W.dropLast ∨ y = x := by
  intro y
  rcases List.eq_nil_or_concat W with rfl | ⟨Z, z, rfl⟩
  · simp at h
  · rw [List.concat_eq_append] at h ⊢
    rw [List.dropLast_concat, List.mem_append, List.mem_singleton]
    simp at h
    rw [h]
section
variable {P : Program} {w : World} {K : Fg} {mg : Str → Option Value} {base : Heap}
def spReached (K : Fg) : Sp := fun vs H Q _ => ∃ (ld pd sl : Addr) (ns fs starts : List Str) (Lk : Str → List Str) (Pt : List (Str × Str)), vs = [.ref ld, .ref pd, .ref sl] ∧ Rows3 K H ld ns fs Lk ∧ DictAt H pd (sd Pt) ∧ SqL K H sl (txs starts) ∧ starts.Nodup ∧ (∀ s ∈ starts, s ∈ ns) ∧ (∀ n ∈ ns, Sh 0 (.str n)) ∧
  (starts ≠ [] → ∀ n ∈ ns, ∀ f ∈ Lk n, ∃ n' ∈ ns, dget Pt f = some n') ∧
  ∀ t nr fr X F H', Same H H' → H nr = none → H fr = none → H' t = some (.tup [.ref nr, .ref fr]) → DictAt H' nr (tr X) → DictAt H' fr (tr F) → Rch ns fs starts Lk Pt X F → Q (.ref t) H'
theorem ok_reached (T : TX w K mg) : Ok P w K mg base 1 d_reached ["links", "partners", "starts"] (spReached K) := by
  refine mkOk T ix_reached rfl rfl rfl sc_reached (fun _ _ _ _ _ _ us hl => match us, hl with | [_, _, _], _ => rfl) (fun vs H Q E h => ?_) (fun cdv A outer s0 H vs Q E hr h => ?_)
  · obtain ⟨ld, pd, sl, ns, fs, starts, Lk, Pt, rfl, _⟩ := h
    rfl
  · obtain ⟨ld, pd, sl, ns, fs, starts, Lk, Pt, rfl, hL, hP, hS, snd, ssub, hsh, tot, q⟩ := h
    have hu := hu_of hr
    refine ⟨_, pss_cons (pset (i := 3) sc_reached.nd (pe_callTy (call_dictP rfl) (by rfl) T.f_dict PyProof.Rows.boot_dict (pa_cons
        (pe_lc (own := [("start", 4)]) (g := gName 4) (tt := tYes) (by rfl) sc_reached.nd (pi_list (pv 2)) (blkOk_by (N := N_reached) (sc := defScope s_reached) (by decide +kernel))
          (fun _ _ _ _ _ => pgn (i := 4) sc_reached.nd) (fun _ _ _ _ _ => pts_nil) (fun _ _ _ _ _ => pe_tup (pa_cons (pv 4) (pa_cons pe_bl pa_nil)))) pa_nil)))
      (pss_cons (pset (i := 5) sc_reached.nd pe_dnewK)
      (pss_cons (pset (i := 6) sc_reached.nd (pe_callTy call_list_of (by rfl) T.f_list PyProof.Rows.boot_list (pa_cons (pv 2) pa_nil)))
      (pss_cons (ps_while PassesOwn.never (pt_cmpR (op_neD hr.units) (pv 6) (pe_lst pa_nil) rfl)
        (pss_one (ps_for PassesOwn.never rfl (pi_tup (pe_dget hu (pv 0) (pe_bm0 PySem.F.plainAttrs_list PySem.F.slot_list_pop PySem.F.type_list_pop mt_pop (pv 6)) (fun _ _ => rfl))) (pgn (i := 7) sc_reached.nd)
          (pss_one (ps_if (pt_cmp (pc_dnotin hu (pv 7) (pv 5)))
            (pss_cons (ps_dput hu (pv 5) (pv 7) pe_bl rfl)
            (pss_cons (pset (i := 8) sc_reached.nd (pe_dget hu (pv 1) (pv 7) (fun _ _ => rfl)))
            (pss_one (ps_if (pt_cmp (pc_dnotin hu (pv 8) (pv 3)))
              (pss_cons (ps_dput hu (pv 3) (pv 8) pe_bl rfl)
              (pss_one (ps_expr (pe_bm PySem.F.plainAttrs_list PySem.F.slot_list_append PySem.F.type_list_append mt_append (pv 6) (pa_cons (pv 8) pa_nil))))) pss_nil)))) pss_nil)))))
      (pss_one (ps_ret (pe_tup (pa_cons (pv 3) (pa_cons (pv 5) pa_nil)))))))), ?_⟩
    have hsl : starts.length ≤ 24 := Nat.le_trans (len_le_of_sub snd ssub) hL.el
    dsimp only [tSeq, tAsg, tCB, tCons]
    refine lc_lstO hS (by omega) (fun R r => ⟨_, rfl, r⟩) (fun k => some k) (fun k => .tup [.str k, .bl true]) (fun k H1 R N hk s1 hh => ?_) (fun lp Lp H1 s1 nlp hLp hlp hN => ?_)
    · exact ⟨rfl, _, rfl, small (by show 2 ≤ 1000; decide), fun a na => hh a _ (same_new na) na upd_same⟩
    · rw [List.filterMap_some] at hLp
      have e1 : ads Lp = (Lp.map (·.2)).map V.ref := by
        unfold ads
        rw [List.map_map]
        rfl
      rw [e1] at hlp
      have hpr : ∀ Z : List (Str × Addr), (∀ z ∈ Z, H1 z.2 = some (.tup [.str z.1, .bl true])) → Paired (fun p (kv : Key × V) => SqT K H1 p [kV kv.1, kv.2]) (Z.map (·.2)) (tk (tr (Z.map (·.1)))) := by
        intro Z
        induction Z with
        | nil => intro _; exact .nil
        | cons z Z ih => intro h; exact .cons (SqT.of (h z List.mem_cons_self)) (ih fun y hy => h y (List.mem_cons_of_mem _ hy))
      have hp := hpr Lp fun z hz => (hN z hz).2.2
      rw [hLp] at hp
      refine ⟨lp, Lp.map fun q : Str × Addr => q.2, tk (tr starts), rfl, SqL.of hlp, hp, fun nr nnr => ?_⟩
      rw [merge_nil (by rw [tr_keys]; exact snd)]
      have nnr0 : H nr = none := Same.free s1 nnr
      have s2 : Same H (upd H1 nr (.dK (tk (tr starts)))) := Same.over s1 nnr0
      refine fun fr nfr => ?_
      have nfr0 : H fr = none := Same.free s2 nfr
      have fn : fr ≠ nr := fun e => by rw [e, upd_same] at nfr; cases nfr
      have s3 : Same H (upd (upd H1 nr (.dK (tk (tr starts)))) fr (.dK [])) := Same.over s2 nfr0
      refine ⟨_, rfl, sl, txs starts, rfl, .inl (s3.seq hS), fun wt nwt => ?_⟩
      have nwt0 : H wt = none := Same.free s3 nwt
      have wf : wt ≠ fr := fun e => by rw [e, upd_same] at nwt; cases nwt
      have wn : wt ≠ nr := fun e => by rw [e, upd_ne (Ne.symm fn), upd_same] at nwt; cases nwt
      have s4 := Same.over s3 nwt0 (o := .lst (txs starts))
      have hul := hL.ul
      have hel := hL.el
      have xl : ∀ {X F W : List Str}, Rst ns fs starts Lk Pt X F W → X.length ≤ 24 := fun S => Nat.le_trans (len_le_of_sub S.xnd S.xs) hel
      have fl : ∀ {X F W : List Str}, Rst ns fs starts Lk Pt X F W → F.length ≤ 24 := fun S => Nat.le_trans (len_le_of_sub S.fnd S.fs) hul
      refine ⟨fun m σ H5 => ∃ X F W z4 z7 z8, m = (24 - X.length) + W.length ∧ σ = [some (.ref ld), some (.ref pd), some (.ref sl), some (.ref nr), z4, some (.ref fr), some (.ref wt), z7, z8] ∧ Same H H5 ∧ H5 nr = some (.dK (tk (tr X))) ∧ H5 fr = some (.dK (tk (tr F))) ∧ H5 wt = some (.lst (txs W)) ∧ Rst ns fs starts Lk Pt X F W ∧ (∀ x ∈ X, x ∈ W ∨ ∀ f ∈ Lk x, f ∈ F),
        ⟨_, starts, [], starts, none, none, none, rfl, rfl, s4, by rw [upd_ne (Ne.symm wn), upd_ne (Ne.symm fn), upd_same], by rw [upd_ne (Ne.symm wf), upd_same]; rfl, upd_same,
          ⟨snd, .nil, ssub, fun f hf => (nomatch hf), fun s hs => hs, fun w hw => hw, fun f hf => (nomatch hf), fun f hf => (nomatch hf), fun x hx => .inl hx, fun h => h, Nat.le_refl _⟩, fun x hx => .inl hx⟩, ?_⟩
      rintro m σ H5 ⟨X, F, W, z4, z7, z8, rfl, rfl, s5, hX, hF, hW, S, hcl⟩
      refine ⟨_, rfl, small (by show 0 ≤ 1000; decide), fun el nel => ?_⟩
      have s6 := Same.new s5 nel (o := .lst [])
      have k6 := same_new nel (o := .lst [])
      have hWn : ∀ w ∈ W, w ∈ ns := fun w hw => S.xs w (S.ws w hw)
      refine ⟨.list (strD W), .list [], .lst (SqL.of (k6 _ _ hW)) (dp_txs W), .lst (SqL.of upd_same) .nil, (Sh.list (sh_strs fun x hx => hsh x (hWn x hx))).shaped, (Sh.list (n := 0) (l := []) (fun _ h => (nomatch h))).shaped, _, rfl, ?_⟩
      cases W with
      | nil =>
        show if false = true then _ else _
        refine iteF ?_
        refine ⟨_, rfl, _, rfl, small (by show 2 ≤ 1000; decide), fun t nt => ?_⟩
        have k7 := same_new nt (o := .tup [.ref nr, .ref fr])
        refine q t nr fr X F _ (Same.new s6 nt) nnr0 nfr0 upd_same (k7 _ _ (k6 _ _ hX)) (k7 _ _ (k6 _ _ hF)) ⟨S.xnd, S.fnd, S.xs, S.fs, S.st, fun x hx => ?_, S.pt, S.src, S.frm, S.ne⟩
        rcases hcl x hx with h | h
        · cases h
        · exact h
      | cons w0 W0 =>
        show if true = true then _ else _
        refine iteT ⟨fun σ' H' => ∃ m', m' < (24 - X.length) + (w0 :: W0).length ∧ _, fun _ _ h => h, ?_⟩
        generalize hWW : w0 :: W0 = W at *
        have hWpos : 0 < W.length := by rw [← hWW]; exact Nat.succ_pos _
        obtain ⟨n, hn⟩ : ∃ n, W[W.length - 1]? = some n := ⟨W[W.length - 1], List.getElem?_eq_getElem (by omega)⟩
        have lm := last_mem hn
        have hnW : n ∈ W := List.mem_of_getElem? hn
        have hnX : n ∈ X := S.ws n hnW
        have hnn : n ∈ ns := S.xs n hnX
        obtain ⟨a, ha1, ha2⟩ := hL.get hnn
        have hWd : (txs W).dropLast = txs W.dropLast := by unfold txs; rw [List.map_dropLast]
        have s7 := Same.over s6 nwt0 (o := .lst (txs W.dropLast))
        have hne : starts ≠ [] := S.ne (fun z => by rw [z] at hnX; cases hnX)
        refine ⟨_, rfl, _, rfl, .inl ⟨rfl, _, SqL.of (k6 _ _ hW)⟩, wt, txs W, .str n, rfl, rfl, k6 _ _ hW, by rw [txs_len]; exact txs_get hn, ld, .ref a, rfl, ?_, a, rfl, ⟨txs (Lk n), by rw [hWd]; exact Same.tup s7 ha2⟩, ?_⟩
        · rw [hWd]
          exact DGet.same ha1 s7
        · rw [hWd]
          have elw : el ≠ wt := fun z => by rw [z, hW] at nel; cases nel
          refine for_it (walk_tup (xs := txs (Lk n))) (fun i σ H8 => ∃ X' F' W' z4 z7 z8, σ = [some (.ref ld), some (.ref pd), some (.ref sl), some (.ref nr), z4, some (.ref fr), some (.ref wt), z7, z8] ∧ Same H H8 ∧ H8 nr = some (.dK (tk (tr X'))) ∧ H8 fr = some (.dK (tk (tr F'))) ∧ H8 wt = some (.lst (txs W')) ∧ Rst ns fs starts Lk Pt X' F' W' ∧ (∀ x ∈ X', x ∈ W' ∨ x = n ∨ ∀ f ∈ Lk x, f ∈ F') ∧ (∀ f ∈ (Lk n).take i, f ∈ F') ∧ (24 - X'.length) + W'.length < (24 - X.length) + W.length ∧ n ∈ X')
            ⟨X, F, W.dropLast, _, _, _, rfl, s7, by rw [upd_ne (Ne.symm wn)]; exact k6 _ _ hX, by rw [upd_ne (Ne.symm wf)]; exact k6 _ _ hF, upd_same, ⟨S.xnd, S.fnd, S.xs, S.fs, S.st, fun w hw => S.ws w ((lm w).mpr (.inl hw)), S.pt, S.src, S.frm, S.ne, by rw [List.length_dropLast]; have := S.wl; omega⟩, fun x hx => ?_, fun f hf => by simp at hf, by rw [List.length_dropLast]; omega, hnX⟩ (fun i σ H8 _ hP => ?_) ?_ ?_
          · rcases hcl x hx with h | h
            · rcases (lm x).mp h with h | h
              · exact .inl h
              · exact .inr (.inl h)
            · exact .inr (.inr h)
          · obtain ⟨_, _, _, _, _, _, _, s8, _⟩ := hP
            exact Same.tup s8 ha2
          · rintro i x σ H8 H9 hi ⟨X', F', W', z4, z7, z8, rfl, s8, hX8, hF8, hW8, S8, hcl8, hnow, hm, hnX'⟩ ⟨rfl, hx⟩
            obtain ⟨f, hf', rfl⟩ := txs_at hx
            have hfL : f ∈ Lk n := List.mem_of_getElem? hf'
            have tk1 : (Lk n).take (i + 1) = (Lk n).take i ++ [f] := by
              rw [List.take_add_one, hf']
              rfl
            have hxl := xl S8
            have hfl := fl S8
            refine ⟨_, rfl, _, rfl, fr, _, rfl, DictAt.get hF8 f, _, rfl, ?_⟩
            rw [tr_get]
            by_cases hf : f ∈ F'
            · rw [decide_eq_true hf]
              refine iteF ⟨X', F', W', _, _, _, rfl, s8, hX8, hF8, hW8, S8, hcl8, fun g hg => ?_, hm, hnX'⟩
              rw [tk1] at hg
              rcases List.mem_append.mp hg with hg | hg
              · exact hnow g hg
              · rw [List.mem_singleton.mp hg]
                exact hf
            · rw [decide_eq_false hf]
              obtain ⟨p, hp, hpf⟩ := tot hne n hnn f hfL
              refine iteT ⟨_, rfl, _, rfl, fr, _, rfl, DictAt.put hF8 f (.bl true) (small1000 (by rw [tr_len]; omega)), ?_⟩
              rw [tr_put hf]
              have s9 := Same.over s8 nfr0 (o := .dK (tk (tr (F' ++ [f]))))
              have hdp := DictAt.get (s9 _ _ hP) f
              rw [sd_get, hpf] at hdp
              have hX9 : DictAt (upd H9 fr (.dK (tk (tr (F' ++ [f]))))) nr (tr X') := by
                show upd H9 fr _ nr = _
                rw [upd_ne (Ne.symm fn)]
                exact hX8
              have hW9 : upd H9 fr (.dK (tk (tr (F' ++ [f])))) wt = some (.lst (txs W')) := by rw [upd_ne wf]; exact hW8
              have fnd' : (F' ++ [f]).Nodup := nodup_snoc S8.fnd hf
              have fs' : ∀ g ∈ F' ++ [f], g ∈ fs := fun g hg => by
                rcases List.mem_append.mp hg with hg | hg
                · exact S8.fs g hg
                · rw [List.mem_singleton.mp hg]
                  exact hL.sub n hnn f hfL
              have now' : ∀ g ∈ (Lk n).take (i + 1), g ∈ F' ++ [f] := fun g hg => by
                rw [tk1] at hg
                rcases List.mem_append.mp hg with hg | hg
                · exact List.mem_append.mpr (.inl (hnow g hg))
                · exact List.mem_append.mpr (.inr hg)
              refine ⟨_, rfl, _, rfl, pd, _, rfl, hdp, ?_⟩
              refine ⟨_, rfl, _, rfl, nr, _, rfl, DictAt.get hX9 p, _, rfl, ?_⟩
              rw [tr_get]
              by_cases hpX : p ∈ X'
              · rw [decide_eq_true hpX]
                refine iteF ⟨X', F' ++ [f], W', _, _, _, rfl, s9, hX9, upd_same, hW9, ⟨S8.xnd, fnd', S8.xs, fs', S8.st, S8.ws, fun g hg => ?_, fun g hg => ?_, fun x hx => ?_, S8.ne, S8.wl⟩, fun x hx => ?_, now', hm, hnX'⟩
                · rcases List.mem_append.mp hg with hg | hg
                  · exact S8.pt g hg
                  · rw [List.mem_singleton.mp hg]
                    exact ⟨p, hpX, hpf⟩
                · rcases List.mem_append.mp hg with hg | hg
                  · exact S8.src g hg
                  · rw [List.mem_singleton.mp hg]
                    exact ⟨n, hnX', hfL⟩
                · rcases S8.frm x hx with h | ⟨g, h1, h2⟩
                  · exact .inl h
                  · exact .inr ⟨g, List.mem_append.mpr (.inl h1), h2⟩
                · rcases hcl8 x hx with h | h | h
                  · exact .inl h
                  · exact .inr (.inl h)
                  · exact .inr (.inr fun g hg => List.mem_append.mpr (.inl (h g hg)))
              · rw [decide_eq_false hpX]
                have hX9' := DictAt.put hX9 p (.bl true) (small1000 (by rw [tr_len]; omega))
                refine iteT ⟨_, rfl, _, rfl, nr, _, rfl, hX9', ?_⟩
                rw [tr_put hpX]
                have s10 := Same.over s9 nnr0 (o := .dK (tk (tr (X' ++ [p]))))
                have hW10 : upd (upd H9 fr (.dK (tk (tr (F' ++ [f]))))) nr (.dK (tk (tr (X' ++ [p])))) wt = some (.lst (txs W')) := by rw [upd_ne wn]; exact hW9
                have hwl := S8.wl
                refine ⟨_, rfl, .inl ⟨rfl, _, SqL.of hW10⟩, _, rfl, wt, txs W', _, rfl, rfl, hW10, small1000 (by rw [txs_len]; omega), ?_⟩
                have e5 : txs W' ++ [V.str p] = txs (W' ++ [p]) := txs_app W' [p]
                rw [e5]
                have xnd' : (X' ++ [p]).Nodup := nodup_snoc S8.xnd hpX
                have xs' : ∀ x ∈ X' ++ [p], x ∈ ns := fun x hx => by
                  rcases List.mem_append.mp hx with hx | hx
                  · exact S8.xs x hx
                  · rw [List.mem_singleton.mp hx]
                    exact hp
                have hx2 := Nat.le_trans (len_le_of_sub xnd' xs') hel
                rw [List.length_append] at hx2
                have hx2 : X'.length + 1 ≤ 24 := hx2
                refine ⟨X' ++ [p], F' ++ [f], W' ++ [p], _, _, _, rfl, Same.over s10 nwt0, by rw [upd_ne (Ne.symm wn), upd_same], by rw [upd_ne (Ne.symm wf), upd_ne fn, upd_same], upd_same, ⟨xnd', fnd', xs', fs', fun s hs => List.mem_append.mpr (.inl (S8.st s hs)), fun w hw => ?_, fun g hg => ?_, fun g hg => ?_, fun x hx => ?_, fun _ => hne, by rw [List.length_append, List.length_append]; show W'.length + 1 ≤ X'.length + 1; omega⟩, fun x hx => ?_, now', ?_, List.mem_append.mpr (.inl hnX')⟩
                · rcases List.mem_append.mp hw with hw | hw
                  · exact List.mem_append.mpr (.inl (S8.ws w hw))
                  · exact List.mem_append.mpr (.inr hw)
                · rcases List.mem_append.mp hg with hg | hg
                  · obtain ⟨x, h1, h2⟩ := S8.pt g hg
                    exact ⟨x, List.mem_append.mpr (.inl h1), h2⟩
                  · rw [List.mem_singleton.mp hg]
                    exact ⟨p, List.mem_append.mpr (.inr (by simp)), hpf⟩
                · rcases List.mem_append.mp hg with hg | hg
                  · obtain ⟨x, h1, h2⟩ := S8.src g hg
                    exact ⟨x, List.mem_append.mpr (.inl h1), h2⟩
                  · rw [List.mem_singleton.mp hg]
                    exact ⟨n, List.mem_append.mpr (.inl hnX'), hfL⟩
                · rcases List.mem_append.mp hx with hx | hx
                  · rcases S8.frm x hx with h | ⟨g, h1, h2⟩
                    · exact .inl h
                    · exact .inr ⟨g, List.mem_append.mpr (.inl h1), h2⟩
                  · rw [List.mem_singleton.mp hx]
                    exact .inr ⟨f, List.mem_append.mpr (.inr (by simp)), hpf⟩
                · rcases List.mem_append.mp hx with hx | hx
                  · rcases hcl8 x hx with h | h | h
                    · exact .inl (List.mem_append.mpr (.inl h))
                    · exact .inr (.inl h)
                    · exact .inr (.inr fun g hg => List.mem_append.mpr (.inl (h g hg)))
                  · exact .inl (List.mem_append.mpr (.inr hx))
                · rw [List.length_append, List.length_append]
                  show 24 - (X'.length + 1) + (W'.length + 1) < _
                  omega
          · rintro σ H8 ⟨X', F', W', z4, z7, z8, rfl, s8, hX8, hF8, hW8, S8, hcl8, hnow, hm, hnX'⟩
            rw [txs_len, List.take_length] at hnow
            refine ⟨_, hm, X', F', W', _, _, _, rfl, rfl, s8, hX8, hF8, hW8, S8, fun x hx => ?_⟩
            rcases hcl8 x hx with h | h | h
            · exact .inl h
            · rw [h]
              exact .inr hnow
            · exact .inr h
end
end Bo

/-! F5 -/
set_option Elab.async false
set_option linter.all false
set_option maxRecDepth 100000
set_option maxHeartbeats 1000000
namespace Bo
open PySem PySem.Spec PyProof.Rows L2
section
variable {β : Type} {td te tv : TE} {g : TG} {tt : TT} {vs : List Nat} {σ : L2.St} {H : Hp} {d : Addr} {D : List (Str × V)} {Q : VK}
/-- x = [new things for k in d ..] on one line -/
theorem ls_keysO {i : Nat} {Dn : Ends} (hd : DictAt H d D) (hz : D.length ≤ 1000) (ht : ∀ od R, R (.ref d) (upd H d (.frz od (.dK (tk D)))) → td σ (upd H d (.frz od (.dK (tk D)))) R) (sel : Str → Option β) (mkO : β → HO)
    (hs : ∀ od k H2 (R : V → Hp → Prop) (N : Hp → Prop), k ∈ D.map (·.1) → Same (upd H d (.frz od (.dK (tk D)))) H2 → (match sel k with | some b => ∀ a H', Same H2 H' → H2 a = none → H' a = some (mkO b) → R (.ref a) H' | none => N H2) →
      g (.str k) (wipe σ vs) H2 fun σ2 H3 => wipe σ2 vs = wipe σ vs ∧ tt σ2 H3 fun b H4 => if b = true then te σ2 H4 R else N H4)
    (hq : ∀ p L H', Same H H' → H p = none → L.map (·.1) = (D.map (·.1)).filterMap sel → H' p = some (.lst (ads L)) → NewObjs mkO H [p] H' L → Dn.nx (σ.set i (some (.ref p))) H') : tLock (tAsg (tLc (iKeys td) g tt te vs) (gName i)) Dn σ H := by
  refine ⟨d, _, hd, True.intro, fun od => ?_⟩
  refine ht od _ ⟨d, od, rfl, .inl ⟨tk D, upd_same, fun p np => ?_⟩⟩
  have pd : p ≠ d := fun e => by rw [e, upd_same] at np; cases np
  have np' : H p = none := by rwa [upd_ne pd] at np
  refine lc_objs walk_tk np (fun v => match v with | .str k => sel k | _ => none) mkO (by rw [txs_len, List.length_map]; exact hz) (fun H2 s => s _ _ upd_same) (fun x H2 R N hx s2 hh => ?_) (fun H2 L s2 hL hD hN => ?_)
  · obtain ⟨k, hk, rfl⟩ := List.mem_map.mp hx
    exact hs od k H2 R N hk s2 hh
  · obtain ⟨h1, h2⟩ := lock_back hd s2
    refine ⟨h1, hq p L _ h2 np' (by rw [hL, fm_txs]) (by rw [upd_ne pd]; exact hD) fun q hq' => ?_⟩
    obtain ⟨q1, q2, q3⟩ := hN q hq'
    have qd : q.2 ≠ d := fun z => by rw [z, upd_same] at q1; cases q1
    rw [upd_ne qd] at q1
    exact ⟨q1, q2, by rw [upd_ne qd]; exact q3⟩
end
section
variable {P : Program} {w : World} {K : Fg} {mg : Str → Option Value} {base : Heap}
theorem Asg.len {es : List Str} {R : Str → List Str} {M : List (Str × Str)} (h : Asg es R M) (he : es.length ≤ 24) : M.length ≤ 24 := by
  have := len_le_of_sub h.nd h.ks
  rw [List.length_map] at this
  omega
def spSpare (K : Fg) : Sp := fun vs H Q _ => ∃ (rd gd : Addr) (es us : List Str) (R : Str → List Str) (kvs : List (Key × V)) (M : List (Str × Str)), vs = [.ref rd, .ref gd] ∧ Rows3 K H rd es us R ∧ H rd = some (.dK kvs) ∧ DictAt H gd (sd M) ∧ Asg es R M ∧ (∀ e ∈ es, Sh 0 (.str e)) ∧
  ∀ t nr fr X F H', Same H H' → H nr = none → H fr = none → H' t = some (.tup [.ref nr, .ref fr]) → DictAt H' nr (tr X) → DictAt H' fr (tr F) → Rch es us (es.filter fun e => !decide (e ∈ M.map (·.1))) R (turn M) X F → Q (.ref t) H'
theorem ok_spare_side (T : TX w K mg) : Ok P w K mg base 2 d_spare_side ["rows", "assignment"] (spSpare K) := by
  refine mkOk T ix_spare_side rfl rfl rfl sc_spare_side (fun _ _ _ _ _ _ us hl => match us, hl with | [_, _], _ => rfl) (fun vs H Q E h => ?_) (fun cdv A outer s0 H vs Q E hr h => ?_)
  · obtain ⟨rd, gd, es, us, R, kvs, M, rfl, _⟩ := h
    rfl
  · obtain ⟨rd, gd, es, us, R, kvs, M, rfl, hR, hd, hM, A, hsh, q⟩ := h
    have hu := hu_of hr
    obtain ⟨f1, G1, b1, k1⟩ := ok_reached (P := P) (base := base) T
    obtain ⟨f2, G2, b2, k2⟩ := ok_owners_of (P := P) (base := base) T
    refine ⟨_, pss_cons (ps_lock (ps_setLc (i := 2) (own := [("equation", 3)]) (g := gName 3) (by rfl) sc_spare_side.nd rfl rfl (by rfl) (pi_keys (pv 0)) (blkOk_by (N := N_spare_side) (sc := defScope s_spare_side) (by decide +kernel))
          (fun _ _ _ _ _ => pgn (i := 3) sc_spare_side.nd) (fun _ _ _ _ _ => pts_one (pt_cmp (pc_dnotin hu (pv 3) (pv 1)))) (fun _ _ _ _ _ => pv 3)))
      (pss_one (ps_ret (pe_call G1 hr (by rfl) T.g_reached k1 b1 .nil pass0 (pa_cons (pv 0) (pa_cons (pe_call G2 hr (by rfl) T.g_owners_of k2 b2 .nil pass0 (pa_cons (pv 1) pa_nil)) (pa_cons (pv 2) pa_nil)))))), ?_⟩
    obtain ⟨L, hL, eL⟩ := hR.open_ hd
    have hkeys : (refs L).map (·.1) = es := by rw [refs_keys]; exact eL
    have hel := hR.el
    have hll : (refs L).length ≤ 24 := by
      have := congrArg List.length hkeys
      rw [List.length_map] at this
      omega
    refine ls_keys hL (by omega) (fun od R r => ⟨_, rfl, r⟩) (fun e => if (!decide (e ∈ M.map (·.1))) = true then some (V.str e) else none) (fun od e H2 R2 N he s2 hh => ?_) (fun sp H1 s1 nsp hsp => ?_)
    · have hg := DictR.get (DictR.same (DictR.lock (DictAt.r hM) hL) s2) e
      refine ⟨rfl, _, rfl, _, rfl, gd, _, rfl, hg, _, rfl, ?_⟩
      rw [sd_get]
      by_cases hm : e ∈ M.map (·.1)
      · rw [decide_eq_true hm] at hh
        have := dget_isSome.mpr hm
        cases h : dget M e with
        | none => rw [h] at this; cases this
        | some y => exact iteF hh
      · rw [decide_eq_false hm] at hh
        rw [dget_none.mpr hm]
        exact iteT ⟨_, rfl, hh⟩
    · rw [hkeys, fm_if] at hsp
      have hsp : H1 sp = some (.lst (txs (es.filter fun e => !decide (e ∈ M.map (·.1))))) := hsp
      refine ⟨_, rfl, _, rfl, gd, M, rfl, s1 _ _ hM, A.nd, A.inj, A.len hel, fun op H2 s2 nop hop => ?_⟩
      have s12 := s1.trans s2
      refine ⟨_, rfl, rd, op, sp, es, us, es.filter fun e => !decide (e ∈ M.map (·.1)), R, turn M, rfl, hR.same s12, hop, SqL.of (s2 _ _ hsp), hR.nd.sublist List.filter_sublist, fun e he => (List.mem_filter.mp he).1, hsh, fun hne n hn f hf => ?_, fun t nr fr X F H3 s3 n1 n2 ht hX hF hr3 => q t nr fr X F H3 (s12.trans s3) (Same.free s12 n1) (Same.free s12 n2) ht hX hF hr3⟩
      rcases A.all with a | ⟨e0, h1, h2, h3, h4⟩
      · exfalso
        refine hne (List.filter_eq_nil_iff.mpr fun e he => ?_)
        rw [decide_eq_true (a e he)]
        exact Bool.false_ne_true
      · obtain ⟨w', hw, h⟩ := h4 n hn f hf
        exact ⟨w', hw, (turn_get A.nd A.inj f w').mpr h⟩
def spOpen (K : Fg) : Sp := fun vs H Q _ => ∃ (rd ut gd : Addr) (es us : List Str) (R : Str → List Str) (kvs : List (Key × V)) (M : List (Str × Str)), vs = [.ref rd, .ref ut, .ref gd] ∧ Rows3 K H rd es us R ∧ H rd = some (.dK kvs) ∧ SqT K H ut (txs us) ∧ us.Nodup ∧ DictAt H gd (sd M) ∧ Asg es R M ∧ (∀ u ∈ us, Sh 0 (.str u)) ∧
  (∀ u ∈ us, ∃ e ∈ es, u ∈ R e) ∧
  ∀ t nr fr X F H', Same H H' → H nr = none → H fr = none → H' t = some (.tup [.ref nr, .ref fr]) → DictAt H' nr (tr X) → DictAt H' fr (tr F) → Rch us es (us.filter fun u => !decide (u ∈ (turn M).map (·.1))) (fun u => es.filter fun e => decide (u ∈ R e)) M X F → Q (.ref t) H'
theorem ok_open_side (T : TX w K mg) : Ok P w K mg base 2 d_open_side ["rows", "unknowns", "assignment"] (spOpen K) := by
  refine mkOk T ix_open_side rfl rfl rfl sc_open_side (fun _ _ _ _ _ _ us hl => match us, hl with | [_, _, _], _ => rfl) (fun vs H Q E h => ?_) (fun cdv A outer s0 H vs Q E hr h => ?_)
  · obtain ⟨rd, ut, gd, es, us, R, kvs, M, rfl, _⟩ := h
    rfl
  · obtain ⟨rd, ut, gd, es, us, R, kvs, M, rfl, hR, hd, hut, und, hM, A, hsh, hcov, q⟩ := h
    have hu := hu_of hr
    obtain ⟨f1, G1, b1, k1⟩ := ok_reached (P := P) (base := base) T
    obtain ⟨f2, G2, b2, k2⟩ := ok_owners_of (P := P) (base := base) T
    obtain ⟨f3, G3, b3, k3⟩ := ok_columns_of (P := P) (base := base) T
    refine ⟨_, pss_cons (pset (i := 3) sc_open_side.nd (pe_call G2 hr (by rfl) T.g_owners_of k2 b2 .nil pass0 (pa_cons (pv 2) pa_nil)))
      (pss_cons (ps_setLc (i := 4) (own := [("unknown", 5)]) (g := gName 5) (by rfl) sc_open_side.nd rfl rfl (by rfl) (pi_tup (pv 1)) (blkOk_by (N := N_open_side) (sc := defScope s_open_side) (by decide +kernel))
          (fun _ _ _ _ _ => pgn (i := 5) sc_open_side.nd) (fun _ _ _ _ _ => pts_one (pt_cmp (pc_dnotin hu (pv 5) (pv 3)))) (fun _ _ _ _ _ => pv 5))
      (pss_one (ps_ret (pe_call G1 hr (by rfl) T.g_reached k1 b1 .nil pass0 (pa_cons (pe_call G3 hr (by rfl) T.g_columns_of k3 b3 .nil pass0 (pa_cons (pv 0) (pa_cons (pv 1) pa_nil))) (pa_cons (pv 2) (pa_cons (pv 4) pa_nil))))))), ?_⟩
    have hul := hR.ul
    refine ⟨_, rfl, gd, M, rfl, hM, A.nd, A.inj, A.len hR.el, fun op H1 s1 nop hop => ?_⟩
    dsimp only [gName, tSeq, tAsg]
    refine lc_txs (Same.tup s1 hut) (by omega) (fun R r => ⟨_, rfl, r⟩) (fun u => if (!decide (u ∈ (turn M).map (·.1))) = true then some (V.str u) else none) (fun u H2 R2 N hu' s2 hh => ?_) (fun sp H2 s2 nsp hsp => ?_)
    · have hg := DictAt.get (s2 _ _ hop) u
      refine ⟨rfl, _, rfl, _, rfl, op, _, rfl, hg, _, rfl, ?_⟩
      rw [sd_get]
      by_cases hm : u ∈ (turn M).map (·.1)
      · rw [decide_eq_true hm] at hh
        have := dget_isSome.mpr hm
        cases h : dget (turn M) u with
        | none => rw [h] at this; cases this
        | some y => exact iteF hh
      · rw [decide_eq_false hm] at hh
        rw [dget_none.mpr hm]
        exact iteT ⟨_, rfl, hh⟩
    · rw [fm_if] at hsp
      have hsp : H2 sp = some (.lst (txs (us.filter fun u => !decide (u ∈ (turn M).map (·.1))))) := hsp
      have s12 := s1.trans s2
      refine ⟨_, rfl, _, rfl, rd, ut, es, us, R, kvs, rfl, hR.same s12, s12 _ _ hd, Same.tup s12 hut, und, fun cp H3 s3 ncp hC => ?_⟩
      have s13 := s12.trans s3
      refine ⟨_, rfl, _, rfl, cp, gd, sp, us, es, us.filter fun u => !decide (u ∈ (turn M).map (·.1)), _, M, rfl, hC, s13 _ _ hM, SqL.of (s3 _ _ hsp), und.sublist List.filter_sublist, fun u hu' => (List.mem_filter.mp hu').1, hsh, fun hne u hu' e he => ?_, fun t nr fr X F H4 s4 n1 n2 ht hX hF hr4 => q t nr fr X F H4 (s13.trans s4) (Same.free s13 n1) (Same.free s13 n2) ht hX hF hr4⟩
      obtain ⟨he1, he2⟩ := List.mem_filter.mp he
      have own : ∀ e ∈ es, e ∈ M.map (·.1) → ∃ u' ∈ us, dget M e = some u' := fun e he hm => by
        obtain ⟨y, hy⟩ := Option.isSome_iff_exists.mp (dget_isSome.mpr hm)
        exact ⟨y, hR.sub e he y (A.row e y hy), hy⟩
      rcases A.all with a | ⟨e0, h1, h2, h3, h4⟩
      · exact own e he1 (a e he1)
      · exfalso
        refine hne (List.filter_eq_nil_iff.mpr fun v hv => ?_)
        obtain ⟨e', he', hv'⟩ := hcov v hv
        obtain ⟨w', _, hw⟩ := h4 e' he' v hv'
        have : v ∈ (turn M).map (·.1) := dget_isSome.mp (by rw [(turn_get A.nd A.inj v w').mpr hw]; rfl)
        rw [decide_eq_true this]
        exact Bool.false_ne_true
end
end Bo

/-! F6 -/
set_option Elab.async false
set_option linter.all false
set_option maxRecDepth 100000
set_option maxHeartbeats 1000000
namespace Bo
open PySem PySem.Spec PyProof.Rows L2
section
variable {P : Program} {w : World} {K : Fg} {mg : Str → Option Value} {base : Heap}
def spCover (K : Fg) : Sp := fun vs H Q _ => ∃ (rd gd : Addr) (es us : List Str) (R : Str → List Str) (kvs : List (Key × V)) (M : List (Str × Str)), vs = [.ref rd, .ref gd] ∧ Rows3 K H rd es us R ∧ H rd = some (.dK kvs) ∧ DictAt H gd (sd M) ∧ Asg es R M ∧ (∀ e ∈ es, Sh 0 (.str e)) ∧
  ∀ t H', Same H H' → Q (.ref t) H'
theorem ok_smallest_cover (T : TX w K mg) : Ok P w K mg base 3 d_smallest_cover ["rows", "assignment"] (spCover K) := by
  refine mkOk T ix_smallest_cover rfl rfl rfl sc_smallest_cover (fun _ _ _ _ _ _ us hl => match us, hl with | [_, _], _ => rfl) (fun vs H Q E h => ?_) (fun cdv A outer s0 H vs Q E hr h => ?_)
  · obtain ⟨rd, gd, es, us, R, kvs, M, rfl, _⟩ := h
    rfl
  · obtain ⟨rd, gd, es, us, R, kvs, M, rfl, hR, hd, hM, A, hsh, q⟩ := h
    have hu := hu_of hr
    obtain ⟨f1, G1, b1, k1⟩ := ok_spare_side (P := P) (base := base) T
    refine ⟨_, pss_cons (ps_asg (pe_call G1 hr (by rfl) T.g_spare_side k1 b1 .nil pass0 (pa_cons (pv 0) (pa_cons (pv 1) pa_nil))) (pg_tup rfl (pgs_cons (pgn (i := 2) sc_smallest_cover.nd) (pgs_cons (pgn (i := 3) sc_smallest_cover.nd) pgs_nil))))
      (pss_cons (ps_lock (ps_setLc (i := 4) (own := [("equation", 5)]) (g := gName 5) (by rfl) sc_smallest_cover.nd rfl rfl (by rfl) (pi_keys (pv 1)) (blkOk_by (N := N_smallest_cover) (sc := defScope s_smallest_cover) (by decide +kernel))
          (fun _ _ _ _ _ => pgn (i := 5) sc_smallest_cover.nd) (fun _ _ _ _ _ => pts_one (pt_cmp (pc_dnotin hu (pv 5) (pv 2)))) (fun _ _ _ _ _ => pe_tup (pa_cons pe_str (pa_cons (pv 5) pa_nil)))))
      (pss_one (ps_ret (pe_callTy call_tuple_of (by rfl) T.f_tuple PyProof.Rows.boot_tuple (pa_cons (pe_op op_cat (pv 4)
        (pe_lc (own := [("unknown", 6)]) (g := gName 6) (tt := tYes) (by rfl) sc_smallest_cover.nd (pi_list (pe_callB (call_sortedD rfl) (by rfl) T.f_sorted boot_sorted (pa_cons (pv 3) pa_nil))) (blkOk_by (N := N_smallest_cover) (sc := defScope s_smallest_cover) (by decide +kernel))
          (fun _ _ _ _ _ => pgn (i := 6) sc_smallest_cover.nd) (fun _ _ _ _ _ => pts_nil) (fun _ _ _ _ _ => pe_tup (pa_cons pe_str (pa_cons (pv 6) pa_nil))))) pa_nil))))), ?_⟩
    refine ⟨_, rfl, _, rfl, rd, gd, es, us, R, kvs, M, rfl, hR, hd, hM, A, hsh, fun t nr fr X F H1 s1 n1 n2 ht hX hF hr1 => ?_⟩
    refine ⟨t, _, rfl, SqT.of ht, rfl, _, _, rfl, _, _, rfl, rfl, ?_⟩
    have hMl := A.len hR.el
    have hFl : F.length ≤ 24 := Nat.le_trans (len_le_of_sub hr1.fnd hr1.fs) hR.ul
    have hM1 : DictAt H1 gd (sd M) := s1 _ _ hM
    refine ls_keysO hM1 (by rw [sd_len]; omega) (fun od R r => ⟨_, rfl, r⟩) (fun e => if (!decide (e ∈ X)) = true then some e else none) (fun e => .tup [.str "equation", .str e]) (fun od e H2 R2 N he s2 hh => ?_) (fun lp L1 H2 s2 nlp hL1 hlp hN => ?_)
    · have hg := DictR.get (DictR.same (DictR.lock (DictAt.r hX) hM1) s2) e
      refine ⟨rfl, _, rfl, _, rfl, nr, _, rfl, hg, _, rfl, ?_⟩
      rw [tr_get]
      by_cases hm : e ∈ X
      · rw [decide_eq_true hm] at hh ⊢
        exact iteF hh
      · rw [decide_eq_false hm] at hh ⊢
        exact iteT ⟨_, rfl, small (by show 2 ≤ 1000; decide), fun a na => hh a _ (same_new na) na upd_same⟩
    · have hl1 : (ads L1).length ≤ 24 := by
        unfold ads
        rw [List.length_map]
        have := congrArg List.length hL1
        rw [List.length_map] at this
        rw [this]
        refine Nat.le_trans (List.length_filterMap_le _ _) ?_
        rw [sd_keys, List.length_map]
        exact hMl
      have hF2 : DictR H2 fr (tr F) := DictR.same (DictAt.r hF) s2
      refine ⟨_, rfl, ?_⟩
      refine ⟨_, rfl, fr, tk (tr F), F, rfl, hF2, (by have := tk_keys (tr F); rw [tr_keys] at this; exact this), by omega, fun ys p perm srt np => ?_⟩
      refine ⟨p, rfl, ⟨_, SqL.of upd_same⟩, fun D nD => ?_⟩
      have s3 := same_new np (o := .lst (ys.map V.str))
      refine lc_objs (walk_list (xs := txs ys)) nD (fun v => match v with | .str k => some k | _ => none) (fun k => .tup [.str "unknown", .str k]) (by rw [txs_len, perm.length_eq]; omega) (fun H3 s => s.seq (SqL.of upd_same)) (fun x H3 R2 N hx s4 hh => ?_) (fun H3 L3 s4 hL3 hD hN3 => ?_)
      · obtain ⟨k, hk, rfl⟩ := List.mem_map.mp hx
        exact ⟨rfl, _, rfl, small (by show 2 ≤ 1000; decide), fun a na => hh a _ (same_new na) na upd_same⟩
      · have hl3 : (ads L3).length ≤ 24 := by
          unfold ads
          rw [List.length_map]
          have := congrArg List.length hL3
          rw [List.length_map] at this
          rw [this]
          refine Nat.le_trans (List.length_filterMap_le _ _) ?_
          rw [txs_len, perm.length_eq]
          exact hFl
        have s34 := s3.trans s4
        refine ⟨lp, D, _, _, rfl, rfl, s34 _ _ hlp, hD, small (by omega), fun cp ncp => ⟨cp, _, rfl, .inl ⟨SqL.of upd_same, fun tp ntp => ?_⟩⟩⟩
        exact q tp _ (Same.new (Same.new ((s1.trans s2).trans s34) ncp) ntp)
end
end Bo

/-! G1 -/
set_option Elab.async false
set_option linter.all false
set_option maxRecDepth 100000
set_option maxHeartbeats 1000000
namespace Bo
open PySem PySem.Spec PyProof.Rows L2
/-- the equations that are given an unknown in e, without e -/
def stepsF (R : Str → List Str) (O : List (Str × Str)) (Qs : List Str) (e : Str) : List Str := ((R e).filterMap fun u => dget O u).filter fun o => decide (o ∈ Qs) && !decide (o = e)
/-- a dict from texts to lists of texts -/
structure RowsL (H : Hp) (d : Addr) (L : List Row) : Prop where
  at_ : DictAt H d (refs L)
  row : ∀ q ∈ L, H q.2.1 = some (.lst (txs q.2.2))
section
variable {P : Program} {w : World} {K : Fg} {mg : Str → Option Value} {base : Heap}
def spSteps (K : Fg) : Sp := fun vs H Q _ => ∃ (rd qd od : Addr) (es us : List Str) (R : Str → List Str) (Qs : List Str) (O : List (Str × Str)), vs = [.ref rd, .ref qd, .ref od] ∧ Rows3 K H rd es us R ∧ DictAt H qd (tr Qs) ∧ Qs.Nodup ∧ (∀ e ∈ Qs, e ∈ es) ∧ DictAt H od (sd O) ∧
  ∀ p L H', Same H H' → H p = none → L.map (·.1) = Qs → RowsL H' p L → (∀ q ∈ L, H q.2.1 = none ∧ q.2.2 = stepsF R O Qs q.1) → Q (.ref p) H'
theorem ok_steps_of (T : TX w K mg) : Ok P w K mg base 1 d_steps_of ["rows", "equations", "owners"] (spSteps K) := by
  refine mkOk T ix_steps_of rfl rfl rfl sc_steps_of (fun _ _ _ _ _ _ us hl => match us, hl with | [_, _, _], _ => rfl) (fun vs H Q E h => ?_) (fun cdv A outer s0 H vs Q E hr h => ?_)
  · obtain ⟨rd, qd, od, es, us, R, Qs, O, rfl, _⟩ := h
    rfl
  · obtain ⟨rd, qd, od, es, us, R, Qs, O, rfl, hR, hq, qnd, qsub, hO, q⟩ := h
    have hu := hu_of hr
    refine ⟨_, pss_cons (pset (i := 3) sc_steps_of.nd pe_dnewK)
      (pss_cons (ps_lock (ps_for PassesOwn.never rfl (pi_keys (pv 1)) (pgn (i := 4) sc_steps_of.nd)
        (pss_cons (ps_setLc (i := 5) (own := [("unknown", 6)]) (g := gName 6) (by rfl) sc_steps_of.nd rfl rfl (by rfl) (pi_tup (pe_dget hu (pv 0) (pv 4) (fun _ _ => rfl))) (blkOk_by (N := N_steps_of) (sc := defScope s_steps_of) (by decide +kernel))
          (fun _ _ _ _ _ => pgn (i := 6) sc_steps_of.nd) (fun _ _ _ _ _ => pts_one (pt_cmp (pc_din hu (pv 6) (pv 2)))) (fun _ _ _ _ _ => pe_dget hu (pv 2) (pv 6) (fun _ _ => rfl)))
        (pss_one (ps_dput hu (pv 3) (pv 4) (pe_lc (own := [("other", 7)]) (g := gName 7) (by rfl) sc_steps_of.nd (pi_list (pv 5)) (blkOk_by (N := N_steps_of) (sc := defScope s_steps_of) (by decide +kernel))
          (fun _ _ _ _ _ => pgn (i := 7) sc_steps_of.nd) (fun _ _ _ _ _ => pts_one (PW.pt (pw_and (pt_cmp (pc_din hu (pv 7) (pv 1))) (pw_and1 (pt_cmpR op_ne (pv 7) (pv 4) rfl))))) (fun _ _ _ _ _ => pv 7)) rfl)))))
      (pss_one (ps_ret (pv 3)))), ?_⟩
    refine fun fd nfd => ?_
    have fq : fd ≠ qd := fun e => by rw [e, hq] at nfd; cases nfd
    refine ⟨qd, .dK (tk (tr Qs)), by rw [upd_ne (Ne.symm fq)]; exact hq, True.intro, fun od2 => ⟨_, rfl, qd, od2, rfl, .inl ⟨tk (tr Qs), upd_same, ?_⟩⟩⟩
    have hRB : Rows3 K (upd H qd (.frz od2 (.dK (tk (tr Qs))))) rd es us R := by
      obtain ⟨L, h1, h2, h3⟩ := hR.at_
      exact ⟨⟨L, DictR.lock h1 hq, h2, fun p hp => ⟨SqT.lock (h3 p hp).1 hq, (h3 p hp).2⟩⟩, hR.nd, hR.el, hR.ul, hR.sub, hR.rnd⟩
    have nB : upd H qd (.frz od2 (.dK (tk (tr Qs)))) fd = none := by rw [upd_ne fq]; exact nfd
    have sB : Same (upd H qd (.frz od2 (.dK (tk (tr Qs))))) (upd (upd H fd (.dK [])) qd (.frz od2 (.dK (tk (tr Qs))))) := fun b o e => by
      by_cases hb : b = qd
      · subst hb
        rw [upd_same] at e ⊢
        exact e
      · rw [upd_ne hb] at e ⊢
        rw [upd_ne (ne_of_none e nfd)]
        exact e
    have hOB : DictR (upd H qd (.frz od2 (.dK (tk (tr Qs))))) od (sd O) := DictR.lock (DictAt.r hO) hq
    have hQB : DictR (upd H qd (.frz od2 (.dK (tk (tr Qs))))) qd (tr Qs) := DictR.lock (DictAt.r hq) hq
    have hql : Qs.length ≤ 24 := Nat.le_trans (len_le_of_sub qnd qsub) hR.el
    have eQ : (tr Qs).map (·.1) = Qs := tr_keys Qs
    refine for_it walk_tk (fun i σ H2 => ∃ L z4 z5 z6 z7, σ = [some (.ref rd), some (.ref qd), some (.ref od), some (.ref fd), z4, z5, z6, z7] ∧ Same (upd H qd (.frz od2 (.dK (tk (tr Qs))))) H2 ∧ L.map (·.1) = Qs.take i ∧ H2 fd = some (.dK (tk (refs L))) ∧
        ∀ q ∈ L, H2 q.2.1 = some (.lst (txs q.2.2)) ∧ upd H qd (.frz od2 (.dK (tk (tr Qs)))) q.2.1 = none ∧ q.2.1 ≠ fd ∧ q.2.2 = stepsF R O Qs q.1)
      ⟨[], none, none, none, none, rfl, sB, by simp, by rw [upd_ne fq, upd_same]; rfl, fun _ h => (nomatch h)⟩ (fun i σ H2 _ hP => ?_) ?_ ?_
    · obtain ⟨_, _, _, _, _, _, s2, _⟩ := hP
      exact s2 _ _ upd_same
    · rintro i x σ H2 H3 hi ⟨L, z4, z5, z6, z7, rfl, s2, hLk, hfd, hLr⟩ ⟨rfl, hx⟩
      rw [eQ] at hx hi
      rw [txs_len] at hi
      obtain ⟨e, he, rfl⟩ := txs_at hx
      have heQ : e ∈ Qs := List.mem_of_getElem? he
      obtain ⟨a, ha1, ha2⟩ := hRB.get (qsub e heQ)
      have hRl := hRB.rl (qsub e heQ)
      dsimp only [gName, tSeq, tAsg]
      refine lc_txs (Same.tup s2 ha2) (by omega) (fun R r => ⟨_, rfl, _, rfl, rd, .ref a, rfl, DGet.same ha1 s2, r⟩) (fun u => (dget O u).map V.str) (fun u H4 R2 N hu' s4 hh => ?_) (fun lp H4 s4 nlp hlp => ?_)
      · have hg := DictR.get (DictR.same (DictR.same hOB s2) s4) u
        rw [sd_get] at hg
        refine ⟨rfl, _, rfl, _, rfl, od, _, rfl, hg, _, rfl, ?_⟩
        cases h : dget O u with
        | none =>
          rw [h] at hh
          exact iteF hh
        | some y =>
          rw [h] at hh hg
          exact iteT ⟨_, rfl, _, rfl, od, _, rfl, hg, hh⟩
      · have el : (R e).filterMap (fun u => (dget O u).map V.str) = txs ((R e).filterMap fun u => dget O u) := by
          unfold txs
          rw [List.map_filterMap]
        rw [el] at hlp
        have s24 := s2.trans s4
        have hll : ((R e).filterMap fun u => dget O u).length ≤ 24 := Nat.le_trans (List.length_filterMap_le _ _) hRl
        dsimp only [sDPut]
        refine lc_lst (SqL.of hlp) (by omega) (fun R r => ⟨_, rfl, r⟩) (fun o => if (decide (o ∈ Qs) && !decide (o = e)) = true then some (V.str o) else none) (fun o H5 R2 N ho s5 hh => ?_) (fun mp H5 s5 nmp hmp => ?_)
        · have hg := DictR.get (DictR.same (DictR.same hQB s24) s5) o
          refine ⟨rfl, _, rfl, _, rfl, qd, _, rfl, hg, _, rfl, ?_⟩
          rw [tr_get]
          by_cases hm : o ∈ Qs
          · rw [decide_eq_true hm] at hh ⊢
            refine iteT ⟨_, rfl, _, rfl, rfl, _, rfl, ?_⟩
            by_cases hoe : o = e
            · rw [hoe] at hh ⊢
              rw [decide_eq_true rfl] at hh
              exact ifNF rfl hh
            · rw [decide_eq_false hoe] at hh
              exact ifNT (fun z => hoe (V.str.inj z)) ⟨_, rfl, hh⟩
          · rw [decide_eq_false hm] at hh ⊢
            exact iteF hh
        · rw [fm_if] at hmp
          have hmp : H5 mp = some (.lst (txs (stepsF R O Qs e))) := hmp
          have s25 := s24.trans s5
          have hfd5 : DictAt H5 fd (refs L) := s5 _ _ (s4 _ _ hfd)
          have hLl : (refs L).length ≤ 1000 := by
            unfold refs
            rw [List.length_map]
            have := congrArg List.length hLk
            rw [List.length_map, List.length_take] at this
            omega
          have hnew : e ∉ (refs L).map (·.1) := by
            rw [refs_keys, hLk]
            exact not_take qnd he
          refine ⟨_, rfl, _, rfl, fd, _, rfl, DictAt.put hfd5 e (.ref mp) (small1000 hLl), ?_⟩
          rw [dput_new _ hnew]
          have mf : mp ≠ fd := fun z => by rw [z, (s4 _ _ hfd)] at nmp; cases nmp
          have e7 : refs L ++ [(e, V.ref mp)] = refs (L ++ [(e, mp, stepsF R O Qs e)]) := by
            unfold refs
            rw [List.map_append]
            rfl
          rw [e7]
          refine ⟨L ++ [(e, mp, stepsF R O Qs e)], _, _, _, _, rfl, Same.over s25 nB, ?_, upd_same, fun q' hq' => ?_⟩
          · rw [List.map_append, hLk, List.take_add_one, he]
            rfl
          · rcases List.mem_append.mp hq' with hq' | hq'
            · obtain ⟨r1, r2, r3, r4⟩ := hLr q' hq'
              exact ⟨by rw [upd_ne r3]; exact s5 _ _ (s4 _ _ r1), r2, r3, r4⟩
            · rw [List.mem_singleton.mp hq']
              exact ⟨by rw [upd_ne mf]; exact hmp, Same.free (s2.trans s4) nmp, mf, rfl⟩
    · rintro σ H2 ⟨L, z4, z5, z6, z7, rfl, s2, hLk, hfd, hLr⟩
      rw [eQ, txs_len, List.take_length] at hLk
      obtain ⟨h1, h2⟩ := lock_back hq s2
      refine ⟨h1, _, rfl, ?_⟩
      refine q fd L _ h2 nfd hLk ⟨?_, fun q' hq' => ?_⟩ fun q' hq' => ?_
      · show upd H2 qd _ fd = _
        rw [upd_ne fq]
        exact hfd
      · obtain ⟨r1, r2, r3, r4⟩ := hLr q' hq'
        have qn : q'.2.1 ≠ qd := fun z => by rw [z, upd_same] at r2; cases r2
        rw [upd_ne qn]
        exact r1
      · obtain ⟨r1, r2, r3, r4⟩ := hLr q' hq'
        have qn : q'.2.1 ≠ qd := fun z => by rw [z, upd_same] at r2; cases r2
        rw [upd_ne qn] at r2
        exact ⟨r2, r4⟩
end
end Bo

/-! G2 -/
set_option Elab.async false
set_option linter.all false
set_option maxRecDepth 100000
set_option maxHeartbeats 1000000
namespace Bo
open PySem PySem.Spec PyProof.Rows L2
/-- the least closed set of e -/
structure Cls (S : Str → List Str) (Qs : List Str) (e : Str) (C : List Str) : Prop where
  nd : C.Nodup
  sub : ∀ x ∈ C, x ∈ Qs
  self : e ∈ C
  cl : ∀ x ∈ C, ∀ y ∈ S x, y ∈ C
  min : ∀ Pp : Str → Prop, Pp e → (∀ x, Pp x → ∀ y ∈ S x, Pp y) → ∀ x ∈ C, Pp x
/-- on the way -/
structure Cst (S : Str → List Str) (Qs : List Str) (e : Str) (C W : List Str) : Prop where
  nd : C.Nodup
  sub : ∀ x ∈ C, x ∈ Qs
  self : e ∈ C
  ws : ∀ x ∈ W, x ∈ C
  wl : W.length ≤ C.length
  min : ∀ Pp : Str → Prop, Pp e → (∀ x, Pp x → ∀ y ∈ S x, Pp y) → ∀ x ∈ C, Pp x
theorem upd_twice {H : Hp} {a : Addr} {o o' : HO} : upd (upd H a o) a o' = upd H a o' := by
  funext b
  by_cases h : b = a
  · rw [h, upd_same, upd_same]
  · rw [upd_ne h, upd_ne h, upd_ne h]
section
variable {P : Program} {w : World} {K : Fg} {mg : Str → Option Value} {base : Heap}
def spClosed (K : Fg) : Sp := fun vs H Q _ => ∃ (sa : Addr) (L : List Row) (Qs : List Str) (S : Str → List Str), vs = [.ref sa] ∧ RowsL H sa L ∧ L.map (·.1) = Qs ∧ Qs.Nodup ∧ Qs.length ≤ 24 ∧ (∀ q ∈ L, q.2.2 = S q.1) ∧ (∀ x ∈ Qs, ∀ y ∈ S x, y ∈ Qs) ∧ (∀ x ∈ Qs, Sh 0 (.str x)) ∧
  ∀ p L2 H', Same H H' → H p = none → L2.map (·.1) = Qs → DictAt H' p (refs L2) → (∀ q ∈ L2, DictAt H' q.2.1 (tr q.2.2) ∧ H q.2.1 = none ∧ Cls S Qs q.1 q.2.2) → Q (.ref p) H'
theorem ok_closed_sets (T : TX w K mg) : Ok P w K mg base 1 d_closed_sets ["steps"] (spClosed K) := by
  refine mkOk T ix_closed_sets rfl rfl rfl sc_closed_sets (fun _ _ _ _ _ _ us hl => match us, hl with | [_], _ => rfl) (fun vs H Q E h => ?_) (fun cdv A outer s0 H vs Q E hr h => ?_)
  · obtain ⟨sa, L, Qs, S, rfl, _⟩ := h
    rfl
  · obtain ⟨sa, L, Qs, S, rfl, hL, eL, qnd, qlen, hS, hSQ, hsh, q⟩ := h
    have hu := hu_of hr
    refine ⟨_, pss_cons (pset (i := 1) sc_closed_sets.nd pe_dnewK)
      (pss_cons (ps_lock (ps_for PassesOwn.never rfl (pi_keys (pv 0)) (pgn (i := 2) sc_closed_sets.nd)
        (pss_cons (pset (i := 3) sc_closed_sets.nd (pe_disp (pps_cons (pv 2) pe_bl pps_nil) (by rfl) (by rfl) (fun z => by cases z) (by decide)))
        (pss_cons (pset (i := 4) sc_closed_sets.nd (pe_lst (pa_cons (pv 2) pa_nil)))
        (pss_cons (ps_while PassesOwn.never (pt_cmpR (op_neD hr.units) (pv 4) (pe_lst pa_nil) rfl)
          (pss_one (ps_for PassesOwn.never rfl (pi_list (pe_dget hu (pv 0) (pe_bm0 PySem.F.plainAttrs_list PySem.F.slot_list_pop PySem.F.type_list_pop mt_pop (pv 4)) (fun _ _ => rfl))) (pgn (i := 5) sc_closed_sets.nd)
            (pss_one (ps_if (pt_cmp (pc_dnotin hu (pv 5) (pv 3)))
              (pss_cons (ps_dput hu (pv 3) (pv 5) pe_bl rfl)
              (pss_one (ps_expr (pe_bm PySem.F.plainAttrs_list PySem.F.slot_list_append PySem.F.type_list_append mt_append (pv 4) (pa_cons (pv 5) pa_nil))))) pss_nil)))))
        (pss_one (ps_dput hu (pv 1) (pv 2) (pv 3) rfl)))))))
      (pss_one (ps_ret (pv 1)))), ?_⟩
    refine fun fd nfd => ?_
    have hsa := hL.at_
    have fq : fd ≠ sa := fun e => by rw [e, hsa] at nfd; cases nfd
    refine ⟨sa, .dK (tk (refs L)), by rw [upd_ne (Ne.symm fq)]; exact hsa, True.intro, fun od2 => ⟨_, rfl, sa, od2, rfl, .inl ⟨tk (refs L), upd_same, ?_⟩⟩⟩
    have nB : upd H sa (.frz od2 (.dK (tk (refs L)))) fd = none := by rw [upd_ne fq]; exact nfd
    have sB : Same (upd H sa (.frz od2 (.dK (tk (refs L))))) (upd (upd H fd (.dK [])) sa (.frz od2 (.dK (tk (refs L))))) := fun b o e => by
      by_cases hb : b = sa
      · subst hb
        rw [upd_same] at e ⊢
        exact e
      · rw [upd_ne hb] at e ⊢
        rw [upd_ne (ne_of_none e nfd)]
        exact e
    have eQ : (refs L).map (·.1) = Qs := by rw [refs_keys]; exact eL
    have hSB : DictR (upd H sa (.frz od2 (.dK (tk (refs L))))) sa (refs L) := DictR.lock (DictAt.r hsa) hsa
    refine for_it walk_tk (fun i σ H2 => ∃ L2 z2 z3 z4 z5, σ = [some (.ref sa), some (.ref fd), z2, z3, z4, z5] ∧ Same (upd H sa (.frz od2 (.dK (tk (refs L))))) H2 ∧ L2.map (·.1) = Qs.take i ∧ H2 fd = some (.dK (tk (refs L2))) ∧
        ∀ q ∈ L2, DictAt H2 q.2.1 (tr q.2.2) ∧ upd H sa (.frz od2 (.dK (tk (refs L)))) q.2.1 = none ∧ q.2.1 ≠ fd ∧ Cls S Qs q.1 q.2.2)
      ⟨[], none, none, none, none, rfl, sB, by simp, by rw [upd_ne fq, upd_same]; rfl, fun _ h => (nomatch h)⟩ (fun i σ H2 _ hP => ?_) ?_ ?_
    · obtain ⟨_, _, _, _, _, _, s2, _⟩ := hP
      exact s2 _ _ upd_same
    · rintro i x σ H2 H3 hi ⟨L2, z2, z3, z4, z5, rfl, s2, hLk, hfd, hLr⟩ ⟨rfl, hx⟩
      rw [eQ] at hx hi
      rw [txs_len] at hi
      obtain ⟨e, he, rfl⟩ := txs_at hx
      have heQ : e ∈ Qs := List.mem_of_getElem? he
      refine fun kn nkn => ?_
      refine ⟨_, rfl, upd_same, [(Sum.inr e, .bl true)], rfl, by show 1 ≤ 15; decide, ?_⟩
      have ek : upd (upd H3 kn (.dK [])) kn (.dK (mergeK [] [(Sum.inr e, .bl true)])) = upd H3 kn (.dK (tk (tr [e]))) := upd_twice
      rw [ek]
      refine ⟨_, rfl, small (by show 1 ≤ 1000; decide), fun wt nwt => ?_⟩
      have wk : wt ≠ kn := fun z => by rw [z, upd_same] at nwt; cases nwt
      have nkB : upd H sa (.frz od2 (.dK (tk (refs L)))) kn = none := Same.free s2 nkn
      have s3 := Same.new s2 nkn (o := .dK (tk (tr [e])))
      have nwB : upd H sa (.frz od2 (.dK (tk (refs L)))) wt = none := Same.free s3 nwt
      have s4 := Same.over s3 nwB (o := .lst (txs [e]))
      have kf : kn ≠ fd := fun z => by rw [z, hfd] at nkn; cases nkn
      have wf : wt ≠ fd := fun z => by rw [z, upd_ne (Ne.symm kf), hfd] at nwt; cases nwt
      have nw3 : H3 wt = none := by rwa [upd_ne wk] at nwt
      have b4 : But [kn, wt] H3 (upd (upd H3 kn (.dK (tk (tr [e])))) wt (.lst (txs [e]))) := ((But.refl _ _).put (by simp)).put (by simp)
      have xl : ∀ {C W : List Str}, Cst S Qs e C W → C.length ≤ 24 := fun X => Nat.le_trans (len_le_of_sub X.nd X.sub) qlen
      refine ⟨fun m σ H5 => ∃ C W z5, m = (24 - C.length) + W.length ∧ σ = [some (.ref sa), some (.ref fd), some (.str e), some (.ref kn), some (.ref wt), z5] ∧ But [kn, wt] H3 H5 ∧ Same (upd H sa (.frz od2 (.dK (tk (refs L))))) H5 ∧ H5 kn = some (.dK (tk (tr C))) ∧ H5 wt = some (.lst (txs W)) ∧ Cst S Qs e C W ∧ (∀ x ∈ C, x ∈ W ∨ ∀ y ∈ S x, y ∈ C),
        ⟨_, [e], [e], _, rfl, rfl, b4, s4, by rw [upd_ne (Ne.symm wk), upd_same], upd_same, ⟨by simp, fun x hx => by rw [List.mem_singleton.mp hx]; exact heQ, by simp, fun x hx => hx, Nat.le_refl _, fun Pp hp _ x hx => by rw [List.mem_singleton.mp hx]; exact hp⟩, fun x hx => .inl hx⟩, ?_⟩
      rintro m σ H5 ⟨C, W, z5, rfl, rfl, b5, s5, hC, hW, X, hcl⟩
      refine ⟨_, rfl, small (by show 0 ≤ 1000; decide), fun el nel => ?_⟩
      have s6 := Same.new s5 nel (o := .lst [])
      have k6 := same_new nel (o := .lst [])
      have b6 := But.new b5 nel (o := .lst [])
      have hWn : ∀ x ∈ W, x ∈ Qs := fun x hx => X.sub x (X.ws x hx)
      refine ⟨.list (strD W), .list [], .lst (SqL.of (k6 _ _ hW)) (dp_txs W), .lst (SqL.of upd_same) .nil, (Sh.list (sh_strs fun x hx => hsh x (hWn x hx))).shaped, (Sh.list (n := 0) (l := []) (fun _ h => (nomatch h))).shaped, _, rfl, ?_⟩
      cases W with
      | nil =>
        show if false = true then _ else _
        refine iteF ?_
        have hfd6 : DictAt (upd H5 el (.lst [])) fd (refs L2) := b6 _ _ hfd (by simp [Ne.symm kf, Ne.symm wf])
        have hLl : (refs L2).length ≤ 1000 := by
          unfold refs
          rw [List.length_map]
          have := congrArg List.length hLk
          rw [List.length_map, List.length_take] at this
          omega
        have hnew : e ∉ (refs L2).map (·.1) := by
          rw [refs_keys, hLk]
          exact not_take qnd he
        refine ⟨_, rfl, _, rfl, _, rfl, fd, _, rfl, DictAt.put hfd6 e (.ref kn) (small1000 hLl), ?_⟩
        rw [dput_new _ hnew]
        have e7 : refs L2 ++ [(e, V.ref kn)] = refs (L2 ++ [(e, kn, C)]) := by
          unfold refs
          rw [List.map_append]
          rfl
        rw [e7]
        refine ⟨L2 ++ [(e, kn, C)], _, _, _, _, rfl, Same.over s6 nB, ?_, upd_same, fun q' hq' => ?_⟩
        · rw [List.map_append, hLk, List.take_add_one, he]
          rfl
        · rcases List.mem_append.mp hq' with hq' | hq'
          · obtain ⟨r1, r2, r3, r4⟩ := hLr q' hq'
            have qk : q'.2.1 ≠ kn := fun z => by unfold DictAt at r1; rw [z, nkn] at r1; cases r1
            have qw : q'.2.1 ≠ wt := fun z => by unfold DictAt at r1; rw [z, nw3] at r1; cases r1
            refine ⟨?_, r2, r3, r4⟩
            show upd _ fd _ q'.2.1 = _
            rw [upd_ne r3]
            exact b6 _ _ r1 (by simp [qk, qw])
          · rw [List.mem_singleton.mp hq']
            refine ⟨?_, nkB, kf, X.nd, X.sub, X.self, fun x hx => ?_, X.min⟩
            · show upd _ fd _ kn = _
              rw [upd_ne kf]
              exact k6 _ _ hC
            · rcases hcl x hx with h | h
              · cases h
              · exact h
      | cons w0 W0 =>
        show if true = true then _ else _
        refine iteT ⟨fun σ' H' => ∃ m', m' < (24 - C.length) + (w0 :: W0).length ∧ _, fun _ _ h => h, ?_⟩
        generalize hWW : w0 :: W0 = W at *
        have hWpos : 0 < W.length := by rw [← hWW]; exact Nat.succ_pos _
        obtain ⟨n, hn⟩ : ∃ n, W[W.length - 1]? = some n := ⟨W[W.length - 1], List.getElem?_eq_getElem (by omega)⟩
        have lm := last_mem hn
        have hnW : n ∈ W := List.mem_of_getElem? hn
        have hnC : n ∈ C := X.ws n hnW
        have hnQ : n ∈ Qs := X.sub n hnC
        obtain ⟨r, hr1, hr2⟩ : ∃ r ∈ L, r.1 = n := by
          rw [← eL] at hnQ
          obtain ⟨r, h1, h2⟩ := List.mem_map.mp hnQ
          exact ⟨r, h1, h2⟩
        have hrL : SqL K (upd H sa (.frz od2 (.dK (tk (refs L))))) r.2.1 (txs (S n)) := by
          have := SqL.lock (K := K) (od := od2) (SqL.of (hL.row r hr1)) hsa
          rw [hS r hr1, hr2] at this
          exact this
        have hrG : dget (refs L) n = some (.ref r.2.1) := by
          rw [← hr2]
          exact refs_get (by rw [eL]; exact qnd) hr1
        have hWd : (txs W).dropLast = txs W.dropLast := by unfold txs; rw [List.map_dropLast]
        have s7 := Same.over s6 nwB (o := .lst (txs W.dropLast))
        have b7 := b6.put (p := wt) (o := .lst (txs W.dropLast)) (by simp)
        refine ⟨_, rfl, _, rfl, .inl ⟨rfl, _, SqL.of (k6 _ _ hW)⟩, wt, txs W, .str n, rfl, rfl, k6 _ _ hW, by rw [txs_len]; exact txs_get hn, sa, .ref r.2.1, rfl, ?_, r.2.1, rfl, ⟨txs (S n), by rw [hWd]; exact s7.seq hrL⟩, ?_⟩
        · rw [hWd]
          exact hrG ▸ DictR.get (DictR.same hSB s7) n
        · rw [hWd]
          refine for_it (walk_list (xs := txs (S n))) (fun i σ H8 => ∃ C' W' z5, σ = [some (.ref sa), some (.ref fd), some (.str e), some (.ref kn), some (.ref wt), z5] ∧ But [kn, wt] H3 H8 ∧ Same (upd H sa (.frz od2 (.dK (tk (refs L))))) H8 ∧ H8 kn = some (.dK (tk (tr C'))) ∧ H8 wt = some (.lst (txs W')) ∧ Cst S Qs e C' W' ∧ (∀ x ∈ C', x ∈ W' ∨ x = n ∨ ∀ y ∈ S x, y ∈ C') ∧ (∀ y ∈ (S n).take i, y ∈ C') ∧ (24 - C'.length) + W'.length < (24 - C.length) + W.length ∧ n ∈ C')
            ⟨C, W.dropLast, _, rfl, b7, s7, by rw [upd_ne (Ne.symm wk)]; exact k6 _ _ hC, upd_same, ⟨X.nd, X.sub, X.self, fun x hx => X.ws x ((lm x).mpr (.inl hx)), by rw [List.length_dropLast]; have := X.wl; omega, X.min⟩, fun x hx => ?_, fun f hf => by simp at hf, by rw [List.length_dropLast]; omega, hnC⟩ (fun i σ H8 _ hP => ?_) ?_ ?_
          · rcases hcl x hx with h | h
            · rcases (lm x).mp h with h | h
              · exact .inl h
              · exact .inr (.inl h)
            · exact .inr (.inr h)
          · obtain ⟨_, _, _, _, _, s8, _⟩ := hP
            exact s8.seq hrL
          · rintro i x σ H8 H9 hi ⟨C', W', z5, rfl, b8, s8, hC8, hW8, X8, hcl8, hnow, hm, hnC'⟩ ⟨rfl, hx⟩
            obtain ⟨f, hf', rfl⟩ := txs_at hx
            have hfS : f ∈ S n := List.mem_of_getElem? hf'
            have tk1 : (S n).take (i + 1) = (S n).take i ++ [f] := by
              rw [List.take_add_one, hf']
              rfl
            have hxl := xl X8
            refine ⟨_, rfl, _, rfl, kn, _, rfl, DictAt.get hC8 f, _, rfl, ?_⟩
            rw [tr_get]
            by_cases hf : f ∈ C'
            · rw [decide_eq_true hf]
              refine iteF ⟨C', W', _, rfl, b8, s8, hC8, hW8, X8, hcl8, fun g hg => ?_, hm, hnC'⟩
              rw [tk1] at hg
              rcases List.mem_append.mp hg with hg | hg
              · exact hnow g hg
              · rw [List.mem_singleton.mp hg]
                exact hf
            · rw [decide_eq_false hf]
              refine iteT ⟨_, rfl, _, rfl, kn, _, rfl, DictAt.put hC8 f (.bl true) (small1000 (by rw [tr_len]; omega)), ?_⟩
              rw [tr_put hf]
              have s9 := Same.over s8 nkB (o := .dK (tk (tr (C' ++ [f]))))
              have b9 := b8.put (p := kn) (o := .dK (tk (tr (C' ++ [f])))) (by simp)
              have hW9 : upd H9 kn (.dK (tk (tr (C' ++ [f])))) wt = some (.lst (txs W')) := by rw [upd_ne wk]; exact hW8
              have hwl := X8.wl
              refine ⟨_, rfl, .inl ⟨rfl, _, SqL.of hW9⟩, _, rfl, wt, txs W', _, rfl, rfl, hW9, small1000 (by rw [txs_len]; omega), ?_⟩
              have e5 : txs W' ++ [V.str f] = txs (W' ++ [f]) := txs_app W' [f]
              rw [e5]
              have nd' : (C' ++ [f]).Nodup := nodup_snoc X8.nd hf
              have sub' : ∀ x ∈ C' ++ [f], x ∈ Qs := fun x hx => by
                rcases List.mem_append.mp hx with hx | hx
                · exact X8.sub x hx
                · rw [List.mem_singleton.mp hx]
                  exact hSQ n hnQ f hfS
              have hx2 := Nat.le_trans (len_le_of_sub nd' sub') qlen
              rw [List.length_append] at hx2
              have hx2 : C'.length + 1 ≤ 24 := hx2
              refine ⟨C' ++ [f], W' ++ [f], _, rfl, b9.put (by simp), Same.over s9 nwB, by rw [upd_ne (Ne.symm wk), upd_same], upd_same, ⟨nd', sub', List.mem_append.mpr (.inl X8.self), fun x hx => ?_, by rw [List.length_append, List.length_append]; show W'.length + 1 ≤ C'.length + 1; omega, fun Pp hp hc x hx => ?_⟩, fun x hx => ?_, fun y hy => ?_, ?_, List.mem_append.mpr (.inl hnC')⟩
              · rcases List.mem_append.mp hx with hx | hx
                · exact List.mem_append.mpr (.inl (X8.ws x hx))
                · exact List.mem_append.mpr (.inr hx)
              · rcases List.mem_append.mp hx with hx | hx
                · exact X8.min Pp hp hc x hx
                · rw [List.mem_singleton.mp hx]
                  exact hc n (X8.min Pp hp hc n hnC') f hfS
              · rcases List.mem_append.mp hx with hx | hx
                · rcases hcl8 x hx with h | h | h
                  · exact .inl (List.mem_append.mpr (.inl h))
                  · exact .inr (.inl h)
                  · exact .inr (.inr fun g hg => List.mem_append.mpr (.inl (h g hg)))
                · exact .inl (List.mem_append.mpr (.inr hx))
              · rw [tk1] at hy
                rcases List.mem_append.mp hy with hy | hy
                · exact List.mem_append.mpr (.inl (hnow y hy))
                · exact List.mem_append.mpr (.inr hy)
              · rw [List.length_append, List.length_append]
                show 24 - (C'.length + 1) + (W'.length + 1) < _
                omega
          · rintro σ H8 ⟨C', W', z5, rfl, b8, s8, hC8, hW8, X8, hcl8, hnow, hm, hnC'⟩
            rw [txs_len, List.take_length] at hnow
            refine ⟨_, hm, C', W', _, rfl, rfl, b8, s8, hC8, hW8, X8, fun x hx => ?_⟩
            rcases hcl8 x hx with h | h | h
            · exact .inl h
            · rw [h]
              exact .inr hnow
            · exact .inr h
    · rintro σ H2 ⟨L2, z2, z3, z4, z5, rfl, s2, hLk, hfd, hLr⟩
      rw [eQ, txs_len, List.take_length] at hLk
      obtain ⟨h1, h2⟩ := lock_back hsa s2
      refine ⟨h1, _, rfl, ?_⟩
      refine q fd L2 _ h2 nfd hLk ?_ fun q' hq' => ?_
      · show upd H2 sa _ fd = _
        rw [upd_ne fq]
        exact hfd
      · obtain ⟨r1, r2, r3, r4⟩ := hLr q' hq'
        have qn : q'.2.1 ≠ sa := fun z => by rw [z, upd_same] at r2; cases r2
        rw [upd_ne qn] at r2
        refine ⟨?_, r2, r4⟩
        show upd H2 sa _ q'.2.1 = _
        rw [upd_ne qn]
        exact r1
end
end Bo

/-! S5 -/
set_option Elab.async false
set_option linter.all false
set_option maxRecDepth 100000
set_option maxHeartbeats 1000000
/-! min(xs), xs a list of texts. -/
namespace Bo
open PySem PySem.Spec PyProof.Rows L2
/-- by code points -/
def strLt (x y : Str) : Bool := decide (x.cps.toList < y.cps.toList)
theorem strLt_self (x : Str) : strLt x x = false := decide_eq_false (List.lt_irrefl _)
theorem strLt_eq {x y : Str} (h1 : strLt x y = false) (h2 : strLt y x = false) : x = y := by
  have a := of_decide_eq_false h1
  have b := of_decide_eq_false h2
  have e : x.cps.toList = y.cps.toList := List.le_antisymm (List.not_lt.mp b) (List.not_lt.mp a)
  exact PySem.W.str_of_cps e
theorem strLt_trans {x y z : Str} (h1 : strLt x y = false) (h2 : strLt y z = false) : strLt x z = false := by
  have a := List.not_lt.mp (of_decide_eq_false h1)
  have b := List.not_lt.mp (of_decide_eq_false h2)
  exact decide_eq_false (List.not_lt.mpr (List.le_trans b a))
theorem strLt_asymm {x y : Str} (h : strLt x y = true) : strLt y x = false := by
  have a := of_decide_eq_true h
  exact decide_eq_false fun b => List.lt_irrefl _ (List.lt_trans a b)
def minS (x : Str) (l : List Str) : Str := l.foldl (fun a y => if strLt y a = true then y else a) x
theorem minD_strs : ∀ (l : List Str) (x : Str), PySem.W.minD (.str x) (strD l) = .str (minS x l)
  | [], _ => rfl
  | y :: l, x => by
    have ih := minD_strs l (if strLt y x = true then y else x)
    show (strD l).foldl _ (if PySem.W.dataLt (.str y) (.str x) then PyData.str y else PyData.str x) = PyData.str (minS _ l)
    have e : (if PySem.W.dataLt (.str y) (.str x) then PyData.str y else PyData.str x) = PyData.str (if strLt y x = true then y else x) := by
      rw [PySem.W.dataLt_str]
      show (if strLt y x = true then _ else _) = _
      by_cases h : strLt y x = true
      · rw [if_pos h, if_pos h]
      · rw [if_neg h, if_neg h]
    rw [e]
    exact ih
theorem minS_spec : ∀ (l : List Str) (x : Str), minS x l ∈ x :: l ∧ ∀ y ∈ x :: l, strLt y (minS x l) = false
  | [], x => ⟨List.mem_cons_self, fun y hy => by rw [List.mem_singleton.mp hy]; exact strLt_self x⟩
  | z :: l, x => by
    have ih := minS_spec l (if strLt z x = true then z else x)
    have e : minS x (z :: l) = minS (if strLt z x = true then z else x) l := rfl
    rw [e]
    by_cases h : strLt z x = true
    · rw [if_pos h] at ih ⊢
      refine ⟨List.mem_cons_of_mem _ ih.1, fun y hy => ?_⟩
      rcases List.mem_cons.mp hy with rfl | hy
      · exact strLt_trans (strLt_asymm h) (ih.2 z List.mem_cons_self)
      · exact ih.2 y hy
    · rw [if_neg h] at ih ⊢
      refine ⟨?_, fun y hy => ?_⟩
      · rcases List.mem_cons.mp ih.1 with h1 | h1
        · rw [h1]
          exact List.mem_cons_self
        · exact List.mem_cons_of_mem _ (List.mem_cons_of_mem _ h1)
      · rcases List.mem_cons.mp hy with rfl | hy
        · exact ih.2 _ List.mem_cons_self
        · rcases List.mem_cons.mp hy with rfl | hy
          · have : strLt y x = false := by
              cases q : strLt y x with
              | false => rfl
              | true => exact absurd q h
            exact strLt_trans this (ih.2 x List.mem_cons_self)
          · exact ih.2 y (List.mem_cons_of_mem _ hy)
theorem call_minS {X : Cx} (hc : X.calm = true) (hu : X.A.units + 64 < cLine) : CallR X (.builtin "min") (fun xs H Q => ∃ (a : Addr) (x : Str) (l : List Str), xs = [.ref a] ∧ SqL X.K H a (txs (x :: l)) ∧ Q (.str (minS x l)) H) := by
  intro pins s σ H xs us Q I r q
  obtain ⟨a, x, l, ex, hs, q⟩ := q
  subst ex
  obtain ⟨u, eu, rx⟩ := vals1 r
  subst eu
  cases rx
  obtain ⟨its, rv, hl, _⟩ := I.list hs
  obtain ⟨as, hr⟩ := Dp.readsAll I (strD (x :: l)) (txs (x :: l)) its (dp_txs _) rv
  have hd : PyData.depthAll (strD (x :: l)) = 0 := by
    have : ∀ z : List Str, PyData.depthAll (strD z) = 0 := by
      intro z
      induction z with
      | nil => simp only [strD, List.map_nil, PyData.depthAll]
      | cons y z ih =>
        show PyData.depthAll (.str y :: strD z) = 0
        simp only [PyData.depthAll, PyData.depth, ih]
        rfl
    exact this _
  have hal : PySem.W.AlikeAll (strD (x :: l)) := ⟨fun a ha b hb => by
    obtain ⟨_, _, rfl⟩ := List.mem_map.mp ha
    obtain ⟨_, _, rfl⟩ := List.mem_map.mp hb
    rfl, fun a ha => by
    obtain ⟨_, _, rfl⟩ := List.mem_map.mp ha
    exact fun z => nomatch z⟩
  refine PySem.W.min_list_data (x := .str x) (xs := strD l) (I.ok.hd hc) hl.isList (by rw [List.toList_toArray]; exact hr) hal (by show X.A.units + 1 + PyData.depthAll (strD (x :: l)) < _; rw [hd]; omega) fun i v h' tk bs hv hR hk => ?_
  rw [minD_strs] at hR
  cases hR with
  | str _ t => exact ⟨.str (minS x l), H, I.kept (t' := tk) hk, ⟨t, rfl⟩, q⟩
end Bo

/-! S6 -/
set_option Elab.async false
set_option linter.all false
set_option maxRecDepth 100000
set_option maxHeartbeats 1000000
/-! xs.remove(x), items any data. -/
namespace Bo
open PySem PySem.Spec PyProof.Rows L2
def rRemD (K : Fg) : V → List V → Hp → VK → Prop := fun x xs H Q => ∃ (l : Addr) (y : V) (vs : List V) (d : PyData) (ds : List PyData) (j : Nat) (z : PyData), x = V.ref l ∧ xs = [y] ∧ H l = some (.lst vs) ∧ DpAll K H vs ds ∧ Dp K H y d ∧
  SeqAt.shaped (.list ds) = true ∧ SeqAt.shaped d = true ∧ ds[j]? = some z ∧ PyData.eqv z d = true ∧ (∀ (m : Nat) (z' : PyData), m < j → ds[m]? = some z' → PyData.eqv z' d = false) ∧ Q .non (upd H l (.lst (vs.eraseIdx j)))
theorem mt_removeD {X : Cx} (hu : X.A.units + 65 < cLine) : MtR X "list.remove" (rRemD X.K) := by
  intro pins s σ H x xs v us Q I rx rxs h
  obtain ⟨l, y, vs, d, ds, j, z, rfl, rfl, hH, hl, hy, sl, sd, hz, hzj, hno, q⟩ := h
  cases rx
  obtain ⟨uy, rfl, ry⟩ := rxs.one
  obtain ⟨zl, its, n, rv, hll, ho⟩ := I.lstM hH
  obtain ⟨bs, r1⟩ := Dp.reads I d y uy hy ry
  have hxs : PyData.canLayAll0 ds = true := SeqAt.canLay_of_shaped sl
  have hroom : X.A.units + 1 + min (PyData.depthAll ds) d.depth < cLine := room_in_shaped sd hu
  obtain ⟨as, h4⟩ := Dp.readsAll I ds vs its hl rv
  have hn : its.length = ds.length := SeqAt.ReadsAll.length ds its as h4
  have hmap : its.map (SeqAt.readOf s.heap) = ds := SeqAt.readsAll_map ds its as hxs h4
  obtain ⟨hjd, _⟩ := List.getElem?_eq_some_iff.mp hz
  have hjl : j < its.length := by omega
  have hj : j < its.toArray.size := by simpa using hjl
  have at_ : ∀ (m : Nat) (hm : m < its.toArray.size) (z' : PyData), ds[m]? = some z' → SeqAt.readOf s.heap its.toArray[m] = z' := by
    intro m hm z' hz'
    have hml : m < its.length := by simpa using hm
    rw [← hmap, List.getElem?_map, List.getElem?_eq_getElem hml] at hz'
    have e1 : SeqAt.readOf s.heap its[m] = z' := Option.some.inj (show some (SeqAt.readOf s.heap its[m]) = some z' from hz')
    simpa using e1
  refine call_meets PySem.F.slot_list_remove ⟨_, ho, rfl⟩ PySem.F.entry_list_remove (PySem.F.args_list_remove_2 _ _)
    (SeqAt.list_removeAt l its.toArray n none #[] uy (fun u => PyData.eqv (SeqAt.readOf s.heap u) d) j hj ?_ ?_ (by rw [List.size_toArray]; omega)) ⟨ho, SeqAt.items_eqAt (vs := its.toArray) (show ReadsAll s.heap its.toArray.toList ds as from h4) r1 hxs (SeqAt.canLay_of_shaped sd) hroom, ?_⟩
  · show PyData.eqv (SeqAt.readOf s.heap its.toArray[j]) d = true
    rw [at_ j hj z hz]
    exact hzj
  · intro m hm hmj
    have hmd : m < ds.length := by omega
    have hz' : ds[m]? = some ds[m] := List.getElem?_eq_getElem hmd
    show PyData.eqv (SeqAt.readOf s.heap its.toArray[m]) d = false
    rw [at_ m hm _ hz']
    exact hno m _ hmj hz'
  · have rr := rv.eraseIdx j
    refine ⟨.non, _, I.lset (its' := its.eraseIdx j) (t' := s.toks) hH ho ?_ rr ?_, rfl, q⟩
    · show its.toArray.eraseIdxIfInBounds j = (its.eraseIdx j).toArray
      rw [List.eraseIdxIfInBounds_toArray]
    · have z2 := List.length_eraseIdx_le vs j
      omega
end Bo

/-! G3 -/
set_option Elab.async false
set_option linter.all false
set_option maxRecDepth 100000
set_option maxHeartbeats 1000000
namespace Bo
open PySem PySem.Spec PyProof.Rows L2
/-- those that reach e and are reached from it -/
def clsF (C : Str → List Str) (e : Str) : List Str := (C e).filter fun o => decide (e ∈ C o)
def isMin (C : Str → List Str) (e : Str) : Bool := (clsF C e).all fun o => !strLt o e
def rads (L : List Row) : List V := L.map fun q => V.ref q.2.1
/-- closed sets as they stand -/
structure ClosedAt (H : Hp) (cd : Addr) (Qs : List Str) (C : Str → List Str) : Prop where
  at_ : ∃ L : List Row, DictAt H cd (refs L) ∧ L.map (·.1) = Qs ∧ ∀ q ∈ L, DictAt H q.2.1 (tr q.2.2) ∧ q.2.2 = C q.1
  nd : Qs.Nodup
  len : Qs.length ≤ 24
  self : ∀ e ∈ Qs, e ∈ C e
  sub : ∀ e ∈ Qs, ∀ x ∈ C e, x ∈ Qs
  cnd : ∀ e ∈ Qs, (C e).Nodup
theorem ClosedAt.same {H H' : Hp} {cd : Addr} {Qs : List Str} {C : Str → List Str} (h : ClosedAt H cd Qs C) (s : Same H H') : ClosedAt H' cd Qs C := by
  obtain ⟨L, h1, h2, h3⟩ := h.at_
  exact ⟨⟨L, s _ _ h1, h2, fun q hq => ⟨s _ _ (h3 q hq).1, (h3 q hq).2⟩⟩, h.nd, h.len, h.self, h.sub, h.cnd⟩
theorem ClosedAt.get {H : Hp} {cd : Addr} {Qs : List Str} {C : Str → List Str} (h : ClosedAt H cd Qs C) {e : Str} (he : e ∈ Qs) : ∃ L a, DictAt H cd (refs L) ∧ dget (refs L) e = some (.ref a) ∧ DictAt H a (tr (C e)) := by
  obtain ⟨L, h1, h2, h3⟩ := h.at_
  rw [← h2] at he
  obtain ⟨q, hq, rfl⟩ := List.mem_map.mp he
  refine ⟨L, q.2.1, h1, refs_get (by rw [h2]; exact h.nd) hq, ?_⟩
  rw [← (h3 q hq).2]
  exact (h3 q hq).1
theorem ClosedAt.clen {H : Hp} {cd : Addr} {Qs : List Str} {C : Str → List Str} (h : ClosedAt H cd Qs C) {e : Str} (he : e ∈ Qs) : (C e).length ≤ 24 := Nat.le_trans (len_le_of_sub (h.cnd e he) (h.sub e he)) h.len
section
variable {P : Program} {w : World} {K : Fg} {mg : Str → Option Value} {base : Heap}
def spGroups : Sp := fun vs H Q _ => ∃ (cd : Addr) (Qs : List Str) (C : Str → List Str), vs = [.ref cd] ∧ ClosedAt H cd Qs C ∧
  ∀ (p : Addr) (ys : List Str) (L : List Row) (H' : Hp), Same H H' → H p = none → ys.Perm Qs → L.map (·.1) = ys.filter (isMin C) → H' p = some (.lst (rads L)) → (∀ q ∈ L, H' q.2.1 = some (.tup (txs q.2.2)) ∧ q.2.2.Perm (clsF C q.1)) → Q (.ref p) H'
theorem ok_groups_of (T : TX w K mg) : Ok P w K mg base 1 d_groups_of ["closed"] spGroups := by
  refine mkOk T ix_groups_of rfl rfl rfl sc_groups_of (fun _ _ _ _ _ _ us hl => match us, hl with | [_], _ => rfl) (fun vs H Q E h => ?_) (fun cdv A outer s0 H vs Q E hr h => ?_)
  · obtain ⟨cd, Qs, C, rfl, _⟩ := h
    rfl
  · obtain ⟨cd, Qs, C, rfl, hC, q⟩ := h
    have hu := hu_of hr
    refine ⟨_, pss_cons (pset (i := 1) sc_groups_of.nd (pe_lst pa_nil))
      (pss_cons (ps_for PassesOwn.never rfl (pi_list (pe_callB (call_sortedD rfl) (by rfl) T.f_sorted boot_sorted (pa_cons (pv 0) pa_nil))) (pgn (i := 2) sc_groups_of.nd)
        (pss_cons (ps_lock (ps_setLc (i := 3) (own := [("other", 4)]) (g := gName 4) (by rfl) sc_groups_of.nd rfl rfl (by rfl) (pi_keys (pe_dget hu (pv 0) (pv 2) (fun _ _ => rfl))) (blkOk_by (N := N_groups_of) (sc := defScope s_groups_of) (by decide +kernel))
          (fun _ _ _ _ _ => pgn (i := 4) sc_groups_of.nd) (fun _ _ _ _ _ => pts_one (pt_cmp (pc_din hu (pv 2) (pe_dget hu (pv 0) (pv 4) (fun _ _ => rfl))))) (fun _ _ _ _ _ => pv 4)))
        (pss_one (ps_if (pt_cmpR op_eq (pe_callB (call_minS rfl hr.units) (by rfl) T.f_min (by decide +kernel) (pa_cons (pv 3) pa_nil)) (pv 2) (nomark _))
          (pss_one (ps_expr (pe_bm PySem.F.plainAttrs_list PySem.F.slot_list_append PySem.F.type_list_append mt_append (pv 1) (pa_cons (pe_callTy call_tuple_of (by rfl) T.f_tuple PyProof.Rows.boot_tuple (pa_cons (pe_callB cr_sortedS (by rfl) T.f_sorted boot_sorted (pa_cons (pv 3) pa_nil)) pa_nil)) pa_nil)))) pss_nil))))
      (pss_one (ps_ret (pv 1)))), ?_⟩
    refine ⟨small (by show 0 ≤ 1000; decide), fun fd nfd => ?_⟩
    obtain ⟨L0, hL0, eL0, hL0r⟩ := hC.at_
    have s1 := same_new nfd (o := .lst [])
    have hl0 : (refs L0).map (·.1) = Qs := by rw [refs_keys]; exact eL0
    have hql := hC.len
    refine ⟨_, rfl, cd, tk (refs L0), Qs, rfl, .inl (s1 _ _ hL0), (by have := tk_keys (refs L0); rw [hl0] at this; exact this), by omega, fun ys p perm srt np => ?_⟩
    have s2 := Same.new s1 np (o := .lst (ys.map V.str))
    refine ⟨p, rfl, ⟨_, SqL.of upd_same⟩, ?_⟩
    have npf : p ≠ fd := fun z => by rw [z, upd_same] at np; cases np
    have np0 : H p = none := Same.free s1 np
    have hyl : ys.length ≤ 24 := by rw [perm.length_eq]; exact hql
    refine for_it (walk_list (xs := txs ys)) (fun i σ H2 => ∃ L z2 z3 z4, σ = [some (.ref cd), some (.ref fd), z2, z3, z4] ∧ Same H H2 ∧ H2 p = some (.lst (txs ys)) ∧ L.map (·.1) = (ys.take i).filter (isMin C) ∧ H2 fd = some (.lst (rads L)) ∧ ∀ q ∈ L, H2 q.2.1 = some (.tup (txs q.2.2)) ∧ q.2.2.Perm (clsF C q.1))
      ⟨[], none, none, none, rfl, s2, upd_same, by simp, by rw [upd_ne (Ne.symm npf), upd_same]; rfl, fun _ h => (nomatch h)⟩ (fun i σ H2 _ hP => ?_) ?_ ?_
    · obtain ⟨_, _, _, _, _, _, h, _⟩ := hP
      exact SqL.of h
    · rintro i x σ H2 H3 hi ⟨L, z2, z3, z4, rfl, s3, hp3, hLk, hfd, hLr⟩ ⟨rfl, hx⟩
      obtain ⟨e, he, rfl⟩ := txs_at hx
      have heQ : e ∈ Qs := perm.mem_iff.mp (List.mem_of_getElem? he)
      have hC3 := hC.same s3
      obtain ⟨Le, a, g1, g2, g3⟩ := hC3.get heQ
      have hcl := hC.clen heQ
      refine ls_keys g3 (by rw [tr_len]; omega) (fun od R r => ⟨_, rfl, _, rfl, cd, _, rfl, g2 ▸ DictR.get (DictR.lock (DictAt.r g1) g3) e, r⟩) (fun o => if (decide (e ∈ C o)) = true then some (V.str o) else none) (fun od o H4 R2 N ho s4 hh => ?_) (fun gp H4 s4 ngp hgp => ?_)
      · rw [tr_keys] at ho
        have hoQ := hC.sub e heQ o ho
        obtain ⟨Lo, b, o1, o2, o3⟩ := hC3.get hoQ
        have d1 := DictR.get (DictR.same (DictR.lock (DictAt.r o1) g3) s4) o
        rw [o2] at d1
        have d2 := DictR.get (DictR.same (DictR.lock (DictAt.r o3) g3) s4) e
        refine ⟨rfl, _, rfl, _, rfl, _, rfl, cd, _, rfl, d1, b, _, rfl, d2, _, rfl, ?_⟩
        rw [tr_get]
        by_cases hm : e ∈ C o
        · rw [decide_eq_true hm] at hh ⊢
          exact iteT ⟨_, rfl, hh⟩
        · rw [decide_eq_false hm] at hh ⊢
          exact iteF hh
      · rw [tr_keys, fm_if] at hgp
        have hgp : H4 gp = some (.lst (txs (clsF C e))) := hgp
        have hse : e ∈ clsF C e := List.mem_filter.mpr ⟨hC.self e heQ, decide_eq_true (hC.self e heQ)⟩
        have hgl : (clsF C e).length ≤ 24 := Nat.le_trans (List.length_filter_le _ _) hcl
        obtain ⟨g0, gs, egs⟩ : ∃ g0 gs, clsF C e = g0 :: gs := by
          cases h : clsF C e with
          | nil => rw [h] at hse; cases hse
          | cons g0 gs => exact ⟨g0, gs, rfl⟩
        have hmin := minS_spec gs g0
        rw [← egs] at hmin
        have s34 := s3.trans s4
        refine ⟨_, rfl, gp, g0, gs, rfl, by rw [← egs]; exact SqL.of hgp, _, rfl, rfl, _, rfl, ?_⟩
        have tk1 : ys.take (i + 1) = ys.take i ++ [e] := by
          rw [List.take_add_one, he]
          rfl
        have hLl : (rads L).length ≤ 24 := by
          unfold rads
          rw [List.length_map]
          have := congrArg List.length hLk
          rw [List.length_map] at this
          rw [this]
          refine Nat.le_trans (List.length_filter_le _ _) (Nat.le_trans ?_ hyl)
          rw [List.length_take]
          exact Nat.min_le_right _ _
        by_cases hme : minS g0 gs = e
        · rw [hme] at hmin ⊢
          have hM : isMin C e = true := by
            unfold isMin
            rw [List.all_eq_true]
            intro o ho
            rw [hmin.2 o ho]
            rfl
          refine ifT rfl ?_
          have hfd4 : H4 fd = some (.lst (rads L)) := s4 _ _ hfd
          refine ⟨_, rfl, .inl ⟨rfl, _, SqL.of hfd4⟩, _, rfl, gp, clsF C e, rfl, SqL.of hgp, by omega, fun zs sp zperm zsrt nsp => ?_⟩
          refine ⟨sp, txs zs, rfl, .inl ⟨SqL.of upd_same, fun tp ntp => ?_⟩⟩
          have s5 := Same.new (same_new nsp (o := .lst (zs.map V.str))) ntp (o := .tup (txs zs))
          have hfd5 := s5 _ _ hfd4
          refine ⟨fd, rads L, _, rfl, rfl, hfd5, small1000 (by omega), ?_⟩
          have e7 : rads L ++ [V.ref tp] = rads (L ++ [(e, tp, zs)]) := by
            unfold rads
            rw [List.map_append]
            rfl
          rw [e7]
          have s6 := s34.trans s5
          have tf : tp ≠ fd := fun z => by rw [z, ((same_new nsp) _ _ hfd4)] at ntp; cases ntp
          have pf : p ≠ fd := npf
          refine ⟨L ++ [(e, tp, zs)], _, _, _, rfl, Same.over s6 nfd, ?_, ?_, upd_same, fun q' hq' => ?_⟩
          · rw [upd_ne pf]
            exact s5 _ _ (s4 _ _ hp3)
          · rw [List.map_append, hLk, tk1, List.filter_append, List.filter_cons, hM]
            rfl
          · rcases List.mem_append.mp hq' with hq' | hq'
            · obtain ⟨r1, r2⟩ := hLr q' hq'
              refine ⟨?_, r2⟩
              rw [upd_ne (fun z => by rw [z, hfd] at r1; cases r1)]
              exact s5 _ _ (s4 _ _ r1)
            · rw [List.mem_singleton.mp hq']
              exact ⟨by rw [upd_ne tf, upd_same], zperm⟩
        · refine ifF (fun z => hme (V.str.inj z)) ?_
          have hM : isMin C e = false := by
            cases h : isMin C e with
            | false => rfl
            | true =>
              exfalso
              unfold isMin at h
              rw [List.all_eq_true] at h
              have h1 := h _ hmin.1
              have h1' : strLt (minS g0 gs) e = false := by
                cases q : strLt (minS g0 gs) e with
                | false => rfl
                | true => rw [q] at h1; cases h1
              exact hme (strLt_eq h1' (hmin.2 e hse))
          refine ⟨L, _, _, _, rfl, s34, s4 _ _ hp3, ?_, s4 _ _ hfd, fun q' hq' => ⟨s4 _ _ (hLr q' hq').1, (hLr q' hq').2⟩⟩
          rw [hLk, tk1, List.filter_append, List.filter_cons, hM]
          simp
    · rintro σ H2 ⟨L, z2, z3, z4, rfl, s3, hp3, hLk, hfd, hLr⟩
      rw [txs_len, List.take_length] at hLk
      exact ⟨_, rfl, q fd ys L H2 s3 nfd perm hLk hfd hLr⟩
end
end Bo

/-! G4 -/
set_option Elab.async false
set_option linter.all false
set_option maxRecDepth 100000
set_option maxHeartbeats 1000000
namespace Bo
open PySem PySem.Spec PyProof.Rows L2
/-- a for whose ways out all lead to A -/
theorem for_after {J : It} {n : Nat} {G : Hp → Prop} {Y : Nat → Hp → V → Hp → Prop} (w : Walk J n G Y) {g : TG} {tb : TS} {D : Ends} {σ : L2.St} {H : Hp} (A : L2.St → Hp → Prop) (Pv : Nat → L2.St → Hp → Prop) (h0 : Pv 0 σ H) (hG : ∀ i σ H, i ≤ n → Pv i σ H → G H)
    (hs : ∀ (B : L2.St → Hp → Prop), (∀ σ H, A σ H → B σ H) → ∀ i x σ H H', i < n → Pv i σ H → Y i H x H' → g x σ H' fun σ2 H2 => tb { D with nx := Pv (i + 1), ct := Pv (i + 1), bk := B } σ2 H2) (hd : ∀ σ H, Pv n σ H → A σ H) (hA : ∀ σ H, A σ H → D.nx σ H) :
    ∃ W : Nat → Nat → L2.St → Hp → Prop, (∃ m, W 0 m σ H) ∧ ∀ i m σ H, W i m σ H →
      (J.stop i H ∧ D.nx σ H) ∨ (J.go i H ∧ ∃ N : L2.St → Hp → Prop, (∀ σ' H', N σ' H' → ∃ m', m' < m ∧ W (i + 1) m' σ' H') ∧ ∀ x H', J.yld i H x H' → g x σ H' fun σ2 H2 => tb { D with nx := N, ct := N, bk := D.nx } σ2 H2) :=
  for_it w Pv h0 hG (fun i x σ H H' hi hp y => hs D.nx hA i x σ H H' hi hp y) fun σ H hp => hA σ H (hd σ H hp)
def hdOf (r : Row) : Str := r.2.2.headD ""
/-- all that r needs stands in FL or in r itself -/
def rdyB (C : Str → List Str) (FL : List Row) (r : Row) : Bool := (C (hdOf r)).all fun o => (FL.any fun q => decide (o ∈ q.2.2)) || decide (o ∈ r.2.2)
/-- two groups have nothing in common -/
def Dj (a b : Row) : Prop := ∀ x ∈ a.2.2, x ∉ b.2.2
theorem Dj.symm {a b : Row} (h : Dj a b) : Dj b a := fun x hx hy => h x hy hx
/-- each was ready, or none was -/
def Ordered (C : Str → List Str) (FL WL : List Row) : Prop := ∀ i r, FL[i]? = some r → rdyB C (FL.take i) r = true ∨ ∀ r' ∈ FL.drop i ++ WL, rdyB C (FL.take i) r' = false
/-- the state on the way -/
structure Ost (C : Str → List Str) (Qs : List Str) (G FL WL : List Row) (PL : List Str) : Prop where
  perm : (FL ++ WL).Perm G
  pl : ∀ o, o ∈ PL ↔ ∃ q ∈ FL, o ∈ q.2.2
  pnd : PL.Nodup
  psub : ∀ o ∈ PL, o ∈ Qs
  ord : Ordered C FL WL
theorem any_pl {FL : List Row} {PL : List Str} (h : ∀ o, o ∈ PL ↔ ∃ q ∈ FL, o ∈ q.2.2) (o : Str) : (FL.any fun q => decide (o ∈ q.2.2)) = decide (o ∈ PL) := by
  by_cases hp : o ∈ PL
  · rw [decide_eq_true hp, List.any_eq_true]
    obtain ⟨q, h1, h2⟩ := (h o).mp hp
    exact ⟨q, h1, decide_eq_true h2⟩
  · rw [decide_eq_false hp, List.any_eq_false]
    intro q hq hd
    exact hp ((h o).mpr ⟨q, hq, of_decide_eq_true hd⟩)
theorem ord_step {C : Str → List Str} {FL WL : List Row} {j : Nat} {r : Row} (h : Ordered C FL WL) (hr : WL[j]? = some r) (hs : rdyB C FL r = true ∨ ∀ r' ∈ WL, rdyB C FL r' = false) : Ordered C (FL ++ [r]) (WL.eraseIdx j) := by
  have hmem : ∀ x, x ∈ WL.eraseIdx j → x ∈ WL := fun x hx => List.mem_of_mem_eraseIdx hx
  have hrW : r ∈ WL := List.mem_of_getElem? hr
  intro i s hi
  rcases Nat.lt_or_ge i FL.length with hl | hl
  · rw [List.getElem?_append_left hl] at hi
    rw [List.take_append_of_le_length (by omega)]
    rcases h i s hi with a | a
    · exact .inl a
    · refine .inr fun r' hr' => a r' ?_
      rcases List.mem_append.mp hr' with h1 | h1
      · rw [List.drop_append_of_le_length (by omega)] at h1
        rcases List.mem_append.mp h1 with h2 | h2
        · exact List.mem_append.mpr (.inl h2)
        · rw [List.mem_singleton.mp h2]
          exact List.mem_append.mpr (.inr hrW)
      · exact List.mem_append.mpr (.inr (hmem r' h1))
  · have hi2 : i = FL.length := by
      have := (List.getElem?_eq_some_iff.mp hi).1
      rw [List.length_append] at this
      have : i < FL.length + 1 := this
      omega
    subst hi2
    have es : s = r := by
      rw [List.getElem?_append_right (Nat.le_refl _), Nat.sub_self] at hi
      exact (Option.some.inj hi).symm
    subst es
    have tk : (FL ++ [s]).take FL.length = FL := by
      rw [List.take_append_of_le_length (Nat.le_refl _), List.take_length]
    have dr : (FL ++ [s]).drop FL.length = [s] := by
      rw [List.drop_append_of_le_length (Nat.le_refl _), List.drop_length]
      rfl
    rw [tk, dr]
    rcases hs with a | a
    · exact .inl a
    · refine .inr fun r' hr' => ?_
      rcases List.mem_append.mp hr' with h1 | h1
      · rw [List.mem_singleton.mp h1]
        exact a s hrW
      · exact a r' (hmem r' h1)
theorem rads_erase : ∀ (WL : List Row) (j : Nat), (rads WL).eraseIdx j = rads (WL.eraseIdx j)
  | [], _ => rfl
  | _ :: _, 0 => rfl
  | r :: WL, j + 1 => by
    show V.ref r.2.1 :: (rads WL).eraseIdx j = V.ref r.2.1 :: rads (WL.eraseIdx j)
    rw [rads_erase WL j]
theorem rads_at {L : List Row} {i : Nat} {v : V} (h : (rads L)[i]? = some v) : ∃ r, L[i]? = some r ∧ v = .ref r.2.1 := by
  unfold rads at h
  rw [List.getElem?_map] at h
  cases q : L[i]? with
  | none => rw [q] at h; cases h
  | some r =>
    rw [q] at h
    exact ⟨r, rfl, (Option.some.inj h).symm⟩
@[simp] theorem rads_len (L : List Row) : (rads L).length = L.length := by unfold rads; exact List.length_map ..
/-- the rows' contents as data -/
def rowD (L : List Row) : List PyData := L.map fun r => .tuple (strD r.2.2)
theorem dp_rows {K : Fg} {H : Hp} {L : List Row} (h : ∀ r ∈ L, H r.2.1 = some (.tup (txs r.2.2))) : DpAll K H (rads L) (rowD L) := dpAll_map fun r hr => .tup (SqT.of (h r hr)) (dp_txs _)
theorem eqvAll_strs : ∀ a b : List Str, PyData.eqvAll (strD a) (strD b) = decide (a = b)
  | [], [] => rfl
  | [], b :: bs => by simp [strD, PyData.eqvAll]
  | a :: as, [] => by simp [strD, PyData.eqvAll]
  | a :: as, b :: bs => by
    show PyData.eqvAll (.str a :: strD as) (.str b :: strD bs) = _
    simp only [PyData.eqvAll, PyData.eqv, eqvAll_strs as bs]
    by_cases h1 : a = b
    · by_cases h2 : as = bs
      · simp [h1, h2]
      · simp [h1, h2]
    · simp [h1]
theorem eqv_tup (a b : List Str) : PyData.eqv (.tuple (strD a)) (.tuple (strD b)) = decide (a = b) := by
  simp only [PyData.eqv]
  exact eqvAll_strs a b
theorem erase_perm {α : Type} : ∀ {l : List α} {j : Nat} {r : α}, l[j]? = some r → (r :: l.eraseIdx j).Perm l
  | a :: l, 0, r, h => by
    have e : a = r := Option.some.inj h
    rw [e]
    exact .refl _
  | a :: l, j + 1, r, h => by
    have ih := erase_perm (l := l) (j := j) (r := r) h
    exact (List.Perm.swap a r _).trans (ih.cons a)
theorem fm_some {α β : Type} (f : α → β) : ∀ l : List α, l.filterMap (fun x => some (f x)) = l.map f
  | [] => rfl
  | a :: l => by
    rw [List.filterMap_cons, List.map_cons, ← fm_some f l]
section
variable {P : Program} {w : World} {K : Fg} {mg : Str → Option Value} {base : Heap}
def spOrder (K : Fg) : Sp := fun vs H Q _ => ∃ (gl cd : Addr) (Qs : List Str) (C : Str → List Str) (G : List Row), vs = [.ref gl, .ref cd] ∧ H gl = some (.lst (rads G)) ∧ (∀ g ∈ G, H g.2.1 = some (.tup (txs g.2.2))) ∧ (∀ g ∈ G, g.2.2 ≠ []) ∧ (∀ g ∈ G, g.2.2.Nodup) ∧ (∀ g ∈ G, ∀ x ∈ g.2.2, x ∈ Qs) ∧ G.Pairwise Dj ∧ G.length ≤ 24 ∧
  ClosedAt H cd Qs C ∧ (∀ x ∈ Qs, Sh 0 (.str x)) ∧
  ∀ (p : Addr) (R : List Row) (H' : Hp), Same H H' → H p = none → R.Perm G → H' p = some (.lst (rads R)) → Ordered C R [] → Q (.ref p) H'
theorem ok_solving_order (T : TX w K mg) : Ok P w K mg base 1 d_solving_order ["groups", "closed"] (spOrder K) := by
  refine mkOk T ix_solving_order rfl rfl rfl sc_solving_order (fun _ _ _ _ _ _ us hl => match us, hl with | [_, _], _ => rfl) (fun vs H Q E h => ?_) (fun cdv A outer s0 H vs Q E hr h => ?_)
  · obtain ⟨gl, cd, Qs, C, G, rfl, _⟩ := h
    rfl
  · obtain ⟨gl, cd, Qs, C, G, rfl, hgl, htup, hne, hnd, hsub, hdj, hlen, hC, hsh, q⟩ := h
    have hu := hu_of hr
    have hu65 : _ + 65 < cLine := Nat.lt_of_le_of_lt (Nat.add_le_add_left (by decide : 65 ≤ 200) _) (by have := hr.un; omega)
    refine ⟨_, pss_cons (pset (i := 2) sc_solving_order.nd (pe_lst pa_nil))
      (pss_cons (pset (i := 3) sc_solving_order.nd pe_dnewK)
      (pss_cons (pset (i := 4) sc_solving_order.nd (pe_callTy call_list_of (by rfl) T.f_list PyProof.Rows.boot_list (pa_cons (pv 0) pa_nil)))
      (pss_cons (ps_while PassesOwn.never (pt_cmpR (op_neD hr.units) (pv 4) (pe_lst pa_nil) rfl)
        (pss_cons (ps_for PassesOwn.never rfl (pi_list (pv 4)) (pgn (i := 5) sc_solving_order.nd)
          (pss_one (ps_if (pt_val (pe_callB (cr_all rfl) (by rfl) T.f_all (by decide +kernel) (pa_cons
            (pe_lock (pe_lc (own := [("other", 6)]) (g := gName 6) (tt := tYes) (by rfl) sc_solving_order.nd (pi_keys (pe_dget hu (pv 1) (pe_ix ix_tup (pv 5) pe_int (fun _ _ => rfl)) (fun _ _ => rfl))) (blkOk_by (N := N_solving_order) (sc := defScope s_solving_order) (by decide +kernel))
              (fun _ _ _ _ _ => pgn (i := 6) sc_solving_order.nd) (fun _ _ _ _ _ => pts_nil) (fun _ _ _ _ _ => pe_or (pe_cmp (pc_din hu (pv 6) (pv 3)) rfl) (pe_one (pe_cmpR (r := rIn K false) op_in_seq (pv 6) (pv 5) rfl))))) pa_nil)))
            (pss_one ps_break) pss_nil)))
        (pss_cons (ps_expr (pe_bm PySem.F.plainAttrs_list PySem.F.slot_list_append PySem.F.type_list_append mt_append (pv 2) (pa_cons (pv 5) pa_nil)))
        (pss_cons (ps_expr (pe_bm PySem.F.plainAttrs_list PySem.F.slot_list_remove PySem.F.type_list_remove (mt_removeD hu65) (pv 4) (pa_cons (pv 5) pa_nil)))
        (pss_one (ps_for PassesOwn.never rfl (pi_tup (pv 5)) (pgn (i := 7) sc_solving_order.nd)
          (pss_one (ps_dput hu (pv 3) (pv 7) pe_bl rfl))))))))
      (pss_one (ps_ret (pv 2)))))), ?_⟩
    refine ⟨small (by show 0 ≤ 1000; decide), fun fd nfd => fun pd npd => ?_⟩
    have s1 := same_new nfd (o := .lst [])
    have npd0 : H pd = none := Same.free s1 npd
    have pf : pd ≠ fd := fun e => by rw [e, upd_same] at npd; cases npd
    have s2 := Same.over s1 npd0 (o := .dK [])
    refine ⟨_, rfl, gl, rads G, rfl, .inl (SqL.of (s2 _ _ hgl)), fun wt nwt => ?_⟩
    have nwt0 : H wt = none := Same.free s2 nwt
    have wp : wt ≠ pd := fun e => by rw [e, upd_same] at nwt; cases nwt
    have wf : wt ≠ fd := fun e => by rw [e, upd_ne (Ne.symm pf), upd_same] at nwt; cases nwt
    have s3 := Same.over s2 nwt0 (o := .lst (rads G))
    refine ⟨fun m σ H5 => ∃ FL WL PL z5 z6 z7, m = WL.length ∧ σ = [some (.ref gl), some (.ref cd), some (.ref fd), some (.ref pd), some (.ref wt), z5, z6, z7] ∧ Same H H5 ∧ H5 fd = some (.lst (rads FL)) ∧ H5 pd = some (.dK (tk (tr PL))) ∧ H5 wt = some (.lst (rads WL)) ∧ Ost C Qs G FL WL PL,
      ⟨_, [], G, [], none, none, none, rfl, rfl, s3, by rw [upd_ne (Ne.symm wf), upd_ne (Ne.symm pf), upd_same]; rfl, by rw [upd_ne (Ne.symm wp), upd_same]; rfl, upd_same, ⟨.refl _, fun o => by simp, .nil, fun o ho => (nomatch ho), fun i r hi => by simp at hi⟩⟩, ?_⟩
    rintro m σ H5 ⟨FL, WL, PL, z5, z6, z7, rfl, rfl, s5, hF, hP, hW, S⟩
    have hWG : ∀ r ∈ WL, r ∈ G := fun r hr => S.perm.mem_iff.mp (List.mem_append.mpr (.inr hr))
    have hWl : WL.length ≤ 24 := by
      have := S.perm.length_eq
      rw [List.length_append] at this
      omega
    have hFl : FL.length ≤ 24 := by
      have := S.perm.length_eq
      rw [List.length_append] at this
      omega
    have hPl : PL.length ≤ 24 := Nat.le_trans (len_le_of_sub S.pnd S.psub) hC.len
    have hshG : ∀ r ∈ G, Sh 1 (.tuple (strD r.2.2)) := fun r hr => .tuple (sh_strs fun x hx => hsh x (hsub r hr x hx))
    have hshW : Sh 2 (.list (rowD WL)) := .list fun d hd => by
      obtain ⟨r, hr, rfl⟩ := List.mem_map.mp hd
      exact hshG r (hWG r hr)
    refine ⟨_, rfl, small (by show 0 ≤ 1000; decide), fun el nel => ?_⟩
    have s6 := Same.new s5 nel (o := .lst [])
    have k6 := same_new nel (o := .lst [])
    refine ⟨.list (rowD WL), .list [], .lst (SqL.of (k6 _ _ hW)) (dp_rows fun r hr => s6 _ _ (htup r (hWG r hr))), .lst (SqL.of upd_same) .nil, hshW.shaped, (Sh.list (n := 0) (l := []) (fun _ h => (nomatch h))).shaped, _, rfl, ?_⟩
    cases WL with
    | nil =>
      show if false = true then _ else _
      refine iteF ?_
      refine ⟨_, rfl, q fd FL _ s6 nfd ?_ (k6 _ _ hF) S.ord⟩
      have := S.perm
      rwa [List.append_nil] at this
    | cons w0 W0 =>
      show if true = true then _ else _
      refine iteT ⟨fun σ' H' => ∃ m', m' < (w0 :: W0).length ∧ _, fun _ _ h => h, ?_⟩
      generalize hWW : w0 :: W0 = WL at *
      have hWpos : 0 < WL.length := by rw [← hWW]; exact Nat.succ_pos _
      refine ⟨_, rfl, wt, rfl, ⟨_, SqL.of (k6 _ _ hW)⟩, ?_⟩
      refine for_after (walk_list (xs := rads WL)) (A := fun σ H8 => ∃ (j : Nat) (r : Row) (z6 z7 : Option V), WL[j]? = some r ∧ σ = [some (.ref gl), some (.ref cd), some (.ref fd), some (.ref pd), some (.ref wt), some (.ref r.2.1), z6, z7] ∧ Same (upd H5 el (.lst [])) H8 ∧ (rdyB C FL r = true ∨ ∀ r' ∈ WL, rdyB C FL r' = false))
        (Pv := fun i σ H8 => ∃ (z5 z6 z7 : Option V), σ = [some (.ref gl), some (.ref cd), some (.ref fd), some (.ref pd), some (.ref wt), z5, z6, z7] ∧ Same (upd H5 el (.lst [])) H8 ∧ (0 < i → ∃ r : Row, WL[i - 1]? = some r ∧ z5 = some (.ref r.2.1)) ∧ ∀ r' ∈ WL.take i, rdyB C FL r' = false)
        ⟨_, _, _, rfl, Same.refl _, fun h => absurd h (Nat.not_lt_zero _), fun r' h => by simp at h⟩ (fun i σ H8 _ hp => ?_) ?_ ?_ ?_
      · obtain ⟨_, _, _, _, s8, _⟩ := hp
        exact SqL.of (s8 _ _ (k6 _ _ hW))
      · rintro B hB i x σ H8 H9 hi ⟨z5, z6, z7, rfl, s8, hz5, hno⟩ ⟨rfl, hx⟩
        rw [rads_len] at hi
        obtain ⟨r, hr, rfl⟩ := rads_at hx
        have hrW : r ∈ WL := List.mem_of_getElem? hr
        have hrG := hWG r hrW
        obtain ⟨h, tl, hh⟩ : ∃ h tl, r.2.2 = h :: tl := by
          cases q : r.2.2 with
          | nil => exact absurd q (hne r hrG)
          | cons h tl => exact ⟨h, tl, rfl⟩
        have hhd : hdOf r = h := by unfold hdOf; rw [hh]; rfl
        have hhr : h ∈ r.2.2 := by rw [hh]; exact List.mem_cons_self
        have hhQ : h ∈ Qs := hsub r hrG h hhr
        have s9 := s6.trans s8
        obtain ⟨Lc, a, c1, c2, c3⟩ := (hC.same s9).get hhQ
        have hcl := hC.clen hhQ
        have hP9 : DictAt H9 pd (tr PL) := s8 _ _ (k6 _ _ hP)
        have htup9 : SqT K H9 r.2.1 (txs r.2.2) := SqT.of (s9 _ _ (htup r hrG))
        have tk1 : WL.take (i + 1) = WL.take i ++ [r] := by
          rw [List.take_add_one, hr]
          rfl
        dsimp only [gName, tIfS, tB, tCB, tCons]
        refine lc_keys c3 (by rw [tr_len]; omega) (fun od R r' => ⟨_, rfl, _, rfl, r.2.1, txs r.2.2, 0, .str h, rfl, rfl, SqT.lock htup9 c3, atI_nat (j := 0) (by rw [hh]; rfl), cd, _, rfl, c2 ▸ DictR.get (DictR.lock (DictAt.r c1) c3) h, r'⟩)
          (fun o => some (.bl (decide (o ∈ PL) || decide (o ∈ r.2.2)))) (fun od o H10 R2 N ho s10 hh2 => ?_) (fun lp H10 s10 nlp hlp => ?_)
        · have d1 := DictR.get (DictR.same (DictR.lock (DictAt.r hP9) c3) s10) o
          refine ⟨rfl, _, rfl, _, rfl, pd, _, rfl, d1, _, rfl, ?_⟩
          rw [tr_get]
          by_cases hm : o ∈ PL
          · simp only [decide_eq_true hm, Bool.true_or] at hh2
            rw [decide_eq_true hm]
            exact iteT hh2
          · simp only [decide_eq_false hm, Bool.false_or] at hh2
            rw [decide_eq_false hm]
            refine iteF ⟨_, rfl, _, rfl, r.2.1, _, rfl, .inr (Same.tup s10 (SqT.lock htup9 c3)), rfl, txs_flat _, ?_⟩
            rw [inV_txs]
            exact hh2
        · rw [tr_keys, fm_some] at hlp
          have ebs : ((C h).map fun o => V.bl (decide (o ∈ PL) || decide (o ∈ r.2.2))) = ((C h).map fun o => (decide (o ∈ PL) || decide (o ∈ r.2.2))).map V.bl := by rw [List.map_map]; rfl
          rw [ebs] at hlp
          have erd : ((C h).map fun o => (decide (o ∈ PL) || decide (o ∈ r.2.2))).all id = rdyB C FL r := by
            unfold rdyB
            rw [hhd, List.all_map]
            congr 1
            funext o
            rw [any_pl S.pl]
            rfl
          refine ⟨lp, _, rfl, SqL.of hlp, _, rfl, ?_⟩
          rw [erd]
          by_cases hrd : rdyB C FL r = true
          · rw [hrd]
            exact iteT (hB _ _ ⟨i, r, _, _, hr, rfl, s8.trans s10, .inl hrd⟩)
          · have hrd' : rdyB C FL r = false := by
              cases q : rdyB C FL r with
              | false => rfl
              | true => exact absurd q hrd
            rw [hrd']
            refine iteF ⟨_, _, _, rfl, s8.trans s10, fun _ => ⟨r, hr, rfl⟩, fun r' hr' => ?_⟩
            rw [tk1] at hr'
            rcases List.mem_append.mp hr' with h1 | h1
            · exact hno r' h1
            · rw [List.mem_singleton.mp h1]
              exact hrd'
      · rintro σ H8 ⟨z5, z6, z7, rfl, s8, hz5, hno⟩
        rw [rads_len] at hz5 hno
        rw [List.take_length] at hno
        obtain ⟨r, h1, h2⟩ := hz5 hWpos
        exact ⟨_, r, _, _, h1, by rw [h2], s8, .inr hno⟩
      · rintro σ H8 ⟨j, r, z6, z7, hj, rfl, s8, hrdy⟩
        have hrW : r ∈ WL := List.mem_of_getElem? hj
        have hrG := hWG r hrW
        have s9 := s6.trans s8
        have hF8 : H8 fd = some (.lst (rads FL)) := s8 _ _ (k6 _ _ hF)
        have hW8 : H8 wt = some (.lst (rads WL)) := s8 _ _ (k6 _ _ hW)
        have hP8 : H8 pd = some (.dK (tk (tr PL))) := s8 _ _ (k6 _ _ hP)
        have tn : ∀ g ∈ G, g.2.1 ≠ fd ∧ g.2.1 ≠ wt ∧ g.2.1 ≠ pd := fun g hg => ⟨ne_of_none (htup g hg) nfd, ne_of_none (htup g hg) nwt0, ne_of_none (htup g hg) npd0⟩
        refine ⟨_, rfl, .inl ⟨rfl, _, SqL.of hF8⟩, _, rfl, fd, rads FL, _, rfl, rfl, hF8, small1000 (by rw [rads_len]; omega), ?_⟩
        have eF : rads FL ++ [V.ref r.2.1] = rads (FL ++ [r]) := by
          unfold rads
          rw [List.map_append]
          rfl
        rw [eF]
        have s10 := Same.over s9 nfd (o := .lst (rads (FL ++ [r])))
        have hW10 : upd H8 fd (.lst (rads (FL ++ [r]))) wt = some (.lst (rads WL)) := by rw [upd_ne wf]; exact hW8
        have hdjP := (S.perm.pairwise_iff (R := Dj) (fun h => Dj.symm h)).mpr hdj
        have hdjW : WL.Pairwise Dj := (List.pairwise_append.mp hdjP).2.1
        have hdjFW := (List.pairwise_append.mp hdjP).2.2
        refine ⟨_, rfl, .inl ⟨rfl, _, SqL.of hW10⟩, _, rfl, wt, .ref r.2.1, rads WL, .tuple (strD r.2.2), rowD WL, j, .tuple (strD r.2.2), rfl, rfl, hW10, dp_rows fun r' hr' => s10 _ _ (htup r' (hWG r' hr')), .tup (SqT.of (s10 _ _ (htup r hrG))) (dp_txs _), hshW.shaped, (hshG r hrG).shaped, ?_, (hshG r hrG).self, fun m z' hm hz' => ?_, ?_⟩
        · unfold rowD
          rw [List.getElem?_map, hj]
          rfl
        · unfold rowD at hz'
          rw [List.getElem?_map] at hz'
          cases q' : WL[m]? with
          | none => rw [q'] at hz'; cases hz'
          | some r2 =>
            rw [q'] at hz'
            have ez : z' = .tuple (strD r2.2.2) := (Option.some.inj hz').symm
            rw [ez, eqv_tup]
            refine decide_eq_false fun ee => ?_
            have hr2 : r2 ∈ WL := List.mem_of_getElem? q'
            have hd2 : Dj r2 r := by
              obtain ⟨h1, e1⟩ := List.getElem?_eq_some_iff.mp q'
              obtain ⟨h2, e2⟩ := List.getElem?_eq_some_iff.mp hj
              have := List.pairwise_iff_getElem.mp hdjW m j h1 h2 hm
              rwa [e1, e2] at this
            cases hc2 : r2.2.2 with
            | nil => exact hne r2 (hWG r2 hr2) hc2
            | cons x xs =>
              have hx : x ∈ r2.2.2 := by rw [hc2]; exact List.mem_cons_self
              exact hd2 x hx (ee ▸ hx)
        · rw [rads_erase]
          have s11 := Same.over s10 nwt0 (o := .lst (rads (WL.eraseIdx j)))
          have hgr : SqT K (upd (upd H8 fd (.lst (rads (FL ++ [r])))) wt (.lst (rads (WL.eraseIdx j)))) r.2.1 (txs r.2.2) := SqT.of (s11 _ _ (htup r hrG))
          have hPr : ∀ x ∈ r.2.2, x ∉ PL := fun x hx hm => by
            obtain ⟨q', hq', hxq⟩ := (S.pl x).mp hm
            exact hdjFW q' hq' r hrW x hxq hx
          refine ⟨_, rfl, r.2.1, rfl, ⟨_, hgr⟩, ?_⟩
          refine for_it (walk_tup (xs := txs r.2.2)) (fun i σ H12 => ∃ z7, σ = [some (.ref gl), some (.ref cd), some (.ref fd), some (.ref pd), some (.ref wt), some (.ref r.2.1), z6, z7] ∧ Same H H12 ∧ H12 fd = some (.lst (rads (FL ++ [r]))) ∧ H12 wt = some (.lst (rads (WL.eraseIdx j))) ∧ H12 pd = some (.dK (tk (tr (PL ++ r.2.2.take i)))))
            ⟨_, rfl, s11, by rw [upd_ne (Ne.symm wf), upd_same], upd_same, by rw [upd_ne (Ne.symm wp), upd_ne pf, List.take_zero, List.append_nil]; exact hP8⟩ (fun i σ H12 _ hp => ?_) ?_ ?_
          · obtain ⟨_, _, s12, _⟩ := hp
            exact SqT.of (s12 _ _ (htup r hrG))
          · rintro i x σ H12 H13 hi ⟨z7, rfl, s12, hF12, hW12, hP12⟩ ⟨rfl, hx⟩
            obtain ⟨e, he, rfl⟩ := txs_at hx
            have her : e ∈ r.2.2 := List.mem_of_getElem? he
            have hnk : e ∉ PL ++ r.2.2.take i := fun hm => by
              rcases List.mem_append.mp hm with hm | hm
              · exact hPr e her hm
              · exact not_take (hnd r hrG) he hm
            have hrl : r.2.2.length ≤ 24 := Nat.le_trans (len_le_of_sub (hnd r hrG) (hsub r hrG)) hC.len
            refine ⟨_, rfl, _, rfl, pd, _, rfl, DictAt.put hP12 e (.bl true) (small1000 (by rw [tr_len, List.length_append, List.length_take]; omega)), ?_⟩
            rw [tr_put hnk]
            refine ⟨_, rfl, Same.over s12 npd0, by rw [upd_ne (Ne.symm pf)]; exact hF12, by rw [upd_ne wp]; exact hW12, ?_⟩
            rw [upd_same, List.take_add_one, he, List.append_assoc]
            rfl
          · rintro σ H12 ⟨z7, rfl, s12, hF12, hW12, hP12⟩
            rw [txs_len, List.take_length] at hP12
            have hjl := (List.getElem?_eq_some_iff.mp hj).1
            refine ⟨(WL.eraseIdx j).length, by rw [List.length_eraseIdx_of_lt hjl]; omega, FL ++ [r], WL.eraseIdx j, PL ++ r.2.2, _, _, _, rfl, rfl, s12, hF12, hP12, hW12, ⟨?_, fun o => ?_, ?_, fun o ho => ?_, ord_step S.ord hj hrdy⟩⟩
            · refine List.Perm.trans ?_ S.perm
              rw [List.append_assoc]
              refine List.Perm.append_left FL ?_
              exact erase_perm hj
            · rw [List.mem_append, S.pl]
              constructor
              · rintro (⟨q', h1, h2⟩ | h)
                · exact ⟨q', List.mem_append.mpr (.inl h1), h2⟩
                · exact ⟨r, List.mem_append.mpr (.inr (by simp)), h⟩
              · rintro ⟨q', h1, h2⟩
                rcases List.mem_append.mp h1 with h1 | h1
                · exact .inl ⟨q', h1, h2⟩
                · rw [List.mem_singleton.mp h1] at h2
                  exact .inr h2
            · rw [List.nodup_append]
              exact ⟨S.pnd, hnd r hrG, fun a ha b hb e => hPr b hb (e ▸ ha)⟩
            · rcases List.mem_append.mp ho with ho | ho
              · exact S.psub o ho
              · exact hsub r hrG o ho
end
end Bo

/-! P1 -/
set_option Elab.async false
set_option linter.all false
set_option maxRecDepth 100000
set_option maxHeartbeats 1000000
namespace Bo
open PySem PySem.Spec PyProof.Rows L2
section
variable {K : Fg} {H H' : Hp} {a b C dx : Addr} {fs : List (Str × V)} {xs : List V} {D : List (Str × V)}
theorem SqT.but (h : SqT K H b xs) (s : But [a] H H') (ha : H a = some (.ins C dx fs)) : SqT K H' b xs := by
  rcases h with (h | ⟨o, h⟩) | h
  · exact .inl (.inl (s _ _ h fun z => by rw [List.mem_singleton.mp z, ha] at h; cases h))
  · exact .inl (.inr ⟨o, s _ _ h fun z => by rw [List.mem_singleton.mp z, ha] at h; cases h⟩)
  · exact .inr h
theorem SqL.but (h : SqL K H b xs) (s : But [a] H H') (ha : H a = some (.ins C dx fs)) : SqL K H' b xs := by
  rcases h with (h | ⟨o, h⟩) | h
  · exact .inl (.inl (s _ _ h fun z => by rw [List.mem_singleton.mp z, ha] at h; cases h))
  · exact .inl (.inr ⟨o, s _ _ h fun z => by rw [List.mem_singleton.mp z, ha] at h; cases h⟩)
  · exact .inr h
theorem DictAt.but (h : DictAt H b D) (s : But [a] H H') (ha : H a = some (.ins C dx fs)) : DictAt H' b D := by
  unfold DictAt at h ⊢
  exact s _ _ h fun z => by rw [List.mem_singleton.mp z, ha] at h; cases h
end
/-- pairs of texts, each a tuple -/
abbrev Prs : Type := List ((Str × Str) × Addr)
structure PairsAt (K : Fg) (H : Hp) (en : Addr) (Ps : Prs) : Prop where
  at_ : SqT K H en (ads Ps)
  pr : ∀ q ∈ Ps, SqT K H q.2 [.str q.1.1, .str q.1.2]
  len : Ps.length ≤ 600
theorem PairsAt.same {K : Fg} {H H' : Hp} {en : Addr} {Ps : Prs} (h : PairsAt K H en Ps) (s : Same H H') : PairsAt K H' en Ps := ⟨Same.tup s h.at_, fun q hq => Same.tup s (h.pr q hq), h.len⟩
theorem PairsAt.but {K : Fg} {H H' : Hp} {en a C dx : Addr} {fs : List (Str × V)} {Ps : Prs} (h : PairsAt K H en Ps) (s : But [a] H H') (ha : H a = some (.ins C dx fs)) : PairsAt K H' en Ps := ⟨SqT.but h.at_ s ha, fun q hq => SqT.but (h.pr q hq) s ha, h.len⟩
/-- a part's fields -/
def PartFs (e u l : Addr) : List (Str × V) := [("own_equations", .ref e), ("own_unknowns", .ref u), ("links", .ref l)]
/-- a sorted tuple of the texts of l -/
def SortT (H : Hp) (a : Addr) (l : List Str) : Prop := ∃ ys : List Str, H a = some (.tup (txs ys)) ∧ ys.Perm l ∧ sortedS ys = true
section
variable {P : Program} {w : World} {K : Fg} {mg : Str → Option Value} {base : Heap}
def spOverPart (K : Fg) : Sp := fun vs H Q _ => ∃ (a dx eq un en : Addr) (Es Us : List Str) (Ps : Prs), vs = [.ref a, .ref eq, .ref un, .ref en] ∧ H a = some (.ins (He.ga K "OverPart") dx []) ∧ DictAt H eq (tr Es) ∧ DictAt H un (tr Us) ∧ PairsAt K H en Ps ∧ Es.length ≤ 24 ∧ Us.length ≤ 24 ∧
  ∀ (e u l : Addr) (H' : Hp), But [a] H H' → H' a = some (.ins (He.ga K "OverPart") dx (PartFs e u l)) → SortT H' e Es → SortT H' u Us → Q .non H'
theorem ok_OverPart_init (T : TX w K mg) : Ok P w K mg base 1 d_OverPart___init__ ["self", "equations", "unknowns", "entries"] (spOverPart K) := by
  refine mkOk T ix_OverPart___init__ rfl rfl rfl sc_Part___init__ (fun _ _ _ _ _ _ us hl => match us, hl with | [_, _, _, _], _ => rfl) (fun vs H Q E h => ?_) (fun cdv A outer s0 H vs Q E hr h => ?_)
  · obtain ⟨a, dx, eq, un, en, Es, Us, Ps, rfl, _⟩ := h
    rfl
  · obtain ⟨a, dx, eq, un, en, Es, Us, Ps, rfl, ha, hE, hU, hPs, hEl, hUl, q⟩ := h
    have hu := hu_of hr
    refine ⟨_, pss_cons (ps_fld (pv 0) (pe_callTy call_tuple_of (by rfl) T.f_tuple PyProof.Rows.boot_tuple (pa_cons (pe_callB (call_sortedD rfl) (by rfl) T.f_sorted boot_sorted (pa_cons (pv 1) pa_nil)) pa_nil)) rfl)
      (pss_cons (ps_fld (pv 0) (pe_callTy call_tuple_of (by rfl) T.f_tuple PyProof.Rows.boot_tuple (pa_cons (pe_callB (call_sortedD rfl) (by rfl) T.f_sorted boot_sorted (pa_cons (pv 2) pa_nil)) pa_nil)) rfl)
      (pss_one (ps_fld (pv 0) (pe_callTy call_tuple_of (by rfl) T.f_tuple PyProof.Rows.boot_tuple (pa_cons
        (pe_lc (own := [("pair", 4)]) (g := gName 4) (by rfl) sc_Part___init__.nd (pi_tup (pv 3)) (blkOk_by (N := N_Part___init__) (sc := defScope s_Part___init__) (by decide +kernel))
          (fun _ _ _ _ _ => pgn (i := 4) sc_Part___init__.nd) (fun _ _ _ _ _ => pts_one (PW.pt (pw_and (pt_cmp (pc_din hu (pe_ix (r := rIxT K) ix_tup (pv 4) pe_int (fun _ _ => rfl)) (pv 1))) (pw_and1 (pt_cmp (pc_din hu (pe_ix (r := rIxT K) ix_tup (pv 4) pe_int (fun _ _ => rfl)) (pv 2))))))) (fun _ _ _ _ _ => pv 4)) pa_nil)) rfl))), ?_⟩
    refine ⟨_, rfl, eq, tk (tr Es), Es, rfl, .inl hE, (by have := tk_keys (tr Es); rw [tr_keys] at this; exact this), by omega, fun ys p1 pm1 sr1 np1 => ?_⟩
    refine ⟨p1, _, rfl, .inl ⟨SqL.of upd_same, fun e1 ne1 => ?_⟩⟩
    have s1 := Same.new (same_new np1 (o := .lst (ys.map V.str))) ne1 (o := .tup (ys.map V.str))
    refine ⟨_, rfl, a, _, dx, _, rfl, s1 _ _ ha, T.cls_OverPart, T.no_OverPart_own_equations, by show 0 < 1000; decide, ?_⟩
    have b1 := (Same.but s1 [a]).put (p := a) (o := .ins (He.ga K "OverPart") dx (putF "own_equations" (.ref e1) [])) (by simp)
    have ea1 : e1 ≠ a := fun z => by rw [z, (same_new np1) _ _ ha] at ne1; cases ne1
    refine ⟨_, rfl, un, tk (tr Us), Us, rfl, .inl (DictAt.but hU b1 ha), (by have := tk_keys (tr Us); rw [tr_keys] at this; exact this), by omega, fun zs p2 pm2 sr2 np2 => ?_⟩
    refine ⟨p2, _, rfl, .inl ⟨SqL.of upd_same, fun u1 nu1 => ?_⟩⟩
    have k2 := Same.new (same_new np2 (o := .lst (zs.map V.str))) nu1 (o := .tup (zs.map V.str))
    have b2 := b1.trans (Same.but k2 [a])
    refine ⟨_, rfl, a, _, dx, _, rfl, k2 _ _ upd_same, T.cls_OverPart, T.no_OverPart_own_unknowns, by show 1 < 1000; decide, ?_⟩
    have b3 := b2.put (p := a) (o := .ins (He.ga K "OverPart") dx (putF "own_unknowns" (.ref u1) (putF "own_equations" (.ref e1) []))) (by simp)
    have ua1 : u1 ≠ a := fun z => by rw [z, (same_new np2) _ _ upd_same] at nu1; cases nu1
    have hE3 := DictAt.but hE b3 ha
    have hU3 := DictAt.but hU b3 ha
    have hP3 := hPs.but b3 ha
    refine ⟨_, rfl, en, rfl, ⟨_, hP3.at_⟩, fun D nD => ?_⟩
    have sD := same_new nD (o := .lst [])
    refine lc_it (walk_tup (xs := ads Ps)) (fun i H5 => Same _ H5 ∧ ∃ acc, H5 D = some (.lst acc) ∧ acc.length ≤ i) ⟨sD, [], upd_same, Nat.le_refl _⟩ (fun i H5 _ p => Same.tup p.1 hP3.at_) (fun i x H5 H6 hi p y => ?_) (fun H5 p => ?_)
    · obtain ⟨s5, acc, hacc, hal⟩ := p
      obtain ⟨rfl, hx⟩ := y
      have hle := hPs.len
      have hil : i < 600 := by
        have : (ads Ps).length = Ps.length := List.length_map ..
        omega
      obtain ⟨⟨⟨pe, pu⟩, pa'⟩, hq, rfl⟩ : ∃ q ∈ Ps, x = .ref q.2 := by
        have := List.mem_of_getElem? hx
        obtain ⟨q, h1, h2⟩ := List.mem_map.mp this
        exact ⟨q, h1, h2.symm⟩
      have hpr : SqT K H6 pa' [.str pe, .str pu] := Same.tup s5 (hP3.pr _ hq)
      refine ⟨rfl, _, rfl, pa', _, 0, .str pe, rfl, rfl, hpr, atI_nat (j := 0) rfl, _, rfl, eq, _, rfl, DictAt.get (s5 _ _ (hE3)) pe, _, rfl, ?_⟩
      rw [tr_get]
      by_cases hm : pe ∈ Es
      · rw [decide_eq_true hm]
        refine iteT ⟨_, rfl, pa', _, 1, .str pu, rfl, rfl, hpr, atI_nat (j := 1) rfl, _, rfl, un, _, rfl, DictAt.get (s5 _ _ (hU3)) pu, _, rfl, ?_⟩
        rw [tr_get]
        by_cases hm2 : pu ∈ Us
        · rw [decide_eq_true hm2]
          refine iteT ⟨_, rfl, acc, hacc, small1000 (by omega), ?_, acc ++ [.ref pa'], upd_same, by rw [List.length_append]; show acc.length + 1 ≤ i + 1; omega⟩
          exact Same.over s5 nD
        · rw [decide_eq_false hm2]
          exact iteF ⟨s5, acc, hacc, Nat.le_succ_of_le hal⟩
      · rw [decide_eq_false hm]
        exact iteF ⟨s5, acc, hacc, Nat.le_succ_of_le hal⟩
    · obtain ⟨s5, acc, hacc, hal⟩ := p
      refine ⟨D, acc, rfl, .inl ⟨SqL.of hacc, fun l1 nl1 => ?_⟩⟩
      have s6 := Same.new s5 nl1 (o := .tup acc)
      refine ⟨_, rfl, a, _, dx, _, rfl, s6 _ _ upd_same, T.cls_OverPart, T.no_OverPart_links, by show 2 < 1000; decide, ?_⟩
      have e3 : putF "links" (.ref l1) (putF "own_unknowns" (.ref u1) (putF "own_equations" (.ref e1) ([] : List (Str × V)))) = PartFs e1 u1 l1 := rfl
      rw [e3]
      have c3 := ((Same.but s6 [a]).put (p := a) (o := .ins (He.ga K "OverPart") dx (PartFs e1 u1 l1)) (by simp))
      refine q e1 u1 l1 _ (b3.trans c3) upd_same ⟨ys, ?_, pm1, sr1⟩ ⟨zs, ?_, pm2, sr2⟩
      · refine c3 _ _ ?_ (by simpa using ea1)
        rw [upd_ne ea1]
        exact k2 _ _ (by rw [upd_ne ea1, upd_same]; rfl)
      · refine c3 _ _ ?_ (by simpa using ua1)
        rw [upd_ne ua1, upd_same]
        rfl
end
section
variable {P : Program} {w : World} {K : Fg} {mg : Str → Option Value} {base : Heap}
def spUnderPart (K : Fg) : Sp := fun vs H Q _ => ∃ (a dx eq un en : Addr) (Es Us : List Str) (Ps : Prs), vs = [.ref a, .ref eq, .ref un, .ref en] ∧ H a = some (.ins (He.ga K "UnderPart") dx []) ∧ DictAt H eq (tr Es) ∧ DictAt H un (tr Us) ∧ PairsAt K H en Ps ∧ Es.length ≤ 24 ∧ Us.length ≤ 24 ∧
  ∀ (e u l : Addr) (H' : Hp), But [a] H H' → H' a = some (.ins (He.ga K "UnderPart") dx (PartFs e u l)) → SortT H' e Es → SortT H' u Us → Q .non H'
theorem ok_UnderPart_init (T : TX w K mg) : Ok P w K mg base 1 d_UnderPart___init__ ["self", "equations", "unknowns", "entries"] (spUnderPart K) := by
  refine mkOk T ix_UnderPart___init__ rfl rfl rfl sc_Part___init__ (fun _ _ _ _ _ _ us hl => match us, hl with | [_, _, _, _], _ => rfl) (fun vs H Q E h => ?_) (fun cdv A outer s0 H vs Q E hr h => ?_)
  · obtain ⟨a, dx, eq, un, en, Es, Us, Ps, rfl, _⟩ := h
    rfl
  · obtain ⟨a, dx, eq, un, en, Es, Us, Ps, rfl, ha, hE, hU, hPs, hEl, hUl, q⟩ := h
    have hu := hu_of hr
    refine ⟨_, pss_cons (ps_fld (pv 0) (pe_callTy call_tuple_of (by rfl) T.f_tuple PyProof.Rows.boot_tuple (pa_cons (pe_callB (call_sortedD rfl) (by rfl) T.f_sorted boot_sorted (pa_cons (pv 1) pa_nil)) pa_nil)) rfl)
      (pss_cons (ps_fld (pv 0) (pe_callTy call_tuple_of (by rfl) T.f_tuple PyProof.Rows.boot_tuple (pa_cons (pe_callB (call_sortedD rfl) (by rfl) T.f_sorted boot_sorted (pa_cons (pv 2) pa_nil)) pa_nil)) rfl)
      (pss_one (ps_fld (pv 0) (pe_callTy call_tuple_of (by rfl) T.f_tuple PyProof.Rows.boot_tuple (pa_cons
        (pe_lc (own := [("pair", 4)]) (g := gName 4) (by rfl) sc_Part___init__.nd (pi_tup (pv 3)) (blkOk_by (N := N_Part___init__) (sc := defScope s_Part___init__) (by decide +kernel))
          (fun _ _ _ _ _ => pgn (i := 4) sc_Part___init__.nd) (fun _ _ _ _ _ => pts_one (PW.pt (pw_and (pt_cmp (pc_din hu (pe_ix (r := rIxT K) ix_tup (pv 4) pe_int (fun _ _ => rfl)) (pv 1))) (pw_and1 (pt_cmp (pc_din hu (pe_ix (r := rIxT K) ix_tup (pv 4) pe_int (fun _ _ => rfl)) (pv 2))))))) (fun _ _ _ _ _ => pv 4)) pa_nil)) rfl))), ?_⟩
    refine ⟨_, rfl, eq, tk (tr Es), Es, rfl, .inl hE, (by have := tk_keys (tr Es); rw [tr_keys] at this; exact this), by omega, fun ys p1 pm1 sr1 np1 => ?_⟩
    refine ⟨p1, _, rfl, .inl ⟨SqL.of upd_same, fun e1 ne1 => ?_⟩⟩
    have s1 := Same.new (same_new np1 (o := .lst (ys.map V.str))) ne1 (o := .tup (ys.map V.str))
    refine ⟨_, rfl, a, _, dx, _, rfl, s1 _ _ ha, T.cls_UnderPart, T.no_UnderPart_own_equations, by show 0 < 1000; decide, ?_⟩
    have b1 := (Same.but s1 [a]).put (p := a) (o := .ins (He.ga K "UnderPart") dx (putF "own_equations" (.ref e1) [])) (by simp)
    have ea1 : e1 ≠ a := fun z => by rw [z, (same_new np1) _ _ ha] at ne1; cases ne1
    refine ⟨_, rfl, un, tk (tr Us), Us, rfl, .inl (DictAt.but hU b1 ha), (by have := tk_keys (tr Us); rw [tr_keys] at this; exact this), by omega, fun zs p2 pm2 sr2 np2 => ?_⟩
    refine ⟨p2, _, rfl, .inl ⟨SqL.of upd_same, fun u1 nu1 => ?_⟩⟩
    have k2 := Same.new (same_new np2 (o := .lst (zs.map V.str))) nu1 (o := .tup (zs.map V.str))
    have b2 := b1.trans (Same.but k2 [a])
    refine ⟨_, rfl, a, _, dx, _, rfl, k2 _ _ upd_same, T.cls_UnderPart, T.no_UnderPart_own_unknowns, by show 1 < 1000; decide, ?_⟩
    have b3 := b2.put (p := a) (o := .ins (He.ga K "UnderPart") dx (putF "own_unknowns" (.ref u1) (putF "own_equations" (.ref e1) []))) (by simp)
    have ua1 : u1 ≠ a := fun z => by rw [z, (same_new np2) _ _ upd_same] at nu1; cases nu1
    have hE3 := DictAt.but hE b3 ha
    have hU3 := DictAt.but hU b3 ha
    have hP3 := hPs.but b3 ha
    refine ⟨_, rfl, en, rfl, ⟨_, hP3.at_⟩, fun D nD => ?_⟩
    have sD := same_new nD (o := .lst [])
    refine lc_it (walk_tup (xs := ads Ps)) (fun i H5 => Same _ H5 ∧ ∃ acc, H5 D = some (.lst acc) ∧ acc.length ≤ i) ⟨sD, [], upd_same, Nat.le_refl _⟩ (fun i H5 _ p => Same.tup p.1 hP3.at_) (fun i x H5 H6 hi p y => ?_) (fun H5 p => ?_)
    · obtain ⟨s5, acc, hacc, hal⟩ := p
      obtain ⟨rfl, hx⟩ := y
      have hle := hPs.len
      have hil : i < 600 := by
        have : (ads Ps).length = Ps.length := List.length_map ..
        omega
      obtain ⟨⟨⟨pe, pu⟩, pa'⟩, hq, rfl⟩ : ∃ q ∈ Ps, x = .ref q.2 := by
        have := List.mem_of_getElem? hx
        obtain ⟨q, h1, h2⟩ := List.mem_map.mp this
        exact ⟨q, h1, h2.symm⟩
      have hpr : SqT K H6 pa' [.str pe, .str pu] := Same.tup s5 (hP3.pr _ hq)
      refine ⟨rfl, _, rfl, pa', _, 0, .str pe, rfl, rfl, hpr, atI_nat (j := 0) rfl, _, rfl, eq, _, rfl, DictAt.get (s5 _ _ (hE3)) pe, _, rfl, ?_⟩
      rw [tr_get]
      by_cases hm : pe ∈ Es
      · rw [decide_eq_true hm]
        refine iteT ⟨_, rfl, pa', _, 1, .str pu, rfl, rfl, hpr, atI_nat (j := 1) rfl, _, rfl, un, _, rfl, DictAt.get (s5 _ _ (hU3)) pu, _, rfl, ?_⟩
        rw [tr_get]
        by_cases hm2 : pu ∈ Us
        · rw [decide_eq_true hm2]
          refine iteT ⟨_, rfl, acc, hacc, small1000 (by omega), ?_, acc ++ [.ref pa'], upd_same, by rw [List.length_append]; show acc.length + 1 ≤ i + 1; omega⟩
          exact Same.over s5 nD
        · rw [decide_eq_false hm2]
          exact iteF ⟨s5, acc, hacc, Nat.le_succ_of_le hal⟩
      · rw [decide_eq_false hm]
        exact iteF ⟨s5, acc, hacc, Nat.le_succ_of_le hal⟩
    · obtain ⟨s5, acc, hacc, hal⟩ := p
      refine ⟨D, acc, rfl, .inl ⟨SqL.of hacc, fun l1 nl1 => ?_⟩⟩
      have s6 := Same.new s5 nl1 (o := .tup acc)
      refine ⟨_, rfl, a, _, dx, _, rfl, s6 _ _ upd_same, T.cls_UnderPart, T.no_UnderPart_links, by show 2 < 1000; decide, ?_⟩
      have e3 : putF "links" (.ref l1) (putF "own_unknowns" (.ref u1) (putF "own_equations" (.ref e1) ([] : List (Str × V)))) = PartFs e1 u1 l1 := rfl
      rw [e3]
      have c3 := ((Same.but s6 [a]).put (p := a) (o := .ins (He.ga K "UnderPart") dx (PartFs e1 u1 l1)) (by simp))
      refine q e1 u1 l1 _ (b3.trans c3) upd_same ⟨ys, ?_, pm1, sr1⟩ ⟨zs, ?_, pm2, sr2⟩
      · refine c3 _ _ ?_ (by simpa using ea1)
        rw [upd_ne ea1]
        exact k2 _ _ (by rw [upd_ne ea1, upd_same]; rfl)
      · refine c3 _ _ ?_ (by simpa using ua1)
        rw [upd_ne ua1, upd_same]
        rfl
end
section
variable {P : Program} {w : World} {K : Fg} {mg : Str → Option Value} {base : Heap}
def spWellPart (K : Fg) : Sp := fun vs H Q _ => ∃ (a dx eq un en : Addr) (Es Us : List Str) (Ps : Prs), vs = [.ref a, .ref eq, .ref un, .ref en] ∧ H a = some (.ins (He.ga K "WellPart") dx []) ∧ DictAt H eq (tr Es) ∧ SqL K H un (txs Us) ∧ PairsAt K H en Ps ∧ Es.length ≤ 24 ∧ Us.length ≤ 24 ∧
  ∀ (e u l : Addr) (H' : Hp), But [a] H H' → H' a = some (.ins (He.ga K "WellPart") dx (PartFs e u l)) → SortT H' e Es → SortT H' u Us → Q .non H'
theorem ok_WellPart_init (T : TX w K mg) : Ok P w K mg base 1 d_WellPart___init__ ["self", "equations", "unknowns", "entries"] (spWellPart K) := by
  refine mkOk T ix_WellPart___init__ rfl rfl rfl sc_Part___init__ (fun _ _ _ _ _ _ us hl => match us, hl with | [_, _, _, _], _ => rfl) (fun vs H Q E h => ?_) (fun cdv A outer s0 H vs Q E hr h => ?_)
  · obtain ⟨a, dx, eq, un, en, Es, Us, Ps, rfl, _⟩ := h
    rfl
  · obtain ⟨a, dx, eq, un, en, Es, Us, Ps, rfl, ha, hE, hU, hPs, hEl, hUl, q⟩ := h
    have hu := hu_of hr
    refine ⟨_, pss_cons (ps_fld (pv 0) (pe_callTy call_tuple_of (by rfl) T.f_tuple PyProof.Rows.boot_tuple (pa_cons (pe_callB (call_sortedD rfl) (by rfl) T.f_sorted boot_sorted (pa_cons (pv 1) pa_nil)) pa_nil)) rfl)
      (pss_cons (ps_fld (pv 0) (pe_callTy call_tuple_of (by rfl) T.f_tuple PyProof.Rows.boot_tuple (pa_cons (pe_callB cr_sortedS (by rfl) T.f_sorted boot_sorted (pa_cons (pv 2) pa_nil)) pa_nil)) rfl)
      (pss_one (ps_fld (pv 0) (pe_callTy call_tuple_of (by rfl) T.f_tuple PyProof.Rows.boot_tuple (pa_cons
        (pe_lc (own := [("pair", 4)]) (g := gName 4) (by rfl) sc_Part___init__.nd (pi_tup (pv 3)) (blkOk_by (N := N_Part___init__) (sc := defScope s_Part___init__) (by decide +kernel))
          (fun _ _ _ _ _ => pgn (i := 4) sc_Part___init__.nd) (fun _ _ _ _ _ => pts_one (PW.pt (pw_and (pt_cmp (pc_din hu (pe_ix (r := rIxT K) ix_tup (pv 4) pe_int (fun _ _ => rfl)) (pv 1))) (pw_and1 (pt_cmpR (r := rIn K false) op_in_seq (pe_ix (r := rIxT K) ix_tup (pv 4) pe_int (fun _ _ => rfl)) (pv 2) rfl))))) (fun _ _ _ _ _ => pv 4)) pa_nil)) rfl))), ?_⟩
    refine ⟨_, rfl, eq, tk (tr Es), Es, rfl, .inl hE, (by have := tk_keys (tr Es); rw [tr_keys] at this; exact this), by omega, fun ys p1 pm1 sr1 np1 => ?_⟩
    refine ⟨p1, _, rfl, .inl ⟨SqL.of upd_same, fun e1 ne1 => ?_⟩⟩
    have s1 := Same.new (same_new np1 (o := .lst (ys.map V.str))) ne1 (o := .tup (ys.map V.str))
    refine ⟨_, rfl, a, _, dx, _, rfl, s1 _ _ ha, T.cls_WellPart, T.no_WellPart_own_equations, by show 0 < 1000; decide, ?_⟩
    have b1 := (Same.but s1 [a]).put (p := a) (o := .ins (He.ga K "WellPart") dx (putF "own_equations" (.ref e1) [])) (by simp)
    have ea1 : e1 ≠ a := fun z => by rw [z, (same_new np1) _ _ ha] at ne1; cases ne1
    refine ⟨_, rfl, un, Us, rfl, (SqL.but hU b1 ha), by omega, fun zs p2 pm2 sr2 np2 => ?_⟩
    refine ⟨p2, _, rfl, .inl ⟨SqL.of upd_same, fun u1 nu1 => ?_⟩⟩
    have k2 := Same.new (same_new np2 (o := .lst (zs.map V.str))) nu1 (o := .tup (zs.map V.str))
    have b2 := b1.trans (Same.but k2 [a])
    refine ⟨_, rfl, a, _, dx, _, rfl, k2 _ _ upd_same, T.cls_WellPart, T.no_WellPart_own_unknowns, by show 1 < 1000; decide, ?_⟩
    have b3 := b2.put (p := a) (o := .ins (He.ga K "WellPart") dx (putF "own_unknowns" (.ref u1) (putF "own_equations" (.ref e1) []))) (by simp)
    have ua1 : u1 ≠ a := fun z => by rw [z, (same_new np2) _ _ upd_same] at nu1; cases nu1
    have hE3 := DictAt.but hE b3 ha
    have hU3 := SqL.but hU b3 ha
    have hP3 := hPs.but b3 ha
    refine ⟨_, rfl, en, rfl, ⟨_, hP3.at_⟩, fun D nD => ?_⟩
    have sD := same_new nD (o := .lst [])
    refine lc_it (walk_tup (xs := ads Ps)) (fun i H5 => Same _ H5 ∧ ∃ acc, H5 D = some (.lst acc) ∧ acc.length ≤ i) ⟨sD, [], upd_same, Nat.le_refl _⟩ (fun i H5 _ p => Same.tup p.1 hP3.at_) (fun i x H5 H6 hi p y => ?_) (fun H5 p => ?_)
    · obtain ⟨s5, acc, hacc, hal⟩ := p
      obtain ⟨rfl, hx⟩ := y
      have hle := hPs.len
      have hil : i < 600 := by
        have : (ads Ps).length = Ps.length := List.length_map ..
        omega
      obtain ⟨⟨⟨pe, pu⟩, pa'⟩, hq, rfl⟩ : ∃ q ∈ Ps, x = .ref q.2 := by
        have := List.mem_of_getElem? hx
        obtain ⟨q, h1, h2⟩ := List.mem_map.mp this
        exact ⟨q, h1, h2.symm⟩
      have hpr : SqT K H6 pa' [.str pe, .str pu] := Same.tup s5 (hP3.pr _ hq)
      refine ⟨rfl, _, rfl, pa', _, 0, .str pe, rfl, rfl, hpr, atI_nat (j := 0) rfl, _, rfl, eq, _, rfl, DictAt.get (s5 _ _ (hE3)) pe, _, rfl, ?_⟩
      rw [tr_get]
      by_cases hm : pe ∈ Es
      · rw [decide_eq_true hm]
        refine iteT ⟨_, rfl, pa', _, 1, .str pu, rfl, rfl, hpr, atI_nat (j := 1) rfl, _, rfl, un, _, rfl, .inl (Same.seq s5 (hU3)), rfl, txs_flat _, _, rfl, ?_⟩
        rw [inV_txs]
        by_cases hm2 : pu ∈ Us
        · rw [decide_eq_true hm2]
          refine iteT ⟨_, rfl, acc, hacc, small1000 (by omega), ?_, acc ++ [.ref pa'], upd_same, by rw [List.length_append]; show acc.length + 1 ≤ i + 1; omega⟩
          exact Same.over s5 nD
        · rw [decide_eq_false hm2]
          exact iteF ⟨s5, acc, hacc, Nat.le_succ_of_le hal⟩
      · rw [decide_eq_false hm]
        exact iteF ⟨s5, acc, hacc, Nat.le_succ_of_le hal⟩
    · obtain ⟨s5, acc, hacc, hal⟩ := p
      refine ⟨D, acc, rfl, .inl ⟨SqL.of hacc, fun l1 nl1 => ?_⟩⟩
      have s6 := Same.new s5 nl1 (o := .tup acc)
      refine ⟨_, rfl, a, _, dx, _, rfl, s6 _ _ upd_same, T.cls_WellPart, T.no_WellPart_links, by show 2 < 1000; decide, ?_⟩
      have e3 : putF "links" (.ref l1) (putF "own_unknowns" (.ref u1) (putF "own_equations" (.ref e1) ([] : List (Str × V)))) = PartFs e1 u1 l1 := rfl
      rw [e3]
      have c3 := ((Same.but s6 [a]).put (p := a) (o := .ins (He.ga K "WellPart") dx (PartFs e1 u1 l1)) (by simp))
      refine q e1 u1 l1 _ (b3.trans c3) upd_same ⟨ys, ?_, pm1, sr1⟩ ⟨zs, ?_, pm2, sr2⟩
      · refine c3 _ _ ?_ (by simpa using ea1)
        rw [upd_ne ea1]
        exact k2 _ _ (by rw [upd_ne ea1, upd_same]; rfl)
      · refine c3 _ _ ?_ (by simpa using ua1)
        rw [upd_ne ua1, upd_same]
        rfl
end
section
variable {P : Program} {w : World} {K : Fg} {mg : Str → Option Value} {base : Heap}
def spPart (K : Fg) : Sp := fun vs H Q _ => ∃ (a dx eq un en : Addr) (Es Us : List Str) (Ps : Prs), vs = [.ref a, .ref eq, .ref un, .ref en] ∧ H a = some (.ins (He.ga K "Block") dx []) ∧ SqT K H eq (txs Es) ∧ SqL K H un (txs Us) ∧ PairsAt K H en Ps ∧ Es.length ≤ 24 ∧ Us.length ≤ 24 ∧
  ∀ (e u l : Addr) (H' : Hp), But [a] H H' → H' a = some (.ins (He.ga K "Block") dx (PartFs e u l)) → SortT H' e Es → SortT H' u Us → Q .non H'
theorem ok_Part_init (T : TX w K mg) : Ok P w K mg base 1 d_Part___init__ ["self", "equations", "unknowns", "entries"] (spPart K) := by
  refine mkOk T ix_Part___init__ rfl rfl rfl sc_Part___init__ (fun _ _ _ _ _ _ us hl => match us, hl with | [_, _, _, _], _ => rfl) (fun vs H Q E h => ?_) (fun cdv A outer s0 H vs Q E hr h => ?_)
  · obtain ⟨a, dx, eq, un, en, Es, Us, Ps, rfl, _⟩ := h
    rfl
  · obtain ⟨a, dx, eq, un, en, Es, Us, Ps, rfl, ha, hE, hU, hPs, hEl, hUl, q⟩ := h
    have hu := hu_of hr
    refine ⟨_, pss_cons (ps_fld (pv 0) (pe_callTy call_tuple_of (by rfl) T.f_tuple PyProof.Rows.boot_tuple (pa_cons (pe_callB call_sortedT (by rfl) T.f_sorted boot_sorted (pa_cons (pv 1) pa_nil)) pa_nil)) rfl)
      (pss_cons (ps_fld (pv 0) (pe_callTy call_tuple_of (by rfl) T.f_tuple PyProof.Rows.boot_tuple (pa_cons (pe_callB cr_sortedS (by rfl) T.f_sorted boot_sorted (pa_cons (pv 2) pa_nil)) pa_nil)) rfl)
      (pss_one (ps_fld (pv 0) (pe_callTy call_tuple_of (by rfl) T.f_tuple PyProof.Rows.boot_tuple (pa_cons
        (pe_lc (own := [("pair", 4)]) (g := gName 4) (by rfl) sc_Part___init__.nd (pi_tup (pv 3)) (blkOk_by (N := N_Part___init__) (sc := defScope s_Part___init__) (by decide +kernel))
          (fun _ _ _ _ _ => pgn (i := 4) sc_Part___init__.nd) (fun _ _ _ _ _ => pts_one (PW.pt (pw_and (pt_cmpR (r := rIn K false) op_in_seq (pe_ix (r := rIxT K) ix_tup (pv 4) pe_int (fun _ _ => rfl)) (pv 1) rfl) (pw_and1 (pt_cmpR (r := rIn K false) op_in_seq (pe_ix (r := rIxT K) ix_tup (pv 4) pe_int (fun _ _ => rfl)) (pv 2) rfl))))) (fun _ _ _ _ _ => pv 4)) pa_nil)) rfl))), ?_⟩
    refine ⟨_, rfl, eq, Es, rfl, hE, by omega, fun ys p1 pm1 sr1 np1 => ?_⟩
    refine ⟨p1, _, rfl, .inl ⟨SqL.of upd_same, fun e1 ne1 => ?_⟩⟩
    have s1 := Same.new (same_new np1 (o := .lst (ys.map V.str))) ne1 (o := .tup (ys.map V.str))
    refine ⟨_, rfl, a, _, dx, _, rfl, s1 _ _ ha, T.cls_Block, T.no_Block_own_equations, by show 0 < 1000; decide, ?_⟩
    have b1 := (Same.but s1 [a]).put (p := a) (o := .ins (He.ga K "Block") dx (putF "own_equations" (.ref e1) [])) (by simp)
    have ea1 : e1 ≠ a := fun z => by rw [z, (same_new np1) _ _ ha] at ne1; cases ne1
    refine ⟨_, rfl, un, Us, rfl, (SqL.but hU b1 ha), by omega, fun zs p2 pm2 sr2 np2 => ?_⟩
    refine ⟨p2, _, rfl, .inl ⟨SqL.of upd_same, fun u1 nu1 => ?_⟩⟩
    have k2 := Same.new (same_new np2 (o := .lst (zs.map V.str))) nu1 (o := .tup (zs.map V.str))
    have b2 := b1.trans (Same.but k2 [a])
    refine ⟨_, rfl, a, _, dx, _, rfl, k2 _ _ upd_same, T.cls_Block, T.no_Block_own_unknowns, by show 1 < 1000; decide, ?_⟩
    have b3 := b2.put (p := a) (o := .ins (He.ga K "Block") dx (putF "own_unknowns" (.ref u1) (putF "own_equations" (.ref e1) []))) (by simp)
    have ua1 : u1 ≠ a := fun z => by rw [z, (same_new np2) _ _ upd_same] at nu1; cases nu1
    have hE3 := SqT.but hE b3 ha
    have hU3 := SqL.but hU b3 ha
    have hP3 := hPs.but b3 ha
    refine ⟨_, rfl, en, rfl, ⟨_, hP3.at_⟩, fun D nD => ?_⟩
    have sD := same_new nD (o := .lst [])
    refine lc_it (walk_tup (xs := ads Ps)) (fun i H5 => Same _ H5 ∧ ∃ acc, H5 D = some (.lst acc) ∧ acc.length ≤ i) ⟨sD, [], upd_same, Nat.le_refl _⟩ (fun i H5 _ p => Same.tup p.1 hP3.at_) (fun i x H5 H6 hi p y => ?_) (fun H5 p => ?_)
    · obtain ⟨s5, acc, hacc, hal⟩ := p
      obtain ⟨rfl, hx⟩ := y
      have hle := hPs.len
      have hil : i < 600 := by
        have : (ads Ps).length = Ps.length := List.length_map ..
        omega
      obtain ⟨⟨⟨pe, pu⟩, pa'⟩, hq, rfl⟩ : ∃ q ∈ Ps, x = .ref q.2 := by
        have := List.mem_of_getElem? hx
        obtain ⟨q, h1, h2⟩ := List.mem_map.mp this
        exact ⟨q, h1, h2.symm⟩
      have hpr : SqT K H6 pa' [.str pe, .str pu] := Same.tup s5 (hP3.pr _ hq)
      refine ⟨rfl, _, rfl, pa', _, 0, .str pe, rfl, rfl, hpr, atI_nat (j := 0) rfl, _, rfl, eq, _, rfl, .inr (Same.tup s5 (hE3)), rfl, txs_flat _, _, rfl, ?_⟩
      rw [inV_txs]
      by_cases hm : pe ∈ Es
      · rw [decide_eq_true hm]
        refine iteT ⟨_, rfl, pa', _, 1, .str pu, rfl, rfl, hpr, atI_nat (j := 1) rfl, _, rfl, un, _, rfl, .inl (Same.seq s5 (hU3)), rfl, txs_flat _, _, rfl, ?_⟩
        rw [inV_txs]
        by_cases hm2 : pu ∈ Us
        · rw [decide_eq_true hm2]
          refine iteT ⟨_, rfl, acc, hacc, small1000 (by omega), ?_, acc ++ [.ref pa'], upd_same, by rw [List.length_append]; show acc.length + 1 ≤ i + 1; omega⟩
          exact Same.over s5 nD
        · rw [decide_eq_false hm2]
          exact iteF ⟨s5, acc, hacc, Nat.le_succ_of_le hal⟩
      · rw [decide_eq_false hm]
        exact iteF ⟨s5, acc, hacc, Nat.le_succ_of_le hal⟩
    · obtain ⟨s5, acc, hacc, hal⟩ := p
      refine ⟨D, acc, rfl, .inl ⟨SqL.of hacc, fun l1 nl1 => ?_⟩⟩
      have s6 := Same.new s5 nl1 (o := .tup acc)
      refine ⟨_, rfl, a, _, dx, _, rfl, s6 _ _ upd_same, T.cls_Block, T.no_Block_links, by show 2 < 1000; decide, ?_⟩
      have e3 : putF "links" (.ref l1) (putF "own_unknowns" (.ref u1) (putF "own_equations" (.ref e1) ([] : List (Str × V)))) = PartFs e1 u1 l1 := rfl
      rw [e3]
      have c3 := ((Same.but s6 [a]).put (p := a) (o := .ins (He.ga K "Block") dx (PartFs e1 u1 l1)) (by simp))
      refine q e1 u1 l1 _ (b3.trans c3) upd_same ⟨ys, ?_, pm1, sr1⟩ ⟨zs, ?_, pm2, sr2⟩
      · refine c3 _ _ ?_ (by simpa using ea1)
        rw [upd_ne ea1]
        exact k2 _ _ (by rw [upd_ne ea1, upd_same]; rfl)
      · refine c3 _ _ ?_ (by simpa using ua1)
        rw [upd_ne ua1, upd_same]
        rfl
end
end Bo

/-! P2 -/
set_option Elab.async false
set_option linter.all false
set_option maxRecDepth 100000
set_option maxHeartbeats 1000000
namespace Bo
open PySem PySem.Spec PyProof.Rows L2
section
variable {P : Program} {w : World} {K : Fg} {mg : Str → Option Value} {base : Heap}
theorem ok_Block_equations (T : TX w K mg) : Ok P w K mg base 1 d_Block_equations ["self"] (getSp (He.ga K "Block") "own_equations") := by
  refine mkOk T ix_Block_equations rfl rfl rfl sc_Part_equations (fun _ _ _ _ _ _ us hl => match us, hl with | [_], _ => rfl) (fun vs H Q E h => ?_) (fun cdv A outer s0 H vs Q E hr h => ?_)
  · obtain ⟨a, dx, fs, v, rfl, _⟩ := h
    rfl
  · obtain ⟨a, dx, fs, v, rfl, ha, hl, q⟩ := h
    exact ⟨_, pss_one (ps_ret (pe_fld (pv 0) rfl)), _, rfl, a, _, dx, fs, v, rfl, ha, T.cls_Block, T.no_Block_own_equations, hl, q⟩
theorem ok_Block_unknowns (T : TX w K mg) : Ok P w K mg base 1 d_Block_unknowns ["self"] (getSp (He.ga K "Block") "own_unknowns") := by
  refine mkOk T ix_Block_unknowns rfl rfl rfl sc_Part_unknowns (fun _ _ _ _ _ _ us hl => match us, hl with | [_], _ => rfl) (fun vs H Q E h => ?_) (fun cdv A outer s0 H vs Q E hr h => ?_)
  · obtain ⟨a, dx, fs, v, rfl, _⟩ := h
    rfl
  · obtain ⟨a, dx, fs, v, rfl, ha, hl, q⟩ := h
    exact ⟨_, pss_one (ps_ret (pe_fld (pv 0) rfl)), _, rfl, a, _, dx, fs, v, rfl, ha, T.cls_Block, T.no_Block_own_unknowns, hl, q⟩
theorem ok_OverPart_equations (T : TX w K mg) : Ok P w K mg base 1 d_OverPart_equations ["self"] (getSp (He.ga K "OverPart") "own_equations") := by
  refine mkOk T ix_OverPart_equations rfl rfl rfl sc_Part_equations (fun _ _ _ _ _ _ us hl => match us, hl with | [_], _ => rfl) (fun vs H Q E h => ?_) (fun cdv A outer s0 H vs Q E hr h => ?_)
  · obtain ⟨a, dx, fs, v, rfl, _⟩ := h
    rfl
  · obtain ⟨a, dx, fs, v, rfl, ha, hl, q⟩ := h
    exact ⟨_, pss_one (ps_ret (pe_fld (pv 0) rfl)), _, rfl, a, _, dx, fs, v, rfl, ha, T.cls_OverPart, T.no_OverPart_own_equations, hl, q⟩
theorem ok_OverPart_unknowns (T : TX w K mg) : Ok P w K mg base 1 d_OverPart_unknowns ["self"] (getSp (He.ga K "OverPart") "own_unknowns") := by
  refine mkOk T ix_OverPart_unknowns rfl rfl rfl sc_Part_unknowns (fun _ _ _ _ _ _ us hl => match us, hl with | [_], _ => rfl) (fun vs H Q E h => ?_) (fun cdv A outer s0 H vs Q E hr h => ?_)
  · obtain ⟨a, dx, fs, v, rfl, _⟩ := h
    rfl
  · obtain ⟨a, dx, fs, v, rfl, ha, hl, q⟩ := h
    exact ⟨_, pss_one (ps_ret (pe_fld (pv 0) rfl)), _, rfl, a, _, dx, fs, v, rfl, ha, T.cls_OverPart, T.no_OverPart_own_unknowns, hl, q⟩
theorem ok_UnderPart_equations (T : TX w K mg) : Ok P w K mg base 1 d_UnderPart_equations ["self"] (getSp (He.ga K "UnderPart") "own_equations") := by
  refine mkOk T ix_UnderPart_equations rfl rfl rfl sc_Part_equations (fun _ _ _ _ _ _ us hl => match us, hl with | [_], _ => rfl) (fun vs H Q E h => ?_) (fun cdv A outer s0 H vs Q E hr h => ?_)
  · obtain ⟨a, dx, fs, v, rfl, _⟩ := h
    rfl
  · obtain ⟨a, dx, fs, v, rfl, ha, hl, q⟩ := h
    exact ⟨_, pss_one (ps_ret (pe_fld (pv 0) rfl)), _, rfl, a, _, dx, fs, v, rfl, ha, T.cls_UnderPart, T.no_UnderPart_own_equations, hl, q⟩
theorem ok_UnderPart_unknowns (T : TX w K mg) : Ok P w K mg base 1 d_UnderPart_unknowns ["self"] (getSp (He.ga K "UnderPart") "own_unknowns") := by
  refine mkOk T ix_UnderPart_unknowns rfl rfl rfl sc_Part_unknowns (fun _ _ _ _ _ _ us hl => match us, hl with | [_], _ => rfl) (fun vs H Q E h => ?_) (fun cdv A outer s0 H vs Q E hr h => ?_)
  · obtain ⟨a, dx, fs, v, rfl, _⟩ := h
    rfl
  · obtain ⟨a, dx, fs, v, rfl, ha, hl, q⟩ := h
    exact ⟨_, pss_one (ps_ret (pe_fld (pv 0) rfl)), _, rfl, a, _, dx, fs, v, rfl, ha, T.cls_UnderPart, T.no_UnderPart_own_unknowns, hl, q⟩
theorem ok_WellPart_equations (T : TX w K mg) : Ok P w K mg base 1 d_WellPart_equations ["self"] (getSp (He.ga K "WellPart") "own_equations") := by
  refine mkOk T ix_WellPart_equations rfl rfl rfl sc_Part_equations (fun _ _ _ _ _ _ us hl => match us, hl with | [_], _ => rfl) (fun vs H Q E h => ?_) (fun cdv A outer s0 H vs Q E hr h => ?_)
  · obtain ⟨a, dx, fs, v, rfl, _⟩ := h
    rfl
  · obtain ⟨a, dx, fs, v, rfl, ha, hl, q⟩ := h
    exact ⟨_, pss_one (ps_ret (pe_fld (pv 0) rfl)), _, rfl, a, _, dx, fs, v, rfl, ha, T.cls_WellPart, T.no_WellPart_own_equations, hl, q⟩
theorem ok_Block_place (T : TX w K mg) : Ok P w K mg base 1 d_Block_place ["self"] (getSp (He.ga K "Block") "own_place") := by
  refine mkOk T ix_Block_place rfl rfl rfl sc_Block_place (fun _ _ _ _ _ _ us hl => match us, hl with | [_], _ => rfl) (fun vs H Q E h => ?_) (fun cdv A outer s0 H vs Q E hr h => ?_)
  · obtain ⟨a, dx, fs, v, rfl, _⟩ := h
    rfl
  · obtain ⟨a, dx, fs, v, rfl, ha, hl, q⟩ := h
    exact ⟨_, pss_one (ps_ret (pe_fld (pv 0) rfl)), _, rfl, a, _, dx, fs, v, rfl, ha, T.cls_Block, T.no_Block_own_place, hl, q⟩
theorem ok_Block_needs (T : TX w K mg) : Ok P w K mg base 1 d_Block_needs ["self"] (getSp (He.ga K "Block") "own_needs") := by
  refine mkOk T ix_Block_needs rfl rfl rfl sc_Block_needs (fun _ _ _ _ _ _ us hl => match us, hl with | [_], _ => rfl) (fun vs H Q E h => ?_) (fun cdv A outer s0 H vs Q E hr h => ?_)
  · obtain ⟨a, dx, fs, v, rfl, _⟩ := h
    rfl
  · obtain ⟨a, dx, fs, v, rfl, ha, hl, q⟩ := h
    exact ⟨_, pss_one (ps_ret (pe_fld (pv 0) rfl)), _, rfl, a, _, dx, fs, v, rfl, ha, T.cls_Block, T.no_Block_own_needs, hl, q⟩
theorem ok_Structure_unknowns (T : TX w K mg) : Ok P w K mg base 1 d_Structure_unknowns ["self"] (getSp (He.ga K "Structure") "all_unknowns") := by
  refine mkOk T ix_Structure_unknowns rfl rfl rfl sc_Structure_unknowns (fun _ _ _ _ _ _ us hl => match us, hl with | [_], _ => rfl) (fun vs H Q E h => ?_) (fun cdv A outer s0 H vs Q E hr h => ?_)
  · obtain ⟨a, dx, fs, v, rfl, _⟩ := h
    rfl
  · obtain ⟨a, dx, fs, v, rfl, ha, hl, q⟩ := h
    exact ⟨_, pss_one (ps_ret (pe_fld (pv 0) rfl)), _, rfl, a, _, dx, fs, v, rfl, ha, T.cls_Structure, T.no_Structure_all_unknowns, hl, q⟩
theorem ok_Structure_over (T : TX w K mg) : Ok P w K mg base 1 d_Structure_over ["self"] (getSp (He.ga K "Structure") "over_part") := by
  refine mkOk T ix_Structure_over rfl rfl rfl sc_Structure_over (fun _ _ _ _ _ _ us hl => match us, hl with | [_], _ => rfl) (fun vs H Q E h => ?_) (fun cdv A outer s0 H vs Q E hr h => ?_)
  · obtain ⟨a, dx, fs, v, rfl, _⟩ := h
    rfl
  · obtain ⟨a, dx, fs, v, rfl, ha, hl, q⟩ := h
    exact ⟨_, pss_one (ps_ret (pe_fld (pv 0) rfl)), _, rfl, a, _, dx, fs, v, rfl, ha, T.cls_Structure, T.no_Structure_over_part, hl, q⟩
theorem ok_Structure_under (T : TX w K mg) : Ok P w K mg base 1 d_Structure_under ["self"] (getSp (He.ga K "Structure") "under_part") := by
  refine mkOk T ix_Structure_under rfl rfl rfl sc_Structure_under (fun _ _ _ _ _ _ us hl => match us, hl with | [_], _ => rfl) (fun vs H Q E h => ?_) (fun cdv A outer s0 H vs Q E hr h => ?_)
  · obtain ⟨a, dx, fs, v, rfl, _⟩ := h
    rfl
  · obtain ⟨a, dx, fs, v, rfl, ha, hl, q⟩ := h
    exact ⟨_, pss_one (ps_ret (pe_fld (pv 0) rfl)), _, rfl, a, _, dx, fs, v, rfl, ha, T.cls_Structure, T.no_Structure_under_part, hl, q⟩
theorem ok_Structure_blocks (T : TX w K mg) : Ok P w K mg base 1 d_Structure_blocks ["self"] (getSp (He.ga K "Structure") "own_blocks") := by
  refine mkOk T ix_Structure_blocks rfl rfl rfl sc_Structure_blocks (fun _ _ _ _ _ _ us hl => match us, hl with | [_], _ => rfl) (fun vs H Q E h => ?_) (fun cdv A outer s0 H vs Q E hr h => ?_)
  · obtain ⟨a, dx, fs, v, rfl, _⟩ := h
    rfl
  · obtain ⟨a, dx, fs, v, rfl, ha, hl, q⟩ := h
    exact ⟨_, pss_one (ps_ret (pe_fld (pv 0) rfl)), _, rfl, a, _, dx, fs, v, rfl, ha, T.cls_Structure, T.no_Structure_own_blocks, hl, q⟩
def spSurplus (K : Fg) (C : Str) : Sp := fun vs H Q _ => ∃ (a dx e u l : Addr) (xs ys : List V), vs = [.ref a] ∧ H a = some (.ins (He.ga K C) dx (PartFs e u l)) ∧ SqT K H e xs ∧ SqT K H u ys ∧ Q (.int ((xs.length : Int) - (ys.length : Int))) H
theorem ok_OverPart_surplus (T : TX w K mg) : Ok P w K mg base 1 d_OverPart_surplus ["self"] (spSurplus K "OverPart") := by
  refine mkOk T ix_OverPart_surplus rfl rfl rfl sc_Part_surplus (fun _ _ _ _ _ _ us hl => match us, hl with | [_], _ => rfl) (fun vs H Q E h => ?_) (fun cdv A outer s0 H vs Q E hr h => ?_)
  · obtain ⟨a, dx, e, u, l, xs, ys, rfl, _⟩ := h
    rfl
  · obtain ⟨a, dx, e, u, l, xs, ys, rfl, ha, he, hu, q⟩ := h
    refine ⟨_, pss_one (ps_ret (pe_op op_sub (pe_callB call_len_seq (by rfl) T.f_len PySem.boot_len (pa_cons (pe_fld (pv 0) rfl) pa_nil)) (pe_callB call_len_seq (by rfl) T.f_len PySem.boot_len (pa_cons (pe_fld (pv 0) rfl) pa_nil)))), ?_⟩
    exact ⟨_, rfl, a, _, dx, _, _, rfl, ha, T.cls_OverPart, T.no_OverPart_own_equations, rfl, e, xs, rfl, .inr he, _, rfl, a, _, dx, _, _, rfl, ha, T.cls_OverPart, T.no_OverPart_own_unknowns, rfl, u, ys, rfl, .inr hu, _, _, rfl, rfl, q⟩
theorem ok_UnderPart_surplus (T : TX w K mg) : Ok P w K mg base 1 d_UnderPart_surplus ["self"] (spSurplus K "UnderPart") := by
  refine mkOk T ix_UnderPart_surplus rfl rfl rfl sc_Part_surplus (fun _ _ _ _ _ _ us hl => match us, hl with | [_], _ => rfl) (fun vs H Q E h => ?_) (fun cdv A outer s0 H vs Q E hr h => ?_)
  · obtain ⟨a, dx, e, u, l, xs, ys, rfl, _⟩ := h
    rfl
  · obtain ⟨a, dx, e, u, l, xs, ys, rfl, ha, he, hu, q⟩ := h
    refine ⟨_, pss_one (ps_ret (pe_op op_sub (pe_callB call_len_seq (by rfl) T.f_len PySem.boot_len (pa_cons (pe_fld (pv 0) rfl) pa_nil)) (pe_callB call_len_seq (by rfl) T.f_len PySem.boot_len (pa_cons (pe_fld (pv 0) rfl) pa_nil)))), ?_⟩
    exact ⟨_, rfl, a, _, dx, _, _, rfl, ha, T.cls_UnderPart, T.no_UnderPart_own_equations, rfl, e, xs, rfl, .inr he, _, rfl, a, _, dx, _, _, rfl, ha, T.cls_UnderPart, T.no_UnderPart_own_unknowns, rfl, u, ys, rfl, .inr hu, _, _, rfl, rfl, q⟩
def spRank (K : Fg) : Sp := fun vs H Q _ => ∃ (a dx g : Addr) (fs : List (Str × V)) (kvs : List (Key × V)), vs = [.ref a] ∧ H a = some (.ins (He.ga K "Structure") dx fs) ∧ fs.lookup ("given" : Str) = some (.ref g) ∧ H g = some (.dK kvs) ∧ Q (.int (kvs.length : Nat)) H
theorem ok_Structure_rank (T : TX w K mg) : Ok P w K mg base 1 d_Structure_rank ["self"] (spRank K) := by
  refine mkOk T ix_Structure_rank rfl rfl rfl sc_Structure_rank (fun _ _ _ _ _ _ us hl => match us, hl with | [_], _ => rfl) (fun vs H Q E h => ?_) (fun cdv A outer s0 H vs Q E hr h => ?_)
  · obtain ⟨a, dx, g, fs, kvs, rfl, _⟩ := h
    rfl
  · obtain ⟨a, dx, g, fs, kvs, rfl, ha, hl, hg, q⟩ := h
    refine ⟨_, pss_one (ps_ret (pe_callB call_lenD (by rfl) T.f_len PySem.boot_len (pa_cons (pe_fld (pv 0) rfl) pa_nil))), ?_⟩
    exact ⟨_, rfl, a, _, dx, fs, _, rfl, ha, T.cls_Structure, T.no_Structure_given, hl, g, kvs, rfl, hg, q⟩
def spSEqs (K : Fg) : Sp := fun vs H Q _ => ∃ (a dx r : Addr) (fs : List (Str × V)) (D : List (Str × V)), vs = [.ref a] ∧ H a = some (.ins (He.ga K "Structure") dx fs) ∧ fs.lookup ("rows" : Str) = some (.ref r) ∧ DictR H r D ∧ ∀ p, H p = none → Q (.ref p) (upd H p (.tup (txs (D.map (·.1)))))
theorem ok_Structure_equations (T : TX w K mg) : Ok P w K mg base 1 d_Structure_equations ["self"] (spSEqs K) := by
  refine mkOk T ix_Structure_equations rfl rfl rfl sc_Structure_equations (fun _ _ _ _ _ _ us hl => match us, hl with | [_], _ => rfl) (fun vs H Q E h => ?_) (fun cdv A outer s0 H vs Q E hr h => ?_)
  · obtain ⟨a, dx, r, fs, D, rfl, _⟩ := h
    rfl
  · obtain ⟨a, dx, r, fs, D, rfl, ha, hl, hD, q⟩ := h
    refine ⟨_, pss_one (ps_ret (pe_callTy (call_tupleD rfl) (by rfl) T.f_tuple PyProof.Rows.boot_tuple (pa_cons (pe_fld (pv 0) rfl) pa_nil))), ?_⟩
    refine ⟨_, rfl, a, _, dx, fs, _, rfl, ha, T.cls_Structure, T.no_Structure_rows, hl, r, tk D, rfl, hD, fun p np => ?_⟩
    have e : ((tk D).map fun kv => kV kv.1) = txs (D.map (·.1)) := by
      unfold tk txs
      rw [List.map_map, List.map_map]
      rfl
    rw [e]
    exact q p np
end
end Bo

/-! S7 -/
set_option Elab.async false
set_option linter.all false
set_option maxRecDepth 100000
set_option maxHeartbeats 2000000
/-! super().__init__(..) in a class's own __init__. -/
namespace Bo
open PySem PySem.Spec PyProof.Rows L2 NdefX
/-- what the program's file is; that no name super stands at its top -/
structure PX (P : Program) : Prop where
  file : ((P.main.file : Str) == mainFile) = true
  top : (P.main.scope.names.lookup ("super" : Str)).isSome = false
section
variable {P : Program} {w : World} {K : Fg} {mg : Str → Option Value} {base : Heap}
/-- the facts of a class that says super().__init__ -/
structure Sup (K : Fg) (C f2 f cc cda : Addr) : Prop where
  cell : ∃ cl cld csl, K.lookup cc = some ⟨cl, cld, .cell (some (.ref C)), csl⟩
  code : ∃ ccl cdd vs ccs t, K.lookup cda = some ⟨ccl, cdd, .fields vs, ccs⟩ ∧ vs[2]? = some (.str mainFile t)
  any : PySem.W.nsIn K PySem.cStatics "thirdparty.any" = some none
  mro : PySem.W.mroIn K C (.ref C) = some true
  next : PySem.W.ks_superIn K C C "__init__" = some (some (.ref f2))
  cls : ∃ cd, PySem.W.clsIn K C = some cd
  fn : PySem.W.isFn K (.ref f2) = true
theorem TX.sup (T : TX w K mg) : ∃ (oc : Value) (od : Option Addr) (kV doc pm : Value) (an : Option Addr) (ct : Value) (osl : Array (Option Value)) (cc cda : Addr),
    K.lookup (d_Block___init__.pth.ad K) = some ⟨oc, od, .func { PySem.W.fnOf d_Block___init__.name d_Block___init__.qual (defArgs d_Block___init__.st) (defBody d_Block___init__.st) (defScope d_Block___init__.st) .none kV doc pm an (.ref cda) ct with closure := [("__class__", cc)] }, osl⟩ ∧
    PySem.W.codeIn K (.ref cda) d_Block___init__.qual = true ∧ Sup K (He.ga K "Block") (He.ma K (He.ga K "Part") "__init__") (d_Block___init__.pth.ad K) cc cda ∧ PySem.W.keepIn K (.ref (d_Block___init__.pth.ad K)) = true := by
  obtain ⟨e1, e2⟩ := T.says.tell ix_Block___init__ (d := d_Block___init__)
  obtain ⟨kp, oc, od, dV, kV, doc, pm, an, cdv, ct, osl, cl, h1, h2, h3, h4, h5⟩ := DefA.raw e1 e2
  have hs : supB K "Block" "Part" mainFile = true := T.says.more 25 (b := fun K => supB K "Block" "Part" mainFile)
  unfold supB at hs
  obtain ⟨s1, s2⟩ := He.ba hs
  obtain ⟨s3, s4⟩ := He.ba s2
  obtain ⟨s5, s6⟩ := He.ba s4
  obtain ⟨s7, s8'⟩ := He.ba s6
  obtain ⟨s8, s9⟩ := He.ba s8'
  have h2' := h2
  have had : d_Block___init__.pth.ad K = He.ma K (He.ga K "Block") "__init__" := rfl
  rw [had] at h2'
  rw [h2'] at s1
  have hdV : dV = .none := by
    rcases h4 with ⟨_, e⟩ | ⟨e, _⟩
    · exact e
    · exact absurd rfl e
  subst hdV
  dsimp only at s1
  split at s1
  · rename_i n cc cd
    obtain ⟨c1, c2⟩ := He.ba s1
    have en : n = "__class__" := (List.cons.inj h1).1
    subst en
    exact ⟨oc, od, kV, doc, pm, an, ct, osl, cc, cd, h2, h3, ⟨cellB_ok c1, fileB_ok c2, He.eqO_ok s3, of_decide_eq_true s5, He.eqO_ok s7, Option.isSome_iff_exists.mp s8, s9⟩, kp⟩
  · cases s1
end
end Bo

/-! L1 -/
set_option Elab.async false
set_option linter.all false
set_option maxRecDepth 100000
set_option maxHeartbeats 1000000
namespace Bo
open PySem PySem.Spec PyProof.Rows L2
/-- a statement, then a statement: what stands between -/
theorem seq_mid {t u : TS} {D : Ends} {σ : L2.St} {H : Hp} (Pm : L2.St → Hp → Prop) (h1 : ∀ B : L2.St → Hp → Prop, (∀ σ H, Pm σ H → B σ H) → t { D with nx := B } σ H) (h2 : ∀ σ H, Pm σ H → u D σ H) : tSeq t u D σ H := h1 (u D) h2
/-- the tape's dict -/
def tapeD (c : Addr) (pl : Nat) (lf : Int) : List (Str × V) := [("cells", .ref c), ("place", .int pl), ("left", .int lf)]
structure TapeAt (K : Fg) (H : Hp) (t : Addr) (b : Nat) : Prop where
  ex : ∃ (c : Addr) (ns : List Int) (pl : Nat) (lf : Int), DictAt H t (tapeD c pl lf) ∧ SqL K H c (ns.map V.int) ∧ 0 < ns.length ∧ ns.length ≤ 1000 ∧ pl ≤ b ∧ 0 ≤ lf
theorem TapeAt.same {K : Fg} {H H' : Hp} {t : Addr} {b : Nat} (h : TapeAt K H t b) (s : Same H H') : TapeAt K H' t b := by
  obtain ⟨c, ns, pl, lf, h1, h2, h3⟩ := h.ex
  exact ⟨c, ns, pl, lf, s _ _ h1, s.seq h2, h3⟩
theorem TapeAt.mono {K : Fg} {H : Hp} {t : Addr} {a b : Nat} (h : TapeAt K H t a) (k : a ≤ b) : TapeAt K H t b := by
  obtain ⟨c, ns, pl, lf, h1, h2, h3, h4, h5, h6⟩ := h.ex
  exact ⟨c, ns, pl, lf, h1, h2, h3, h4, Nat.le_trans h5 k, h6⟩
section
variable {P : Program} {w : World} {K : Fg} {mg : Str → Option Value} {base : Heap}
def spBegin (K : Fg) : Sp := fun vs H Q _ => ∃ (a : Addr) (ns : List Int), vs = [.ref a] ∧ SqL K H a (ns.map V.int) ∧ ns.length ≤ 63 ∧ ∀ t H', Same H H' → H t = none → TapeAt K H' t 0 → Q (.ref t) H'
theorem ok__law_begin (T : TX w K mg) : Ok P w K mg base 1 d__law_begin ["_law_script"] (spBegin K) := by
  refine mkOk T ix__law_begin rfl rfl rfl sc__law_begin (fun _ _ _ _ _ _ us hl => match us, hl with | [_], _ => rfl) (fun vs H Q E h => ?_) (fun cdv A outer s0 H vs Q E hr h => ?_)
  · obtain ⟨a, ns, rfl, _⟩ := h
    rfl
  · obtain ⟨a, ns, rfl, ha, hl, q⟩ := h
    refine ⟨_, pss_one (ps_ret (pe_disp (pps_cons pe_str (pe_orT (pe_slice sl_list (pv 0) po_none (po_some pe_int)) (pe_one (pe_lst (pa_cons pe_int pa_nil)))) (pps_cons pe_str pe_int (pps_cons pe_str pe_int pps_nil))) (by rfl) (by rfl) (fun z => by cases z) (by decide))), ?_⟩
    refine fun t nt => ?_
    have s1 := same_new nt (o := .dK [])
    have hcut : cutV (ns.map V.int) none (some 63) = ns.map V.int := by
      unfold cutV
      have e1 : HT.sIx (ns.map V.int).length (ns.map V.int).length (some 63) = ns.length := by
        have := HT.sIx_nat (ns.map V.int).length (ns.map V.int).length 63
        refine this.trans ?_
        rw [List.length_map]
        omega
      rw [e1, HT.sIx_none, List.drop_zero]
      exact List.take_of_length_le (by rw [List.length_map]; omega)
    refine ⟨_, rfl, 63, rfl, a, ns.map V.int, rfl, s1.seq ha, fun c nc => ?_⟩
    rw [hcut]
    have s2 := Same.new s1 nc (o := .lst (ns.map V.int))
    have nt0 : upd H t (.dK []) t = some (.dK []) := upd_same
    have k2 := same_new nc (o := .lst (ns.map V.int))
    cases ns with
    | nil =>
      refine ⟨false, .inl ⟨[], SqL.of upd_same, rfl⟩, ?_⟩
      refine iteF ⟨small (by show 1 ≤ 1000; decide), fun c2 nc2 => ?_⟩
      have k3 := same_new nc2 (o := .lst [.int 0])
      refine ⟨k3 _ _ (k2 _ _ nt0), tk (tapeD c2 0 0), rfl, by show 3 ≤ 15; decide, ?_⟩
      have s3 := Same.new s2 nc2 (o := .lst [.int 0])
      have c2t : c2 ≠ t := fun z => by rw [z, (k2 _ _ nt0)] at nc2; cases nc2
      refine q t _ (Same.over s3 nt) nt ⟨c2, [0], 0, 0, ?_, SqL.of (by rw [upd_ne c2t, upd_same]; rfl), by decide, by decide, Nat.le_refl _, Int.le_refl _⟩
      show upd _ t _ t = _
      rw [upd_same]
      rfl
    | cons n0 ns0 =>
      refine ⟨true, .inl ⟨_, SqL.of upd_same, rfl⟩, ?_⟩
      refine iteT ⟨k2 _ _ nt0, tk (tapeD c 0 0), rfl, by show 3 ≤ 15; decide, ?_⟩
      have ct : c ≠ t := fun z => by rw [z, nt0] at nc; cases nc
      refine q t _ (Same.over s2 nt) nt ⟨c, n0 :: ns0, 0, 0, ?_, SqL.of (by rw [upd_ne ct, upd_same]), Nat.succ_pos _, Nat.le_trans hl (by decide), Nat.le_refl _, Int.le_refl _⟩
      show upd _ t _ t = _
      rw [upd_same]
      rfl
end
end Bo

/-! LB -/
set_option Elab.async false
set_option linter.all false
set_option maxRecDepth 100000
set_option maxHeartbeats 1000000
namespace Bo
open PySem PySem.Spec PyProof.Rows L2
section
variable {P : Program} {w : World} {K : Fg} {mg : Str → Option Value} {base : Heap}
def spDraw (K : Fg) : Sp := fun vs H Q _ => ∃ (t many b : Nat), vs = [.ref t, .int (many : Nat)] ∧ 0 < many ∧ many ≤ 1000 ∧ b ≤ 5000 ∧ TapeAt K H t b ∧ ∀ (r : Nat) H', r < many → But [t] H H' → TapeAt K H' t (b + 1) → Q (.int (r : Nat)) H'
theorem ok__law_draw (T : TX w K mg) : Ok P w K mg base 1 d__law_draw ["_law_tape", "_law_many"] (spDraw K) := by
  refine mkOk T ix__law_draw rfl rfl rfl sc__law_draw (fun _ _ _ _ _ _ us hl => match us, hl with | [_, _], _ => rfl) (fun vs H Q E h => ?_) (fun cdv A outer s0 H vs Q E hr h => ?_)
  · obtain ⟨t, many, b, rfl, _⟩ := h
    rfl
  · obtain ⟨t, many, b, rfl, hm0, hm1, hb, hT, q⟩ := h
    have hu := hu_of hr
    refine ⟨_, pss_cons (ps_if (pt_cmpR op_lt (pe_dget hu (pv 0) pe_str (fun _ _ => rfl)) (pv 1) (nomark _))
        (pss_cons (ps_par (i := 2) (j := 3) rfl sc__law_draw.nd rfl rfl (by decide) rfl rfl (pa_cons (pe_dget hu (pv 0) pe_str (fun _ _ => rfl)) (pa_cons (pe_callB call_len_seq (by rfl) T.f_len PySem.boot_len (pa_cons (pe_dget hu (pv 0) pe_str (fun _ _ => rfl)) pa_nil)) pa_nil)) (by rfl))
        (pss_cons (ps_asg (pe_tup (pa_cons (pe_ix ix_list (pe_dget hu (pv 0) pe_str (fun _ _ => rfl)) (pe_op op_mod (pv 2) (pv 3)) (fun _ _ => rfl)) (pa_cons (pe_op op_add (pv 2) pe_int) pa_nil))) (pg_tup rfl (pgs_cons (pgn (i := 4) sc__law_draw.nd) (pgs_cons (pg_sub (pv 0) pe_str (set_dict hu)) pgs_nil))))
        (pss_cons (ps_dput hu (pv 0) pe_str (pe_op op_mod (pe_op op_pow (pe_op op_add (pe_op op_add (pe_op op_mod (pv 4) pe_int) (pe_op op_mul pe_int (pv 2))) pe_int) pe_int) (pe_op op_add (pe_op op_pow pe_int pe_int) pe_int)) rfl)
        (pss_one (ps_if (PW.pt (pw_and (pt_cmpR op_ge (pv 4) (pe_op op_pow pe_int pe_int) (nomark _)) (pw_and1 (pt_cmpR op_lt (pv 2) (pv 3) (nomark _)))))
          (pss_one (ps_dput hu (pv 0) pe_str (pe_op op_sub (pv 4) (pe_op op_pow pe_int pe_int)) rfl)) pss_nil))))) pss_nil)
      (pss_cons (ps_asg (pe_tup (pa_cons (pe_op op_mod (pe_dget hu (pv 0) pe_str (fun _ _ => rfl)) (pv 1)) (pa_cons (pe_op op_fdiv (pe_dget hu (pv 0) pe_str (fun _ _ => rfl)) (pv 1)) pa_nil))) (pg_tup rfl (pgs_cons (pgn (i := 5) sc__law_draw.nd) (pgs_cons (pg_sub (pv 0) pe_str (set_dict hu)) pgs_nil))))
      (pss_one (ps_ret (pv 5)))), ?_⟩
    obtain ⟨c, ns, pl, lf, h1, h2, h3, h4, h5, h6⟩ := hT.ex
    have hct : ∀ {z : HO} {lst : List V}, SqL K H c lst → SqL K (upd H t z) c lst := fun {z lst} h => by
      rcases h with (h | ⟨o, h⟩) | h
      · exact .inl (.inl (by rw [upd_ne (fun e => by rw [e, h1] at h; cases h)]; exact h))
      · exact .inl (.inr ⟨o, by rw [upd_ne (fun e => by rw [e, h1] at h; cases h)]; exact h⟩)
      · exact .inr h
    refine seq_mid (fun σ H1 => ∃ z2 z3 z4 z5 pl1 lf1, σ = [some (.ref t), some (.int (many : Nat)), z2, z3, z4, z5] ∧ But [t] H H1 ∧ DictAt H1 t (tapeD c pl1 lf1) ∧ pl1 ≤ b + 1 ∧ 0 ≤ lf1 ∧ SqL K H1 c (ns.map V.int)) (fun B hB => ?_) ?_
    · have g1 : DGet H t (.str "left") (some (.int lf)) := DictAt.get h1 "left"
      refine ⟨_, rfl, t, _, rfl, g1, _, rfl, _, _, rfl, rfl, _, rfl, ?_⟩
      by_cases hlt : lf < (many : Int)
      · rw [decide_eq_true hlt]
        refine iteT ?_
        have g2 : DGet H t (.str "place") (some (.int (pl : Nat))) := DictAt.get h1 "place"
        have g3 : DGet H t (.str "cells") (some (.ref c)) := DictAt.get h1 "cells"
        refine ⟨_, rfl, t, _, rfl, g2, _, rfl, t, _, rfl, g3, c, _, rfl, .inl h2, _, _, rfl, ?_⟩
        have hn0 : (0 : Int) < ((ns.map V.int).length : Nat) := by rw [List.length_map]; omega
        have hmod : ((pl : Nat) : Int) % (((ns.map V.int).length : Nat) : Int) = ((pl % ns.length : Nat) : Int) := by rw [List.length_map]; rfl
        obtain ⟨cell, hcell⟩ : ∃ cell, ns[pl % ns.length]? = some cell := ⟨_, List.getElem?_eq_getElem (Nat.mod_lt _ h3)⟩
        have hat : (ns.map V.int)[pl % ns.length]? = some (.int cell) := by rw [List.getElem?_map, hcell]; rfl
        refine ⟨_, rfl, t, _, rfl, g3, _, rfl, _, rfl, _, _, rfl, rfl, hn0, c, _, _, _, rfl, rfl, h2, by rw [hmod]; exact atI_nat hat, ?_⟩
        refine ⟨_, rfl, _, _, rfl, rfl, small (by show 2 ≤ 1000; decide), fun p np => ?_⟩
        have s1 := same_new np (o := .tup [.int cell, .int ((pl : Nat) + 1)])
        have pt : p ≠ t := fun z => by rw [z, h1] at np; cases np
        refine ⟨p, _, rfl, SqT.of upd_same, rfl, _, _, rfl, _, _, rfl, ?_⟩
        refine ⟨_, rfl, t, _, rfl, DictAt.put (s1 _ _ h1) "place" (.int ((pl : Nat) + 1)) (small1000 (by show 3 ≤ 1000; decide)), rfl, ?_⟩
        have e2 : dput (tapeD c pl lf) "place" (.int ((pl : Nat) + 1)) = tapeD c (pl + 1) lf := rfl
        rw [e2]
        have b2 : But [t] H (upd (upd H p (.tup [.int cell, .int ((pl : Nat) + 1)])) t (.dK (tk (tapeD c (pl + 1) lf)))) := (Same.but s1 _).put (by simp)
        have hc2 : SqL K (upd (upd H p (.tup [.int cell, .int ((pl : Nat) + 1)])) t (.dK (tk (tapeD c (pl + 1) lf)))) c (ns.map V.int) := by
          rcases h2 with (h | ⟨o, h⟩) | h
          · exact .inl (.inl (b2 _ _ h (fun z => by rw [List.mem_singleton.mp z, h1] at h; cases h)))
          · exact .inl (.inr ⟨o, b2 _ _ h (fun z => by rw [List.mem_singleton.mp z, h1] at h; cases h)⟩)
          · exact .inr h
        have hD2 : DictAt (upd (upd H p (.tup [.int cell, .int ((pl : Nat) + 1)])) t (.dK (tk (tapeD c (pl + 1) lf)))) t (tapeD c (pl + 1) lf) := upd_same
        generalize upd (upd H p (.tup [.int cell, .int ((pl : Nat) + 1)])) t (.dK (tk (tapeD c (pl + 1) lf))) = H2 at b2 hc2 hD2 ⊢
        have hb0 : 0 ≤ cell % 2147483647 := Int.emod_nonneg _ (by decide)
        have hb1 : cell % 2147483647 < 2147483647 := Int.emod_lt_of_pos _ (by decide)
        refine ⟨_, rfl, _, _, rfl, rfl, (by decide : (0 : Int) < 2147483647), _, rfl, _, _, rfl, rfl, .inl ⟨by decide, by decide⟩, _, _, rfl, rfl, _, _, rfl, rfl, _, _, rfl, rfl, ⟨by decide, by decide, ?_⟩, _, _, rfl, rfl, ⟨by decide, by decide, by decide⟩, _, _, rfl, rfl, _, _, rfl, rfl, ?_, _, rfl, t, _, rfl, DictAt.put hD2 "left" _ (small1000 (by show 3 ≤ 1000; decide)), ?_⟩
        · have : (0 : Int) ≤ 69621 * (pl : Int) := by omega
          have : 69621 * (pl : Int) ≤ 69621 * 5000 := by omega
          omega
        · show (0 : Int) < 10 ^ Int.toNat 50 + 151
          decide
        · have hlf : 0 ≤ (cell % 2147483647 + 69621 * (pl : Int) + 48271) ^ Int.toNat 17 % (10 ^ Int.toNat 50 + 151) := Int.emod_nonneg _ (by show ((10 : Int) ^ Int.toNat 50 + 151) ≠ 0; decide)
          have e3 : dput (tapeD c (pl + 1) lf) "left" (.int ((cell % 2147483647 + 69621 * (pl : Int) + 48271) ^ Int.toNat 17 % (10 ^ Int.toNat 50 + 151))) = tapeD c (pl + 1) ((cell % 2147483647 + 69621 * (pl : Int) + 48271) ^ Int.toNat 17 % (10 ^ Int.toNat 50 + 151)) := rfl
          set_option simprocs false in dsimp only
          rw [e3]
          generalize (cell % 2147483647 + 69621 * (pl : Int) + 48271) ^ Int.toNat 17 % (10 ^ Int.toNat 50 + 151) = lf2 at hlf ⊢
          have hc3 : SqL K (upd H2 t (.dK (tk (tapeD c (pl + 1) lf2)))) c (ns.map V.int) := by
            rcases hc2 with (h | ⟨o, h⟩) | h
            · exact .inl (.inl (by rw [upd_ne (fun e => by rw [e, hD2] at h; cases h)]; exact h))
            · exact .inl (.inr ⟨o, by rw [upd_ne (fun e => by rw [e, hD2] at h; cases h)]; exact h⟩)
            · exact .inr h
          have b3 : But [t] H (upd H2 t (.dK (tk (tapeD c (pl + 1) lf2)))) := b2.put (by simp)
          have hD3 : DictAt (upd H2 t (.dK (tk (tapeD c (pl + 1) lf2)))) t (tapeD c (pl + 1) lf2) := upd_same
          generalize upd H2 t (.dK (tk (tapeD c (pl + 1) lf2))) = H3 at b3 hc3 hD3 ⊢
          refine ⟨_, rfl, _, _, rfl, rfl, ⟨by decide, by decide, by decide⟩, _, _, rfl, rfl, _, rfl, ?_⟩
          have done : ∀ σ H', σ = [some (.ref t), some (.int (many : Nat)), some (.int (pl : Nat)), some (.int ((ns.map V.int).length : Nat)), some (.int cell), none] → (∃ lf3, But [t] H H' ∧ DictAt H' t (tapeD c (pl + 1) lf3) ∧ 0 ≤ lf3 ∧ SqL K H' c (ns.map V.int)) → B σ H' := fun σ H' e h => by
            obtain ⟨lf3, a1, a2, a3, a4⟩ := h
            exact hB _ _ ⟨_, _, _, _, pl + 1, lf3, e, a1, a2, Nat.succ_le_succ h5, a3, a4⟩
          by_cases hc18 : (10 : Int) ^ Int.toNat 18 ≤ cell
          · rw [decide_eq_true hc18]
            refine iteT ⟨_, rfl, _, rfl, _, _, rfl, rfl, _, rfl, ?_⟩
            by_cases hpl : (pl : Int) < ((ns.map V.int).length : Nat)
            · rw [decide_eq_true hpl]
              refine iteT ⟨_, rfl, _, _, rfl, rfl, ⟨by decide, by decide, by decide⟩, _, _, rfl, rfl, _, rfl, t, _, rfl, DictAt.put hD3 "left" _ (small1000 (by show 3 ≤ 1000; decide)), done _ _ rfl ⟨cell - 10 ^ Int.toNat 18, b3.put (by simp), upd_same, by omega, ?_⟩⟩
              rcases hc3 with (h | ⟨o, h⟩) | h
              · exact .inl (.inl (by rw [upd_ne (fun e => by rw [e, hD3] at h; cases h)]; exact h))
              · exact .inl (.inr ⟨o, by rw [upd_ne (fun e => by rw [e, hD3] at h; cases h)]; exact h⟩)
              · exact .inr h
            · rw [decide_eq_false hpl]
              exact iteF (done _ _ rfl ⟨lf2, b3, hD3, hlf, hc3⟩)
          · rw [decide_eq_false hc18]
            exact iteF (done _ _ rfl ⟨lf2, b3, hD3, hlf, hc3⟩)
      · rw [decide_eq_false hlt]
        exact iteF (hB _ _ ⟨_, _, _, _, pl, lf, rfl, But.refl _ _, h1, Nat.le_succ_of_le h5, h6, h2⟩)
    · rintro σ H1 ⟨z2, z3, z4, z5, pl1, lf1, rfl, b1, hD, hp1, hl1, hc1⟩
      have g1 : DGet H1 t (.str "left") (some (.int lf1)) := DictAt.get hD "left"
      have hm0' : (0 : Int) < (many : Nat) := Int.natCast_pos.mpr hm0
      refine ⟨_, rfl, t, _, rfl, g1, _, rfl, _, _, rfl, rfl, hm0', _, rfl, t, _, rfl, g1, _, rfl, ?_⟩
      refine ⟨_, _, rfl, rfl, ⟨hm0', by omega⟩, small (by show 2 ≤ 1000; decide), fun p np => ?_⟩
      have s1 := same_new np (o := .tup [.int (lf1 % (many : Nat)), .int (lf1 / (many : Nat))])
      refine ⟨p, _, rfl, SqT.of upd_same, rfl, ?_⟩
      refine ⟨_, _, rfl, _, _, rfl, _, rfl, t, _, rfl, DictAt.put (s1 _ _ hD) "left" (.int (lf1 / (many : Nat))) (small1000 (by show 3 ≤ 1000; decide)), ?_⟩
      have hr0 : 0 ≤ lf1 % (many : Nat) := Int.emod_nonneg _ (by omega)
      have hr1 : lf1 % (many : Nat) < (many : Nat) := Int.emod_lt_of_pos _ hm0'
      have hr2 : 0 ≤ lf1 / (many : Nat) := Int.ediv_nonneg hl1 (by omega)
      refine ⟨rfl, _, rfl, ?_⟩
      show Q (.int (lf1 % (many : Nat))) (upd (upd H1 p (.tup [.int (lf1 % (many : Nat)), .int (lf1 / (many : Nat))])) t (.dK (tk (tapeD c pl1 (lf1 / (many : Nat))))))
      generalize lf1 % (many : Nat) = r at hr0 hr1 s1 ⊢
      obtain ⟨r', rfl⟩ := Int.eq_ofNat_of_zero_le hr0
      refine q r' _ (by omega) ((b1.trans (Same.but s1 _)).put (by simp)) ⟨c, ns, pl1, lf1 / (many : Nat), upd_same, ?_, h3, h4, hp1, hr2⟩
      have hc2 := Same.seq s1 hc1
      have hD2 := s1 _ _ hD
      rcases hc2 with (h | ⟨o, h⟩) | h
      · exact .inl (.inl (by rw [upd_ne (fun e => by rw [e, hD2] at h; cases h)]; exact h))
      · exact .inl (.inr ⟨o, by rw [upd_ne (fun e => by rw [e, hD2] at h; cases h)]; exact h⟩)
      · exact .inr h
end
end Bo

/-! LP -/
set_option Elab.async false
set_option linter.all false
set_option maxRecDepth 100000
set_option maxHeartbeats 1000000
namespace Bo
open PySem PySem.Spec PyProof.Rows L2
theorem sq_but {K : Fg} {H H' : Hp} {t a : Addr} {l : List V} {o : HO} (hd : H t = some o) (hno : ∀ q : List V, o ≠ .lst q ∧ ∀ r, o ≠ .frz r (.lst q)) (b : But [t] H H') (h : SqL K H a l) : SqL K H' a l := by
  rcases h with (h | ⟨z, h⟩) | h
  · exact .inl (.inl (b _ _ h (fun e => by rw [List.mem_singleton.mp e, hd] at h; injection h with h; exact (hno l).1 h)))
  · exact .inl (.inr ⟨z, b _ _ h (fun e => by rw [List.mem_singleton.mp e, hd] at h; injection h with h; exact (hno l).2 z h)⟩)
  · exact .inr h
theorem TapeAt.sq {K : Fg} {H H' : Hp} {t a : Addr} {b : Nat} {l : List V} (hT : TapeAt K H t b) (h : SqL K H a l) (k : But [t] H H') : SqL K H' a l := by
  obtain ⟨c, ns, pl, lf, h1, _⟩ := hT.ex
  exact sq_but h1 (fun q => ⟨fun e => (by cases e), fun r e => (by cases e)⟩) k h
section
variable {P : Program} {w : World} {K : Fg} {mg : Str → Option Value} {base : Heap}
def spPick (K : Fg) : Sp := fun vs H Q _ => ∃ (t b : Nat), TapeAt K H t b ∧ b ≤ 5000 ∧ ((∃ (a : Addr) (xs : List V), vs = [.ref t, .ref a] ∧ SqL K H a xs ∧ 0 < xs.length ∧ xs.length ≤ 1000 ∧ ∀ (r : Nat) v H', xs[r]? = some v → But [t] H H' → TapeAt K H' t (b + 1) → Q v H') ∨
  (∃ s : Str, vs = [.ref t, .str s] ∧ 0 < s.length ∧ s.length ≤ 1000 ∧ ∀ (r : Nat) c H', s.cps.toList[r]? = some c → But [t] H H' → TapeAt K H' t (b + 1) → Q (.str ⟨#[c]⟩) H'))
theorem ok__law_pick (T : TX w K mg) : Ok P w K mg base 2 d__law_pick ["_law_tape", "_law_items"] (spPick K) := by
  refine mkOk T ix__law_pick rfl rfl rfl sc__law_pick (fun _ _ _ _ _ _ us hl => match us, hl with | [_, _], _ => rfl) (fun vs H Q E h => ?_) (fun cdv A outer s0 H vs Q E hr h => ?_)
  · obtain ⟨t, b, _, _, (⟨a, xs, rfl, _⟩ | ⟨s, rfl, _⟩)⟩ := h <;> rfl
  · obtain ⟨t, b, hT, hb, h⟩ := h
    obtain ⟨f1, G1, b1, k1⟩ := ok__law_draw (P := P) (base := base) T
    rcases h with ⟨a, xs, rfl, ha, hx0, hx1, q⟩ | ⟨s, rfl, hs0, hs1, q⟩
    · refine ⟨_, pss_one (ps_ret (pe_ix ix_list (pv 1) (pe_call G1 hr (by rfl) T.g__law_draw k1 b1 .nil pass0 (pa_cons (pv 0) (pa_cons (pe_callB call_len_seq (by rfl) T.f_len PySem.boot_len (pa_cons (pv 1) pa_nil)) pa_nil))) (fun _ _ => rfl))), ?_⟩
      refine ⟨_, rfl, _, rfl, _, rfl, a, _, rfl, .inl ha, t, xs.length, b, rfl, hx0, hx1, hb, hT, fun r H' hr1 bt hT' => ?_⟩
      obtain ⟨v, hv⟩ : ∃ v, xs[r]? = some v := ⟨_, List.getElem?_eq_getElem hr1⟩
      exact ⟨a, xs, _, v, rfl, rfl, hT.sq ha bt, atI_nat hv, q r v H' hv bt hT'⟩
    · refine ⟨_, pss_one (ps_ret (pe_ix ix_str (pv 1) (pe_call G1 hr (by rfl) T.g__law_draw k1 b1 .nil pass0 (pa_cons (pv 0) (pa_cons (pe_callB call_len_str (by rfl) T.f_len PySem.boot_len (pa_cons (pv 1) pa_nil)) pa_nil))) (fun _ _ => rfl))), ?_⟩
      refine ⟨_, rfl, _, rfl, _, rfl, s, rfl, small hs1, t, s.length, b, rfl, hs0, hs1, hb, hT, fun r H' hr1 bt hT' => ?_⟩
      obtain ⟨c, hc⟩ : ∃ c, s.cps.toList[r]? = some c := ⟨_, List.getElem?_eq_getElem (by simpa [Str.length] using hr1)⟩
      exact ⟨s, _, c, rfl, rfl, small hs1, atI_nat hc, q r c H' hc bt hT'⟩
end
end Bo

/-! LN -/
set_option Elab.async false
set_option linter.all false
set_option maxRecDepth 100000
set_option maxHeartbeats 1000000
namespace Bo
open PySem PySem.Spec PyProof.Rows L2
abbrev lets : List Nat := sLetters.cps.toList
/-- the text of a number -/
def dec (n : Nat) : Str := Str.ofString (toString (n : Int))
theorem dec_ok : ∀ i < 26, (dec (100 + i)).length = 3 ∧ ∀ c ∈ (dec (100 + i)).cps.toList, c ∈ (sLetters ++ sFigures).cps.toList := by decide +kernel
theorem dec_inj : ∀ i < 26, ∀ j < 26, dec (100 + i) = dec (100 + j) → i = j := by decide +kernel
theorem str_app (a b : Str) : (a ++ b).cps.toList = a.cps.toList ++ b.cps.toList := by
  show (a.cps ++ b.cps).toList = _
  simp
theorem str_ext {a b : Str} (h : a.cps.toList = b.cps.toList) : a = b := by
  cases a with | mk a => cases b with | mk b => exact congrArg Str.mk (Array.ext' h)
theorem app_inj {a b c : Str} (h : a ++ b = a ++ c) : b = c := by
  have := congrArg (fun z : Str => z.cps.toList) h
  simp only [str_app] at this
  exact str_ext (List.append_cancel_left this)
theorem str_len (a : Str) : a.length = a.cps.toList.length := by simp [Str.length]
/-- a name that is grown: n signs or fewer -/
structure NmN (n : Nat) (x : Str) : Prop where
  pos : 0 < x.length
  len : x.length ≤ n
  first : ∃ c, x.cps.toList[0]? = some c ∧ c ∈ sLetters.cps.toList
  all : ∀ c ∈ x.cps.toList, c ∈ (sLetters ++ sFigures).cps.toList
theorem NmN.ok {x : Str} (h : NmN 8 x) : NameOk x := ⟨h.pos, h.len, h.first, h.all⟩
theorem NmN.app {n k : Nat} {x y : Str} (h : NmN n x) (hy : y.length ≤ k) (ha : ∀ c ∈ y.cps.toList, c ∈ (sLetters ++ sFigures).cps.toList) : NmN (n + k) (x ++ y) := by
  have h1 := h.pos
  have h2 := h.len
  have e : (x ++ y).length = x.length + y.length := by rw [str_len, str_len, str_len, str_app, List.length_append]
  refine ⟨by omega, by omega, ?_, fun c hc => ?_⟩
  · obtain ⟨c, hc, hl⟩ := h.first
    refine ⟨c, ?_, hl⟩
    rw [str_app, List.getElem?_append_left (by rw [← str_len]; exact h1)]
    exact hc
  · rw [str_app] at hc
    rcases List.mem_append.mp hc with q | q
    · exact h.all c q
    · exact ha c q
theorem NmN.cut {n : Nat} {x : Str} (h : NmN n x) : NmN 5 (cutS x none (some 5)) := by
  have e : (cutS x none (some 5)).cps.toList = x.cps.toList.take 5 := by
    show (((x.cps.toList.drop (HT.sIx x.length 0 none)).take (HT.sIx x.length x.length (some 5) - HT.sIx x.length 0 none)).toArray).toList = _
    have e1 : HT.sIx x.length x.length (some 5) = min 5 x.length := (HT.sIx_nat x.length x.length 5)
    rw [e1, HT.sIx_none, List.drop_zero, Nat.sub_zero]
    show x.cps.toList.take (min 5 x.length) = _
    rw [str_len, ← List.take_take, List.take_length]
  have h1 := h.pos
  refine ⟨by rw [str_len, e, List.length_take, ← str_len]; omega, by rw [str_len, e, List.length_take]; omega, ?_, fun c hc => h.all c ?_⟩
  · obtain ⟨c, hc, hl⟩ := h.first
    exact ⟨c, by rw [e, List.getElem?_take]; simpa using hc, hl⟩
  · rw [e] at hc
    exact List.mem_of_mem_take hc
theorem NmN.one {c : Nat} (h : c ∈ sLetters.cps.toList) : NmN 1 ⟨#[c]⟩ := by
  refine ⟨Nat.succ_pos _, Nat.le_refl _, ⟨c, rfl, h⟩, fun d hd => ?_⟩
  have e : d = c := by simpa using hd
  rw [e, str_app]
  exact List.mem_append_left _ h
/-- distinct texts, all among others -/
theorem in_used {f : Str} {used : List Str} {j : Nat} (hj : j ≤ 26) (h : ∀ i < j, f ++ dec (100 + i) ∈ used) : j ≤ used.length := by
  have nd : ((List.range j).map fun i => f ++ dec (100 + i)).Nodup := by
    refine List.pairwise_map.mpr (List.Pairwise.imp_of_mem (fun {a b} ha hb (ne : a ≠ b) e => ne ?_) List.nodup_range)
    exact dec_inj a (by have := List.mem_range.mp ha; omega) b (by have := List.mem_range.mp hb; omega) (app_inj e)
  have := len_le_of_sub nd (T := used) (fun x hx => by
    obtain ⟨i, hi, rfl⟩ := List.mem_map.mp hx
    exact h i (List.mem_range.mp hi))
  simpa using this
section
variable {P : Program} {w : World} {K : Fg} {mg : Str → Option Value} {base : Heap}
def spName (K : Fg) : Sp := fun vs H Q _ => ∃ (t a b : Nat) (used : List Str), vs = [.ref t, .ref a] ∧ TapeAt K H t b ∧ b + 10 ≤ 5000 ∧ SqL K H a (txs used) ∧ used.length ≤ 24 ∧
  ∀ nm H', But [t] H H' → TapeAt K H' t (b + 9) → NameOk nm → nm ∉ used → Q (.str nm) H'
theorem ok__law_name (T : TX w K mg) : Ok P w K mg base 3 d__law_name ["_law_tape", "_law_used"] (spName K) := by
  refine mkOk T ix__law_name rfl rfl rfl sc__law_name (fun _ _ _ _ _ _ us hl => match us, hl with | [_, _], _ => rfl) (fun vs H Q E h => ?_) (fun cdv A outer s0 H vs Q E hr h => ?_)
  · obtain ⟨t, a, b, used, rfl, _⟩ := h
    rfl
  · obtain ⟨t, a, b, used, rfl, hT, hb, ha, hz, q⟩ := h
    obtain ⟨f1, G1, b1, k1⟩ := ok__law_draw (P := P) (base := base) T
    obtain ⟨f2, G2, b2, k2⟩ := ok__law_pick (P := P) (base := base) T
    have hr1 := hr.mono (j := 1) (by decide)
    refine ⟨_, pss_cons (ps_asg (pe_tup (pa_cons pe_str (pa_cons pe_int pa_nil))) (pg_tup rfl (pgs_cons (pgn (i := 2) sc__law_name.nd) (pgs_cons (pgn (i := 3) sc__law_name.nd) pgs_nil))))
      (pss_cons (pset (i := 4) sc__law_name.nd (pe_ix ix_str (pv 2) (pe_call G1 hr1 (by rfl) T.g__law_draw k1 b1 .nil pass0 (pa_cons (pv 0) (pa_cons pe_int pa_nil))) (fun _ _ => rfl)))
      (pss_cons (ps_for PassesOwn.never rfl (pi_range1 (by rfl) T.f_range (pa_cons (pe_call G2 hr (by rfl) T.g__law_pick k2 b2 .nil pass0 (pa_cons (pv 0) (pa_cons (pe_lst (pa_cons pe_int (pa_cons pe_int (pa_cons pe_int (pa_cons pe_int pa_nil))))) pa_nil))) pa_nil)) (pgn (i := 5) sc__law_name.nd)
        (pss_one (pset (i := 4) sc__law_name.nd (pe_op op_add_str (pv 4) (pe_call G2 hr (by rfl) T.g__law_pick k2 b2 .nil pass0 (pa_cons (pv 0) (pa_cons (pe_op op_add_str (pv 2) pe_str) pa_nil)))))))
      (pss_cons (pset (i := 6) sc__law_name.nd (pe_slice sl_str (pv 4) po_none (po_some pe_int)))
      (pss_cons (ps_while PassesOwn.never (pt_cmpR op_in_seq (pv 4) (pv 1) rfl)
        (pss_one (ps_par (i := 4) (j := 3) rfl sc__law_name.nd rfl rfl (by decide) rfl rfl (pa_cons (pe_op op_add_str (pv 6) (pe_callTy call_str_int (by rfl) T.f_str PyProof.Rows.boot_str (pa_cons (pv 3) pa_nil))) (pa_cons (pe_op op_add (pv 3) pe_int) pa_nil)) (by rfl))))
      (pss_one (ps_ret (pv 4))))))), ?_⟩
    refine ⟨small (by show 2 ≤ 1000; decide), fun p np => ?_⟩
    have sA := same_new np (o := .tup [.str sLetters, .int 100])
    refine ⟨p, _, rfl, SqT.of upd_same, rfl, _, _, rfl, _, _, rfl, rfl, _, rfl, _, rfl, t, 26, b, rfl, by decide, by decide, by omega, hT.same sA, fun r H1 hr2 bt1 hT1 => ?_⟩
    have bA : But [t] H H1 := (Same.but sA _).trans bt1
    obtain ⟨c0, hc0⟩ : ∃ c, sLetters.cps.toList[r]? = some c := ⟨_, List.getElem?_eq_getElem hr2⟩
    refine ⟨sLetters, _, c0, rfl, rfl, small (by show 26 ≤ 1000; decide), atI_nat hc0, ?_⟩
    have n1 : NmN 1 ⟨#[c0]⟩ := NmN.one (List.mem_of_getElem? hc0)
    refine ⟨_, rfl, small (by show 4 ≤ 1000; decide), fun p2 np2 => ?_⟩
    have sB := same_new np2 (o := .lst [.int 0, .int 0, .int 1, .int 7])
    have bB : But [t] H _ := bA.trans (Same.but sB _)
    have hT2 := hT1.same sB
    generalize hH2 : upd H1 p2 (.lst [.int 0, .int 0, .int 1, .int 7]) = H2 at *
    refine ⟨t, b + 1, hT2, by omega, .inl ⟨p2, [.int 0, .int 0, .int 1, .int 7], rfl, SqL.of (by rw [← hH2]; exact upd_same), by decide, by decide, fun r2 v H3 hv bt2 hT3 => ?_⟩⟩
    have hv' : ∃ n : Nat, v = .int (n : Nat) ∧ n ≤ 7 := by
      match r2, hv with
      | 0, e => exact ⟨0, (Option.some.inj e).symm, by decide⟩
      | 1, e => exact ⟨0, (Option.some.inj e).symm, by decide⟩
      | 2, e => exact ⟨1, (Option.some.inj e).symm, by decide⟩
      | 3, e => exact ⟨7, (Option.some.inj e).symm, by decide⟩
      | (k + 4), e => cases e
    obtain ⟨n, rfl, hn7⟩ := hv'
    have bC : But [t] H H3 := bB.trans bt2
    refine ⟨_, rfl, by omega, by omega, ?_⟩
    refine for_it walk_range (fun i σ H4 => ∃ nm z, σ = [some (.ref t), some (.ref a), some (.str sLetters), some (.int 100), some (.str nm), z, none] ∧ But [t] H H4 ∧ TapeAt K H4 t (b + 2 + i) ∧ NmN (1 + i) nm) ⟨⟨#[c0]⟩, none, rfl, bC, hT3, n1⟩ (fun _ _ _ _ _ => True.intro) ?_ ?_
    · rintro i x σ H4 H5 hi ⟨nm, z, rfl, b4, hT4, hN⟩ ⟨rfl, rfl⟩
      have hi7 : i < n := by simpa using hi
      refine ⟨_, rfl, _, rfl, _, rfl, _, _, rfl, rfl, small (by show 36 ≤ 1000; decide), t, b + 2 + i, hT4, by omega, .inr ⟨sLetters ++ sFigures, rfl, by decide, by decide, fun r3 c3 H6 hc3 bt6 hT6 => ?_⟩⟩
      have hl := hN.len
      refine ⟨_, _, rfl, rfl, small (by show nm.length + 1 ≤ 1000; omega), ?_⟩
      exact ⟨_, _, rfl, b4.trans bt6, hT6, by rw [← Nat.add_assoc]; exact hN.app (Nat.le_refl 1) (fun c hc => by
        have e : c = c3 := by simpa using hc
        rw [e]
        exact List.mem_of_getElem? hc3)⟩
    · rintro σ H4 ⟨nm, z, rfl, b4, hT4, hN⟩
      have hN8 : NmN 8 nm := ⟨hN.pos, by have := hN.len; simp at this; omega, hN.first, hN.all⟩
      have hF := hN8.cut
      have hT4' : TapeAt K H4 t (b + 9) := hT4.mono (by simp; omega)
      refine ⟨_, rfl, 5, rfl, nm, rfl, small (by show nm.length ≤ 1000; have := hN8.len; omega), ?_⟩
      generalize cutS nm none (some 5) = f at hF ⊢
      refine ⟨fun m σ H5 => ∃ (j : Nat) (x : Str), m = 30 - j ∧ σ = [some (.ref t), some (.ref a), some (.str sLetters), some (.int ((100 + j : Nat) : Int)), some (.str x), z, some (.str f)] ∧ H5 = H4 ∧ j ≤ 25 ∧ NmN 8 x ∧ (∀ i, i + 1 < j → f ++ dec (100 + i) ∈ used) ∧ (0 < j → x = f ++ dec (100 + (j - 1))),
        ⟨30, 0, nm, rfl, rfl, rfl, by decide, hN8, fun i hi => absurd hi (by omega), fun h => absurd h (by omega)⟩, ?_⟩
      rintro m σ H5 ⟨j, x, rfl, rfl, rfl, hj, hx, hu1, hu2⟩
      refine ⟨_, rfl, _, rfl, a, txs used, rfl, .inl (hT.sq ha b4), rfl, txs_flat _, _, rfl, ?_⟩
      rw [inV_txs]
      by_cases hm : x ∈ used
      · rw [decide_eq_true hm]
        refine iteT ⟨fun σ' H' => ∃ m', m' < 30 - j ∧ _, fun _ _ h => h, ?_⟩
        have hall : ∀ i < j, f ++ dec (100 + i) ∈ used := fun i hi => by
          by_cases h1 : i + 1 < j
          · exact hu1 i h1
          · have e : i = j - 1 := by omega
            rw [e, ← hu2 (by omega)]
            exact hm
        have hj24 := in_used (by omega) hall
        have hd := dec_ok j (by omega)
        have hN' : NmN (5 + 3) (f ++ dec (100 + j)) := hF.app (Nat.le_of_eq hd.1) hd.2
        have hfl := hF.len
        refine ⟨_, rfl, _, rfl, _, rfl, ?_, _, _, rfl, rfl, small (by show f.length + (dec (100 + j)).length ≤ 1000; rw [hd.1]; omega), _, rfl, _, _, rfl, rfl, _, _, rfl, ?_⟩
        · rw [Int.natAbs_natCast]
          exact Nat.lt_trans ((Nat.log2_lt (by omega)).mpr (by show 100 + j < 2 ^ 8; omega)) (by decide)
        · exact ⟨30 - (j + 1), by omega, j + 1, f ++ dec (100 + j), rfl, rfl, rfl, by omega, hN', fun i hi => hall i (by omega), fun _ => rfl⟩
      · rw [decide_eq_false hm]
        exact iteF ⟨_, rfl, q x _ b4 hT4' hx.ok hm⟩
def spNames (K : Fg) : Sp := fun vs H Q _ => ∃ (t b : Nat), vs = [.ref t, .int 24] ∧ TapeAt K H t b ∧ b + 300 ≤ 5000 ∧
  ∀ p ns H', But [t] H H' → TapeAt K H' t (b + 216) → H p = none → H' p = some (.lst (txs ns)) → ns.length = 24 → ns.Nodup → (∀ x ∈ ns, NameOk x) → Q (.ref p) H'
theorem ok__law_names (T : TX w K mg) : Ok P w K mg base 4 d__law_names ["_law_tape", "_law_many"] (spNames K) := by
  refine mkOk T ix__law_names rfl rfl rfl sc__law_names (fun _ _ _ _ _ _ us hl => match us, hl with | [_, _], _ => rfl) (fun vs H Q E h => ?_) (fun cdv A outer s0 H vs Q E hr h => ?_)
  · obtain ⟨t, b, rfl, _⟩ := h
    rfl
  · obtain ⟨t, b, rfl, hT, hb, q⟩ := h
    obtain ⟨f1, G1, b1, k1⟩ := ok__law_name (P := P) (base := base) T
    refine ⟨_, pss_cons (pset (i := 2) sc__law_names.nd (pe_lst pa_nil))
      (pss_cons (ps_for PassesOwn.never rfl (pi_range1 (by rfl) T.f_range (pa_cons (pv 1) pa_nil)) (pgn (i := 3) sc__law_names.nd)
        (pss_one (ps_expr (pe_bm PySem.F.plainAttrs_list PySem.F.slot_list_append PySem.F.type_list_append mt_append (pv 2) (pa_cons (pe_call G1 hr (by rfl) T.g__law_name k1 b1 .nil pass0 (pa_cons (pv 0) (pa_cons (pv 2) pa_nil))) pa_nil)))))
      (pss_one (ps_ret (pv 2)))), ?_⟩
    refine ⟨small (by show 0 ≤ 1000; decide), fun p np => ⟨_, rfl, 24, rfl, by decide, by decide, ?_⟩⟩
    have pt : p ≠ t := fun e => by
      obtain ⟨c, ns, pl, lf, h1, _⟩ := hT.ex
      have h1' : H t = some (.dK (tk (tapeD c pl lf))) := h1
      rw [e, h1'] at np
      cases np
    have sA := same_new np (o := .lst [])
    refine for_it walk_range (fun i σ H4 => ∃ ns z, σ = [some (.ref t), some (.int 24), some (.ref p), z] ∧ But [t] H H4 ∧ TapeAt K H4 t (b + 9 * i) ∧ H4 p = some (.lst (txs ns)) ∧ ns.length = i ∧ ns.Nodup ∧ (∀ x ∈ ns, NameOk x)) ⟨[], none, rfl, Same.but sA _, hT.same sA, upd_same, rfl, .nil, fun x hx => (nomatch hx)⟩ (fun _ _ _ _ _ => True.intro) ?_ ?_
    · rintro i x σ H4 H5 hi ⟨ns, z, rfl, b4, hT4, hp4, hl, nd, hok⟩ ⟨rfl, rfl⟩
      have hi24 : i < 24 := by simpa using hi
      refine ⟨_, rfl, .inl ⟨rfl, _, SqL.of hp4⟩, _, rfl, _, rfl, t, p, b + 9 * i, ns, rfl, hT4, by omega, SqL.of hp4, by omega, fun nm H6 b6 hT6 hnm hno => ?_⟩
      have hp6 : H6 p = some (.lst (txs ns)) := b6 _ _ hp4 (by simpa using pt)
      have e : txs ns ++ [V.str nm] = txs (ns ++ [nm]) := by
        unfold txs
        rw [List.map_append]
        rfl
      refine ⟨p, txs ns, .str nm, rfl, rfl, hp6, small (by rw [txs_len]; omega), ns ++ [nm], _, rfl, ?_⟩
      rw [e]
      refine ⟨fun a o ha hn => ?_, ?_, upd_same, by simp [hl], ?_, fun x hx => ?_⟩
      · rw [upd_ne (fun z => by rw [z, np] at ha; cases ha)]
        exact (b4.trans b6) _ _ ha hn
      · obtain ⟨c, ns1, pl, lf, h1, h2, h3, h4⟩ := hT6.ex
        refine ⟨c, ns1, pl, lf, ?_, ?_, h3, h4⟩
        · show (upd H6 p _) t = _
          rw [upd_ne (Ne.symm pt)]
          exact h1
        · have hne : ∀ y : List V, y = ns1.map V.int → y ≠ txs ns := fun y e1 e2 => by
            rw [e1] at e2
            cases ns1 with
            | nil => exact absurd h3 (Nat.lt_irrefl _)
            | cons z zs =>
              cases ns with
              | nil => cases e2
              | cons u us => cases e2
          rcases h2 with (h | ⟨z, h⟩) | h
          · exact .inl (.inl (by rw [upd_ne (fun e => by rw [e, hp6] at h; injection h with h; injection h with h; exact hne _ rfl h.symm)]; exact h))
          · exact .inl (.inr ⟨z, by rw [upd_ne (fun e => by rw [e, hp6] at h; cases h)]; exact h⟩)
          · exact .inr h
      · exact List.nodup_append.mpr ⟨nd, List.pairwise_singleton _ _, fun x hx y hy e => hno (by rw [← List.mem_singleton.mp hy, ← e]; exact hx)⟩
      · rcases List.mem_append.mp hx with h | h
        · exact hok x h
        · rw [List.mem_singleton.mp h]
          exact hnm
    · rintro σ H4 ⟨ns, z, rfl, b4, hT4, hp4, hl, nd, hok⟩
      exact ⟨_, rfl, q p ns _ b4 hT4 np hp4 hl nd hok⟩
end
end Bo

/-! LS -/
set_option Elab.async false
set_option linter.all false
set_option maxRecDepth 100000
set_option maxHeartbeats 1000000
namespace Bo
open PySem PySem.Spec PyProof.Rows L2
theorem TapeAt.put {K : Fg} {H : Hp} {t p b : Nat} {l : List Str} {o : HO} (h : TapeAt K H t b) (hp : H p = some (.lst (txs l))) : TapeAt K (upd H p o) t b := by
  obtain ⟨c, ns1, pl, lf, h1, h2, h3, h4⟩ := h.ex
  have pt : t ≠ p := fun e => by
    have h1' : H t = some (.dK (tk (tapeD c pl lf))) := h1
    rw [e, hp] at h1'
    cases h1'
  refine ⟨c, ns1, pl, lf, ?_, ?_, h3, h4⟩
  · show (upd H p _) t = _
    rw [upd_ne pt]
    exact h1
  · have hne : ∀ y : List V, y = ns1.map V.int → y ≠ txs l := fun y e1 e2 => by
      rw [e1] at e2
      cases ns1 with
      | nil => exact absurd h3 (Nat.lt_irrefl _)
      | cons z zs =>
        cases l with
        | nil => cases e2
        | cons u us => cases e2
    rcases h2 with (h | ⟨z, h⟩) | h
    · exact .inl (.inl (by rw [upd_ne (fun e => by rw [e, hp] at h; injection h with h; injection h with h; exact hne _ rfl h.symm)]; exact h))
    · exact .inl (.inr ⟨z, by rw [upd_ne (fun e => by rw [e, hp] at h; cases h)]; exact h⟩)
    · exact .inr h
theorem TapeAt.ne {K : Fg} {H : Hp} {t p b : Nat} (h : TapeAt K H t b) (hp : H p = none) : p ≠ t := fun e => by
  obtain ⟨c, ns, pl, lf, h1, _⟩ := h.ex
  have h1' : H t = some (.dK (tk (tapeD c pl lf))) := h1
  rw [e, h1'] at hp
  cases hp
theorem txs_erase : ∀ (W : List Str) (j : Nat), (txs W).eraseIdx j = txs (W.eraseIdx j)
  | [], _ => rfl
  | x :: W, 0 => rfl
  | x :: W, j + 1 => by
    show V.str x :: (txs W).eraseIdx j = V.str x :: txs (W.eraseIdx j)
    rw [txs_erase W j]
section
variable {P : Program} {w : World} {K : Fg} {mg : Str → Option Value} {base : Heap}
def spShuf (K : Fg) : Sp := fun vs H Q _ => ∃ (t a b : Nat) (us : List Str), vs = [.ref t, .ref a] ∧ SqL K H a (txs us) ∧ us.length ≤ 24 ∧ (∀ x ∈ us, NameOk x) ∧ TapeAt K H t b ∧ b + 50 ≤ 5000 ∧
  ∀ p ws H', But [t] H H' → TapeAt K H' t (b + 24) → H p = none → H' p = some (.lst (txs ws)) → ws.Perm us → Q (.ref p) H'
theorem ok__law_shuffled (T : TX w K mg) : Ok P w K mg base 2 d__law_shuffled ["_law_tape", "_law_items"] (spShuf K) := by
  refine mkOk T ix__law_shuffled rfl rfl rfl sc__law_shuffled (fun _ _ _ _ _ _ us hl => match us, hl with | [_, _], _ => rfl) (fun vs H Q E h => ?_) (fun cdv A outer s0 H vs Q E hr h => ?_)
  · obtain ⟨t, a, b, us, rfl, _⟩ := h
    rfl
  · obtain ⟨t, a, b, us, rfl, ha, hul, hok, hT, hb, q⟩ := h
    obtain ⟨f1, G1, b1, k1⟩ := ok__law_draw (P := P) (base := base) T
    refine ⟨_, pss_cons (ps_par (i := 2) (j := 3) rfl sc__law_shuffled.nd rfl rfl (by decide) rfl rfl (pa_cons (pe_callTy call_list_of (by rfl) T.f_list PyProof.Rows.boot_list (pa_cons (pv 1) pa_nil)) (pa_cons (pe_lst pa_nil) pa_nil)) (by rfl))
      (pss_cons (ps_while PassesOwn.never (pt_cmpR (op_neD hr.units) (pv 2) (pe_lst pa_nil) rfl)
        (pss_one (ps_expr (pe_bm PySem.F.plainAttrs_list PySem.F.slot_list_append PySem.F.type_list_append mt_append (pv 3) (pa_cons
          (pe_bm PySem.F.plainAttrs_list PySem.F.slot_list_pop PySem.F.type_list_pop mt_popAt (pv 2) (pa_cons
            (pe_call G1 hr (by rfl) T.g__law_draw k1 b1 .nil pass0 (pa_cons (pv 0) (pa_cons (pe_callB call_len_seq (by rfl) T.f_len PySem.boot_len (pa_cons (pv 2) pa_nil)) pa_nil))) pa_nil)) pa_nil)))))
      (pss_one (ps_ret (pv 3)))), ?_⟩
    refine ⟨_, rfl, a, _, rfl, .inl ha, fun wl nwl => ?_⟩
    refine ⟨small (by show 0 ≤ 1000; decide), fun fl nfl => ?_⟩
    have s1 := same_new nwl (o := .lst (txs us))
    have s2 := Same.new s1 nfl (o := .lst [])
    have fw : fl ≠ wl := fun e => by rw [e, upd_same] at nfl; cases nfl
    have wt := hT.ne nwl
    have nfl0 : H fl = none := Same.free s1 nfl
    have ft := hT.ne nfl0
    refine ⟨_, _, rfl, ?_⟩
    refine ⟨fun m σ H5 => ∃ W F : List Str, m = W.length ∧ σ = [some (.ref t), some (.ref a), some (.ref wl), some (.ref fl)] ∧ But [t] H H5 ∧ TapeAt K H5 t (b + F.length) ∧ H5 wl = some (.lst (txs W)) ∧ H5 fl = some (.lst (txs F)) ∧ (F ++ W).Perm us,
      ⟨_, us, [], rfl, rfl, Same.but s2 _, hT.same s2, by rw [upd_ne (Ne.symm fw), upd_same], upd_same, .refl _⟩, ?_⟩
    rintro m σ H5 ⟨W, F, rfl, rfl, b5, hT5, hW, hF, hP⟩
    refine ⟨_, rfl, small (by show 0 ≤ 1000; decide), fun el nel => ?_⟩
    have k6 := same_new nel (o := .lst [])
    have b6 := But.new b5 nel (o := .lst [])
    have hT6 := hT5.same k6
    have hW6 := k6 _ _ hW
    have hF6 := k6 _ _ hF
    have hlen : F.length + W.length = us.length := by rw [← List.length_append]; exact hP.length_eq
    refine ⟨.list (strD W), .list [], .lst (SqL.of hW6) (dp_txs W), .lst (SqL.of upd_same) .nil, (Sh.list (sh_strs fun x hx => Sh.name (hok x (hP.mem_iff.mp (List.mem_append_right _ hx))))).shaped, (Sh.list (n := 0) (l := []) (fun _ h => (nomatch h))).shaped, _, rfl, ?_⟩
    cases W with
    | nil =>
      show if false = true then _ else _
      rw [List.append_nil] at hP
      exact iteF ⟨_, rfl, q fl F _ b6 (hT6.mono (by rw [hP.length_eq]; omega)) nfl0 hF6 hP⟩
    | cons w0 W0 =>
      show if true = true then _ else _
      refine iteT ⟨fun σ' H' => ∃ m', m' < (w0 :: W0).length ∧ _, fun _ _ h => h, ?_⟩
      generalize hWW : w0 :: W0 = W at *
      have hWpos : 0 < W.length := by rw [← hWW]; exact Nat.succ_pos _
      generalize upd H5 el (.lst []) = H6 at *
      refine ⟨_, rfl, .inl ⟨rfl, _, SqL.of hF6⟩, _, rfl, .inl ⟨rfl, _, SqL.of hW6⟩, _, rfl, _, rfl, wl, _, rfl, .inl (SqL.of hW6), t, (txs W).length, b + F.length, rfl, by rw [txs_len]; exact hWpos, by rw [txs_len]; omega, by omega, hT6, fun r H7 hr2 b7 hT7 => ?_⟩
      rw [txs_len] at hr2
      obtain ⟨y, hy⟩ : ∃ y, W[r]? = some y := ⟨_, List.getElem?_eq_getElem hr2⟩
      have hW7 : H7 wl = some (.lst (txs W)) := b7 _ _ hW6 (by simpa using wt)
      have hF7 : H7 fl = some (.lst (txs F)) := b7 _ _ hF6 (by simpa using ft)
      refine ⟨wl, txs W, (r : Nat), r, .str y, rfl, rfl, hW7, by omega, by omega, ?_, txs_get hy, ?_⟩
      · rw [txs_len]
        exact seqIndex_of (by omega) (by omega)
      · rw [txs_erase]
        have hF8 : upd H7 wl (.lst (txs (W.eraseIdx r))) fl = some (.lst (txs F)) := by rw [upd_ne fw]; exact hF7
        refine ⟨fl, txs F, .str y, rfl, rfl, hF8, small (by rw [txs_len]; omega), ?_⟩
        have e : txs F ++ [V.str y] = txs (F ++ [y]) := by
          unfold txs
          rw [List.map_append]
          rfl
        rw [e]
        refine ⟨(W.eraseIdx r).length, by rw [List.length_eraseIdx_of_lt hr2]; omega, W.eraseIdx r, F ++ [y], rfl, rfl, fun z o hz hn => ?_, ?_, by rw [upd_ne (Ne.symm fw), upd_same], upd_same, ?_⟩
        · rw [upd_ne (fun e => by rw [e, nfl0] at hz; cases hz), upd_ne (fun e => by rw [e, nwl] at hz; cases hz)]
          exact (b6.trans b7) _ _ hz hn
        · have := (TapeAt.put (hT7.put hW7) (o := .lst (txs (F ++ [y]))) hF8)
          rw [List.length_append]
          exact this
        · rw [List.append_assoc]
          exact ((erase_perm hy).append_left F).trans hP
end
end Bo

/-! LT -/
set_option Elab.async false
set_option linter.all false
set_option maxRecDepth 100000
set_option maxHeartbeats 1000000
namespace Bo
open PySem PySem.Spec PyProof.Rows L2
theorem SysAt.unlock {K : Fg} {H : Hp} {a p n d : Nat} {G : Grf} {od : Obj} {u X : HO} (h : SysAt K H a p n G) (hd : H d = some (.frz od u)) : SysAt K (upd H d X) a p n G := by
  obtain ⟨dx, c, o, past, h1, h2, h3, h4, h5, h6⟩ := h.ex
  have st : ∀ {b : Addr} {z : HO}, H b = some z → (∀ od u, z ≠ .frz od u) → upd H d X b = some z := fun {b z} e ne => by
    rw [upd_ne (fun q => by rw [q, hd] at e; injection e with e; exact ne _ _ e.symm)]
    exact e
  refine ⟨dx, c, o, past, st h1 (fun _ _ e => by cases e), ?_, st h3 (fun _ _ e => by cases e), h4, st h5 (fun _ _ e => by cases e), h6⟩
  obtain ⟨cols, rows, consts, U, L, Cc, k1, k2, k3, k4, k5⟩ := h2.ex
  exact ⟨cols, rows, consts, U, L, Cc, st k1 (fun _ _ e => by cases e), st k2 (fun _ _ e => by cases e), ⟨st k3.at_ (fun _ _ e => by cases e), fun q hq => st (k3.row q hq) (fun _ _ e => by cases e)⟩, st k4 (fun _ _ e => by cases e), k5⟩
theorem SysAt.lock {K : Fg} {H : Hp} {a p n d : Nat} {G : Grf} {kvs : List (Key × V)} {X : HO} (h : SysAt K H a p n G) (hG : G.es = []) (hd : H d = some (.dK kvs)) (hk : kvs ≠ []) : SysAt K (upd H d X) a p n G := by
  obtain ⟨dx, c, o, past, h1, h2, h3, h4, h5, h6⟩ := h.ex
  have st : ∀ {b : Addr} {z : HO}, H b = some z → (z ≠ .dK kvs) → upd H d X b = some z := fun {b z} e ne => by
    rw [upd_ne (fun q => by rw [q, hd] at e; injection e with e; exact ne e.symm)]
    exact e
  refine ⟨dx, c, o, past, st h1 (fun e => by cases e), ?_, st h3 (fun e => by cases e), h4, st h5 (fun e => by cases e), h6⟩
  obtain ⟨cols, rows, consts, U, L, Cc, k1, k2, k3, k4, k5⟩ := h2.ex
  have eL : L = [] := by
    cases L with
    | nil => rfl
    | cons q L =>
      have := (k5.es q.1).mp (by simp)
      rw [hG] at this
      cases this
  have eC : Cc = [] := by
    cases Cc with
    | nil => rfl
    | cons q L =>
      have := (k5.cs q.1).mp (by simp)
      rw [hG] at this
      cases this
  subst eL
  subst eC
  have h0 : ∀ z : HO, z = .dK [] → z ≠ .dK kvs := fun z e1 e2 => by
    rw [e1] at e2
    injection e2 with e2
    exact hk e2.symm
  exact ⟨cols, rows, consts, U, [], [], st k1 (fun e => by cases e), st k2 (fun e => by cases e), ⟨st k3.at_ (h0 _ rfl), fun q hq => (nomatch hq)⟩, st k4 (h0 _ rfl), k5⟩
theorem but_same {H H1 H2 : Hp} {a p : Addr} (s : Same H H1) (b : But [a, p] H1 H2) (ha : H a = none) (hp : H p = none) : Same H H2 := fun c o e => b _ _ (s _ _ e) fun hm => by
  rcases List.mem_cons.mp hm with z | z
  · rw [z, ha] at e
    cases e
  · rw [List.mem_singleton.mp z, hp] at e
    cases e
section
variable {P : Program} {w : World} {K : Fg} {mg : Str → Option Value} {base : Heap}
def spLSys (K : Fg) : Sp := fun vs H Q _ => ∃ (rd ul : Nat) (L : List Row) (us : List Str), vs = [.ref rd, .ref ul] ∧ H rd = some (.dK (tk (refs L))) ∧ L ≠ [] ∧ (L.map (·.1)).Nodup ∧ L.length ≤ 24 ∧ (∀ r ∈ L, NameOk r.1) ∧ (∀ r ∈ L, SqL K H r.2.1 (txs r.2.2) ∧ r.2.2.Nodup ∧ ∀ u ∈ r.2.2, u ∈ us) ∧
  SqL K H ul (txs us) ∧ us.Nodup ∧ us.length ≤ 24 ∧ (∀ u ∈ us, NameOk u) ∧
  ∀ (a p n : Nat) (G : Grf) H', Same H H' → H a = none → H p = none → SysAt K H' a p n G → n ≤ 700 → G.us = us → G.es = L.map (·.1) → (∀ r ∈ L, ∀ u, G.adj r.1 u = decide (u ∈ r.2.2)) → Q (.ref a) H'
theorem ok__law_system (T : TX w K mg) : Ok P w K mg base 8 d__law_system ["_law_rows", "_law_unknowns"] (spLSys K) := by
  refine mkOk T ix__law_system rfl rfl rfl sc__law_system (fun _ _ _ _ _ _ us hl => match us, hl with | [_, _], _ => rfl) (fun vs H Q E h => ?_) (fun cdv A outer s0 H vs Q E hr h => ?_)
  · obtain ⟨rd, ul, L, us, rfl, _⟩ := h
    rfl
  · obtain ⟨rd, ul, L, us, rfl, hrd, hL0, hnd, hLl, hLok, hrow, hul, usnd, usl, usok, q⟩ := h
    have hu := hu_of hr
    obtain ⟨f1, G1, b1, k1⟩ := ok_System_init (P := P) (base := base) T
    obtain ⟨M2, k2⟩ := ok_add_unknown (P := P) (base := base) T
    obtain ⟨M3, k3⟩ := ok_add_equation (P := P) (base := base) T
    obtain ⟨f4, G4, b4, k4⟩ := ok_add_entry (P := P) (base := base) T
    have hr1 := hr.mono (j := 2) (by decide)
    refine ⟨_, pss_cons (pset (i := 2) sc__law_system.nd (pe_make0 T.mkr_System G1 hr1 (by rfl) T.g_System b1 .nil pass0))
      (pss_cons (ps_for PassesOwn.never rfl (pi_list (pv 1)) (pgn (i := 3) sc__law_system.nd)
        (pss_one (ps_expr (pe_methR (pv 2) T.cls_System T.m_System_add_unknown M2 hr pass0 (pa_cons (pv 3) pa_nil)))))
      (pss_cons (ps_lock (ps_for PassesOwn.never rfl (pi_keys (pv 0)) (pgn (i := 4) sc__law_system.nd)
        (pss_cons (ps_expr (pe_methR (pv 2) T.cls_System T.m_System_add_equation M3 hr pass0 (pa_cons (pv 4) pa_nil)))
        (pss_one (ps_for PassesOwn.never rfl (pi_list (pe_dget hu (pv 0) (pv 4) (fun _ _ => rfl))) (pgn (i := 3) sc__law_system.nd)
          (pss_one (ps_expr (pe_meth (pv 2) T.cls_System T.m_System_add_entry G4 hr b4 .nil pass0 (pa_cons (pv 4) (pa_cons (pv 3) pa_nil))))))))))
      (pss_one (ps_ret (pv 2))))), ?_⟩
    refine fun a dx na ndx nex => ?_
    have da : ∀ z, upd (upd H dx (.own a)) a z a = some z := fun z => upd_same
    refine ⟨a, dx, rfl, upd_same, fun p H1 b1' np1 hS1 => ⟨rfl, ?_⟩⟩
    have sA : Same H (upd (upd H dx (.own a)) a (.ins (He.ga K "System") dx [])) := Same.over (same_new ndx) na
    have npa : H p = none := Same.free sA np1
    have s1 : Same H H1 := fun c o e => b1' _ _ (sA _ _ e) (by
      intro hm
      rw [List.mem_singleton.mp hm, na] at e
      cases e)
    refine ⟨_, rfl, ul, rfl, ⟨_, s1.seq hul⟩, ?_⟩
    refine for_it (walk_list (xs := txs us)) (fun i σ H2 => ∃ z G, σ = [some (.ref rd), some (.ref ul), some (.ref a), z, none] ∧ Same H H2 ∧ SysAt K H2 a p i G ∧ G.us = us.take i ∧ G.es = []) ⟨none, .nil, rfl, s1, hS1, by simp [Grf.nil], rfl⟩ (fun i σ H2 _ hP => ?_) ?_ ?_
    · obtain ⟨_, _, _, s2, _⟩ := hP
      exact s2.seq hul
    · rintro i x σ H2 H3 hi ⟨z, G, rfl, s2, hS, hGu, hGe⟩ ⟨rfl, hx⟩
      obtain ⟨u, hu', rfl⟩ := txs_at hx
      have huU : u ∈ us := List.mem_of_getElem? hu'
      have hiu : i < us.length := by rw [txs_len] at hi; exact hi
      have hno : u ∉ us.take i := not_take usnd hu'
      have tk1 : us.take (i + 1) = us.take i ++ [u] := by
        rw [List.take_add_one, hu']
        rfl
      have hS' := hS
      obtain ⟨dx2, c, o, past, h1, h2, h3, h4, h5, h6⟩ := hS.ex
      refine ⟨_, rfl, a, dx2, _, rfl, h1, rfl, _, rfl, a, p, i, G, u, rfl, hS', by omega, usok u huU, by rw [hGu]; exact hno, by rw [hGu, List.length_take]; omega, fun H4 b4' hS4 => ?_⟩
      exact ⟨_, _, rfl, but_same s2 b4' na npa, hS4, by rw [tk1, ← hGu]; rfl, hGe⟩
    · rintro σ H2 ⟨z, G, rfl, s2, hS, hGu, hGe⟩
      rw [txs_len, List.take_length] at hGu
      rw [txs_len] at hS
      have hrd2 := s2 _ _ hrd
      refine ⟨rd, _, hrd2, True.intro, fun od => ⟨_, rfl, rd, od, rfl, .inl ⟨tk (refs L), upd_same, ?_⟩⟩⟩
      have hk0 : tk (refs L) ≠ [] := by
        cases L with
        | nil => exact absurd rfl hL0
        | cons r L => intro e; cases e
      have hSL := SysAt.lock (X := .frz od (.dK (tk (refs L)))) hS hGe hrd2 hk0
      have sL : Same (upd H rd (.frz od (.dK (tk (refs L))))) (upd H2 rd (.frz od (.dK (tk (refs L))))) := fun b o e => by
        by_cases hb : b = rd
        · subst hb
          rw [upd_same] at e ⊢
          exact e
        · rw [upd_ne hb] at e ⊢
          exact s2 _ _ e
      have ard : a ≠ rd := fun e => by rw [e, hrd] at na; cases na
      have prd : p ≠ rd := fun e => by rw [e, hrd] at npa; cases npa
      have naL : upd H rd (.frz od (.dK (tk (refs L)))) a = none := by rw [upd_ne ard]; exact na
      have npL : upd H rd (.frz od (.dK (tk (refs L)))) p = none := by rw [upd_ne prd]; exact npa
      have hSB : DictR (upd H rd (.frz od (.dK (tk (refs L))))) rd (refs L) := DictR.lock (DictAt.r hrd) hrd
      have hLk : (refs L).map (·.1) = L.map (·.1) := refs_keys L
      refine for_it walk_tk (fun i σ H3 => ∃ z3 z4 n G, σ = [some (.ref rd), some (.ref ul), some (.ref a), z3, z4] ∧ Same (upd H rd (.frz od (.dK (tk (refs L))))) H3 ∧ SysAt K H3 a p n G ∧ n ≤ 24 + 25 * i ∧ G.us = us ∧ G.es = (L.map (·.1)).take i ∧ ∀ r ∈ L.take i, ∀ u, G.adj r.1 u = decide (u ∈ r.2.2))
        ⟨_, _, _, G, rfl, sL, hSL, by omega, hGu, by simp [hGe], fun r hr => by simp at hr⟩ (fun i σ H3 _ hP => ?_) ?_ ?_
      · obtain ⟨_, _, _, _, _, s3, _⟩ := hP
        exact s3 _ _ upd_same
      · rintro i x σ H3 H4 hi ⟨z3, z4, n, G3, rfl, s3, hS3, hn3, hGu3, hGe3, hadj3⟩ ⟨rfl, hx⟩
        rw [hLk] at hx hi
        rw [txs_len, List.length_map] at hi
        obtain ⟨e, he, rfl⟩ := txs_at hx
        rw [List.getElem?_map] at he
        obtain ⟨r, hr', rfl⟩ := Option.map_eq_some_iff.mp he
        have hrL : r ∈ L := List.mem_of_getElem? hr'
        obtain ⟨rw1, rw2, rw3⟩ := hrow r hrL
        have htl : L.take (i + 1) = L.take i ++ [r] := by
          rw [List.take_add_one, hr']
          rfl
        have hkl : (L.map (·.1)).take (i + 1) = (L.map (·.1)).take i ++ [r.1] := by
          rw [List.take_add_one, List.getElem?_map, hr']
          rfl
        have hnoe : r.1 ∉ (L.map (·.1)).take i := not_take hnd (by rw [List.getElem?_map, hr']; rfl)
        have hrl : r.2.2.length ≤ 24 := Nat.le_trans (len_le_of_sub rw2 rw3) usl
        have hS3' := hS3
        obtain ⟨dx2, c, o, past, h1, h2, h3, h4, h5, h6⟩ := hS3.ex
        refine ⟨_, rfl, a, dx2, _, rfl, h1, rfl, _, rfl, a, p, n, G3, r.1, rfl, hS3', by omega, hLok r hrL, by rw [hGe3]; exact hnoe, by rw [hGe3, List.length_take, List.length_map]; omega, fun H5 b5 hS5 => ?_⟩
        have s5 := but_same s3 b5 naL npL
        have hrg : dget (refs L) r.1 = some (.ref r.2.1) := refs_get hnd hrL
        have rwL : SqL K (upd H rd (.frz od (.dK (tk (refs L))))) r.2.1 (txs r.2.2) := SqL.lock (K := K) rw1 hrd
        refine ⟨_, rfl, _, rfl, rd, .ref r.2.1, rfl, hrg ▸ DictR.get (DictR.same hSB s5) r.1, r.2.1, rfl, ⟨_, s5.seq rwL⟩, ?_⟩
        refine for_it (walk_list (xs := txs r.2.2)) (fun j σ H6 => ∃ z3 n6 G6, σ = [some (.ref rd), some (.ref ul), some (.ref a), z3, some (.str r.1)] ∧ Same (upd H rd (.frz od (.dK (tk (refs L))))) H6 ∧ SysAt K H6 a p n6 G6 ∧ n6 ≤ 24 + 25 * i + 1 + j ∧ G6.us = us ∧ G6.es = (L.map (·.1)).take (i + 1) ∧ (∀ r ∈ L.take i, ∀ u, G6.adj r.1 u = decide (u ∈ r.2.2)) ∧ ∀ u, G6.adj r.1 u = decide (u ∈ r.2.2.take j))
          ⟨_, _, _, rfl, s5, hS5, by omega, hGu3, by rw [hkl, ← hGe3]; rfl, fun r' hr'' u => ?_, fun u => ?_⟩ (fun j σ H6 _ hP => ?_) ?_ ?_
        · have hne : r'.1 ≠ r.1 := fun e => hnoe (by rw [← e, ← List.map_take]; exact List.mem_map_of_mem hr'')
          show (G3.adj r'.1 u && !decide (r'.1 = r.1)) = _
          rw [hadj3 r' hr'' u, decide_eq_false hne]
          simp
        · show (G3.adj r.1 u && !decide (r.1 = r.1)) = _
          simp
        · obtain ⟨_, _, _, _, s6, _⟩ := hP
          exact s6.seq rwL
        · rintro j x σ H6 H7 hj ⟨z6, n6, G6, rfl, s6, hS6, hn6, hGu6, hGe6, hadj6, hrow6⟩ ⟨rfl, hx6⟩
          obtain ⟨u, hu6, rfl⟩ := txs_at hx6
          rw [txs_len] at hj
          have huR : u ∈ r.2.2 := List.mem_of_getElem? hu6
          have huU := rw3 u huR
          have htj : r.2.2.take (j + 1) = r.2.2.take j ++ [u] := by
            rw [List.take_add_one, hu6]
            rfl
          have hS6' := hS6
          obtain ⟨dx3, c3, o3, past3, g1, g2, g3, g4, g5, g6⟩ := hS6.ex
          refine ⟨_, rfl, a, dx3, _, rfl, g1, rfl, _, rfl, _, rfl, a, p, n6, G6, r.1, u, rfl, hS6', by omega, hLok r hrL, usok u huU, by rw [hGe6, hkl]; simp, by rw [hGu6]; exact huU, ?_, fun H8 b8 hS8 => ?_⟩
          · rw [hrow6 u]
            exact decide_eq_false (not_take rw2 hu6)
          · refine ⟨_, _, _, rfl, but_same s6 b8 naL npL, hS8, by omega, hGu6, hGe6, fun r' hr'' v => ?_, fun v => ?_⟩
            · have hne : r'.1 ≠ r.1 := fun e => hnoe (by rw [← e, ← List.map_take]; exact List.mem_map_of_mem hr'')
              show (decide (r'.1 = r.1) && decide (v = u) || G6.adj r'.1 v) = _
              rw [decide_eq_false hne, Bool.false_and, Bool.false_or]
              exact hadj6 r' hr'' v
            · show (decide (r.1 = r.1) && decide (v = u) || G6.adj r.1 v) = _
              rw [hrow6 v, htj, decide_eq_true rfl, Bool.true_and, ← Bool.decide_or]
              exact decide_eq_decide.mpr (by simp [or_comm])
        · rintro σ H6 ⟨z6, n6, G6, rfl, s6, hS6, hn6, hGu6, hGe6, hadj6, hrow6⟩
          rw [txs_len] at hn6 hrow6
          rw [List.take_length] at hrow6
          refine ⟨_, _, _, _, rfl, s6, hS6, by omega, hGu6, hGe6, fun r' hr'' u => ?_⟩
          rw [htl] at hr''
          rcases List.mem_append.mp hr'' with h | h
          · exact hadj6 r' h u
          · rw [List.mem_singleton.mp h]
            exact hrow6 u
      · rintro σ H3 ⟨z3, z4, n, G3, rfl, s3, hS3, hn3, hGu3, hGe3, hadj3⟩
        rw [hLk, txs_len, List.length_map] at hn3 hadj3 hGe3
        obtain ⟨h1, h2⟩ := lock_back hrd s3
        refine ⟨h1, _, rfl, ?_⟩
        refine q a p n G3 _ h2 na npa (SysAt.unlock hS3 h1) (by omega) hGu3 ?_ ?_
        · rw [hGe3]
          exact List.take_of_length_le (by simp)
        · rw [List.take_length] at hadj3
          exact hadj3
end
end Bo

/-! S8 -/
set_option Elab.async false
set_option linter.all false
set_option maxRecDepth 100000
set_option maxHeartbeats 2000000
namespace Bo
open PySem PySem.Spec PyProof.Rows L2 NdefX
abbrev N_BI : List Str := ["self", "place", "needs", "equations", "unknowns", "entries", "__class__"]
abbrev ps_BI : List Str := ["self", "place", "needs", "equations", "unknowns", "entries"]
theorem nsc_BI : NScope N_BI ps_BI ["__class__"] (defScope s_Block___init__) := nscope_by (by decide +kernel)
theorem SortT.same {H H' : Hp} {a : Addr} {l : List Str} (h : SortT H a l) (s : Same H H') : SortT H' a l := by
  obtain ⟨ys, h1, h2⟩ := h
  exact ⟨ys, s _ _ h1, h2⟩
theorem SortT.ins {H : Hp} {a e C dx : Addr} {fs : List (Str × V)} {o : HO} {l : List Str} (h : SortT H e l) (ha : H a = some (.ins C dx fs)) : SortT (upd H a o) e l := by
  obtain ⟨ys, h1, h2⟩ := h
  exact ⟨ys, by rw [upd_ne (fun z => by rw [z, ha] at h1; cases h1)]; exact h1, h2⟩
theorem evalArgs_plain2 {M : Model} {A : Around} {E : Value → Shared → Prop} {s : Shared} {f : Value} {l : List (Bool × Sem Value)} {Q : Args → Shared → Prop} (hl : ∃ x rest, l = (false, x) :: rest)
    (h : wpAny M A (spliced l) (fun vs s' => Q ⟨vs, []⟩ s') E s) : wpAny M A (evalArgs f true l []) Q E s := by
  obtain ⟨x, rest, rfl⟩ := hl
  exact Calls.evalArgs_plain h
section
variable {P : Program} {w : World} {K : Fg} {mg : Str → Option Value} {base : Heap}
def BlFs (e u l : Addr) (pl : Int) (n : Addr) : List (Str × V) := [("own_equations", .ref e), ("own_unknowns", .ref u), ("links", .ref l), ("own_place", .int pl), ("own_needs", .ref n)]
def SortI (H : Hp) (a : Addr) (l : List Int) : Prop := ∃ ms : List Int, H a = some (.tup (ms.map V.int)) ∧ ms.Perm l ∧ ms.Pairwise (· ≤ ·)
def spBlock (K : Fg) : Sp := fun vs H Q _ => ∃ (a dx eq un en nd : Addr) (pl : Int) (ns : List Int) (Es Us : List Str) (Ps : Prs), vs = [.ref a, .int pl, .ref nd, .ref eq, .ref un, .ref en] ∧ H a = some (.ins (He.ga K "Block") dx []) ∧ SqL K H nd (ns.map V.int) ∧ ns.length < 64 ∧ SqT K H eq (txs Es) ∧ SqL K H un (txs Us) ∧ PairsAt K H en Ps ∧ Es.length ≤ 24 ∧ Us.length ≤ 24 ∧
  ∀ (e u l n : Addr) (H' : Hp), But [a] H H' → H' a = some (.ins (He.ga K "Block") dx (BlFs e u l pl n)) → SortT H' e Es → SortT H' u Us → SortI H' n ns → Q .non H'
abbrev xB (P : Program) (w : World) (K : Fg) (mg : Str → Option Value) (base : Heap) (A : Around) (outer : List Env) (s : Shared) (H : Hp) (E : XK) (cc cda : Addr) : Cx := ncx CX0 P w K mg base N_BI ⟨d_Block___init__.name, d_Block___init__.qual, defArgs d_Block___init__.st, defBody d_Block___init__.st, defScope d_Block___init__.st, [("__class__", cc)], cda⟩ (d_Block___init__.pth.ad K) A outer s H E
theorem ok_Block_init (T : TX w K mg) (PXh : PX P) : FnR P w K mg base CX0 2 (d_Block___init__.pth.ad K) (spBlock K) ∧ PySem.W.keepIn K (.ref (d_Block___init__.pth.ad K)) = true := by
  obtain ⟨oc, od, kV, doc, pm, an, ct, osl, cc, cda, hlk, hcode, S, kp⟩ := T.sup
  obtain ⟨f1, G1, b1, k1⟩ := ok_Part_init (P := P) (base := base) T
  refine ⟨fun A outer s H us vs Q E hr e0 r hs => ?_, kp⟩
  obtain ⟨a, dx, eq, un, en, nd, pl, ns, Es, Us, Ps, rfl, ha, hnd, hnl, hE, hU, hPs, hEl, hUl, q⟩ := hs
  have kIn : K.In s.heap := e0.mod.kin.keeps fun b o e => (e0.bs b o e).1
  have lim : s.heap.NoLimit := e0.mod.nolimit.keeps fun b o e => (e0.bs b o e).1
  obtain ⟨cl, cld, csl, hcell⟩ := S.cell
  have hccH : H cc = none := (e0.bs _ _ (e0.mod.kin _ _ hcell)).2
  have hcc : s.heap.IsCell cc (some (.ref (He.ga K "Block"))) := ⟨_, kIn _ _ hcell, rfl⟩
  obtain ⟨F, hF⟩ : ∃ F : NF, F = ⟨d_Block___init__.name, d_Block___init__.qual, defArgs d_Block___init__.st, defBody d_Block___init__.st, defScope d_Block___init__.st, [("__class__", cc)], cda⟩ := ⟨_, rfl⟩
  have C : CellsAt F.cl ["__class__"] [none] s.heap H := by
    subst hF
    have key : ∀ {y : Str} {c : Addr}, [(("__class__" : Str), cc)].lookup y = some c → y = "__class__" ∧ c = cc := fun {y c} e => by
      rw [List.lookup_cons] at e
      split at e
      · rename_i h
        exact ⟨of_decide_eq_true h, (Option.some.inj e).symm⟩
      · cases e
    refine ⟨rfl, fun y c e => ?_, fun x y c e1 e2 => ?_, fun i y e => ?_⟩
    · obtain ⟨_, rfl⟩ := key e
      exact ⟨hccH, _, hcc⟩
    · rw [(key e1).1, (key e2).1]
    · cases i with
      | zero =>
        cases e
        exact ⟨cc, rfl, fun v e => by cases e⟩
      | succ i => cases e
  have hul : us.length = 6 := r.length.symm
  match us, hul, r with
  | [u0, u1, u2, u3, u4, u5], _, r =>
    refine PySem.ks_codeAny_call_defAt (fd := { PySem.W.fnOf d_Block___init__.name d_Block___init__.qual (defArgs d_Block___init__.st) (defBody d_Block___init__.st) (defScope d_Block___init__.st) .none kV doc pm an (.ref cda) ct with closure := [("__class__", cc)] }) (body := defBody d_Block___init__.st) (binds := ps_BI.zip [u0, u1, u2, u3, u4, u5]) hr.depth (kIn _ _ hlk) rfl lim (PySem.W.codeRec_of kIn hcode) rfl (BindsTo.of_eq rfl) nsc_BI.nocell (fun x hx => nsc_BI.par _ (List.of_mem_zip hx).1) (fun h₁ hns kp1 => ?_)
    have I : Inv (ncx CX0 P w K mg base N_BI F (d_Block___init__.pth.ad K) A outer s H E) [] (startF N_BI [.ref a, .int pl, .ref nd, .ref eq, .ref un, .ref en] [none]) H { s with heap := h₁, toks := s.toks + (ps_BI.zip [u0, u1, u2, u3, u4, u5]).length } := inv_startN (by rw [hF]; exact nsc_BI) hr.hd e0 rfl r C hns kp1
    subst hF
    have fin : ∀ {σ' : L2.St} {H' : Hp} {v : V} {u : Value} {s' : Shared}, Inv (xB P w K mg base A outer s H E cc cda) [] σ' H' s' → L2.RelV v u → Q v H' → CE outer P w H s Q u s' :=
      fun {σ' H' v u s'} J rv q => ⟨v, H', J.os, J.bare, J.base, J.hok, rv, q⟩
    have main : PySem.wpAt (model P w) (xB P w K mg base A outer s H E cc cda).A (.func (defBody d_Block___init__.st) (xB P w K mg base A outer s H E cc cda).env) (execs (defBody d_Block___init__.st) (xB P w K mg base A outer s H E cc cda).env)
        (SP (xB P w K mg base A outer s H E cc cda) [] { nx := fun _ H' => Q .non H', rt := Q }) (xB P w K mg base A outer s H E cc cda).xe { s with heap := h₁, toks := s.toks + (ps_BI.zip [u0, u1, u2, u3, u4, u5]).length } := by
      have hcc1 := I.kIn _ _ hcell
      obtain ⟨ccl, cdd, cvs, ccs, tf, hcd1, hcd2⟩ := S.code
      obtain ⟨cdB, hcls⟩ := S.cls
      have hinst := ins_get I.hok ha
      obtain ⟨mA, O, _, _, _, _⟩ := hinst
      obtain ⟨od2, J, _⟩ := O.look
      obtain ⟨mb, hb1, hb2⟩ := I.mod.blt
      obtain ⟨mm, hn1, hn2⟩ := I.loc
      obtain ⟨us0, ru0, lk0⟩ := hn2 0 "self" (.ref a) rfl rfl (.inl rfl)
      obtain rfl : us0 = Value.ref a := ru0
      have hself : mm "self" = some (.ref a) := by
        rcases lk0 with ⟨_, e⟩ | ⟨h, _⟩
        · exact e
        · rcases h with h | h <;> cases h
      obtain ⟨oD, hD1, hD2⟩ : ∃ oD, h₁.get? (He.ga K "Block") = some oD ∧ oD.data = .cls cdB := by
        have hD := hcls
        unfold PySem.W.clsIn at hD
        split at hD
        · rename_i c d cd' sl ho
          cases hD
          exact ⟨_, I.kIn _ _ ho, rfl⟩
        · cases hD
      obtain ⟨fdP, FP⟩ := T.says.def_ ix_Part___init__ (d := d_Part___init__) rfl rfl
      obtain ⟨oc2, od3, dV2, kV2, doc2, pm2, an2, cdv2, ct2, osl2, _, lk2, _⟩ := FP.ex
      have hfi : PySem.W.fnIn K (He.ma K (He.ga K "Part") "__init__") = true := by
        have lk2' : K.lookup (He.ma K (He.ga K "Part") "__init__") = _ := lk2
        unfold PySem.W.fnIn
        rw [lk2']
      have hoc2 : oc2 = .type "function" := by
        have h : (Option.map (fun x : Obj => x.cls) (K.lookup (He.ma K (He.ga K "Part") "__init__")) == some (Value.type "function")) = true := S.fn
        have lk2' : K.lookup (He.ma K (He.ga K "Part") "__init__") = _ := lk2
        rw [lk2'] at h
        exact Option.some.inj (beq_iff_eq.mp h)
      refine ks_wpAt_execs_cons (ks_wpAt_Expr_any (ks_wpAt_MethodCall (PySem.ks_wpAt_super_base (env := (xB P w K mg base A outer s H E cc cda).env) rfl rfl rfl rfl (I.kIn _ _ hlk) rfl rfl rfl (I.kIn _ _ hcd1) rfl hcd2 PXh.file PXh.top ?_)))
      refine PySem.W.ks_loadName_global I.ok.kind rfl (Calls.loadGlobal_builtin (by rw [I.ok.glob]; exact I.mod.glob.keeps I.bk) T.f_super (by rw [I.ok.blt]; exact hb1.keeps I.bk) ((hb2 "super" (by decide)).trans (by kernel_rfl)) ⟨rfl, ?_⟩)
      refine wpAny_loadName_free I.ok.kind rfl rfl ⟨_, hcc1, rfl⟩ ?_
      refine wpAny_loadName_local I.ok.kind rfl hn1 hself ?_
      refine PySem.ks_wpAny_isType_cls hD1 hD2 ⟨rfl, ?_⟩
      refine PySem.ks_wpAny_call_super hD1 hD2 J.at_ J.cls (fun c e => ?_) (PySem.W.looks_mroIn I.kIn S.mro) (fun h' e k => ?_)
      · have := J.no
        unfold PySem.W.notCls at this
        rw [e] at this
        exact Bool.noConfusion this
      have I1 := I.kept (t' := s.toks + (ps_BI.zip [u0, u1, u2, u3, u4, u5]).length) k
      have hnx : PySem.W.alongIn K "__init__" ((cdB.mro.dropWhile (· != .ref (He.ga K "Block"))).drop 1) = some (some (.ref (He.ma K (He.ga K "Part") "__init__"))) := by
        have h := S.next
        unfold PySem.W.ks_superIn at h
        rw [hcls] at h
        exact h
      refine PySem.ks_wpAny_getMethod_super e (PySem.W.looks_opaque I1.kIn S.any) (l₀ := cdB.mro) (fun A Q E s k q => wpAny_bind ((PySem.W.looks_clsIn I1.kIn hcls) A _ E s k (wpAny_pure q))) rfl I1.kIn hnx (I1.kIn _ _ lk2) hoc2 (PySem.W.ks_ne I.kIn J hcls) (by decide) ?_
      have I2 := I1.laid (t' := s.toks + (ps_BI.zip [u0, u1, u2, u3, u4, u5]).length + 1) (a := h'.objs.size) (o := .met (He.ma K (He.ga K "Part") "__init__") a) (fun b u z => Heap.get?_push_of_some _ z) (Nat.le_refl _)
        (show (h'.push (PySem.W.methodObj (.ref (He.ma K (He.ga K "Part") "__init__")) (.ref a))).get? h'.objs.size = some (PySem.W.methodObj (.ref (He.ma K (He.ga K "Part") "__init__")) (.ref a)) from Heap.get?_push_size h' rfl)
      have hq0 := I1.hok.fresh (Nat.le_refl h'.objs.size)
      have hsq : Same H (upd H h'.objs.size (.met (He.ma K (He.ga K "Part") "__init__") a)) := same_new hq0
      generalize h'.objs.size = qa at hq0 I2 hsq ⊢
      have hr1 : Room 1 (xB P w K mg base A outer s H E cc cda).A := hr.deeper _
      refine callwith_met (a := a) (X := xB P w K mg base A outer s H E cc cda) rfl hfi ?_
      refine evalArgs_plain2 ⟨_, _, rfl⟩ (L2.thn (PA.run (pa_cons (pv 3) (pa_cons (pv 4) (pa_cons (pv 5) pa_nil))) _ [] _ _ _ (fun vs H2 => vs = [.ref eq, .ref un, .ref en] ∧ H2 = upd H qa (.met (He.ma K (He.ga K "Part") "__init__") a)) I2 ⟨_, rfl, _, rfl, _, rfl, rfl, rfl⟩) fun us2 s2 hap => ?_)
      obtain ⟨vs2, H2, I3, rv2, rfl, rfl⟩ := hap
      have hm3 := met_P I3 (q := qa) upd_same
      refine ⟨hm3, ?_⟩
      have hsp : spPart K ([.ref a, .ref eq, .ref un, .ref en] ++ []) (upd H qa (.met (He.ma K (He.ga K "Part") "__init__") a)) (fun _ H' => ∃ e u l, But [a] H H' ∧ H' a = some (.ins (He.ga K "Block") dx (PartFs e u l)) ∧ SortT H' e Es ∧ SortT H' u Us) E0 :=
        ⟨a, dx, eq, un, en, Es, Us, Ps, rfl, hsq _ _ ha, Same.tup hsq hE, hsq.seq hU, hPs.same hsq, hEl, hUl, fun e u l H' b h1 h2 h3 => ⟨e, u, l, (Same.but hsq _).trans b, h1, h2, h3⟩⟩
      refine L2.thn (wpAny_call (PySem.W.method_call hm3.1 (run_fnR (X := xB P w K mg base A outer s H E cc cda) (us := .ref a :: us2) (vs := [.ref a, .ref eq, .ref un, .ref en]) (G1.raw b1 .nil) hr1 pass0 I3 (.cons rfl rv2) hsp))) (fun v s3 hep => ?_)
      obtain ⟨x, H3, J3, rx, e, u, l, b3, ha3, hSE, hSU⟩ := hep
      show PySem.wpAt _ _ _ (execs _ _) _ _ _
      refine wpAt_of_wpAny (PSs.run (pss_cons (ps_fld (pv 0) (pv 1) rfl) (pss_one (ps_fld (pv 0) (pe_callTy call_tuple_of (by rfl) T.f_tuple PyProof.Rows.boot_tuple (pa_cons (pe_callB cr_sorted (by rfl) T.f_sorted boot_sorted (pa_cons (pv 2) pa_nil)) pa_nil)) rfl))) [] _ _ _ _ J3 ?_)
      refine ⟨_, rfl, _, rfl, a, _, dx, _, rfl, ha3, T.cls_Block, T.no_Block_own_place, by show 3 < 1000; decide, ?_⟩
      have b4 := b3.put (p := a) (o := .ins (He.ga K "Block") dx (putF "own_place" (.int pl) (PartFs e u l))) (by simp)
      have h4 : upd H3 a (.ins (He.ga K "Block") dx (putF "own_place" (.int pl) (PartFs e u l))) a = some (.ins (He.ga K "Block") dx (putF "own_place" (.int pl) (PartFs e u l))) := upd_same
      have sE4 : SortT (upd H3 a (.ins (He.ga K "Block") dx (putF "own_place" (.int pl) (PartFs e u l)))) e Es := hSE.ins ha3
      have sU4 : SortT (upd H3 a (.ins (He.ga K "Block") dx (putF "own_place" (.int pl) (PartFs e u l)))) u Us := hSU.ins ha3
      generalize upd H3 a (.ins (He.ga K "Block") dx (putF "own_place" (.int pl) (PartFs e u l))) = H4 at b4 h4 sE4 sU4 ⊢
      refine ⟨_, rfl, nd, ns, rfl, SqL.but hnd b4 ha, hnl, fun ms p1 pm so np => ?_⟩
      refine ⟨p1, _, rfl, .inl ⟨SqL.of upd_same, fun n nn => ?_⟩⟩
      have s5 := Same.new (same_new np (o := .lst (ms.map V.int))) nn (o := .tup (ms.map V.int))
      have na : n ≠ a := fun z => by
        have := (same_new np (o := .lst (ms.map V.int))) _ _ h4
        rw [← z, nn] at this
        cases this
      have hn5 : upd (upd H4 p1 (.lst (ms.map V.int))) n (.tup (ms.map V.int)) n = some (.tup (ms.map V.int)) := upd_same
      refine ⟨_, rfl, a, _, dx, _, rfl, s5 _ _ h4, T.cls_Block, T.no_Block_own_needs, by show 4 < 1000; decide, ?_⟩
      refine q e u l n _ ((b4.trans (Same.but s5 _)).put (by simp)) upd_same ((sE4.same s5).ins (s5 _ _ h4)) ((sU4.same s5).ins (s5 _ _ h4)) ⟨ms, ?_, pm, so⟩
      show upd _ a _ n = _
      rw [upd_ne na]
      exact hn5
    refine ks_wpAt_mono main (fun fl s' hs => ?_) fun e s' hs => hs
    cases fl with
    | ret u =>
      obtain ⟨v, σ', H', J, rv, q⟩ := hs
      exact fin J rv q
    | next =>
      obtain ⟨σ', H', J, q⟩ := hs
      exact fin (v := V.non) (u := Value.none) J rfl q
    | brk =>
      obtain ⟨_, _, _, q⟩ := hs
      exact False.elim q
    | cont =>
      obtain ⟨_, _, _, q⟩ := hs
      exact False.elim q
end
end Bo

/-! LU -/
set_option Elab.async false
set_option linter.all false
set_option maxRecDepth 100000
set_option maxHeartbeats 1000000
namespace Bo
open PySem PySem.Spec PyProof.Rows L2
/-- a block as it stands: its place in H, its fields, its sorted names -/
structure Bk where
  a : Addr
  dx : Addr
  e : Addr
  u : Addr
  l : Addr
  n : Addr
  pl : Int
  ys : List Str
  zs : List Str
  ms : List Int
structure BkAt (K : Fg) (H : Hp) (b : Bk) : Prop where
  at_ : H b.a = some (.ins (He.ga K "Block") b.dx (BlFs b.e b.u b.l b.pl b.n))
  eq : H b.e = some (.tup (txs b.ys))
  un : H b.u = some (.tup (txs b.zs))
  nd : H b.n = some (.tup (b.ms.map V.int))
theorem BkAt.same {K : Fg} {H H' : Hp} {b : Bk} (h : BkAt K H b) (s : Same H H') : BkAt K H' b := ⟨s _ _ h.at_, s _ _ h.eq, s _ _ h.un, s _ _ h.nd⟩
/-- a shown pair: the tuple, its two lists -/
structure Sw where
  t : Addr
  p : Addr
  q : Addr
  ys : List Str
  zs : List Str
structure SwAt (H : Hp) (r : Sw) : Prop where
  t : H r.t = some (.tup [.ref r.p, .ref r.q])
  p : H r.p = some (.lst (txs r.ys))
  q : H r.q = some (.lst (txs r.zs))
theorem SwAt.same {H H' : Hp} {r : Sw} (h : SwAt H r) (s : Same H H') : SwAt H' r := ⟨s _ _ h.t, s _ _ h.p, s _ _ h.q⟩
abbrev swV (L : List Sw) : List V := L.map fun r => V.ref r.t
abbrev swD (L : List Sw) : List PyData := L.map fun r => PyData.tuple [.list (strD r.ys), .list (strD r.zs)]
theorem dp_sw {K : Fg} {H : Hp} {L : List Sw} (h : ∀ r ∈ L, SwAt H r) : DpAll K H (swV L) (swD L) := dpAll_map fun r hr => .tup (SqT.of (h r hr).t) (.cons (.lst (SqL.of (h r hr).p) (dp_txs _)) (.cons (.lst (SqL.of (h r hr).q) (dp_txs _)) .nil))
section
variable {P : Program} {w : World} {K : Fg} {mg : Str → Option Value} {base : Heap}
def rLo (K : Fg) : List V → Hp → VK → Prop := fun xs H Q => ∃ p ys, xs = [V.ref p] ∧ (SqL K H p ys ∨ SqT K H p ys) ∧ ∀ (l : Addr), H l = none → Q (.ref l) (upd H l (.lst ys))
def spShown (K : Fg) : Sp := fun vs H Q _ => ∃ (t : Addr) (Bs : List Bk), vs = [.ref t] ∧ SqT K H t (Bs.map fun b => V.ref b.a) ∧ Bs.length ≤ 24 ∧ (∀ b ∈ Bs, BkAt K H b ∧ b.ys.length ≤ 24 ∧ b.zs.length ≤ 24) ∧
  ∀ p (L : List Sw) H', Same H H' → H p = none → H' p = some (.lst (swV L)) → (∀ r ∈ L, SwAt H' r) → L.map (fun r => (r.ys, r.zs)) = Bs.map (fun b => (b.ys, b.zs)) → Q (.ref p) H'
theorem ok__law_shown (T : TX w K mg) : Ok P w K mg base 3 d__law_shown ["_law_parts"] (spShown K) := by
  refine mkOk T ix__law_shown rfl rfl rfl sc__law_shown (fun _ _ _ _ _ _ us hl => match us, hl with | [_], _ => rfl) (fun vs H Q E h => ?_) (fun cdv A outer s0 H vs Q E hr h => ?_)
  · obtain ⟨t, Bs, rfl, _⟩ := h
    rfl
  · obtain ⟨t, Bs, rfl, ht, hBl, hBs, q⟩ := h
    obtain ⟨f1, G1, b1, k1⟩ := ok_Block_equations (P := P) (base := base) T
    obtain ⟨f2, G2, b2, k2⟩ := ok_Block_unknowns (P := P) (base := base) T
    refine ⟨_, pss_one (ps_ret (pe_lc (own := [("_law_part", 1)]) (g := gName 1) (tt := tYes) (by rfl) sc__law_shown.nd (pi_tup (pv 0)) (blkOk_by (N := N__law_shown) (sc := defScope s__law_shown) (by decide +kernel))
      (fun _ _ _ _ _ => pgn (i := 1) sc__law_shown.nd) (fun _ _ _ _ _ => pts_nil) (fun _ _ _ _ _ => pe_tup (pa_cons
        (pe_callTy (r := rLo K) call_list_of (by rfl) T.f_list PyProof.Rows.boot_list (pa_cons (pe_prop (pv 1) T.cls_Block T.p_Block_equations G1 hr b1 .nil pass0 rfl) pa_nil)) (pa_cons
        (pe_callTy (r := rLo K) call_list_of (by rfl) T.f_list PyProof.Rows.boot_list (pa_cons (pe_prop (pv 1) T.cls_Block T.p_Block_unknowns G2 hr b2 .nil pass0 rfl) pa_nil)) pa_nil))))), ?_⟩
    refine ⟨_, rfl, t, rfl, ⟨_, ht⟩, fun D nD => ?_⟩
    have sD := same_new nD (o := .lst [])
    refine lc_it (walk_tup (xs := Bs.map fun b => V.ref b.a)) (fun i H5 => Same H H5 ∧ ∃ L : List Sw, H5 D = some (.lst (swV L)) ∧ (∀ r ∈ L, SwAt H5 r ∧ r.t ≠ D ∧ r.p ≠ D ∧ r.q ≠ D) ∧ L.map (fun r => (r.ys, r.zs)) = (Bs.take i).map (fun b => (b.ys, b.zs)))
      ⟨sD, [], upd_same, fun r hr => (nomatch hr), by simp⟩ (fun i H5 _ p => Same.tup p.1 ht) (fun i x H5 H6 hi p y => ?_) (fun H5 p => ?_)
    · obtain ⟨s5, L, hL, hLs, hLk⟩ := p
      obtain ⟨rfl, hx⟩ := y
      obtain ⟨b, hb, rfl⟩ : ∃ b, Bs[i]? = some b ∧ V.ref b.a = x := by
        rw [List.getElem?_map] at hx
        exact Option.map_eq_some_iff.mp hx
      have hbB : b ∈ Bs := List.mem_of_getElem? hb
      obtain ⟨hbA, hy24, hz24⟩ := hBs b hbB
      have hb5 := hbA.same s5
      refine ⟨rfl, ?_⟩
      dsimp only [tYes]
      rw [if_pos rfl]
      refine ⟨_, rfl, b.a, b.dx, _, rfl, hb5.at_, b.a, b.dx, _, .ref b.e, rfl, hb5.at_, rfl, b.e, _, rfl, .inr (SqT.of hb5.eq), fun l1 n1 => ?_⟩
      have k1 := same_new n1 (o := .lst (txs b.ys))
      have hb6 := hb5.same k1
      refine ⟨_, rfl, b.a, b.dx, _, rfl, hb6.at_, b.a, b.dx, _, .ref b.u, rfl, hb6.at_, rfl, b.u, _, rfl, .inr (SqT.of hb6.un), fun l2 n2 => ?_⟩
      have k2 := same_new n2 (o := .lst (txs b.zs))
      refine ⟨small (by show 2 ≤ 1000; decide), fun tp ntp => ?_⟩
      have k3 := same_new ntp (o := .tup [.ref l1, .ref l2])
      have k123 := (k1.trans k2).trans k3
      have hD7 := k123 _ _ hL
      have d1 : l1 ≠ D := fun z => by rw [z, hL] at n1; cases n1
      have d2 : l2 ≠ D := fun z => by rw [z, k1 _ _ hL] at n2; cases n2
      have d3 : tp ≠ D := fun z => by rw [z, k2 _ _ (k1 _ _ hL)] at ntp; cases ntp
      have hnew : SwAt _ ⟨tp, l1, l2, b.ys, b.zs⟩ := ⟨upd_same, k3 _ _ (k2 _ _ upd_same), k3 _ _ upd_same⟩
      have hLl : L.length ≤ 24 := by
        have := congrArg List.length hLk
        rw [List.length_map, List.length_map, List.length_take] at this
        omega
      refine ⟨swV L, hD7, small1000 (by rw [List.length_map]; omega), Same.over (s5.trans k123) nD, L ++ [⟨tp, l1, l2, b.ys, b.zs⟩], ?_, fun r hr => ?_, ?_⟩
      · rw [upd_same]
        show some (HO.lst (swV L ++ [V.ref tp])) = _
        unfold swV
        rw [List.map_append]
        rfl
      · have go : ∀ {r : Sw} {H7 : Hp}, SwAt H7 r → r.t ≠ D → r.p ≠ D → r.q ≠ D → ∀ o, SwAt (upd H7 D o) r := fun {r H7} h a1 a2 a3 o => ⟨by rw [upd_ne a1]; exact h.t, by rw [upd_ne a2]; exact h.p, by rw [upd_ne a3]; exact h.q⟩
        rcases List.mem_append.mp hr with h | h
        · obtain ⟨g1, g2, g3, g4⟩ := hLs r h
          exact ⟨go (g1.same k123) g2 g3 g4 _, g2, g3, g4⟩
        · rw [List.mem_singleton.mp h]
          exact ⟨go hnew d3 d1 d2 _, d3, d1, d2⟩
      · rw [List.map_append, hLk, List.take_add_one, hb, List.map_append]
        rfl
    · obtain ⟨s5, L, hL, hLs, hLk⟩ := p
      rw [List.length_map, List.take_length] at hLk
      exact q D L _ s5 nD hL (fun r hr => (hLs r hr).1) hLk
end
end Bo

/-! C2 -/
set_option Elab.async false
set_option linter.all false
set_option maxRecDepth 100000
set_option maxHeartbeats 1000000
/-! Comprehensions with two fors and no test, of any kind. -/
namespace Bo
open PySem PySem.Spec PyProof.Rows L2
/-- how its block starts -/
def Starts (c : Expr) (n : Nat) : Prop := ∀ {prog : Program} {w : World} {A : Around} {R : Result → Shared → Prop} {s : Shared} {it acc : Value} {env : Env}, codeAny (model prog w) A (.compLoop c n it acc env) R s →
  wpAny (model prog w) A (pyIter it) (fun it' s' => codeAny (model prog w) A (.compLoop c n it' acc env) R s') (notedBy (model prog w) A env fun x s' => R (.error x) s') s → codeAny (model prog w) A (.compStart c n it acc env) R s
structure Two (c t0 i0 t1 i1 : Expr) (el : Addr → Env → Sem Unit) : Prop where
  out : ∀ it D env, compTurn c 0 it (.ref D) env = (do
    standAt i0.pos
    match ← pyNext it with
    | none => pure (.done .next)
    | some v =>
      letOwnedTupleGo t0 it v
      assign t0 env v
      let x ← eval i1 env
      standAt i1.pos
      let x ← foldedSetIterable i1 env x
      let _ ← runOwn (.compStart c 1 (← holding [x] (pyIter x)) (.ref D) env) env
      again (.compLoop c 0 it (.ref D) env))
  inn : ∀ it D env, compTurn c 1 it (.ref D) env = (do
    standAt i1.pos
    match ← pyNext it with
    | none => pure (.done .next)
    | some v =>
      letOwnedTupleGo t1 it v
      assign t1 env v
      el D env
      again (.compLoop c 1 it (.ref D) env))
  den : ∀ (prog : Program) (w : World) (n : Nat) it D env, (model prog w).den (.compLoop c n it (.ref D) env) = (compTurn c n it (.ref D) env).onRaise (fun x => do noteFrame x env; theTreesLotGoes x)
  und : ∀ (A : Around) (n : Nat) it D env, A.under (.compLoop c n it (.ref D) env) = A
  st0 : Starts c 0
  st1 : Starts c 1
section
variable {prog : Program} {w : World} {A : Around} {R : Result → Shared → Prop} {s : Shared} {it acc : Value} {env : Env} {elt kx vx t0 i0 t1 i1 : Expr} {scope : Scope} {pos : Pos}
theorem starts_set (n : Nat) (hn : n = 0 ∨ n = 1) : Starts (.SetComp elt [⟨t0, i0, [], 0⟩, ⟨t1, i1, [], 0⟩] scope pos) n := by
  intro prog w A R s it acc env h0 h
  refine codeAny_of_tree ?_
  show wpAny _ _ ((compStart (.SetComp elt [⟨t0, i0, [], 0⟩, ⟨t1, i1, [], 0⟩] scope pos) n it acc env).onRaise (fun x => do noteFrame x env; standAt theWindowsPlace)) _ _ s
  refine wpAny_notedAt ?_
  unfold compStart
  rcases hn with rfl | rfl
  all_goals
    show wpAny _ _ (ask >>= _) _ _ s
    refine wpAny_bind (wpAny_askSetting (wpAny_ite ?_))
    split
    · first
        | exact wpAny_bind (wpAny_pure (wpAny_pure (And.intro rfl h0)))
        | exact wpAny_pure (And.intro rfl h0)
    · refine wpAny_bind (wpAny_rule ?_)
      show wpAny _ _ (standAt _ >>= _) _ _ s
      exact wpAny_bind (wpAny_standAt (wpAny_bind (wpAny_mono h (fun it' s' h' => wpAny_pure (And.intro rfl h')) fun _ _ x => x)))
theorem starts_dict (n : Nat) (hn : n = 0 ∨ n = 1) : Starts (.DictComp kx vx [⟨t0, i0, [], 0⟩, ⟨t1, i1, [], 0⟩] scope pos) n := by
  intro prog w A R s it acc env h0 h
  refine codeAny_of_tree ?_
  show wpAny _ _ ((compStart (.DictComp kx vx [⟨t0, i0, [], 0⟩, ⟨t1, i1, [], 0⟩] scope pos) n it acc env).onRaise (fun x => do noteFrame x env; standAt theWindowsPlace)) _ _ s
  refine wpAny_notedAt ?_
  unfold compStart
  rcases hn with rfl | rfl
  all_goals
    show wpAny _ _ (ask >>= _) _ _ s
    refine wpAny_bind (wpAny_askSetting (wpAny_ite ?_))
    split
    · first
        | exact wpAny_bind (wpAny_pure (wpAny_pure (And.intro rfl h0)))
        | exact wpAny_pure (And.intro rfl h0)
    · refine wpAny_bind (wpAny_rule ?_)
      show wpAny _ _ (standAt _ >>= _) _ _ s
      exact wpAny_bind (wpAny_standAt (wpAny_bind (wpAny_mono h (fun it' s' h' => wpAny_pure (And.intro rfl h')) fun _ _ x => x)))
theorem two_set : Two (.SetComp elt [⟨t0, i0, [], 0⟩, ⟨t1, i1, [], 0⟩] scope pos) t0 i0 t1 i1 (fun D env => do let v ← eval elt env; standAt elt.pos; let _ ← call (.builtin "set.add") [.ref D, v]) :=
  ⟨fun _ _ _ => by rfl, fun _ _ _ => by rfl, fun _ _ _ _ _ _ => rfl, fun _ _ _ _ _ => rfl, starts_set 0 (.inl rfl), starts_set 1 (.inr rfl)⟩
theorem two_dict : Two (.DictComp kx vx [⟨t0, i0, [], 0⟩, ⟨t1, i1, [], 0⟩] scope pos) t0 i0 t1 i1 (fun D env => do
    let kv ← eval kx env
    let vv ← holding [kv] (eval vx env)
    standAt { kx.pos with endLine := vx.pos.endLine, endCol := vx.pos.endCol }
    holding [kv, vv] (dictSet D kv vv)) :=
  ⟨fun _ _ _ => by rfl, fun _ _ _ => by rfl, fun _ _ _ _ _ _ => rfl, fun _ _ _ _ _ => rfl, starts_dict 0 (.inl rfl), starts_dict 1 (.inr rfl)⟩
abbrev NB (prog : Program) (w : World) (A : Around) (env : Env) (R : Result → Shared → Prop) : Value → Shared → Prop := notedBy (model prog w) A env fun e s' => R (.error e) s'
variable {c : Expr} {D : Addr} {el : Addr → Env → Sem Unit}
theorem two_out (T2 : Two c t0 i0 t1 i1 el) (hs : ∀ x, foldedSetIterable i1 env x = pure x) (Iv : Nat → Shared → Prop)
    (turn : ∀ n s, Iv n s → wpAny (model prog w) A (pyNext it) (fun r s₁ => match r with
      | none => R (.ok .next) s₁
      | some v => wpAny (model prog w) A (letOwnedTupleGo t0 it v) (fun _ s₂ => wpAny (model prog w) A (assign t0 env v) (fun _ s₃ =>
          wpAny (model prog w) A (eval i1 env) (fun x s₄ => wpAny (model prog w) A (pyIter x) (fun it1 s₅ =>
            codeAny (model prog w) A (.compStart c 1 it1 (.ref D) env) (fun r s' => match r with
              | .ok _ => ∃ m, m < n ∧ Iv m s'
              | .error _ => False) s₅) (NB prog w A env R) s₄) (NB prog w A env R) s₃) (NB prog w A env R) s₂) (NB prog w A env R) s₁) (NB prog w A env R) s)
    (n : Nat) (h : Iv n s) : codeAny (model prog w) A (.compLoop c 0 it (.ref D) env) R s := by
  refine codeAny_loop rfl Iv (fun n s hI => ?_) n h
  rw [T2.den, T2.und]
  refine wpAny_noted ?_
  rw [T2.out]
  refine wpAny_bind (wpAny_standAt (wpAny_bind (wpAny_mono (turn n s hI) (fun r s₁ h₁ => ?_) fun _ _ z => z)))
  cases r with
  | none => exact wpAny_pure h₁
  | some v =>
    refine wpAny_bind (wpAny_mono h₁ (fun _ s₂ h₂ => ?_) fun _ _ z => z)
    refine wpAny_bind (wpAny_mono h₂ (fun _ s₃ h₃ => ?_) fun _ _ z => z)
    refine wpAny_bind (wpAny_mono h₃ (fun x s₄ h₄ => ?_) fun _ _ z => z)
    refine wpAny_bind (wpAny_standAt (wpAny_bind (wpAny_of_eq (hs x) (wpAny_bind (wpAny_holding (wpAny_mono h₄ (fun it1 s₅ h₅ => ?_) fun _ _ z => z))))))
    refine wpAny_bind (wpAny_runOwn ?_)
    rw [Around.mark_none]
    refine codeAny_mono h₅ fun r s' hr => ?_
    cases r with
    | ok f => exact wpAny_pure ⟨rfl, hr⟩
    | error e => exact hr.elim
theorem two_in (T2 : Two c t0 i0 t1 i1 el) (Iv : Nat → Shared → Prop)
    (turn : ∀ n s, Iv n s → wpAny (model prog w) A (pyNext it) (fun r s₁ => match r with
      | none => R (.ok .next) s₁
      | some v => wpAny (model prog w) A (letOwnedTupleGo t1 it v) (fun _ s₂ => wpAny (model prog w) A (assign t1 env v) (fun _ s₃ =>
          wpAny (model prog w) A (el D env) (fun _ s₄ => ∃ m, m < n ∧ Iv m s₄) (NB prog w A env R) s₃) (NB prog w A env R) s₂) (NB prog w A env R) s₁) (NB prog w A env R) s)
    (n : Nat) (h : Iv n s) : codeAny (model prog w) A (.compLoop c 1 it (.ref D) env) R s := by
  refine codeAny_loop rfl Iv (fun n s hI => ?_) n h
  rw [T2.den, T2.und]
  refine wpAny_noted ?_
  rw [T2.inn]
  refine wpAny_bind (wpAny_standAt (wpAny_bind (wpAny_mono (turn n s hI) (fun r s₁ h₁ => ?_) fun _ _ z => z)))
  cases r with
  | none => exact wpAny_pure h₁
  | some v =>
    refine wpAny_bind (wpAny_mono h₁ (fun _ s₂ h₂ => ?_) fun _ _ z => z)
    refine wpAny_bind (wpAny_mono h₂ (fun _ s₃ h₃ => ?_) fun _ _ z => z)
    exact wpAny_bind (wpAny_mono h₃ (fun _ s₄ h₄ => wpAny_pure ⟨rfl, h₄⟩) fun _ _ z => z)
end
end Bo

/-! C3 -/
set_option Elab.async false
set_option linter.all false
set_option maxRecDepth 100000
set_option maxHeartbeats 2000000
/-! The reading of a comprehension with two fors and no test, of any kind. -/
namespace Bo
open PySem PySem.Spec PyProof.Rows L2
def tC2 (o0 : Addr → HO) (wi : TI) (g : TG) (wi1 : TI) (g1 : TG) (te : Addr → L2.St → Hp → (Hp → Prop) → Prop) (vs vs1 : List Nat) : TE := fun σ H Q => wi σ H fun J H1 => ∀ D, H1 D = none → ∃ W : Nat → Nat → Hp → Prop, (∃ m, W 0 m (upd H1 D (o0 D))) ∧ ∀ i m H, W i m H →
  (J.stop i H ∧ Q (.ref D) H) ∨ (J.go i H ∧ ∃ Nx : Hp → Prop, (∀ H', Nx H' → ∃ m', m' < m ∧ W (i + 1) m' H') ∧ ∀ x H', J.yld i H x H' → g x (wipe σ vs) H' fun σ2 H2 => wipe σ2 vs = wipe σ vs ∧
    wi1 σ2 H2 fun J1 H4 => ∃ W1 : Nat → Nat → Hp → Prop, (∃ m, W1 0 m H4) ∧ ∀ j k H, W1 j k H →
      (J1.stop j H ∧ Nx H) ∨ (J1.go j H ∧ ∃ Nx1 : Hp → Prop, (∀ H', Nx1 H' → ∃ k', k' < k ∧ W1 (j + 1) k' H') ∧ ∀ x H', J1.yld j H x H' → g1 x (wipe σ2 vs1) H' fun σ3 H5 => wipe σ3 vs1 = wipe σ2 vs1 ∧ te D σ3 H5 Nx1))
section
variable {X : Cx}
theorem c2_core {pins : List (Addr × Obj)} {s : Shared} {σ : L2.St} {H : Hp} {Q : VK} {c tg iter tg1 iter1 : Expr} {el : Addr → Env → Sem Unit} {newAcc : Sem Value} {ob : Obj} {o0 : Addr → HO} {scope : Scope} {own : List (Str × Nat)} {vs1 : List Nat} {pos' : Pos} {wi wi1 : TI} {g g1 : TG} {te : Addr → L2.St → Hp → (Hp → Prop) → Prop} {use : Option (Value → Sem Unit)} {Qf : Value → Shared → Prop}
    (T2 : Two c tg iter tg1 iter1 el) (hcl : clausesOf c = [⟨tg, iter, [], 0⟩, ⟨tg1, iter1, [], 0⟩])
    (hnew : ∀ {E : Value → Shared → Prop} {s2 : Shared} {Qx : Value → Shared → Prop}, Qx (.ref s2.heap.objs.size) { s2 with heap := s2.heap.push ob } → wpAny (model X.prog X.w) X.A newAcc Qx E s2)
    (hob : ∀ (H : Hp) (s2 : Shared), Inv X pins σ H s2 → ObjOk X.prog X.w (upd H s2.heap.objs.size (o0 s2.heap.objs.size)) (s2.heap.push ob) s2.heap.objs.size (o0 s2.heap.objs.size))
    (hc : X.calm = true) (hN : X.N.Nodup) (I : Inv X pins σ H s) (hi : PI X tg iter wi) (ok : BlkOk X.N X.env.scope scope own) (hv : ∀ i ∈ vs1, i ∈ own.map (·.2))
    (hg : ∀ (s : Shared) (H : Hp) (C : Addr) (cl : List (Str × Addr)) (fp : List Addr), PG (X.blk s H scope (compEnvC scope cl C X.env) fp) tg g)
    (hi1 : ∀ (s : Shared) (H : Hp) (C : Addr) (cl : List (Str × Addr)) (fp : List Addr), PI (X.blk s H scope (compEnvC scope cl C X.env) fp) tg1 iter1 wi1)
    (hg1 : ∀ (s : Shared) (H : Hp) (C : Addr) (cl : List (Str × Addr)) (fp : List Addr), PG (X.blk s H scope (compEnvC scope cl C X.env) fp) tg1 g1)
    (hel : ∀ (s : Shared) (H : Hp) (C : Addr) (cl : List (Str × Addr)) (fp : List Addr) (D : Addr) (pins : List (Addr × Obj)) (σ' : L2.St) (H' : Hp) (s' : Shared) (N : Hp → Prop), Inv (X.blk s H scope (compEnvC scope cl C X.env) fp) pins σ' H' s' → te D σ' H' N →
      wpAny (model X.prog X.w) X.A (el D (compEnvC scope cl C X.env)) (fun _ s'' => ∃ H'', Inv (X.blk s H scope (compEnvC scope cl C X.env) fp) pins σ' H'' s'' ∧ N H'') (fun _ _ => False) s')
    (hs : ∀ x, foldedSetIterable iter X.env x = pure x) (hs1 : ∀ env x, foldedSetIterable iter1 env x = pure x)
    (h : tC2 o0 wi g wi1 g1 te (own.map (·.2)) vs1 σ H Q)
    (hRR : ∀ D C s' m H', Inv X pins σ H' s' → Q (.ref D) H' → s'.heap.Ns C m → FpOk X pins H' C → compPost (model X.prog X.w) X.A X.xe use Qf (.ref D) C (.ok .next) s') :
    wpAny (model X.prog X.w) X.A (comprehension c scope X.env pos' newAcc false (eval iter X.env) use) Qf X.xe s := by
  have hfree : ∀ y ∈ scope.names, y.2 = .free → ∃ c, X.env.cells.lookup y.1 = some c := fun y hy e => by
    rcases ok.free y hy e with k | k
    · exact I.ok.has _ (.inl k)
    · exact I.ok.has _ (.inr k)
  refine wpAny_comprehension_free (use := use) hcl hs (closure_ok hfree) ok.kind (fun y hy e => by rw [ok.uniq y hy, e])
    (L2.thn (hi.run pins s σ H _ I h) fun xv s1 hx => L2.thn hx fun itv s2 h2 => ?_)
  obtain ⟨it, fp, tn, J, H2, e, I2, T, st2, f2, q⟩ := h2
  subst e
  refine hnew (newEnv_comp ?_)
  have ho := hob H2 s2 I2
  generalize hD : s2.heap.objs.size = D at ho ⊢
  have hDn : H2 D = none := I2.hok.fresh (Nat.le_of_eq hD)
  obtain ⟨W, ⟨m0, w0⟩, turn⟩ := q D hDn
  generalize hs3 : ({ s2 with heap := s2.heap.push ob } : Shared) = s3
  have I3 : Inv X pins σ (upd H2 D (o0 D)) s3 := by
    rw [← hs3]
    exact I2.laid (t' := s2.toks) (fun b o e => Heap.get?_push_of_some _ e) (Nat.le_of_eq hD) ho
  have h3 : s3.heap = s2.heap.push ob := by rw [← hs3]
  have f3 : ∀ b ∈ fp, FpOk X pins (upd H2 D (o0 D)) b ∧ b < s3.heap.objs.size := fun b hb => by
    obtain ⟨o, e, _⟩ := T.obj _ _ st2 b hb
    have hlt := Heap.lt_size e
    refine ⟨⟨?_, (f2 b hb).2⟩, by rw [h3, Heap.size_push]; exact Nat.lt_succ_of_lt hlt⟩
    rw [upd_ne (by rw [← hD]; exact Nat.ne_of_lt hlt)]
    exact (f2 b hb).1
  have st3 : tn 0 s3.heap := T.keep _ _ _ st2 fun b _ o e => by rw [h3]; exact Heap.get?_push_of_some _ e
  have I4 := block_start I3 ok hN f3
  have pg := hg s3 (upd H2 D (o0 D)) s3.heap.objs.size (cellsFrom (s3.heap.objs.size + 1) scope.names (cloFrom X.env.cells scope.names [])) fp
  have pi1 := hi1 s3 (upd H2 D (o0 D)) s3.heap.objs.size (cellsFrom (s3.heap.objs.size + 1) scope.names (cloFrom X.env.cells scope.names [])) fp
  have pg1 := hg1 s3 (upd H2 D (o0 D)) s3.heap.objs.size (cellsFrom (s3.heap.objs.size + 1) scope.names (cloFrom X.env.cells scope.names [])) fp
  have pel := hel s3 (upd H2 D (o0 D)) s3.heap.objs.size (cellsFrom (s3.heap.objs.size + 1) scope.names (cloFrom X.env.cells scope.names [])) fp
  show codeAny _ _ (.compStart c 0 (.ref it) (.ref D) (compEnvC scope (cellsFrom (s3.heap.objs.size + 1) scope.names (cloFrom X.env.cells scope.names [])) s3.heap.objs.size X.env)) (compPost (model X.prog X.w) X.A X.xe use Qf (.ref D) s3.heap.objs.size) { s3 with heap := pushCells (s3.heap.push { cls := .type "dict", data := .dict #[] }) scope.names }
  have nfp : ∀ b ∈ fp, (upd H2 D (o0 D)) b = none := fun b hb => (f3 b hb).1.1
  generalize hce : compEnvC scope (cellsFrom (s3.heap.objs.size + 1) scope.names (cloFrom X.env.cells scope.names [])) s3.heap.objs.size X.env = ce at I4 pg pel pi1 pg1 ⊢
  have cL : ce.locals = s3.heap.objs.size := by subst hce; rfl
  generalize hH3 : upd H2 D (o0 D) = H3 at I3 I4 pg pel pi1 pg1 w0 nfp f3
  generalize hs4 : ({ s3 with heap := pushCells (s3.heap.push { cls := .type "dict", data := .dict #[] }) scope.names } : Shared) = s4 at I4 ⊢
  have st4 : tn 0 s4.heap := T.keep _ _ _ st3 fun b _ o e => by rw [← hs4]; exact pushCells_keeps _ _ _ _ (Heap.get?_push_of_some _ e)
  have stat : ∀ {σ' : L2.St} {H' : Hp} {s' : Shared}, Inv (X.blk s3 H3 scope ce fp) [] σ' H' s' → (∀ b ∈ fp, H' b = none) → ∀ b ∈ fp, FpOk (X.blk s3 H3 scope ce fp) [] H' b := fun {σ' H' s'} I' hn b hb =>
    ⟨hn b hb, (I'.ok.exf b hb).1, I'.ok.exfs b hb, .inl hb, fun x c e => (I'.ok.exf b hb).2 x c e, fun p hp => absurd (show p ∈ ([] : List (Addr × Obj)) ++ [] from hp) (by simp)⟩
  have loop : codeAny (model X.prog X.w) X.A (.compLoop c 0 (.ref it) (.ref D) ce) (compPost (model X.prog X.w) X.A X.xe use Qf (.ref D) s3.heap.objs.size) s4 := by
    refine two_out T2 (hs1 ce) (fun n s' => ∃ i H', Inv (X.blk s3 H3 scope ce fp) [] (wipe σ (own.map (·.2))) H' s' ∧ tn i s'.heap ∧ (∀ b ∈ fp, H' b = none) ∧ W i n H') ?_ m0 ⟨0, H3, I4, st4, nfp, w0⟩
    rintro n s5 ⟨i, H5, I5, st5, n5, w5⟩
    rcases turn i n H5 w5 with ⟨stop, qq⟩ | ⟨go, Nx, hNx, step⟩
    · refine thnF (T.done (X.blk s3 H3 scope ce fp) rfl rfl rfl hc i [] s5 _ H5 (fun _ _ => False) I5 (stat I5 n5) st5 stop) fun r s6 ⟨hr, I6⟩ => ?_
      subst hr
      have I7 : Inv X pins σ H5 s6 := I3.call' (ch := fp) I6.os I6.base I6.hok I6.bare fun b hb => ⟨(f3 b hb).1.2.2.2.1, (f3 b hb).1.2.1, (f3 b hb).1.2.2.2.2.1, (f3 b hb).1.2.2.2.2.2⟩
      have nC : H5 s3.heap.objs.size = none := by
        have z : H5 ce.locals = none := I6.free
        rw [cL] at z
        exact z
      obtain ⟨m, hn, _⟩ := I6.loc
      have hn : s6.heap.Ns ce.locals m := hn
      rw [cL] at hn
      exact hRR D s3.heap.objs.size s6 m H5 I7 qq hn (I3.fpOk (Nat.le_refl _) nC)
    · refine thnF (T.item (X.blk s3 H3 scope ce fp) rfl rfl rfl hc i [] s5 _ H5 (fun _ _ => False) I5 (stat I5 n5) st5 go) fun r s6 ⟨u, hr, h6⟩ => ?_
      subst hr
      refine thnF h6 fun _ s7 ⟨x, H7, I7, r7, y7, st7, n7⟩ => ?_
      have I7' := I7.pinned (stat I7 n7) (T.obj _ _ st7)
      refine thnF (pg.run _ s7 _ H7 x u _ I7' r7 (step x H7 y7)) fun _ s8 ⟨σ8, H8, I8, hw8, q8⟩ => ?_
      have fin : ∀ {σ9 : L2.St} {s' : Shared} {H' : Hp}, Inv (X.blk s3 H3 scope ce fp) ([] ++ pinsAt fp s7.heap) σ9 H' s' → (wipe σ (own.map (·.2))).length = σ9.length → (∀ (j : Nat) v, (wipe σ (own.map (·.2)))[j]? = some (some v) → σ9[j]? = some (some v)) → Nx H' →
          ∃ m, m < n ∧ ∃ i H', Inv (X.blk s3 H3 scope ce fp) [] (wipe σ (own.map (·.2))) H' s' ∧ tn i s'.heap ∧ (∀ b ∈ fp, H' b = none) ∧ W i m H' := fun {σ9 s' H'} I' hl hk nx => by
        obtain ⟨m', hm, w'⟩ := hNx H' nx
        have pin' : ∀ b ∈ fp, ∀ o, s7.heap.get? b = some o → s'.heap.get? b = some o ∧ H' b = none := fun b hb o e =>
          let z := I'.pin (b, o) (List.mem_append_right _ (List.mem_append_right _ (mem_pinsAt hb e)))
          ⟨z.1, z.2.1⟩
        refine ⟨m', hm, i + 1, H', (I'.unpinned (pins := [])).weak hl hk, T.keep _ _ _ st7 fun b hb o e => (pin' b hb o e).1, fun b hb => ?_, w'⟩
        obtain ⟨o, e, _⟩ := T.obj _ _ st7 b hb
        exact (pin' b hb o e).2
      have hl8 : (wipe σ (own.map (·.2))).length = σ8.length := by rw [← hw8, wipe_length]
      have hk9 : ∀ (j : Nat) v, (wipe σ (own.map (·.2)))[j]? = some (some v) → (wipe σ8 vs1)[j]? = some (some v) := fun j v e => by
        rw [← hw8] at e
        obtain ⟨e1, e2⟩ := wipe_some e
        rw [wipe_out fun z => e2 (hv j z)]
        exact e1
      refine thnF (pi1.run _ s8 σ8 H8 _ I8 q8) fun xv s10 hx => thnF hx fun itv s11 h11 => ?_
      obtain ⟨it1, fp1, tn1, J1, H11, e1, I11, T1, st11, f11, W1, ⟨m1, w1⟩, turn1⟩ := h11
      subst e1
      have stat1 : ∀ {H' : Hp}, (∀ b ∈ fp1, H' b = none) → ∀ b ∈ fp1, FpOk (X.blk s3 H3 scope ce fp) ([] ++ pinsAt fp s7.heap) H' b := fun hn b hb => ⟨hn b hb, (f11 b hb).2⟩
      have loop1 : codeAny (model X.prog X.w) X.A (.compLoop c 1 (.ref it1) (.ref D) ce)
          (fun r s' => match r with
            | .ok _ => ∃ m, m < n ∧ ∃ i H', Inv (X.blk s3 H3 scope ce fp) [] (wipe σ (own.map (·.2))) H' s' ∧ tn i s'.heap ∧ (∀ b ∈ fp, H' b = none) ∧ W i m H'
            | .error _ => False) s11 := by
        refine two_in T2 (fun k s' => ∃ j H', Inv (X.blk s3 H3 scope ce fp) ([] ++ pinsAt fp s7.heap) (wipe σ8 vs1) H' s' ∧ tn1 j s'.heap ∧ (∀ b ∈ fp1, H' b = none) ∧ W1 j k H') ?_ m1 ⟨0, H11, I11.weak (wipe_length _ _) (fun j v e => (wipe_some e).1), st11, fun b hb => (f11 b hb).1, w1⟩
        rintro k s12 ⟨j, H12, I12, st12, n12, w12⟩
        rcases turn1 j k H12 w12 with ⟨stop1, nx1⟩ | ⟨go1, Nx1, hNx1, step1⟩
        · refine thnF (T1.done (X.blk s3 H3 scope ce fp) rfl rfl rfl hc j _ s12 (wipe σ8 vs1) H12 (fun _ _ => False) I12 (stat1 n12) st12 stop1) fun r s13 ⟨hr, I13⟩ => ?_
          subst hr
          exact fin I13 (hl8.trans (wipe_length σ8 vs1).symm) hk9 nx1
        · refine thnF (T1.item (X.blk s3 H3 scope ce fp) rfl rfl rfl hc j _ s12 (wipe σ8 vs1) H12 (fun _ _ => False) I12 (stat1 n12) st12 go1) fun r s13 ⟨u1, hr, h13⟩ => ?_
          subst hr
          refine thnF h13 fun _ s14 ⟨x1, H14, I14, r14, y14, st14, n14⟩ => ?_
          have I14' := I14.pinned (stat1 n14) (T1.obj _ _ st14)
          refine thnF (pg1.run _ s14 (wipe σ8 vs1) H14 x1 u1 _ I14' r14 (step1 x1 H14 y14)) fun _ s15 ⟨σ15, H15, I15, hw15, q15⟩ => ?_
          refine thnF (pel D _ σ15 H15 s15 Nx1 I15 q15) fun _ s16 ⟨H', I', nx⟩ => ?_
          obtain ⟨m', hm, w'⟩ := hNx1 H' nx
          have pin' : ∀ b ∈ fp1, ∀ o, s14.heap.get? b = some o → s16.heap.get? b = some o ∧ H' b = none := fun b hb o e =>
            let z := I'.pin (b, o) (List.mem_append_right _ (List.mem_append_right _ (mem_pinsAt hb e)))
            ⟨z.1, z.2.1⟩
          refine ⟨m', hm, j + 1, H', I'.unpinned.weak (by rw [← hw15, wipe_length]) (fun j v e => by rw [← hw15] at e; exact (wipe_some e).1), T1.keep _ _ _ st14 fun b hb o e => (pin' b hb o e).1, fun b hb => ?_, w'⟩
          obtain ⟨o, e, _⟩ := T1.obj _ _ st14 b hb
          exact (pin' b hb o e).2
      exact T2.st1 loop1 (T1.self X.A 0 _ _ _ st11 loop1)
  exact T2.st0 loop (T.self X.A 0 _ _ _ st4 loop)
end
end Bo

/-! C4 -/
set_option Elab.async false
set_option linter.all false
set_option maxRecDepth 100000
set_option maxHeartbeats 2000000
namespace Bo
open PySem PySem.Spec PyProof.Rows L2
def teSet (P : Program) (w : World) (te : TE) : Addr → L2.St → Hp → (Hp → Prop) → Prop := fun D σ H N => te σ H fun y H7 => ∃ (k : Key) (S : Key → Bool) (n : Nat), y = kV k ∧ H7 D = some (SetK P w D S n) ∧ n + 1 < scanBound ∧ N (upd H7 D (SetK P w D (fun j => S j || decide (j = k)) (if S k = true then n else n + 1)))
def teDict (tk tv : TE) : Addr → L2.St → Hp → (Hp → Prop) → Prop := fun D σ H N => tk σ H fun y H4 => tv σ H4 fun z H5 => ∃ (kvs : List (Key × V)) (k : Key), y = kV k ∧ H5 D = some (.dK kvs) ∧ kvs.length < sizeLine ∧ N (upd H5 D (.dK (putK kvs k z)))
section
variable {X : Cx}
theorem el_set {elt : Expr} {te : TE} {scope : Scope}
    (he : ∀ (s : Shared) (H : Hp) (C : Addr) (cl : List (Str × Addr)) (fp : List Addr), PE (X.blk s H scope (compEnvC scope cl C X.env) fp) elt te)
    (s : Shared) (H : Hp) (C : Addr) (cl : List (Str × Addr)) (fp : List Addr) (D : Addr) (pins : List (Addr × Obj)) (σ' : L2.St) (H' : Hp) (s' : Shared) (N : Hp → Prop) (I : Inv (X.blk s H scope (compEnvC scope cl C X.env) fp) pins σ' H' s') (h : teSet X.prog X.w te D σ' H' N) :
    wpAny (model X.prog X.w) X.A (do let v ← eval elt (compEnvC scope cl C X.env); standAt elt.pos; let _ ← call (.builtin "set.add") [.ref D, v]) (fun _ s'' => ∃ H'', Inv (X.blk s H scope (compEnvC scope cl C X.env) fp) pins σ' H'' s'' ∧ N H'') (fun _ _ => False) s' := by
  refine wpAny_bind (thnF ((he s H C cl fp).run pins s' σ' H' _ I h) fun z s1 hz => ?_)
  obtain ⟨yv, H1, I1, r1, k, S, n, rfl, hD, room, nx⟩ := hz
  refine wpAny_bind (wpAny_standAt (wpAny_bind (L2.thn (mt_saddK (X := X.blk s H scope (compEnvC scope cl C X.env) fp) pins s1 σ' H1 (.ref D) [kV k] (.ref D) [z] (fun _ H2 => N H2) I1 rfl (.cons r1 .nil) ⟨D, k, S, n, rfl, rfl, hD, room, nx⟩) fun v s2 hv => ?_)))
  obtain ⟨yv2, H2, I2, _, nx2⟩ := hv
  exact wpAny_pure ⟨H2, I2, nx2⟩
theorem el_dict {kx vx : Expr} {tk tv : TE} {scope : Scope}
    (hk : ∀ (s : Shared) (H : Hp) (C : Addr) (cl : List (Str × Addr)) (fp : List Addr), PE (X.blk s H scope (compEnvC scope cl C X.env) fp) kx tk)
    (he : ∀ (s : Shared) (H : Hp) (C : Addr) (cl : List (Str × Addr)) (fp : List Addr), PE (X.blk s H scope (compEnvC scope cl C X.env) fp) vx tv)
    (s : Shared) (H : Hp) (C : Addr) (cl : List (Str × Addr)) (fp : List Addr) (D : Addr) (pins : List (Addr × Obj)) (σ' : L2.St) (H' : Hp) (s' : Shared) (N : Hp → Prop) (I : Inv (X.blk s H scope (compEnvC scope cl C X.env) fp) pins σ' H' s') (h : teDict tk tv D σ' H' N) :
    wpAny (model X.prog X.w) X.A (do
      let kv ← eval kx (compEnvC scope cl C X.env)
      let vv ← holding [kv] (eval vx (compEnvC scope cl C X.env))
      standAt { kx.pos with endLine := vx.pos.endLine, endCol := vx.pos.endCol }
      holding [kv, vv] (dictSet D kv vv)) (fun _ s'' => ∃ H'', Inv (X.blk s H scope (compEnvC scope cl C X.env) fp) pins σ' H'' s'' ∧ N H'') (fun _ _ => False) s' := by
  refine wpAny_bind (thnF ((hk s H C cl fp).run pins s' σ' H' _ I h) fun z s1 hz => ?_)
  obtain ⟨yv, H1, I1, r1, h1⟩ := hz
  refine wpAny_bind (wpAny_holding (thnF ((he s H C cl fp).run pins s1 σ' H1 _ I1 h1) fun z2 s2 hz2 => ?_))
  obtain ⟨yv2, H2, I2, r2, kvs, k, rfl, hD, hl, nx⟩ := hz2
  refine wpAny_bind (wpAny_standAt (wpAny_holding ?_))
  exact d_dictSet (X := X.blk s H scope (compEnvC scope cl C X.env) fp) I2 hD hl r1 r2 fun s3 I3 => ⟨_, I3, nx⟩
theorem ob_set (H : Hp) (h : Heap) : ObjOk X.prog X.w (upd H h.objs.size (SetK X.prog X.w h.objs.size (fun _ => false) 0)) (h.push { cls := .type "set", dict := none, data := .set #[] 0 (.fresh 0 0 (!X.w.params.followText "set-order")) }) h.objs.size (SetK X.prog X.w h.objs.size (fun _ => false) 0) :=
  setK_new ⟨_, #[], 0, _, Heap.get?_push_size _ rfl, ⟨rfl, rfl, rfl⟩, rfl, (fun e he => by simp at he), (fun k => by simp), (by decide), (by rfl), rfl⟩
theorem pe_dc2 {kx vx tg iter tg1 iter1 : Expr} {scope : Scope} {own : List (Str × Nat)} {vs1 : List Nat} {pos : Pos} {wi wi1 : TI} {g g1 : TG} {tk tv : TE} (hc : X.calm = true) (hN : X.N.Nodup) (hi : PI X tg iter wi) (ok : BlkOk X.N X.env.scope scope own) (hv : ∀ i ∈ vs1, i ∈ own.map (·.2))
    (hg : ∀ (s : Shared) (H : Hp) (C : Addr) (cl : List (Str × Addr)) (fp : List Addr), PG (X.blk s H scope (compEnvC scope cl C X.env) fp) tg g)
    (hi1 : ∀ (s : Shared) (H : Hp) (C : Addr) (cl : List (Str × Addr)) (fp : List Addr), PI (X.blk s H scope (compEnvC scope cl C X.env) fp) tg1 iter1 wi1) (hg1 : ∀ (s : Shared) (H : Hp) (C : Addr) (cl : List (Str × Addr)) (fp : List Addr), PG (X.blk s H scope (compEnvC scope cl C X.env) fp) tg1 g1)
    (hk : ∀ (s : Shared) (H : Hp) (C : Addr) (cl : List (Str × Addr)) (fp : List Addr), PE (X.blk s H scope (compEnvC scope cl C X.env) fp) kx tk)
    (he : ∀ (s : Shared) (H : Hp) (C : Addr) (cl : List (Str × Addr)) (fp : List Addr), PE (X.blk s H scope (compEnvC scope cl C X.env) fp) vx tv) (hs : ∀ x, foldedSetIterable iter X.env x = pure x := by intro _; rfl) (hs1 : ∀ env x, foldedSetIterable iter1 env x = pure x := by intro _ _; rfl) :
    PE X (.DictComp kx vx [⟨tg, iter, [], 0⟩, ⟨tg1, iter1, [], 0⟩] scope pos) (tC2 (fun _ => .dK []) wi g wi1 g1 (teDict tk tv) (own.map (·.2)) vs1) := by
  refine ⟨fun pins s σ H Q I h => ?_⟩
  rw [arm_eval_DictComp]
  refine c2_core (ob := { cls := .type "dict", data := .dict #[] }) two_dict rfl (fun h => wpAny_newObj_type h) (fun H s2 I2 => dk_empty s2.heap I2.big) hc hN I hi ok hv hg hi1 hg1 (el_dict hk he) hs hs1 h fun D C s' m H' I' q hn f => ⟨m, hn, fun h'' sb => ?_⟩
  obtain ⟨f0, f1, f2, f3, f4, f5⟩ := f
  exact ⟨.ref D, H', I'.turned (t' := s'.toks) (fun b o hb e => (sb.2 b hb).trans e) f0 f1 f3 f4 f5, rfl, q⟩
theorem ps_setSc2 {i : Nat} {y : Str} {py : Pos} {elt tg iter tg1 iter1 : Expr} {scope : Scope} {own : List (Str × Nat)} {vs1 : List Nat} {pos spos : Pos} {wi wi1 : TI} {g g1 : TG} {te : TE} (hc : X.calm = true) (hN : X.N.Nodup) (hy : X.N[i]? = some y) (hyl : X.env.scope.names.lookup y = some .local)
    (hsw : swapsWith (.SetComp elt [⟨tg, iter, [], 0⟩, ⟨tg1, iter1, [], 0⟩] scope pos) (some (.Name y py)) spos.line X.env = pure true) (hi : PI X tg iter wi) (ok : BlkOk X.N X.env.scope scope own) (hv : ∀ i ∈ vs1, i ∈ own.map (·.2))
    (hg : ∀ (s : Shared) (H : Hp) (C : Addr) (cl : List (Str × Addr)) (fp : List Addr), PG (X.blk s H scope (compEnvC scope cl C X.env) fp) tg g)
    (hi1 : ∀ (s : Shared) (H : Hp) (C : Addr) (cl : List (Str × Addr)) (fp : List Addr), PI (X.blk s H scope (compEnvC scope cl C X.env) fp) tg1 iter1 wi1) (hg1 : ∀ (s : Shared) (H : Hp) (C : Addr) (cl : List (Str × Addr)) (fp : List Addr), PG (X.blk s H scope (compEnvC scope cl C X.env) fp) tg1 g1)
    (he : ∀ (s : Shared) (H : Hp) (C : Addr) (cl : List (Str × Addr)) (fp : List Addr), PE (X.blk s H scope (compEnvC scope cl C X.env) fp) elt te) (hs : ∀ x, foldedSetIterable iter X.env x = pure x := by intro _; rfl) (hs1 : ∀ env x, foldedSetIterable iter1 env x = pure x := by intro _ _; rfl) :
    PS X (.Assign [.Name y py] (.SetComp elt [⟨tg, iter, [], 0⟩, ⟨tg1, iter1, [], 0⟩] scope pos) spos) (tAsg (tC2 (fun D => SetK X.prog X.w D (fun _ => false) 0) wi g wi1 g1 (teSet X.prog X.w te) (own.map (·.2)) vs1) (gName i)) := by
  refine ⟨fun pins s σ H D I h => ?_⟩
  rw [exec_Assign_Name_used _ _ _ _ hsw]
  refine wpAny_bind (wpAny_standAt (wpAny_bind ?_))
  show wpAny _ X.A (do let _ ← comprehension (.SetComp elt [⟨tg, iter, [], 0⟩, ⟨tg1, iter1, [], 0⟩] scope pos) scope X.env (firstIterPos [⟨tg, iter, [], 0⟩, ⟨tg1, iter1, [], 0⟩] pos) (newSet (.type "set")) false (eval iter X.env) (some (assign (.Name y py) X.env))) _ _ s
  have h : tC2 (fun D => SetK X.prog X.w D (fun _ => false) 0) wi g wi1 g1 (teSet X.prog X.w te) (own.map (·.2)) vs1 σ H (fun x H1 => gName i x σ H1 D.nx) := h
  refine wpAny_bind (L2.thn (c2_core (ob := { cls := .type "set", dict := none, data := .set #[] 0 (.fresh 0 0 (!X.w.params.followText "set-order")) }) (Qf := fun _ s' => SP X pins D .next s') two_set rfl (fun h => PpSet.newSet_ok h) (fun H s2 _ => ob_set H s2.heap) hc hN I hi ok hv hg hi1 hg1 (el_set he) hs hs1 h fun L C s' m H' I' q hn f => ?_) fun _ s' hq => wpAny_pure (wpAny_pure hq))
  show wpAny _ _ (assign (.Name y py) X.env (.ref L)) _ _ _
  refine wpAny_assign_Name (store_ok2 (v := V.ref L) I' hN hy (.inl hyl) rfl (fun s2 I2 ⟨a, sb, ha⟩ => ?_) (.inr hyl))
  obtain ⟨f0, f1, f2, f3, f4, f5⟩ := f
  have haC : C ≠ a := by
    rcases ha with z | z
    · rw [z]; exact f1
    · exact fun e => f4 y a z e.symm
  refine ⟨m, hn.sameBut sb haC, fun h3 sb3 => ?_⟩
  exact ⟨_, H', I2.turned (t' := s2.toks) (fun b o hb e => (sb3.2 b hb).trans e) f0 f1 f3 f4 f5, q⟩
theorem pe_sc2 {elt tg iter tg1 iter1 : Expr} {scope : Scope} {own : List (Str × Nat)} {vs1 : List Nat} {pos : Pos} {wi wi1 : TI} {g g1 : TG} {te : TE} (hc : X.calm = true) (hN : X.N.Nodup) (hi : PI X tg iter wi) (ok : BlkOk X.N X.env.scope scope own) (hv : ∀ i ∈ vs1, i ∈ own.map (·.2))
    (hg : ∀ (s : Shared) (H : Hp) (C : Addr) (cl : List (Str × Addr)) (fp : List Addr), PG (X.blk s H scope (compEnvC scope cl C X.env) fp) tg g)
    (hi1 : ∀ (s : Shared) (H : Hp) (C : Addr) (cl : List (Str × Addr)) (fp : List Addr), PI (X.blk s H scope (compEnvC scope cl C X.env) fp) tg1 iter1 wi1) (hg1 : ∀ (s : Shared) (H : Hp) (C : Addr) (cl : List (Str × Addr)) (fp : List Addr), PG (X.blk s H scope (compEnvC scope cl C X.env) fp) tg1 g1)
    (he : ∀ (s : Shared) (H : Hp) (C : Addr) (cl : List (Str × Addr)) (fp : List Addr), PE (X.blk s H scope (compEnvC scope cl C X.env) fp) elt te) (hs : ∀ x, foldedSetIterable iter X.env x = pure x := by intro _; rfl) (hs1 : ∀ env x, foldedSetIterable iter1 env x = pure x := by intro _ _; rfl) :
    PE X (.SetComp elt [⟨tg, iter, [], 0⟩, ⟨tg1, iter1, [], 0⟩] scope pos) (tC2 (fun D => SetK X.prog X.w D (fun _ => false) 0) wi g wi1 g1 (teSet X.prog X.w te) (own.map (·.2)) vs1) := by
  refine ⟨fun pins s σ H Q I h => ?_⟩
  rw [PpSet.eval_SetComp]
  refine c2_core (ob := { cls := .type "set", dict := none, data := .set #[] 0 (.fresh 0 0 (!X.w.params.followText "set-order")) }) two_set rfl (fun h => PpSet.newSet_ok h) (fun H s2 _ => ob_set H s2.heap) hc hN I hi ok hv hg hi1 hg1 (el_set he) hs hs1 h fun D C s' m H' I' q hn f => ⟨m, hn, fun h'' sb => ?_⟩
  obtain ⟨f0, f1, f2, f3, f4, f5⟩ := f
  exact ⟨.ref D, H', I'.turned (t' := s'.toks) (fun b o hb e => (sb.2 b hb).trans e) f0 f1 f3 f4 f5, rfl, q⟩
end
end Bo

/-! C5 -/
set_option Elab.async false
set_option linter.all false
set_option maxRecDepth 100000
set_option maxHeartbeats 1000000
namespace Bo
open PySem PySem.Spec PyProof.Rows L2
section
variable {J : It} {n : Nat} {G : Hp → Prop} {Y : Nat → Hp → V → Hp → Prop}
/-- the inner turns -/
theorem c2_in (w : Walk J n G Y) {g1 : TG} {te : L2.St → Hp → (Hp → Prop) → Prop} {vs1 : List Nat} {σ2 : L2.St} {H4 : Hp} {Nx : Hp → Prop} (Pw : Nat → Hp → Prop) (h0 : Pw 0 H4) (hG : ∀ i H, i ≤ n → Pw i H → G H)
    (hs : ∀ i x H H', i < n → Pw i H → Y i H x H' → g1 x (wipe σ2 vs1) H' fun σ3 H5 => wipe σ3 vs1 = wipe σ2 vs1 ∧ te σ3 H5 (Pw (i + 1))) (hd : ∀ H, Pw n H → Nx H) :
    ∃ W1 : Nat → Nat → Hp → Prop, (∃ m, W1 0 m H4) ∧ ∀ j k H, W1 j k H →
      (J.stop j H ∧ Nx H) ∨ (J.go j H ∧ ∃ Nx1 : Hp → Prop, (∀ H', Nx1 H' → ∃ k', k' < k ∧ W1 (j + 1) k' H') ∧ ∀ x H', J.yld j H x H' → g1 x (wipe σ2 vs1) H' fun σ3 H5 => wipe σ3 vs1 = wipe σ2 vs1 ∧ te σ3 H5 Nx1) := by
  refine ⟨fun i m H => m = n - i ∧ i ≤ n ∧ Pw i H, ⟨n, by simp, Nat.zero_le _, h0⟩, ?_⟩
  rintro i m H ⟨rfl, hi, p⟩
  have q := hG i H hi p
  by_cases hlt : i < n
  · exact .inr ⟨w.goes i H hlt q, Pw (i + 1), fun H' p' => ⟨n - (i + 1), by omega, rfl, hlt, p'⟩, fun x H' y => hs i x H H' hlt p (w.yields i H x H' hlt q y)⟩
  · have e : i = n := by omega
    subst e
    exact .inl ⟨w.stops H q, hd H p⟩
/-- the outer turns -/
theorem c2_it (w : Walk J n G Y) {o : HO} {g : TG} {wi1 : TI} {g1 : TG} {te : L2.St → Hp → (Hp → Prop) → Prop} {vs vs1 : List Nat} {σ : L2.St} {H1 : Hp} {D : Addr} {Qd : Hp → Prop} (Pv : Nat → Hp → Prop) (h0 : Pv 0 (upd H1 D o)) (hG : ∀ i H, i ≤ n → Pv i H → G H)
    (hs : ∀ i x H H', i < n → Pv i H → Y i H x H' → g x (wipe σ vs) H' fun σ2 H2 => wipe σ2 vs = wipe σ vs ∧
      wi1 σ2 H2 fun J1 H4 => ∃ W1 : Nat → Nat → Hp → Prop, (∃ m, W1 0 m H4) ∧ ∀ j k H, W1 j k H →
        (J1.stop j H ∧ Pv (i + 1) H) ∨ (J1.go j H ∧ ∃ Nx1 : Hp → Prop, (∀ H', Nx1 H' → ∃ k', k' < k ∧ W1 (j + 1) k' H') ∧ ∀ x H', J1.yld j H x H' → g1 x (wipe σ2 vs1) H' fun σ3 H5 => wipe σ3 vs1 = wipe σ2 vs1 ∧ te σ3 H5 Nx1))
    (hd : ∀ H, Pv n H → Qd H) :
    ∃ W : Nat → Nat → Hp → Prop, (∃ m, W 0 m (upd H1 D o)) ∧ ∀ i m H, W i m H →
      (J.stop i H ∧ Qd H) ∨ (J.go i H ∧ ∃ Nx : Hp → Prop, (∀ H', Nx H' → ∃ m', m' < m ∧ W (i + 1) m' H') ∧ ∀ x H', J.yld i H x H' → g x (wipe σ vs) H' fun σ2 H2 => wipe σ2 vs = wipe σ vs ∧
        wi1 σ2 H2 fun J1 H4 => ∃ W1 : Nat → Nat → Hp → Prop, (∃ m, W1 0 m H4) ∧ ∀ j k H, W1 j k H →
          (J1.stop j H ∧ Nx H) ∨ (J1.go j H ∧ ∃ Nx1 : Hp → Prop, (∀ H', Nx1 H' → ∃ k', k' < k ∧ W1 (j + 1) k' H') ∧ ∀ x H', J1.yld j H x H' → g1 x (wipe σ2 vs1) H' fun σ3 H5 => wipe σ3 vs1 = wipe σ2 vs1 ∧ te σ3 H5 Nx1)) := by
  refine ⟨fun i m H => m = n - i ∧ i ≤ n ∧ Pv i H, ⟨n, by simp, Nat.zero_le _, h0⟩, ?_⟩
  rintro i m H ⟨rfl, hi, p⟩
  have q := hG i H hi p
  by_cases hlt : i < n
  · exact .inr ⟨w.goes i H hlt q, Pv (i + 1), fun H' p' => ⟨n - (i + 1), by omega, rfl, hlt, p'⟩, fun x H' y => hs i x H H' hlt p (w.yields i H x H' hlt q y)⟩
  · have e : i = n := by omega
    subst e
    exact .inl ⟨w.stops H q, hd H p⟩
end
end Bo

/-! MB -/
set_option Elab.async false
set_option linter.all false
set_option maxRecDepth 100000
set_option maxHeartbeats 2000000
namespace Bo
open PySem PySem.Spec PyProof.Rows L2
section
variable {P : Program} {w : World} {K : Fg} {mg : Str → Option Value} {base : Heap}
theorem fm_txsM (M : Str → Str) : ∀ l : List Str, (txs l).filterMap (fun v => match v with | .str k => some (V.str (M k)) | _ => none) = txs (l.map M)
  | [] => rfl
  | x :: l => by
    show V.str (M x) :: (txs l).filterMap _ = V.str (M x) :: txs (l.map M)
    rw [fm_txsM M l]
/-- the fields of a Structure that made_block reads -/
structure MadeIn (K : Fg) (H : Hp) (a : Addr) (n : Nat) (r : Row) (G : List Row) (NM : Str → Nat) (S : Str → List Str) (M : Str → Str) : Prop where
  ex : ∃ (dx gr nu fo gv pr : Addr) (fs : List (Str × V)) (Ps : Prs), H a = some (.ins (He.ga K "Structure") dx fs) ∧ fs.lookup ("groups" : Str) = some (.ref gr) ∧ fs.lookup ("numbers" : Str) = some (.ref nu) ∧ fs.lookup ("follows" : Str) = some (.ref fo) ∧ fs.lookup ("given" : Str) = some (.ref gv) ∧ fs.lookup ("pairs" : Str) = some (.ref pr) ∧
    SqL K H gr (rads G) ∧ PairsAt K H pr Ps ∧ (∀ e ∈ r.2.2, ∃ l, DGet H fo (.str e) (some (.ref l)) ∧ SqL K H l (txs (S e)) ∧ (S e).length ≤ 24 ∧ ∀ o ∈ S e, DGet H nu (.str o) (some (.int (NM o : Nat)))) ∧ ∀ e ∈ r.2.2, DGet H gv (.str e) (some (.str (M e)))
  at_ : G[n]? = some r
  row : SqT K H r.2.1 (txs r.2.2)
  rl : r.2.2.length ≤ 24
  gl : G.length ≤ 24
/-- the numbers of the other blocks that a block needs -/
def needs (G : List Row) (n : Nat) (r : Row) (NM : Str → Nat) (S : Str → List Str) : List Nat := (List.range G.length).filter fun k => decide (k ≠ n) && r.2.2.any fun e => (S e).any fun o => decide (NM o = k)
def spMade (K : Fg) : Sp := fun vs H Q _ => ∃ (a : Addr) (n : Nat) (r : Row) (G : List Row) (NM : Str → Nat) (S : Str → List Str) (M : Str → Str), vs = [.ref a, .int (n : Nat)] ∧ MadeIn K H a n r G NM S M ∧
  ∀ (b : Bk) H', Same H H' → H b.a = none → BkAt K H' b → b.pl = (n : Nat) → b.ys.Perm r.2.2 → sortedS b.ys = true → b.zs.Perm (r.2.2.map M) → sortedS b.zs = true → b.ms.Perm ((needs G n r NM S).map fun k => ((k : Nat) : Int)) → b.ms.Pairwise (· ≤ ·) → Q (.ref b.a) H'
theorem ok_made_block (T : TX w K mg) (PXh : PX P) : Ok P w K mg base 4 d_Structure_made_block ["self", "number"] (spMade K) := by
  refine mkOk T ix_Structure_made_block rfl rfl rfl sc_Structure_made_block (fun _ _ _ _ _ _ us hl => match us, hl with | [_, _], _ => rfl) (fun vs H Q E h => ?_) (fun cdv A outer s0 H vs Q E hr h => ?_)
  · obtain ⟨a, n, r, G, NM, S, M, rfl, _⟩ := h
    rfl
  · obtain ⟨a, n, r, G, NM, S, M, rfl, hMI, q⟩ := h
    have hu := hu_of hr
    obtain ⟨M1, k1⟩ := ok_Block_init (P := P) (base := base) T PXh
    refine ⟨_, pss_cons (pset (i := 2) sc_Structure_made_block.nd (pe_ix ix_list (pe_fld (pv 0) rfl) (pv 1) (fun _ _ => rfl)))
      (pss_cons (pset (i := 3) sc_Structure_made_block.nd (pe_sc2 (own := [("equation", 4), ("other", 5)]) (vs1 := [5]) (g := gName 4) (g1 := gName 5) (wi1 := iList K (tDGet (tFld K (tVar 0) "follows") (tVar 4))) (te := tDGet (tFld K (tVar 0) "numbers") (tVar 5)) rfl sc_Structure_made_block.nd (pi_tup (pv 2)) (blkOk_by (N := N_Structure_made_block) (sc := defScope s_Structure_made_block) (by decide +kernel)) (by decide)
        (fun _ _ _ _ _ => pgn (i := 4) sc_Structure_made_block.nd) (fun _ _ _ _ _ => by exact pi_list (pe_dget hu (pe_fld (pv 0) rfl) (pv 4) (fun _ _ => rfl))) (fun _ _ _ _ _ => pgn (i := 5) sc_Structure_made_block.nd) (fun _ _ _ _ _ => by exact pe_dget hu (pe_fld (pv 0) rfl) (pv 5) (fun _ _ => rfl))))
      (pss_cons (ps_setLc (i := 6) (own := [("other", 5)]) (g := gName 5) (by rfl) sc_Structure_made_block.nd rfl rfl (sw_true rfl rfl rfl (by decide +kernel)) (pi_range1 (by rfl) T.f_range (pa_cons (pe_callB call_len_seq (by rfl) T.f_len PySem.boot_len (pa_cons (pe_fld (pv 0) rfl) pa_nil)) pa_nil)) (blkOk_by (N := N_Structure_made_block) (sc := defScope s_Structure_made_block) (by decide +kernel))
        (fun _ _ _ _ _ => pgn (i := 5) sc_Structure_made_block.nd) (fun _ _ _ _ _ => pts_one (PW.pt (pw_and (pt_cmpR op_ne (pv 5) (pv 1) rfl) (pw_and1 (pt_cmpR (r := rSInK P w false) or_sinK (pv 5) (pv 3) rfl))))) (fun _ _ _ _ _ => pv 5))
      (pss_one (ps_ret (StX.pe_makeR T.mkr_Block M1 hr (by rfl) T.g_Block pass0 (pa_cons (pv 1) (pa_cons (pv 6) (pa_cons (pv 2) (pa_cons
        (pe_lc (own := [("equation", 4)]) (g := gName 4) (tt := tYes) (te := tDGet (tFld K (tVar 0) "given") (tVar 4)) (by rfl) sc_Structure_made_block.nd (pi_tup (pv 2)) (blkOk_by (N := N_Structure_made_block) (sc := defScope s_Structure_made_block) (by decide +kernel))
          (fun _ _ _ _ _ => pgn (i := 4) sc_Structure_made_block.nd) (fun _ _ _ _ _ => pts_nil) (fun _ _ _ _ _ => by exact pe_dget hu (pe_fld (pv 0) rfl) (pv 4) (fun _ _ => rfl))) (pa_cons (pe_fld (pv 0) rfl) pa_nil)))))))))), ?_⟩
    obtain ⟨dx, gr, nu, fo, gv, pr, fs, Ps, ha, l1, l2, l3, l4, l5, hG, hPs, hS, hM⟩ := hMI.ex
    have hgat : (rads G)[n]? = some (.ref r.2.1) := by unfold rads; rw [List.getElem?_map, hMI.at_]; rfl
    refine ⟨_, rfl, a, _, dx, fs, .ref gr, rfl, ha, T.cls_Structure, T.no_Structure_groups, l1, _, rfl, gr, rads G, _, _, rfl, rfl, hG, atI_nat hgat, ?_⟩
    refine ⟨_, rfl, r.2.1, rfl, ⟨_, hMI.row⟩, fun D nD => ?_⟩
    refine c2_it (walk_tup (xs := txs r.2.2)) (fun i H5 => Same H H5 ∧ ∃ (Sf : Key → Bool) (m : Nat), H5 D = some (SetK P w D Sf m) ∧ m ≤ 24 * i ∧ ∀ k : Nat, Sf (.inl (k : Nat)) = (r.2.2.take i).any fun e => (S e).any fun o => decide (NM o = k))
      ⟨same_new nD, fun _ => false, 0, upd_same, Nat.le_refl _, fun k => by simp⟩ (fun i H5 _ p => Same.tup p.1 hMI.row) (fun i x H5 H6 hi p y => ?_) (fun H5 p => ?_)
    · obtain ⟨s5, Sf, m, hD5, hm5, hSf⟩ := p
      obtain ⟨rfl, hx⟩ := y
      obtain ⟨e, he, rfl⟩ := txs_at hx
      have heR : e ∈ r.2.2 := List.mem_of_getElem? he
      have hil : i < 24 := by have := hMI.rl; rw [txs_len] at hi; omega
      obtain ⟨l, hl1, hl2, hl3, hl4⟩ := hS e heR
      have htk : r.2.2.take (i + 1) = r.2.2.take i ++ [e] := by
        rw [List.take_add_one, he]
        rfl
      refine ⟨rfl, _, rfl, a, _, dx, fs, .ref fo, rfl, s5 _ _ ha, T.cls_Structure, T.no_Structure_follows, l3, _, rfl, fo, .ref l, rfl, DGet.same hl1 s5, l, rfl, ⟨_, s5.seq hl2⟩, ?_⟩
      refine c2_in (walk_list (xs := txs (S e))) (fun j H7 => Same H H7 ∧ ∃ (Sf : Key → Bool) (m : Nat), H7 D = some (SetK P w D Sf m) ∧ m ≤ 24 * i + j ∧ ∀ k : Nat, Sf (.inl (k : Nat)) = (((r.2.2.take i).any fun e => (S e).any fun o => decide (NM o = k)) || ((S e).take j).any fun o => decide (NM o = k)))
        ⟨s5, Sf, m, hD5, hm5, fun k => by rw [hSf k]; simp⟩ (fun j H7 _ p => p.1.seq hl2) (fun j x H7 H8 hj p y => ?_) (fun H7 p => ?_)
      · obtain ⟨s7, Sf7, m7, hD7, hm7, hSf7⟩ := p
        obtain ⟨rfl, hx2⟩ := y
        obtain ⟨o, ho, rfl⟩ := txs_at hx2
        have hoS : o ∈ S e := List.mem_of_getElem? ho
        have hj24 : j < 24 := by rw [txs_len] at hj; omega
        have htj : (S e).take (j + 1) = (S e).take j ++ [o] := by
          rw [List.take_add_one, ho]
          rfl
        refine ⟨rfl, _, rfl, a, _, dx, fs, .ref nu, rfl, s7 _ _ ha, T.cls_Structure, T.no_Structure_numbers, l2, _, rfl, nu, .int (NM o : Nat), rfl, DGet.same (hl4 o hoS) s7, .inl (NM o : Nat), Sf7, m7, rfl, hD7, ?_, Same.over s7 nD, _, _, upd_same, ?_, fun k => ?_⟩
        · exact Nat.lt_of_le_of_lt (show m7 + 1 ≤ 1000 by omega) (by decide)
        · have hle : (if Sf7 (.inl ((NM o : Nat) : Int)) = true then m7 else m7 + 1) ≤ m7 + 1 := by split <;> omega
          exact Nat.le_trans hle (by omega)
        · show (Sf7 (.inl (k : Nat)) || decide ((Sum.inl ((k : Nat) : Int) : Key) = .inl ((NM o : Nat) : Int))) = _
          rw [hSf7 k, htj, List.any_append, Bool.or_assoc]
          congr 2
          simp only [List.any_cons, List.any_nil, Bool.or_false]
          exact decide_eq_decide.mpr ⟨fun h => by injection h with h; omega, fun h => by rw [h]⟩
      · obtain ⟨s7, Sf7, m7, hD7, hm7, hSf7⟩ := p
        rw [txs_len] at hm7 hSf7
        refine ⟨s7, Sf7, m7, hD7, by omega, fun k => ?_⟩
        rw [hSf7 k, htk, List.take_length, List.any_append]
        simp
    · obtain ⟨s5, Sf, m, hD5, _, hSf⟩ := p
      rw [txs_len, List.take_length] at hSf
      have hgl := hMI.gl
      have hradl : (rads G).length = G.length := by unfold rads; rw [List.length_map]
      refine ⟨_, rfl, a, _, dx, fs, .ref gr, rfl, s5 _ _ ha, T.cls_Structure, T.no_Structure_groups, l1, gr, _, rfl, .inl (s5.seq hG), _, rfl, by rw [hradl]; omega, by rw [hradl]; omega, fun D2 nD2 => ?_⟩
      refine lc_it walk_range (fun i H7 => Same H5 H7 ∧ H7 D2 = some (.lst ((((List.range i).filter fun k => decide (k ≠ n) && Sf (.inl (k : Nat)))).map fun k => V.int (k : Nat)))) ⟨same_new nD2, upd_same⟩ (fun _ _ _ _ => True.intro) (fun i x H7 H8 hi p y => ?_) (fun H7 p => ?_)
      · obtain ⟨s7, hL⟩ := p
        obtain ⟨rfl, rfl⟩ := y
        have hi24 : i < 24 := by rw [hradl] at hi; simp at hi; omega
        have hlen : ((List.range i).filter fun k => decide (k ≠ n) && Sf (.inl (k : Nat))).length ≤ 24 := Nat.le_trans (List.length_filter_le _ _) (by rw [List.length_range]; omega)
        have hrs : (List.range (i + 1)).filter (fun k => decide (k ≠ n) && Sf (.inl (k : Nat))) = (List.range i).filter (fun k => decide (k ≠ n) && Sf (.inl (k : Nat))) ++ (if (decide (i ≠ n) && Sf (.inl (i : Nat))) = true then [i] else []) := by
          rw [List.range_succ, List.filter_append, List.filter_cons, List.filter_nil]
        have hD8 : H8 D = some (SetK P w D Sf m) := s7 _ _ hD5
        have fin : ∀ b : Bool, (decide (i ≠ n) && Sf (.inl (i : Nat))) = b → (if b = true then tVar 5 (((start N_Structure_made_block [V.ref a, V.int n]).set 2 (some (V.ref r.2.1))).set 3 (some (.ref D)) |>.set 5 (some (.int (i : Nat)))) H8 (fun y H4 => ∃ acc, H4 D2 = some (.lst acc) ∧ acc.length < sizeLine ∧ Same H5 (upd H4 D2 (.lst (acc ++ [y]))) ∧ upd H4 D2 (.lst (acc ++ [y])) D2 = some (.lst (((List.range (i + 1)).filter fun k => decide (k ≠ n) && Sf (.inl (k : Nat))).map fun k => V.int (k : Nat)))) else Same H5 H8 ∧ H8 D2 = some (.lst (((List.range (i + 1)).filter fun k => decide (k ≠ n) && Sf (.inl (k : Nat))).map fun k => V.int (k : Nat)))) := fun b hb => by
          rw [hrs, hb]
          cases b with
          | true =>
            refine iteT ⟨_, rfl, _, hL, small1000 (by rw [List.length_map]; omega), Same.over s7 nD2, ?_⟩
            rw [upd_same]
            simp
          | false => exact iteF ⟨s7, by simpa using hL⟩
        have e0 : (fun i : Nat => V.int (0 + (i : Int))) i = .int (i : Nat) := by simp
        rw [e0]
        refine ⟨rfl, _, rfl, _, rfl, rfl, _, rfl, ?_⟩
        by_cases hin : i = n
        · have hv : (!decide (V.int (i : Nat) = V.int (n : Nat))) = false := by rw [hin]; simp
          rw [hv]
          exact iteF (fin false (by simp [hin]))
        · have hv : (!decide (V.int (i : Nat) = V.int (n : Nat))) = true := by
            have : V.int (i : Nat) ≠ V.int (n : Nat) := fun e => hin (by injection e with e; omega)
            simp [this]
          rw [hv]
          refine iteT ⟨_, rfl, _, rfl, .inl (i : Nat), D, Sf, m, rfl, rfl, hD8, _, rfl, ?_⟩
          exact fin _ (by simp [hin])
      · obtain ⟨s7, hL⟩ := p
        rw [hradl] at hL
        have hLn : ((List.range G.length).filter fun k => decide (k ≠ n) && Sf (.inl (k : Nat))) = needs G n r NM S := by
          unfold needs
          exact List.filter_congr fun k _ => by rw [hSf k]
        have hfin : (((G.length : Nat) : Int)).toNat = G.length := by simp
        rw [hfin, hLn] at hL
        have s07 := s5.trans s7
        refine ⟨_, rfl, _, rfl, _, rfl, _, rfl, r.2.1, rfl, ⟨_, Same.tup s07 hMI.row⟩, fun D3 nD3 => ?_⟩
        refine lc_pure (walk_tup (xs := txs r.2.2)) nD3 (fun v => match v with | .str k => some (V.str (M k)) | _ => none) (by rw [txs_len]; have := hMI.rl; omega) (fun H2 s => Same.tup (s07.trans s) hMI.row) (fun x H9 R2 N2 hx s9 hh => ?_) (fun H9 s9 hD9 => ?_)
        · obtain ⟨e, heR, rfl⟩ := List.mem_map.mp hx
          refine ⟨rfl, ?_⟩
          dsimp only [tYes]
          rw [if_pos rfl]
          exact ⟨_, rfl, a, _, dx, fs, .ref gv, rfl, (s07.trans s9) _ _ ha, T.cls_Structure, T.no_Structure_given, l4, _, rfl, gv, _, rfl, DGet.same (hM e heR) (s07.trans s9), hh⟩
        · have e9 : (txs r.2.2).filterMap (fun v => match v with | .str k => some (V.str (M k)) | _ => none) = txs (r.2.2.map M) := fm_txsM M r.2.2
          rw [e9] at hD9
          have s09 := s07.trans s9
          refine ⟨_, rfl, a, _, dx, fs, .ref pr, rfl, s09 _ _ ha, T.cls_Structure, T.no_Structure_pairs, l5, ?_⟩
          intro x dx2 nx ndx nex
          have sx : Same H9 (upd (upd H9 dx2 (.own x)) x (.ins (He.ga K "Block") dx2 [])) := Same.over (same_new ndx) nx
          have s0x := s09.trans sx
          have hxH : H x = none := Same.free s09 nx
          refine ⟨x, dx2, r.2.1, D3, pr, D2, (n : Nat), (needs G n r NM S).map fun k => ((k : Nat) : Int), r.2.2, r.2.2.map M, Ps, rfl, upd_same, ?_, ?_, Same.tup s0x hMI.row, SqL.of (sx _ _ hD9), hPs.same s0x, hMI.rl, by rw [List.length_map]; exact hMI.rl, fun e u l nn H' bb hb h1 h2 h3 => ⟨rfl, ?_⟩⟩
          · rw [List.map_map]
            exact SqL.of (sx _ _ (s9 _ _ hL))
          · rw [List.length_map]
            have : (needs G n r NM S).length ≤ G.length := by
              unfold needs
              exact Nat.le_trans (List.length_filter_le _ _) (by rw [List.length_range]; exact Nat.le_refl _)
            omega
          · obtain ⟨ys, y1, y2, y3⟩ := h1
            obtain ⟨zs, z1, z2, z3⟩ := h2
            obtain ⟨ms, m1, m2, m3⟩ := h3
            refine q ⟨x, dx2, e, u, l, nn, (n : Nat), ys, zs, ms⟩ H' (fun c o hc => bb _ _ (s0x _ _ hc) (fun hm => by rw [List.mem_singleton.mp hm, hxH] at hc; cases hc)) hxH ⟨hb, y1, z1, m1⟩ rfl y2 y3 z2 z3 m2 m3
end
end Bo

/-! Y1 -/
set_option Elab.async false
set_option linter.all false
set_option maxRecDepth 100000
set_option maxHeartbeats 1000000
/-! A heap without the object that is being made; two-for comprehensions of lists by walks. -/
namespace Bo
open PySem PySem.Spec PyProof.Rows L2
def wo (a : Addr) (H : Hp) : Hp := fun b => if b = a then none else H b
section
variable {K : Fg} {H H' : Hp} {a b C dx : Addr} {fs : List (Str × V)} {o o' : HO}
theorem wo_upd : wo a (upd H a o) = wo a H := by
  funext b
  unfold wo
  by_cases h : b = a
  · rw [if_pos h, if_pos h]
  · rw [if_neg h, if_neg h, upd_ne h]
theorem wo_get (h : wo a H b = some o) : b ≠ a ∧ H b = some o := by
  unfold wo at h
  by_cases e : b = a
  · rw [if_pos e] at h
    cases h
  · rw [if_neg e] at h
    exact ⟨e, h⟩
theorem wo_at (h : H b = some o) (e : b ≠ a) : wo a H b = some o := by
  unfold wo
  rw [if_neg e]
  exact h
theorem wo_atI (h : H b = some o) (ha : H a = some o') (e : o ≠ o') : wo a H b = some o := wo_at h fun z => e (by rw [z, ha] at h; exact (Option.some.inj h).symm)
theorem wo_sub : Same (wo a H) H := fun b o e => (wo_get e).2
theorem wo_subU : Same (wo a H) (upd H a o) := fun b o e => by
  obtain ⟨h1, h2⟩ := wo_get e
  rw [upd_ne h1]
  exact h2
theorem wo_same (s : Same H H') : Same (wo a H) (wo a H') := fun b o e => by
  obtain ⟨h1, h2⟩ := wo_get e
  exact wo_at (s _ _ h2) h1
theorem wo_sameU (s : Same (upd H a o) H') : Same (wo a H) (wo a H') := by
  have := wo_same (a := a) s
  rwa [wo_upd] at this
theorem wo_but : But [a] H (wo a H) := fun c u e n => wo_at e fun z => n (by rw [z]; exact List.mem_singleton.mpr rfl)
theorem but_wo (s : But [a] H H') : Same (wo a H) (wo a H') := fun b o e => by
  obtain ⟨h1, h2⟩ := wo_get e
  exact wo_at (s _ _ h2 fun z => h1 (List.mem_singleton.mp z)) h1
theorem wo_back (s : Same (wo a H) (wo a H')) : But [a] H H' := fun c u e n => (wo_get (s _ _ (wo_at e fun z => n (by rw [z]; exact List.mem_singleton.mpr rfl)))).2
theorem wo_none (h : wo a H b = none) (e : b ≠ a) : H b = none := by
  unfold wo at h
  rwa [if_neg e] at h
theorem none_wo (h : H b = none) : wo a H b = none := by
  unfold wo
  split
  · rfl
  · exact h
/-- b is free without a and is not a -/
theorem ne_new (ha : H a = some o) (h : H b = none) : b ≠ a := fun z => by
  rw [z, ha] at h
  cases h
theorem Rows3.wo {d : Addr} {es us : List Str} {R : Str → List Str} (h : Rows3 K H d es us R) (ha : H a = some (.ins C dx fs)) : Rows3 K (wo a H) d es us R := by
  obtain ⟨L, h1, h2, h3⟩ := h.at_
  refine ⟨⟨L, ?_, h2, fun p hp => ⟨SqT.but (h3 p hp).1 wo_but ha, (h3 p hp).2⟩⟩, h.nd, h.el, h.ul, h.sub, h.rnd⟩
  rcases h1 with h1 | ⟨od, h1⟩
  · exact .inl (wo_atI h1 ha (by intro z; cases z))
  · exact .inr ⟨od, wo_atI h1 ha (by intro z; cases z)⟩
theorem DictAt.wo {D : List (Str × V)} (h : DictAt H b D) (ha : H a = some (.ins C dx fs)) : DictAt (wo a H) b D := DictAt.but h wo_but ha
theorem SqT.wo {xs : List V} (h : SqT K H b xs) (ha : H a = some (.ins C dx fs)) : SqT K (wo a H) b xs := SqT.but h wo_but ha
theorem SqL.wo {xs : List V} (h : SqL K H b xs) (ha : H a = some (.ins C dx fs)) : SqL K (wo a H) b xs := SqL.but h wo_but ha
theorem PairsAt.wo {Ps : Prs} (h : PairsAt K H b Ps) (ha : H a = some (.ins C dx fs)) : PairsAt K (wo a H) b Ps := PairsAt.but h wo_but ha
theorem RowsL.wo {L : List Row} (h : RowsL H b L) (ha : H a = some (.ins C dx fs)) : RowsL (wo a H) b L := ⟨DictAt.wo h.at_ ha, fun q hq => wo_atI (h.row q hq) ha (by intro z; cases z)⟩
theorem RowsL.same {L : List Row} (h : RowsL H b L) (s : Same H H') : RowsL H' b L := ⟨s _ _ h.at_, fun q hq => s _ _ (h.row q hq)⟩
theorem DictAt.sm {D : List (Str × V)} (h : DictAt H b D) (s : Same H H') : DictAt H' b D := s _ _ h
theorem ClosedAt.wo {Qs : List Str} {Cf : Str → List Str} (h : ClosedAt H b Qs Cf) (ha : H a = some (.ins C dx fs)) : ClosedAt (wo a H) b Qs Cf := by
  obtain ⟨L, h1, h2, h3⟩ := h.at_
  exact ⟨⟨L, DictAt.wo h1 ha, h2, fun q hq => ⟨DictAt.wo (h3 q hq).1 ha, (h3 q hq).2⟩⟩, h.nd, h.len, h.self, h.sub, h.cnd⟩
end
section
variable {J : It} {n : Nat} {G : Hp → Prop} {Y : Nat → Hp → V → Hp → Prop}
/-- the inner turns, for a list -/
theorem l2_in (w : Walk J n G Y) {g1 : TG} {te : TE} {vs1 : List Nat} {σ2 : L2.St} {H4 : Hp} {D : Addr} {Nx : Hp → Prop} (Pw : Nat → Hp → Prop) (h0 : Pw 0 H4) (hG : ∀ i H, i ≤ n → Pw i H → G H)
    (hs : ∀ i x H H', i < n → Pw i H → Y i H x H' → g1 x (wipe σ2 vs1) H' fun σ3 H5 => wipe σ3 vs1 = wipe σ2 vs1 ∧ tYes σ3 H5 fun b H6 =>
      if b = true then te σ3 H6 fun y H7 => ∃ acc, H7 D = some (.lst acc) ∧ acc.length < sizeLine ∧ Pw (i + 1) (upd H7 D (.lst (acc ++ [y]))) else Pw (i + 1) H6) (hd : ∀ H, Pw n H → Nx H) :
    ∃ W1 : Nat → Nat → Hp → Prop, (∃ m, W1 0 m H4) ∧ ∀ j k H, W1 j k H →
      (J.stop j H ∧ Nx H) ∨ (J.go j H ∧ ∃ Nx1 : Hp → Prop, (∀ H', Nx1 H' → ∃ k', k' < k ∧ W1 (j + 1) k' H') ∧ ∀ x H', J.yld j H x H' → g1 x (wipe σ2 vs1) H' fun σ3 H5 => wipe σ3 vs1 = wipe σ2 vs1 ∧ tYes σ3 H5 fun b H6 =>
        if b = true then te σ3 H6 fun y H7 => ∃ acc, H7 D = some (.lst acc) ∧ acc.length < sizeLine ∧ Nx1 (upd H7 D (.lst (acc ++ [y]))) else Nx1 H6) := by
  refine ⟨fun i m H => m = n - i ∧ i ≤ n ∧ Pw i H, ⟨n, by simp, Nat.zero_le _, h0⟩, ?_⟩
  rintro i m H ⟨rfl, hi, p⟩
  have q := hG i H hi p
  by_cases hlt : i < n
  · exact .inr ⟨w.goes i H hlt q, Pw (i + 1), fun H' p' => ⟨n - (i + 1), by omega, rfl, hlt, p'⟩, fun x H' y => hs i x H H' hlt p (w.yields i H x H' hlt q y)⟩
  · have e : i = n := by omega
    subst e
    exact .inl ⟨w.stops H q, hd H p⟩
/-- the outer turns, for a list -/
theorem l2_it (w : Walk J n G Y) {g : TG} {wi1 : TI} {g1 : TG} {te : TE} {vs vs1 : List Nat} {σ : L2.St} {H1 : Hp} {D : Addr} {Qd : Hp → Prop} (Pv : Nat → Hp → Prop) (h0 : Pv 0 (upd H1 D (.lst []))) (hG : ∀ i H, i ≤ n → Pv i H → G H)
    (hs : ∀ i x H H', i < n → Pv i H → Y i H x H' → g x (wipe σ vs) H' fun σ2 H2 => wipe σ2 vs = wipe σ vs ∧
      wi1 σ2 H2 fun J1 H4 => ∃ W1 : Nat → Nat → Hp → Prop, (∃ m, W1 0 m H4) ∧ ∀ j k H, W1 j k H →
        (J1.stop j H ∧ Pv (i + 1) H) ∨ (J1.go j H ∧ ∃ Nx1 : Hp → Prop, (∀ H', Nx1 H' → ∃ k', k' < k ∧ W1 (j + 1) k' H') ∧ ∀ x H', J1.yld j H x H' → g1 x (wipe σ2 vs1) H' fun σ3 H5 => wipe σ3 vs1 = wipe σ2 vs1 ∧ tYes σ3 H5 fun b H6 =>
          if b = true then te σ3 H6 fun y H7 => ∃ acc, H7 D = some (.lst acc) ∧ acc.length < sizeLine ∧ Nx1 (upd H7 D (.lst (acc ++ [y]))) else Nx1 H6))
    (hd : ∀ H, Pv n H → Qd H) :
    ∃ W : Nat → Nat → Hp → Prop, (∃ m, W 0 m (upd H1 D (.lst []))) ∧ ∀ i m H, W i m H →
      (J.stop i H ∧ Qd H) ∨ (J.go i H ∧ ∃ Nx : Hp → Prop, (∀ H', Nx H' → ∃ m', m' < m ∧ W (i + 1) m' H') ∧ ∀ x H', J.yld i H x H' → g x (wipe σ vs) H' fun σ2 H2 => wipe σ2 vs = wipe σ vs ∧ tYes σ2 H2 fun b H3 =>
        if b = true then wi1 σ2 H3 fun J1 H4 => ∃ W1 : Nat → Nat → Hp → Prop, (∃ m, W1 0 m H4) ∧ ∀ j k H, W1 j k H →
          (J1.stop j H ∧ Nx H) ∨ (J1.go j H ∧ ∃ Nx1 : Hp → Prop, (∀ H', Nx1 H' → ∃ k', k' < k ∧ W1 (j + 1) k' H') ∧ ∀ x H', J1.yld j H x H' → g1 x (wipe σ2 vs1) H' fun σ3 H5 => wipe σ3 vs1 = wipe σ2 vs1 ∧ tYes σ3 H5 fun b H6 =>
            if b = true then te σ3 H6 fun y H7 => ∃ acc, H7 D = some (.lst acc) ∧ acc.length < sizeLine ∧ Nx1 (upd H7 D (.lst (acc ++ [y]))) else Nx1 H6)
        else Nx H3) := by
  refine ⟨fun i m H => m = n - i ∧ i ≤ n ∧ Pv i H, ⟨n, by simp, Nat.zero_le _, h0⟩, ?_⟩
  rintro i m H ⟨rfl, hi, p⟩
  have q := hG i H hi p
  by_cases hlt : i < n
  · refine .inr ⟨w.goes i H hlt q, Pv (i + 1), fun H' p' => ⟨n - (i + 1), by omega, rfl, hlt, p'⟩, fun x H' y => ?_⟩
    have hh := hs i x H H' hlt p (w.yields i H x H' hlt q y)
    have e : ∀ σ2 H2 (A B : Hp → Prop), tYes σ2 H2 (fun b H3 => if b = true then A H3 else B H3) = A H2 := fun σ2 H2 A B => by
      show (if true = true then A H2 else B H2) = A H2
      exact if_pos rfl
    simp only [e]
    exact hh
  · have e : i = n := by omega
    subst e
    exact .inl ⟨w.stops H q, hd H p⟩
end
end Bo

/-! Y2 -/
set_option Elab.async false
set_option linter.all false
set_option maxRecDepth 100000
set_option maxHeartbeats 1000000
/-! Groups and numbers, in plain lists. -/
namespace Bo
open PySem PySem.Spec PyProof.Rows L2
section
variable {S : Str → List Str} {Qs : List Str} {C : Str → List Str}
theorem mem_clsF {C : Str → List Str} {e o : Str} : o ∈ clsF C e ↔ o ∈ C e ∧ e ∈ C o := by
  unfold clsF
  rw [List.mem_filter]
  simp
theorem isMin_iff {C : Str → List Str} {e : Str} : isMin C e = true ↔ ∀ o ∈ clsF C e, strLt o e = false := by
  unfold isMin
  rw [List.all_eq_true]
  simp
theorem Cls.tr {e x : Str} {A B : List Str} (h1 : Cls S Qs e A) (hx : x ∈ A) (h2 : Cls S Qs x B) : ∀ y ∈ B, y ∈ A := h2.min (fun y => y ∈ A) hx fun z hz y hy => h1.cl z hz y hy
theorem cls_one (hC : ∀ e ∈ Qs, Cls S Qs e (C e)) {e f x : Str} (he : e ∈ Qs) (hf : f ∈ Qs) (me : isMin C e = true) (mf : isMin C f = true) (hx : x ∈ clsF C e) (hy : x ∈ clsF C f) : e = f := by
  obtain ⟨a1, a2⟩ := mem_clsF.mp hx
  obtain ⟨b1, b2⟩ := mem_clsF.mp hy
  have hxQ := (hC e he).sub x a1
  have h1 : f ∈ C e := (hC e he).tr a1 (hC x hxQ) f b2
  have h2 : e ∈ C f := (hC f hf).tr b1 (hC x hxQ) e a2
  exact strLt_eq (isMin_iff.mp mf e (mem_clsF.mpr ⟨h2, h1⟩)) (isMin_iff.mp me f (mem_clsF.mpr ⟨h1, h2⟩))
theorem cls_cover (hC : ∀ e ∈ Qs, Cls S Qs e (C e)) {o : Str} (ho : o ∈ Qs) : ∃ m ∈ Qs, isMin C m = true ∧ o ∈ clsF C m := by
  have hself : o ∈ clsF C o := mem_clsF.mpr ⟨(hC o ho).self, (hC o ho).self⟩
  obtain ⟨x, l, hl⟩ : ∃ x l, clsF C o = x :: l := by
    cases h : clsF C o with
    | nil => rw [h] at hself; cases hself
    | cons x l => exact ⟨x, l, rfl⟩
  obtain ⟨m1, m2⟩ := minS_spec l x
  rw [← hl] at m1 m2
  obtain ⟨c1, c2⟩ := mem_clsF.mp m1
  have hmQ := (hC o ho).sub _ c1
  refine ⟨minS x l, hmQ, isMin_iff.mpr fun y hy => ?_, mem_clsF.mpr ⟨c2, c1⟩⟩
  obtain ⟨d1, d2⟩ := mem_clsF.mp hy
  have hyQ := (hC _ hmQ).sub _ d1
  exact m2 y (mem_clsF.mpr ⟨(hC o ho).tr c1 (hC _ hmQ) y d1, (hC y hyQ).tr d2 (hC _ hmQ) o c2⟩)
/-- what groups_of gives -/
structure Grps (C : Str → List Str) (Qs : List Str) (L : List Row) : Prop where
  ks : ∃ ys : List Str, ys.Perm Qs ∧ L.map (·.1) = ys.filter (isMin C)
  row : ∀ q ∈ L, q.2.2.Perm (clsF C q.1)
theorem Grps.key {L : List Row} (g : Grps C Qs L) {q : Row} (hq : q ∈ L) : q.1 ∈ Qs ∧ isMin C q.1 = true := by
  obtain ⟨ys, h1, h2⟩ := g.ks
  have : q.1 ∈ ys.filter (isMin C) := h2 ▸ List.mem_map_of_mem hq
  rw [List.mem_filter] at this
  exact ⟨h1.mem_iff.mp this.1, this.2⟩
theorem Grps.ne {L : List Row} (g : Grps C Qs L) (hC : ∀ e ∈ Qs, Cls S Qs e (C e)) : ∀ q ∈ L, q.2.2 ≠ [] := fun q hq e => by
  have k := (hC _ (g.key hq).1).self
  have := (g.row q hq).mem_iff.mpr (mem_clsF.mpr ⟨k, k⟩)
  rw [e] at this
  cases this
theorem Grps.nd {L : List Row} (g : Grps C Qs L) (hC : ∀ e ∈ Qs, Cls S Qs e (C e)) : ∀ q ∈ L, q.2.2.Nodup := fun q hq => (g.row q hq).nodup_iff.mpr ((hC _ (g.key hq).1).nd.filter _)
theorem Grps.sub {L : List Row} (g : Grps C Qs L) (hC : ∀ e ∈ Qs, Cls S Qs e (C e)) : ∀ q ∈ L, ∀ x ∈ q.2.2, x ∈ Qs := fun q hq x hx => (hC _ (g.key hq).1).sub x (mem_clsF.mp ((g.row q hq).mem_iff.mp hx)).1
theorem Grps.dj {L : List Row} (g : Grps C Qs L) (hC : ∀ e ∈ Qs, Cls S Qs e (C e)) (hn : Qs.Nodup) : L.Pairwise Dj := by
  obtain ⟨ys, h1, h2⟩ := g.ks
  have nd : (L.map (·.1)).Nodup := by
    rw [h2]
    exact (h1.nodup_iff.mpr hn).filter _
  refine (List.pairwise_map.mp nd).imp_of_mem fun {a b} ha hb ne x hx hy => ne ?_
  exact cls_one hC (g.key ha).1 (g.key hb).1 (g.key ha).2 (g.key hb).2 ((g.row a ha).mem_iff.mp hx) ((g.row b hb).mem_iff.mp hy)
theorem Grps.len {L : List Row} (g : Grps C Qs L) : L.length ≤ Qs.length := by
  obtain ⟨ys, h1, h2⟩ := g.ks
  have := congrArg List.length h2
  rw [List.length_map] at this
  rw [this, ← h1.length_eq]
  exact List.length_filter_le _ _
theorem Grps.cover {L : List Row} (g : Grps C Qs L) (hC : ∀ e ∈ Qs, Cls S Qs e (C e)) {o : Str} (ho : o ∈ Qs) : ∃ q ∈ L, o ∈ q.2.2 := by
  obtain ⟨m, h1, h2, h3⟩ := cls_cover hC ho
  obtain ⟨ys, k1, k2⟩ := g.ks
  have : m ∈ L.map (·.1) := by
    rw [k2, List.mem_filter]
    exact ⟨k1.mem_iff.mpr h1, h2⟩
  obtain ⟨q, hq, rfl⟩ := List.mem_map.mp this
  exact ⟨q, hq, (g.row q hq).mem_iff.mpr h3⟩
/-- the number of an equation's group -/
def numOf (GL : List Row) (o : Str) : Nat := GL.findIdx fun r => decide (o ∈ r.2.2)
theorem numOf_at {GL : List Row} {o : Str} (h : ∃ q ∈ GL, o ∈ q.2.2) : ∃ r, GL[numOf GL o]? = some r ∧ o ∈ r.2.2 := by
  obtain ⟨q, hq, ho⟩ := h
  have hl : numOf GL o < GL.length := List.findIdx_lt_length_of_exists ⟨q, hq, by simpa using ho⟩
  refine ⟨GL[numOf GL o], List.getElem?_eq_getElem hl, ?_⟩
  have := List.findIdx_getElem (xs := GL) (p := fun r : Row => decide (o ∈ r.2.2)) (w := hl)
  exact of_decide_eq_true this
/-- disjoint groups: an equation's group tells its number -/
theorem dj_at {GL : List Row} (hd : GL.Pairwise Dj) {i j : Nat} {r q : Row} {o : Str} (hi : GL[i]? = some r) (hj : GL[j]? = some q) (h1 : o ∈ r.2.2) (h2 : o ∈ q.2.2) : i = j := by
  rw [List.pairwise_iff_getElem] at hd
  obtain ⟨hi1, hi2⟩ := List.getElem?_eq_some_iff.mp hi
  obtain ⟨hj1, hj2⟩ := List.getElem?_eq_some_iff.mp hj
  rcases Nat.lt_trichotomy i j with h | h | h
  · exact absurd h2 (by have := hd i j hi1 hj1 h o (by rw [hi2]; exact h1); rwa [hj2] at this)
  · exact h
  · exact absurd h1 (by have := hd j i hj1 hi1 h o (by rw [hj2]; exact h2); rwa [hi2] at this)
theorem numOf_eq {GL : List Row} (hd : GL.Pairwise Dj) {i : Nat} {r : Row} {o : Str} (hi : GL[i]? = some r) (h1 : o ∈ r.2.2) : numOf GL o = i := by
  obtain ⟨q, hq, hm⟩ := numOf_at ⟨r, List.mem_of_getElem? hi, h1⟩
  exact dj_at hd hq hi hm h1
end
/-! ### sorted texts -/
theorem rising_pw : ∀ (l : List Str) (p : Str), risingS p l = true → (p :: l).Pairwise fun a b => strLt b a = false
  | [], p, _ => by simp
  | x :: l, p, h => by
    have h' : (!ltCps x.cps.toList p.cps.toList) = true ∧ risingS x l = true := by
      have : (!ltCps x.cps.toList p.cps.toList && risingS x l) = true := h
      rwa [Bool.and_eq_true] at this
    have ih := rising_pw l x h'.2
    have e : strLt x p = false := by
      have h1 : ltCps x.cps.toList p.cps.toList = false := by simpa using h'.1
      rw [← h1, ltCps_eq]
      rfl
    refine List.pairwise_cons.mpr ⟨fun y hy => ?_, ih⟩
    rcases List.mem_cons.mp hy with rfl | hy
    · exact e
    · exact strLt_trans ((List.pairwise_cons.mp ih).1 y hy) e
theorem sorted_pw {l : List Str} (h : sortedS l = true) : l.Pairwise fun a b => strLt b a = false := by
  cases l with
  | nil => exact .nil
  | cons x l => exact rising_pw l x h
theorem sorted_eq : ∀ {a b : List Str}, a.Perm b → a.Pairwise (fun x y => strLt y x = false) → b.Pairwise (fun x y => strLt y x = false) → a = b
  | [], b, p, _, _ => (List.nil_perm.mp p).symm
  | x :: a, b, p, ha, hb => by
    cases b with
    | nil => exact absurd (List.perm_nil.mp p) (by simp)
    | cons y b =>
      have hxb : x ∈ y :: b := p.mem_iff.mp List.mem_cons_self
      have hya : y ∈ x :: a := p.mem_iff.mpr List.mem_cons_self
      have e : x = y := by
        rcases List.mem_cons.mp hxb with h | h
        · exact h
        · rcases List.mem_cons.mp hya with h2 | h2
          · exact h2.symm
          · exact strLt_eq ((List.pairwise_cons.mp hb).1 x h) ((List.pairwise_cons.mp ha).1 y h2)
      subst e
      rw [sorted_eq (List.perm_cons x |>.mp p) (List.pairwise_cons.mp ha).2 (List.pairwise_cons.mp hb).2]
theorem sortedS_eq {a b : List Str} (p : a.Perm b) (ha : sortedS a = true) (hb : sortedS b = true) : a = b := sorted_eq p (sorted_pw ha) (sorted_pw hb)
/-- the row of a key -/
def rowOf (L : List Row) (e : Str) : List Str := ((L.find? fun p => decide (p.1 = e)).map (·.2.2)).getD []
theorem rowOf_eq {L : List Row} (nd : (L.map (·.1)).Nodup) {p : Row} (hp : p ∈ L) : p.2.2 = rowOf L p.1 := by
  have h : (L.find? fun q => decide (q.1 = p.1)) = some p := by
    rw [List.find?_eq_some_iff_append]
    refine ⟨by simp, ?_⟩
    obtain ⟨A, B, rfl⟩ := List.append_of_mem hp
    refine ⟨A, B, rfl, fun q hq => ?_⟩
    rw [List.map_append, List.map_cons, List.nodup_append] at nd
    have := nd.2.2 q.1 (List.mem_map_of_mem hq) p.1 List.mem_cons_self
    simpa using this
  unfold rowOf
  rw [h]
  rfl
end Bo

/-! Y4 -/
set_option Elab.async false
set_option linter.all false
set_option maxRecDepth 100000
set_option maxHeartbeats 1000000
/-! What a Structure is when it is made: in the heap, and in plain lists. -/
namespace Bo
open PySem PySem.Spec PyProof.Rows L2
structure Sd where
  dx : Addr
  r : Addr
  al : Addr
  pr : Addr
  gv : Addr
  ow : Addr
  ov : Addr
  un : Addr
  wp : Addr
  fo : Addr
  cl : Addr
  gr : Addr
  nu : Addr
  co : Addr
  bl : Addr
  odx : Addr
  oe : Addr
  ou : Addr
  ol : Addr
  udx : Addr
  ue : Addr
  uu : Addr
  ul : Addr
  wdx : Addr
  we : Addr
  wu : Addr
  wl : Addr
  es : List Str
  us : List Str
  R : Str → List Str
  M : List (Str × Str)
  Ps : Prs
  X : List Str
  F : List Str
  XU : List Str
  FE : List Str
  Qs : List Str
  oes : List Str
  ous : List Str
  ues : List Str
  uus : List Str
  wes : List Str
  C : Str → List Str
  GL : List Row
  Bs : List Bk
def StFs (d : Sd) : List (Str × V) := [("rows", .ref d.r), ("all_unknowns", .ref d.al), ("pairs", .ref d.pr), ("given", .ref d.gv), ("owners", .ref d.ow), ("over_part", .ref d.ov), ("under_part", .ref d.un), ("well_part", .ref d.wp), ("follows", .ref d.fo), ("closed", .ref d.cl), ("groups", .ref d.gr), ("numbers", .ref d.nu), ("own_cover", .ref d.co), ("own_blocks", .ref d.bl)]
structure StAt (K : Fg) (H : Hp) (a : Addr) (d : Sd) : Prop where
  at_ : H a = some (.ins (He.ga K "Structure") d.dx (StFs d))
  rows : ∃ L : List Row, DictAt H d.r (refs L) ∧ L.map (·.1) = d.es
  al : H d.al = some (.tup (txs d.us))
  pairs : PairsAt K H d.pr d.Ps
  given : DictAt H d.gv (sd d.M)
  over : H d.ov = some (.ins (He.ga K "OverPart") d.odx (PartFs d.oe d.ou d.ol))
  oe : H d.oe = some (.tup (txs d.oes))
  ou : H d.ou = some (.tup (txs d.ous))
  under : H d.un = some (.ins (He.ga K "UnderPart") d.udx (PartFs d.ue d.uu d.ul))
  ue : H d.ue = some (.tup (txs d.ues))
  uu : H d.uu = some (.tup (txs d.uus))
  well : H d.wp = some (.ins (He.ga K "WellPart") d.wdx (PartFs d.we d.wu d.wl))
  we : H d.we = some (.tup (txs d.wes))
  closed : ClosedAt H d.cl d.Qs d.C
  bl : H d.bl = some (.tup (d.Bs.map fun b => V.ref b.a))
  bk : ∀ b ∈ d.Bs, BkAt K H b
theorem ClosedAt.sm {H H' : Hp} {cd : Addr} {Qs : List Str} {C : Str → List Str} (h : ClosedAt H cd Qs C) (s : Same H H') : ClosedAt H' cd Qs C := h.same s
theorem StAt.same {K : Fg} {H H' : Hp} {a : Addr} {d : Sd} (h : StAt K H a d) (s : Same H H') : StAt K H' a d := by
  obtain ⟨L, h1, h2⟩ := h.rows
  exact ⟨s _ _ h.at_, ⟨L, s _ _ h1, h2⟩, s _ _ h.al, h.pairs.same s, s _ _ h.given, s _ _ h.over, s _ _ h.oe, s _ _ h.ou, s _ _ h.under, s _ _ h.ue, s _ _ h.uu, s _ _ h.well, s _ _ h.we, h.closed.same s, s _ _ h.bl, fun b hb => (h.bk b hb).same s⟩
def Mf (M : List (Str × Str)) (e : Str) : Str := (dget M e).getD ""
/-- a block of the group r, with the number i -/
structure BkOk (M : List (Str × Str)) (S : Str → List Str) (GL : List Row) (i : Nat) (r : Row) (b : Bk) : Prop where
  pl : b.pl = (i : Nat)
  ys : b.ys.Perm r.2.2
  yso : sortedS b.ys = true
  zs : b.zs.Perm (r.2.2.map (Mf M))
  zso : sortedS b.zs = true
  ms : b.ms.Perm ((needs GL i r (numOf GL) S).map fun k => ((k : Nat) : Int))
  mso : b.ms.Pairwise (· ≤ ·)
/-- the plain facts: E, U the equations and unknowns that were given, Rw their rows -/
structure StOk (E U : List Str) (Rw : Str → List Str) (d : Sd) : Prop where
  es : d.es.Perm E
  us : d.us.Perm U
  end_ : d.es.Nodup
  und : d.us.Nodup
  el : d.es.length ≤ 24
  ul : d.us.length ≤ 24
  row : ∀ e ∈ E, (d.R e).Perm (Rw e)
  Ps : d.Ps.map (·.1) = d.es.flatMap fun e => (d.R e).map fun u => (e, u)
  asg : Asg d.es d.R d.M
  rch1 : Rch d.es d.us (d.es.filter fun e => !decide (e ∈ d.M.map (·.1))) d.R (turn d.M) d.X d.F
  rch2 : Rch d.us d.es (d.us.filter fun u => !decide (u ∈ (turn d.M).map (·.1))) (fun u => d.es.filter fun e => decide (u ∈ d.R e)) d.M d.XU d.FE
  oes : d.oes.Perm d.X ∧ sortedS d.oes = true
  ous : d.ous.Perm d.F
  ues : d.ues.Perm d.FE
  uus : d.uus.Perm d.XU
  wes : d.wes.Perm d.Qs
  Qs : d.Qs = d.es.filter fun e => !decide (e ∈ d.X) && !decide (e ∈ d.FE)
  C : ∀ e ∈ d.Qs, Cls (stepsF d.R (turn d.M) d.Qs) d.Qs e (d.C e)
  ord : Ordered d.C d.GL []
  grp : ∃ L, d.GL.Perm L ∧ Grps d.C d.Qs L
  bl : d.Bs.length = d.GL.length
  bk : ∀ i r b, d.GL[i]? = some r → d.Bs[i]? = some b → BkOk d.M (stepsF d.R (turn d.M) d.Qs) d.GL i r b
end Bo

/-! Z1 -/
set_option Elab.async false
set_option linter.all false
set_option maxRecDepth 100000
set_option maxHeartbeats 1000000
/-! The plain law: what a Structure's facts say of assignments and parts. -/
namespace Bo
open PySem PySem.Spec PyProof.Rows L2
theorem filter_split {α : Type} (p : α → Bool) : ∀ l : List α, (l.filter p).length + (l.filter fun x => !p x).length = l.length
  | [] => rfl
  | a :: l => by
    have ih := filter_split p l
    cases h : p a <;> simp [List.filter_cons, h] <;> omega
theorem nodup_map_on {α β : Type} {f : α → β} {l : List α} (h : ∀ x ∈ l, ∀ y ∈ l, f x = f y → x = y) (nd : l.Nodup) : (l.map f).Nodup := by
  refine List.pairwise_map.mpr (List.Pairwise.imp_of_mem (fun {a b} ha hb ne e => ne (h a ha b hb e)) nd)
theorem perm_of {l m : List Str} (h1 : l.Nodup) (h2 : m.Nodup) (h : ∀ x, x ∈ l ↔ x ∈ m) : l.Perm m := (List.perm_ext_iff_of_nodup h1 h2).mpr h
section
variable {E U : List Str} {Rw : Str → List Str} {d : Sd}
theorem StOk.mem_es (h : StOk E U Rw d) (e : Str) : e ∈ d.es ↔ e ∈ E := h.es.mem_iff
theorem StOk.mem_us (h : StOk E U Rw d) (u : Str) : u ∈ d.us ↔ u ∈ U := h.us.mem_iff
theorem StOk.mem_R (h : StOk E U Rw d) {e : Str} (he : e ∈ d.es) (u : Str) : u ∈ d.R e ↔ u ∈ Rw e := (h.row e ((h.mem_es e).mp he)).mem_iff
theorem StOk.tg (h : StOk E U Rw d) (u e : Str) : dget (turn d.M) u = some e ↔ dget d.M e = some u := turn_get h.asg.nd h.asg.inj u e
theorem StOk.key (h : StOk E U Rw d) {e u : Str} (x : dget d.M e = some u) : e ∈ d.M.map (·.1) := dget_isSome.mp (by rw [x]; rfl)
theorem StOk.mke (h : StOk E U Rw d) {e u : Str} (x : dget d.M e = some u) : e ∈ d.es := h.asg.ks e (h.key x)
/-- with an injective choice of unknowns all equations are assigned -/
theorem StOk.full (h : StOk E U Rw d) (m : Str → Str) (hm : ∀ e ∈ E, m e ∈ Rw e) (inj : ∀ e ∈ E, ∀ f ∈ E, m e = m f → e = f) : ∀ e ∈ d.es, e ∈ d.M.map (·.1) := by
  rcases h.asg.all with h1 | ⟨e0, he0, hne, _, h3⟩
  · exact h1
  · exfalso
    have own : ∀ e ∈ d.es, ∃ w ∈ d.es, dget d.M w = some (m e) := fun e he => h3 e he (m e) ((h.mem_R he _).mpr (hm e ((h.mem_es e).mp he)))
    have hle := len_le_of_inj (S := d.es) (T := d.es.filter fun x => !decide (x = e0)) (fun e => (dget (turn d.M) (m e)).getD "") h.end_ (fun e he => ?_) (fun e he f hf eq => ?_)
    · have hs := filter_split (fun x => !decide (x = e0)) d.es
      have hpos : 0 < (d.es.filter fun x => !(!decide (x = e0))).length := List.length_pos_of_mem (a := e0) (by rw [List.mem_filter]; exact ⟨he0, by simp⟩)
      omega
    · obtain ⟨w, hw, hg⟩ := own e he
      rw [(h.tg _ _).mpr hg, List.mem_filter]
      refine ⟨hw, ?_⟩
      have : w ≠ e0 := fun z => hne (by rw [← z]; exact h.key hg)
      simpa using this
    · obtain ⟨w, hw, hg⟩ := own e he
      obtain ⟨w2, hw2, hg2⟩ := own f hf
      have e1 : (dget (turn d.M) (m e)).getD "" = w := by rw [(h.tg _ _).mpr hg]; rfl
      have e2 : (dget (turn d.M) (m f)).getD "" = w2 := by rw [(h.tg _ _).mpr hg2]; rfl
      have e3 : w = w2 := e1.symm.trans (eq.trans e2)
      subst e3
      rw [hg] at hg2
      exact inj e ((h.mem_es e).mp he) f ((h.mem_es f).mp hf) (Option.some.inj hg2)
theorem StOk.get (h : StOk E U Rw d) (hf : ∀ e ∈ d.es, e ∈ d.M.map (·.1)) {e : Str} (he : e ∈ d.es) : dget d.M e = some (Mf d.M e) := by
  have := dget_isSome.mpr (hf e he)
  unfold Mf
  cases q : dget d.M e with
  | none => rw [q] at this; cases this
  | some u => rfl
theorem StOk.mlen (h : StOk E U Rw d) (hf : ∀ e ∈ d.es, e ∈ d.M.map (·.1)) : d.M.length = E.length := by
  have p : (d.M.map (·.1)).Perm d.es := perm_of h.asg.nd h.end_ fun x => ⟨h.asg.ks x, hf x⟩
  have := p.length_eq
  rw [List.length_map] at this
  rw [this, h.es.length_eq]
theorem StOk.rsub (h : StOk E U Rw d) (hsub : ∀ e ∈ E, ∀ u ∈ Rw e, u ∈ U) {e u : Str} (x : dget d.M e = some u) : u ∈ d.us := by
  have he := h.mke x
  exact (h.mem_us u).mpr (hsub e ((h.mem_es e).mp he) u ((h.mem_R he u).mp (h.asg.row e u x)))
theorem StOk.X0 (h : StOk E U Rw d) (hf : ∀ e ∈ d.es, e ∈ d.M.map (·.1)) : d.X = [] ∧ d.F = [] := by
  have hX : d.X = [] := Decidable.byContradiction fun hn => h.rch1.ne hn (List.filter_eq_nil_iff.mpr fun e he => by
    rw [decide_eq_true (hf e he)]
    exact Bool.false_ne_true)
  refine ⟨hX, ?_⟩
  cases q : d.F with
  | nil => rfl
  | cons f F =>
    obtain ⟨n, hn, _⟩ := h.rch1.src f (by rw [q]; exact List.mem_cons_self)
    rw [hX] at hn
    cases hn
theorem StOk.owned (h : StOk E U Rw d) (hf : ∀ e ∈ d.es, e ∈ d.M.map (·.1)) (hsub : ∀ e ∈ E, ∀ u ∈ Rw e, u ∈ U) : (d.us.filter fun u => decide (u ∈ (turn d.M).map (·.1))).Perm (d.es.map (Mf d.M)) := by
  refine perm_of (h.und.filter _) ?_ fun u => ?_
  · refine nodup_map_on (fun e he f hfm eq => ?_) h.end_
    exact h.asg.inj e f _ (h.get hf he) (by rw [eq]; exact h.get hf hfm)
  · rw [List.mem_filter]
    constructor
    · rintro ⟨hu, hm⟩
      have hm' := of_decide_eq_true hm
      have := dget_isSome.mpr hm'
      cases q : dget (turn d.M) u with
      | none => rw [q] at this; cases this
      | some e =>
        have hg := (h.tg u e).mp q
        exact List.mem_map.mpr ⟨e, h.mke hg, by unfold Mf; rw [hg]; rfl⟩
    · intro hm
      obtain ⟨e, he, rfl⟩ := List.mem_map.mp hm
      have hg := h.get hf he
      exact ⟨h.rsub hsub hg, decide_eq_true (dget_isSome.mp (by rw [(h.tg _ _).mpr hg]; rfl))⟩
theorem StOk.U0 (h : StOk E U Rw d) (hf : ∀ e ∈ d.es, e ∈ d.M.map (·.1)) (hsub : ∀ e ∈ E, ∀ u ∈ Rw e, u ∈ U) (hl : U.length ≤ E.length) : d.XU = [] ∧ d.FE = [] := by
  have hst : (d.us.filter fun u => !decide (u ∈ (turn d.M).map (·.1))) = [] := by
    refine List.length_eq_zero_iff.mp ?_
    have h1 := filter_split (fun u => decide (u ∈ (turn d.M).map (·.1))) d.us
    have h2 := (h.owned hf hsub).length_eq
    rw [List.length_map] at h2
    have h3 := h.es.length_eq
    have h4 := h.us.length_eq
    omega
  have hX : d.XU = [] := Decidable.byContradiction fun hn => h.rch2.ne hn hst
  refine ⟨hX, ?_⟩
  cases q : d.FE with
  | nil => rfl
  | cons f F =>
    obtain ⟨n, hn, _⟩ := h.rch2.src f (by rw [q]; exact List.mem_cons_self)
    rw [hX] at hn
    cases hn
theorem StOk.Q0 (h : StOk E U Rw d) (h1 : d.X = []) (h2 : d.FE = []) : d.Qs = d.es := by
  rw [h.Qs, h1, h2]
  exact List.filter_eq_self.mpr fun e _ => rfl
/-! ### one unknown less -/
theorem StOk.overAll (h : StOk E U Rw d) (hsub : ∀ e ∈ E, ∀ u ∈ Rw e, u ∈ U) (hl : U.length + 1 = E.length) (hu : ∀ u ∈ U, ∃ e ∈ E, u ∈ Rw e)
    (hall : ∀ S N : List Str, S.Nodup → (∀ x ∈ S, x ∈ E) → (∃ e ∈ E, e ∉ S) → (∀ e ∈ S, ∀ u ∈ Rw e, u ∈ N) → S.length ≤ N.length) : d.oes.Perm E ∧ d.ous.length = U.length := by
  have hX : ∀ e ∈ d.es, e ∈ d.X := by
    rcases h.asg.all with h1 | ⟨e0, he0, hne, _, _⟩
    · exfalso
      have := len_le_of_inj (S := d.es) (T := d.us) (Mf d.M) h.end_ (fun e he => h.rsub hsub (h.get h1 he)) (fun e he f hf eq => h.asg.inj e f _ (h.get h1 he) (by rw [eq]; exact h.get h1 hf))
      have h3 := h.es.length_eq
      have h4 := h.us.length_eq
      omega
    · have hs : e0 ∈ d.X := h.rch1.st e0 (by rw [List.mem_filter]; exact ⟨he0, by simpa using hne⟩)
      refine Decidable.byContradiction fun hn => ?_
      have hn2 : ∃ e ∈ d.es, e ∉ d.X := by
        apply Classical.byContradiction
        intro hc
        exact hn fun e he => Classical.byContradiction fun hx => hc ⟨e, he, hx⟩
      obtain ⟨e1, he1, hx1⟩ := hn2
      have hle := hall d.X d.F h.rch1.xnd (fun x hx => (h.mem_es x).mp (h.rch1.xs x hx)) ⟨e1, (h.mem_es e1).mp he1, hx1⟩ (fun e he u hu' => h.rch1.cl e he u ((h.mem_R (h.rch1.xs e he) u).mpr hu'))
      have hlt := len_le_of_inj (S := d.F) (T := d.X.filter fun x => !decide (x = e0)) (fun u => (dget (turn d.M) u).getD "") h.rch1.fnd (fun u hu' => ?_) (fun u hu' v hv eq => ?_)
      · have hsp := filter_split (fun x => !decide (x = e0)) d.X
        have hpos : 0 < (d.X.filter fun x => !(!decide (x = e0))).length := List.length_pos_of_mem (a := e0) (by rw [List.mem_filter]; exact ⟨hs, by simp⟩)
        omega
      · obtain ⟨n, hnX, hg⟩ := h.rch1.pt u hu'
        rw [hg, List.mem_filter]
        have : n ≠ e0 := fun z => hne (by rw [← z]; exact h.key ((h.tg _ _).mp hg))
        exact ⟨hnX, by simpa using this⟩
      · obtain ⟨n, hnX, hg⟩ := h.rch1.pt u hu'
        obtain ⟨n2, hnX2, hg2⟩ := h.rch1.pt v hv
        have e1 : (dget (turn d.M) u).getD "" = n := by rw [hg]; rfl
        have e2 : (dget (turn d.M) v).getD "" = n2 := by rw [hg2]; rfl
        have e3 : n = n2 := e1.symm.trans (eq.trans e2)
        subst e3
        have a1 := (h.tg _ _).mp hg
        rw [(h.tg _ _).mp hg2] at a1
        exact (Option.some.inj a1).symm
  have pX : d.X.Perm d.es := perm_of h.rch1.xnd h.end_ fun x => ⟨h.rch1.xs x, hX x⟩
  have pF : d.F.Perm d.us := perm_of h.rch1.fnd h.und fun x => ⟨h.rch1.fs x, fun hx => by
    obtain ⟨e, he, hr⟩ := hu x ((h.mem_us x).mp hx)
    have he' := (h.mem_es e).mpr he
    exact h.rch1.cl e (hX e he') x ((h.mem_R he' x).mpr hr)⟩
  exact ⟨h.oes.1.trans (pX.trans h.es), by rw [h.ous.length_eq, pF.length_eq, h.us.length_eq]⟩
/-! ### one equation less -/
theorem StOk.underSome (h : StOk E U Rw d) (hsub : ∀ e ∈ E, ∀ u ∈ Rw e, u ∈ U) (hl : U.length = E.length + 1) (m : Str → Str) (hm : ∀ e ∈ E, m e ∈ Rw e) (inj : ∀ e ∈ E, ∀ f ∈ E, m e = m f → e = f) {o : Str} (ho : o ∈ U) (hno : ∀ e ∈ E, m e ≠ o) :
    d.M.length = E.length ∧ d.uus.length = d.ues.length + 1 ∧ o ∈ d.uus := by
  have hf := h.full m hm inj
  have hst1 : (d.us.filter fun u => !decide (u ∈ (turn d.M).map (·.1))).length = 1 := by
    have h1 := filter_split (fun u => decide (u ∈ (turn d.M).map (·.1))) d.us
    have h2 := (h.owned hf hsub).length_eq
    rw [List.length_map] at h2
    have h3 := h.es.length_eq
    have h4 := h.us.length_eq
    omega
  have pX : d.XU.Perm ((d.us.filter fun u => !decide (u ∈ (turn d.M).map (·.1))) ++ d.FE.map (Mf d.M)) := by
    refine perm_of h.rch2.xnd ?_ fun x => ?_
    · refine List.nodup_append.mpr ⟨h.und.filter _, nodup_map_on (fun e he f hfm eq => h.asg.inj e f _ (h.get hf (h.rch2.fs e he)) (by rw [eq]; exact h.get hf (h.rch2.fs f hfm))) h.rch2.fnd, ?_⟩
      intro a ha b hb eq
      subst eq
      obtain ⟨e, he, hq⟩ := List.mem_map.mp hb
      have hg := h.get hf (h.rch2.fs e he)
      rw [hq] at hg
      have := (List.mem_filter.mp ha).2
      have hk : a ∈ (turn d.M).map (·.1) := dget_isSome.mp (by rw [(h.tg _ _).mpr hg]; rfl)
      rw [decide_eq_true hk] at this
      cases this
    · rw [List.mem_append]
      constructor
      · intro hx
        rcases h.rch2.frm x hx with h1 | ⟨f, h1, h2⟩
        · exact .inl h1
        · exact .inr (List.mem_map.mpr ⟨f, h1, by unfold Mf; rw [h2]; rfl⟩)
      · rintro (hx | hx)
        · exact h.rch2.st x hx
        · obtain ⟨f, h1, rfl⟩ := List.mem_map.mp hx
          obtain ⟨n, hn, hg⟩ := h.rch2.pt f h1
          have : Mf d.M f = n := by unfold Mf; rw [hg]; rfl
          rw [this]
          exact hn
  have hXl : d.XU.length = d.FE.length + 1 := by
    rw [pX.length_eq, List.length_append, hst1, List.length_map]
    omega
  refine ⟨h.mlen hf, by rw [h.uus.length_eq, h.ues.length_eq, hXl], h.uus.mem_iff.mpr (Decidable.byContradiction fun hn => ?_)⟩
  have e1 := filter_split (fun e => decide (e ∈ d.FE)) d.es
  have e2 := filter_split (fun u => decide (u ∈ d.XU)) d.us
  have p1 : (d.es.filter fun e => decide (e ∈ d.FE)).Perm d.FE := perm_of (h.end_.filter _) h.rch2.fnd fun x => by
    rw [List.mem_filter]
    exact ⟨fun y => of_decide_eq_true y.2, fun y => ⟨h.rch2.fs x y, decide_eq_true y⟩⟩
  have p2 : (d.us.filter fun u => decide (u ∈ d.XU)).Perm d.XU := perm_of (h.und.filter _) h.rch2.xnd fun x => by
    rw [List.mem_filter]
    exact ⟨fun y => of_decide_eq_true y.2, fun y => ⟨h.rch2.xs x y, decide_eq_true y⟩⟩
  have l1 := p1.length_eq
  have l2 := p2.length_eq
  have hinj := len_le_of_inj (S := d.es.filter fun e => !decide (e ∈ d.FE)) (T := (d.us.filter fun u => !decide (u ∈ d.XU)).filter fun u => !decide (u = o)) m (h.end_.filter _) (fun e he => ?_) (fun e he f hf' eq => ?_)
  · have e3 := filter_split (fun u => !decide (u = o)) (d.us.filter fun u => !decide (u ∈ d.XU))
    have hpos : 0 < ((d.us.filter fun u => !decide (u ∈ d.XU)).filter fun u => !(!decide (u = o))).length := List.length_pos_of_mem (a := o) (by
      rw [List.mem_filter, List.mem_filter]
      exact ⟨⟨(h.mem_us o).mpr ho, by simpa using hn⟩, by simp⟩)
    have h3 := h.es.length_eq
    have h4 := h.us.length_eq
    omega
  · obtain ⟨he1, he2⟩ := List.mem_filter.mp he
    have heE := (h.mem_es e).mp he1
    have hnF : e ∉ d.FE := by simpa using he2
    have hmu : m e ∈ d.us := (h.mem_us _).mpr (hsub e heE _ (hm e heE))
    rw [List.mem_filter, List.mem_filter]
    refine ⟨⟨hmu, ?_⟩, by simpa using hno e heE⟩
    have : m e ∉ d.XU := fun hx => hnF (h.rch2.cl (m e) hx e (by rw [List.mem_filter]; exact ⟨he1, decide_eq_true ((h.mem_R he1 _).mpr (hm e heE))⟩))
    simpa using this
  · exact inj e ((h.mem_es e).mp (List.mem_filter.mp he).1) f ((h.mem_es f).mp (List.mem_filter.mp hf').1) eq
end
end Bo

/-! Z2 -/
set_option Elab.async false
set_option linter.all false
set_option maxRecDepth 100000
set_option maxHeartbeats 1000000
/-! The plain law: one block. -/
namespace Bo
open PySem PySem.Spec PyProof.Rows L2
/-- every proper set of equations has more unknowns than equations -/
def Strict (E : List Str) (Rw : Str → List Str) : Prop := ∀ S N : List Str, S.Nodup → S ≠ [] → (∀ x ∈ S, x ∈ E) → (∃ e ∈ E, e ∉ S) → (∀ e ∈ S, ∀ u ∈ Rw e, u ∈ N) → S.length < N.length
section
variable {E U : List Str} {Rw : Str → List Str} {d : Sd}
theorem StOk.zeros (h : StOk E U Rw d) (m : Str → Str) (hm : ∀ e ∈ E, m e ∈ Rw e) (inj : ∀ e ∈ E, ∀ f ∈ E, m e = m f → e = f) (hsub : ∀ e ∈ E, ∀ u ∈ Rw e, u ∈ U) (hl : U.length ≤ E.length) :
    (∀ e ∈ d.es, e ∈ d.M.map (·.1)) ∧ d.oes = [] ∧ d.ous = [] ∧ d.ues = [] ∧ d.uus = [] ∧ d.Qs = d.es := by
  have hf := h.full m hm inj
  obtain ⟨x1, x2⟩ := h.X0 hf
  obtain ⟨u1, u2⟩ := h.U0 hf hsub hl
  have o1 := h.oes.1
  have o2 := h.ous
  have o3 := h.ues
  have o4 := h.uus
  rw [x1] at o1
  rw [x2] at o2
  rw [u2] at o3
  rw [u1] at o4
  exact ⟨hf, List.perm_nil.mp o1, List.perm_nil.mp o2, List.perm_nil.mp o3, List.perm_nil.mp o4, h.Q0 x1 u2⟩
theorem mem_steps {R : Str → List Str} {O : List (Str × Str)} {Qs : List Str} {e y : Str} : y ∈ stepsF R O Qs e ↔ (∃ u ∈ R e, dget O u = some y) ∧ y ∈ Qs ∧ y ≠ e := by
  unfold stepsF
  rw [List.mem_filter, List.mem_filterMap]
  simp
theorem StOk.clsAll (h : StOk E U Rw d) (hf : ∀ e ∈ d.es, e ∈ d.M.map (·.1)) (hQ : d.Qs = d.es) (own : ∀ e ∈ d.es, ∀ u ∈ d.R e, ∃ w, dget d.M w = some u) (SH : Strict E Rw) {e x : Str} (he : e ∈ d.es) (hx : x ∈ d.es) : x ∈ d.C e := by
  have hC := h.C e (by rw [hQ]; exact he)
  refine Decidable.byContradiction fun hn => ?_
  have hlt := SH (d.C e) ((d.C e).map (Mf d.M)) hC.nd (fun z => by have := hC.self; rw [z] at this; cases this) (fun y hy => (h.mem_es y).mp (hQ ▸ hC.sub y hy)) ⟨x, (h.mem_es x).mp hx, hn⟩ (fun y hy u hu => ?_)
  · rw [List.length_map] at hlt
    exact Nat.lt_irrefl _ hlt
  · have hy' : y ∈ d.es := hQ ▸ hC.sub y hy
    obtain ⟨w, hg⟩ := own y hy' u ((h.mem_R hy' u).mpr hu)
    refine List.mem_map.mpr ⟨w, ?_, by unfold Mf; rw [hg]; rfl⟩
    by_cases hwy : w = y
    · rw [hwy]
      exact hy
    · exact hC.cl y hy w (mem_steps.mpr ⟨⟨u, (h.mem_R hy' u).mpr hu, (h.tg _ _).mpr hg⟩, by rw [hQ]; exact h.mke hg, hwy⟩)
/-- one block -/
theorem StOk.one (h : StOk E U Rw d) (hE : E ≠ []) (m : Str → Str) (hm : ∀ e ∈ E, m e ∈ Rw e) (inj : ∀ e ∈ E, ∀ f ∈ E, m e = m f → e = f) (hsub : ∀ e ∈ E, ∀ u ∈ Rw e, u ∈ U) (hl : U.length ≤ E.length) (SH : Strict E Rw) :
    (∃ b, d.Bs = [b] ∧ b.ys.Perm E ∧ sortedS b.ys = true ∧ b.zs.Perm U ∧ sortedS b.zs = true) ∧ d.M.length = E.length ∧ (∀ e ∈ E, (d.C e).Perm E) ∧ d.wes.Perm E := by
  obtain ⟨hf, z1, z2, z3, z4, hQ⟩ := h.zeros m hm inj hsub hl
  have ow := h.owned hf hsub
  have lenU : (d.es.map (Mf d.M)).Perm d.us := by
    refine perm_of (ow.nodup_iff.mp (h.und.filter _)) h.und fun x => ⟨fun hx => (List.mem_filter.mp (ow.mem_iff.mpr hx)).1, ?_⟩
    exact all_of_len (ow.nodup_iff.mp (h.und.filter _)) (fun y hy => (List.mem_filter.mp (ow.mem_iff.mpr hy)).1) (by rw [List.length_map, h.es.length_eq, h.us.length_eq]; exact hl) x
  have own : ∀ e ∈ d.es, ∀ u ∈ d.R e, ∃ w, dget d.M w = some u := fun e he u hu => by
    have hu' : u ∈ d.us := (h.mem_us u).mpr (hsub e ((h.mem_es e).mp he) u ((h.mem_R he u).mp hu))
    obtain ⟨w, hw, rfl⟩ := List.mem_map.mp (lenU.mem_iff.mpr hu')
    exact ⟨w, h.get hf hw⟩
  have cA : ∀ {e x : Str}, e ∈ d.es → x ∈ d.es → x ∈ d.C e := fun {e x} he hx => h.clsAll hf hQ own SH he hx
  have cP : ∀ e ∈ d.es, (d.C e).Perm d.es := fun e he => by
    have hC := h.C e (by rw [hQ]; exact he)
    exact perm_of hC.nd h.end_ fun x => ⟨fun hx => hQ ▸ hC.sub x hx, fun hx => cA he hx⟩
  obtain ⟨L, pL, g⟩ := h.grp
  have hCl : ∀ e ∈ d.Qs, Cls (stepsF d.R (turn d.M) d.Qs) d.Qs e (d.C e) := h.C
  have hdj : d.GL.Pairwise Dj := (pL.symm.pairwise (g.dj hCl (hQ ▸ h.end_)) fun {a b} x => x.symm)
  have rowAll : ∀ r ∈ d.GL, r.2.2.Perm d.es := fun r hr => by
    have hr' := pL.mem_iff.mp hr
    have hk : r.1 ∈ d.es := hQ ▸ (g.key hr').1
    refine (g.row r hr').trans (perm_of ((hCl _ (g.key hr').1).nd.filter _) h.end_ fun x => ?_)
    have : x ∈ clsF d.C r.1 ↔ x ∈ d.C r.1 ∧ r.1 ∈ d.C x := mem_clsF
    rw [this]
    exact ⟨fun y => (cP _ hk).mem_iff.mp y.1, fun y => ⟨cA hk y, cA y hk⟩⟩
  obtain ⟨e0, he0⟩ : ∃ e0, e0 ∈ d.es := by
    cases q : E with
    | nil => exact absurd q hE
    | cons a l => exact ⟨a, (h.mem_es a).mpr (by rw [q]; exact List.mem_cons_self)⟩
  obtain ⟨r, hGL⟩ : ∃ r, d.GL = [r] := by
    cases q : d.GL with
    | nil =>
      obtain ⟨w, hw, _⟩ := g.cover hCl (o := e0) (by rw [hQ]; exact he0)
      have := pL.mem_iff.mpr hw
      rw [q] at this
      cases this
    | cons r t =>
      cases t with
      | nil => exact ⟨r, rfl⟩
      | cons r2 t =>
        rw [q] at hdj
        have := (List.pairwise_cons.mp hdj).1 r2 List.mem_cons_self e0 ((rowAll r (by rw [q]; exact List.mem_cons_self)).mem_iff.mpr he0)
        exact absurd ((rowAll r2 (by rw [q]; exact List.mem_cons_of_mem _ List.mem_cons_self)).mem_iff.mpr he0) this
  have hbl := h.bl
  rw [hGL] at hbl
  obtain ⟨b, hB⟩ : ∃ b, d.Bs = [b] := List.length_eq_one_iff.mp hbl
  have bk := h.bk 0 r b (by rw [hGL]; rfl) (by rw [hB]; rfl)
  have pr := rowAll r (by rw [hGL]; exact List.mem_cons_self)
  have pW := h.wes
  rw [hQ] at pW
  exact ⟨⟨b, hB, bk.ys.trans (pr.trans h.es), bk.yso, bk.zs.trans ((pr.map _).trans (lenU.trans h.us)), bk.zso⟩, h.mlen hf, fun e he => (cP e ((h.mem_es e).mpr he)).trans h.es, pW.trans h.es⟩
end
end Bo

/-! Z3 -/
set_option Elab.async false
set_option linter.all false
set_option maxRecDepth 100000
set_option maxHeartbeats 1000000
/-! The plain law: the chain. -/
namespace Bo
open PySem PySem.Spec PyProof.Rows L2
theorem nd_single {l : List Str} {x : Str} (hn : l.Nodup) (h : ∀ y, y ∈ l ↔ y = x) : l = [x] := List.perm_singleton.mp (perm_of hn (by simp) fun y => by rw [h y, List.mem_singleton])
theorem nd_singleN {l : List Nat} {x : Nat} (hn : l.Nodup) (h : ∀ y, y ∈ l ↔ y = x) : l = [x] := List.perm_singleton.mp ((List.perm_ext_iff_of_nodup hn (by simp)).mpr fun y => by rw [h y, List.mem_singleton])
/-- the chain: N of them, the k-th equation has the k-th unknown and the one before -/
structure ChainOf (N : Nat) (n o : Nat → Str) (E U : List Str) (Rw : Str → List Str) : Prop where
  ninj : ∀ i j, i < N → j < N → n i = n j → i = j
  oinj : ∀ i j, i < N → j < N → o i = o j → i = j
  es : ∀ e, e ∈ E ↔ ∃ k, k < N ∧ e = n k
  us : ∀ u, u ∈ U ↔ ∃ k, k < N ∧ u = o k
  el : E.length = N
  ul : U.length = N
  row : ∀ k, k < N → ∀ u, u ∈ Rw (n k) ↔ u = o k ∨ (1 ≤ k ∧ u = o (k - 1))
section
variable {N : Nat} {n o : Nat → Str} {E U : List Str} {Rw : Str → List Str} {d : Sd}
theorem ChainOf.pick (c : ChainOf N n o E U Rw) : ∃ m : Str → Str, (∀ e ∈ E, m e ∈ Rw e) ∧ (∀ e ∈ E, ∀ f ∈ E, m e = m f → e = f) ∧ ∀ k, k < N → m (n k) = o k := by
  have hm : ∀ k, k < N → (match (List.range N).find? (fun j => decide (n j = n k)) with | some j => o j | none => "") = o k := fun k hk => by
    cases q : (List.range N).find? (fun j => decide (n j = n k)) with
    | none =>
      have := List.find?_eq_none.mp q k (List.mem_range.mpr hk)
      simp at this
    | some j =>
      have h1 := List.find?_some q
      have h2 := List.mem_range.mp (List.mem_of_find?_eq_some q)
      rw [c.ninj j k h2 hk (of_decide_eq_true h1)]
  refine ⟨fun e => match (List.range N).find? (fun j => decide (n j = e)) with | some j => o j | none => "", fun e he => ?_, fun e he f hf eq => ?_, hm⟩
  · obtain ⟨k, hk, rfl⟩ := (c.es e).mp he
    show (match (List.range N).find? (fun j => decide (n j = n k)) with | some j => o j | none => "") ∈ _
    rw [hm k hk]
    exact (c.row k hk _).mpr (.inl rfl)
  · obtain ⟨k, hk, rfl⟩ := (c.es e).mp he
    obtain ⟨j, hj, rfl⟩ := (c.es f).mp hf
    have e1 := hm k hk
    have e2 := hm j hj
    have eq' : (match (List.range N).find? (fun i => decide (n i = n k)) with | some j => o j | none => "") = (match (List.range N).find? (fun i => decide (n i = n j)) with | some j => o j | none => "") := eq
    rw [e1, e2] at eq'
    rw [c.oinj k j hk hj eq']
theorem ChainOf.sub (c : ChainOf N n o E U Rw) : ∀ e ∈ E, ∀ u ∈ Rw e, u ∈ U := fun e he u hu => by
  obtain ⟨k, hk, rfl⟩ := (c.es e).mp he
  rcases (c.row k hk u).mp hu with rfl | ⟨h1, rfl⟩
  · exact (c.us _).mpr ⟨k, hk, rfl⟩
  · exact (c.us _).mpr ⟨k - 1, by omega, rfl⟩
/-- the assignment -/
theorem StOk.chM (h : StOk E U Rw d) (c : ChainOf N n o E U Rw) (hf : ∀ e ∈ d.es, e ∈ d.M.map (·.1)) : ∀ k, k < N → dget d.M (n k) = some (o k) := by
  intro k
  induction k with
  | zero =>
    intro hk
    have he : n 0 ∈ d.es := (h.mem_es _).mpr ((c.es _).mpr ⟨0, hk, rfl⟩)
    have hg := h.get hf he
    rcases (c.row 0 hk _).mp ((h.mem_R he _).mp (h.asg.row _ _ hg)) with e | ⟨e, _⟩
    · rw [hg, e]
    · omega
  | succ k ih =>
    intro hk
    have he : n (k + 1) ∈ d.es := (h.mem_es _).mpr ((c.es _).mpr ⟨k + 1, hk, rfl⟩)
    have hg := h.get hf he
    rcases (c.row (k + 1) hk _).mp ((h.mem_R he _).mp (h.asg.row _ _ hg)) with e | ⟨_, e⟩
    · rw [hg, e]
    · have e' : Mf d.M (n (k + 1)) = o k := e
      rw [e'] at hg
      have := c.ninj _ _ hk (by omega) (h.asg.inj _ _ _ hg (ih (by omega)))
      omega
/-- all of the chain -/
theorem StOk.chain (h : StOk E U Rw d) (c : ChainOf N n o E U Rw) :
    d.Bs.length = N ∧ (∀ i b, d.Bs[i]? = some b → b.ys = [n i] ∧ b.zs = [o i] ∧ b.pl = ((i : Nat) : Int) ∧ b.ms = if i = 0 then [] else [((i - 1 : Nat) : Int)]) ∧
    d.oes = [] ∧ d.ous = [] ∧ d.ues = [] ∧ d.uus = [] ∧ d.wes.Perm E ∧ ∀ k, k < N → ∀ x, x ∈ d.C (n k) ↔ ∃ j, j ≤ k ∧ x = n j := by
  obtain ⟨m, hm, inj, _⟩ := c.pick
  obtain ⟨hf, z1, z2, z3, z4, hQ⟩ := h.zeros m hm inj c.sub (by rw [c.ul, c.el]; exact Nat.le_refl _)
  have hM := h.chM c hf
  have hT : ∀ k, k < N → dget (turn d.M) (o k) = some (n k) := fun k hk => (h.tg _ _).mpr (hM k hk)
  have inE : ∀ k, k < N → n k ∈ d.es := fun k hk => (h.mem_es _).mpr ((c.es _).mpr ⟨k, hk, rfl⟩)
  have ofE : ∀ e ∈ d.es, ∃ k, k < N ∧ e = n k := fun e he => (c.es e).mp ((h.mem_es e).mp he)
  have hS : ∀ k, k < N → ∀ y, y ∈ stepsF d.R (turn d.M) d.Qs (n k) ↔ (1 ≤ k ∧ y = n (k - 1)) := fun k hk y => by
    rw [mem_steps]
    constructor
    · rintro ⟨⟨u, hu, hg⟩, _, hne⟩
      rcases (c.row k hk u).mp ((h.mem_R (inE k hk) u).mp hu) with rfl | ⟨h1, rfl⟩
      · rw [hT k hk] at hg
        exact absurd (Option.some.inj hg).symm hne
      · rw [hT (k - 1) (by omega)] at hg
        exact ⟨h1, (Option.some.inj hg).symm⟩
    · rintro ⟨h1, rfl⟩
      refine ⟨⟨o (k - 1), (h.mem_R (inE k hk) _).mpr ((c.row k hk _).mpr (.inr ⟨h1, rfl⟩)), hT _ (by omega)⟩, by rw [hQ]; exact inE _ (by omega), fun e => ?_⟩
      have := c.ninj _ _ (by omega) hk e
      omega
  have hCl : ∀ e ∈ d.Qs, Cls (stepsF d.R (turn d.M) d.Qs) d.Qs e (d.C e) := h.C
  have hC : ∀ k, k < N → ∀ x, x ∈ d.C (n k) ↔ ∃ j, j ≤ k ∧ x = n j := fun k hk x => by
    have q := hCl (n k) (by rw [hQ]; exact inE k hk)
    constructor
    · refine q.min (fun x => ∃ j, j ≤ k ∧ x = n j) ⟨k, Nat.le_refl _, rfl⟩ ?_ x
      rintro x ⟨j, hj, rfl⟩ y hy
      obtain ⟨h1, rfl⟩ := (hS j (by omega) y).mp hy
      exact ⟨j - 1, by omega, rfl⟩
    · rintro ⟨j, hj, rfl⟩
      obtain ⟨t, rfl⟩ : ∃ t, k = j + t := ⟨k - j, by omega⟩
      have go : ∀ t', t' ≤ t → n (j + t - t') ∈ d.C (n (j + t)) := by
        intro t'
        induction t' with
        | zero => intro _; exact q.self
        | succ t' ih =>
          intro ht
          exact q.cl _ (ih (by omega)) _ ((hS (j + t - t') (by omega) _).mpr ⟨by omega, by congr 1⟩)
      have := go t (Nat.le_refl _)
      rwa [Nat.add_sub_cancel] at this
  obtain ⟨L, pL, g⟩ := h.grp
  have hdj : d.GL.Pairwise Dj := pL.symm.pairwise (g.dj hCl (hQ ▸ h.end_)) fun {a b} x => x.symm
  have rowOne : ∀ r ∈ d.GL, ∃ k, k < N ∧ r.2.2 = [n k] := fun r hr => by
    have hr' := pL.mem_iff.mp hr
    have hk : r.1 ∈ d.es := hQ ▸ (g.key hr').1
    obtain ⟨k, hkN, hk1⟩ := ofE _ hk
    refine ⟨k, hkN, nd_single ((g.row r hr').nodup_iff.mpr ((hCl _ (g.key hr').1).nd.filter _)) fun y => ?_⟩
    rw [(g.row r hr').mem_iff, mem_clsF, hk1]
    constructor
    · rintro ⟨h1, h2⟩
      obtain ⟨j, hj, rfl⟩ := (hC k hkN y).mp h1
      obtain ⟨i, hi, e⟩ := (hC j (by omega) _).mp h2
      have := c.ninj k i hkN (by omega) e
      have : j = k := by omega
      rw [this]
    · rintro rfl
      exact ⟨(hC k hkN _).mpr ⟨k, Nat.le_refl _, rfl⟩, (hC k hkN _).mpr ⟨k, Nat.le_refl _, rfl⟩⟩
  have cov : ∀ k, k < N → ∃ (i : Nat) (r : Row), d.GL[i]? = some r ∧ r.2.2 = [n k] := fun k hk => by
    obtain ⟨q, hq, hm⟩ := g.cover hCl (o := n k) (by rw [hQ]; exact inE k hk)
    have hq' := pL.mem_iff.mpr hq
    obtain ⟨j, hj, e⟩ := rowOne q hq'
    obtain ⟨i, hi⟩ := List.getElem?_of_mem hq'
    rw [e] at hm
    have := List.mem_singleton.mp hm
    exact ⟨i, q, hi, by rw [e, this]⟩
  have ord : ∀ (i : Nat) (r : Row), d.GL[i]? = some r → r.2.2 = [n i] ∧ i < N := by
    intro i
    induction i using Nat.strongRecOn with
    | _ i ih =>
      intro r hr
      obtain ⟨k, hk, hrk⟩ := rowOne r (List.mem_of_getElem? hr)
      have hil : i < d.GL.length := (List.getElem?_eq_some_iff.mp hr).1
      have pre : ∀ j, j < i → ∃ r', d.GL[j]? = some r' ∧ r'.2.2 = [n j] ∧ j < N := fun j hj => by
        have hjl : j < d.GL.length := by omega
        exact ⟨_, List.getElem?_eq_getElem hjl, ih j hj _ (List.getElem?_eq_getElem hjl)⟩
      have inF : ∀ x, (d.GL.take i).any (fun q => decide (x ∈ q.2.2)) = true ↔ ∃ j, j < i ∧ x = n j := fun x => by
        rw [List.any_eq_true]
        constructor
        · rintro ⟨q, hq, hx⟩
          obtain ⟨j, hj⟩ := List.getElem?_of_mem hq
          have hji : j < i := by
            have := (List.getElem?_eq_some_iff.mp hj).1
            rw [List.length_take] at this
            omega
          rw [List.getElem?_take_of_lt hji] at hj
          have := (ih j hji q hj).1
          have hx' := of_decide_eq_true hx
          rw [this] at hx'
          exact ⟨j, hji, List.mem_singleton.mp hx'⟩
        · rintro ⟨j, hj, rfl⟩
          obtain ⟨r', h1, h2, _⟩ := pre j hj
          refine ⟨r', List.mem_of_getElem? (i := j) (by rw [List.getElem?_take_of_lt hj]; exact h1), decide_eq_true ?_⟩
          rw [h2]
          exact List.mem_singleton.mpr rfl
      have hd1 : hdOf r = n k := by
        unfold hdOf
        rw [hrk]
        rfl
      have rdy : ∀ (q : Row) (j : Nat), q.2.2 = [n j] → (rdyB d.C (d.GL.take i) q = true ↔ ∀ x ∈ d.C (n j), (∃ t, t < i ∧ x = n t) ∨ x = n j) := fun q j hq => by
        have hdq : hdOf q = n j := by
          unfold hdOf
          rw [hq]
          rfl
        unfold rdyB
        rw [List.all_eq_true, hdq]
        constructor
        · intro hh x hx
          have := hh x hx
          rw [Bool.or_eq_true, hq] at this
          rcases this with h1 | h1
          · exact .inl ((inF x).mp h1)
          · exact .inr (List.mem_singleton.mp (of_decide_eq_true h1))
        · intro hh x hx
          rw [Bool.or_eq_true, hq]
          rcases hh x hx with h1 | h1
          · exact .inl ((inF x).mpr h1)
          · exact .inr (decide_eq_true (List.mem_singleton.mpr h1))
      -- i is below N
      have hiN : i < N := by
        rcases Nat.lt_or_ge k i with h1 | h1
        · exfalso
          obtain ⟨r', a1, a2, _⟩ := pre k h1
          have := dj_at hdj hr a1 (o := n k) (by rw [hrk]; exact List.mem_singleton.mpr rfl) (by rw [a2]; exact List.mem_singleton.mpr rfl)
          omega
        · omega
      refine ⟨?_, hiN⟩
      have hki : k = i := by
        rcases Nat.lt_trichotomy k i with h1 | h1 | h1
        · exfalso
          obtain ⟨r', a1, a2, _⟩ := pre k h1
          have := dj_at hdj hr a1 (o := n k) (by rw [hrk]; exact List.mem_singleton.mpr rfl) (by rw [a2]; exact List.mem_singleton.mpr rfl)
          omega
        · exact h1
        · exfalso
          rcases h.ord i r hr with hh | hh
          · rcases (rdy r k hrk).mp hh (n i) ((hC k hk _).mpr ⟨i, by omega, rfl⟩) with ⟨t, ht, e⟩ | e
            · have := c.ninj _ _ hiN (by omega) e
              omega
            · have := c.ninj _ _ hiN hk e
              omega
          · obtain ⟨j, q, hq1, hq2⟩ := cov i hiN
            have hji : i ≤ j := by
              rcases Nat.lt_or_ge j i with h3 | h3
              · exfalso
                obtain ⟨r', a1, a2, a3⟩ := pre j h3
                rw [hq1] at a1
                rw [← Option.some.inj a1, hq2] at a2
                have := c.ninj _ _ hiN a3 (List.singleton_inj.mp a2)
                omega
              · exact h3
            have hmem : q ∈ d.GL.drop i ++ [] := by
              rw [List.append_nil]
              refine List.mem_of_getElem? (i := j - i) ?_
              rw [List.getElem?_drop, show i + (j - i) = j by omega]
              exact hq1
            have := hh q hmem
            rw [(rdy q i hq2).mpr fun x hx => ?_] at this
            · cases this
            · obtain ⟨t, ht, rfl⟩ := (hC i hiN x).mp hx
              rcases Nat.lt_or_ge t i with h4 | h4
              · exact .inl ⟨t, h4, rfl⟩
              · exact .inr (by rw [show t = i by omega])
      rw [hrk, hki]
  have hlen : d.GL.length = N := by
    refine Nat.le_antisymm ?_ ?_
    · rcases Nat.eq_zero_or_pos d.GL.length with h0 | h0
      · omega
      · have := (ord (d.GL.length - 1) _ (List.getElem?_eq_getElem (by omega))).2
        omega
    · rcases Nat.eq_zero_or_pos N with h0 | h0
      · omega
      · obtain ⟨i, r, h1, h2⟩ := cov (N - 1) (by omega)
        obtain ⟨h3, h4⟩ := ord i r h1
        rw [h2] at h3
        have := c.ninj _ _ (by omega) h4 (List.singleton_inj.mp h3)
        have := (List.getElem?_eq_some_iff.mp h1).1
        omega
  have pW := h.wes
  rw [hQ] at pW
  refine ⟨by rw [h.bl, hlen], fun i b hb => ?_, z1, z2, z3, z4, pW.trans h.es, hC⟩
  have hil : i < d.GL.length := by
    have := (List.getElem?_eq_some_iff.mp hb).1
    rw [h.bl] at this
    exact this
  have hr := List.getElem?_eq_getElem hil
  obtain ⟨hrow, hiN⟩ := ord i _ hr
  have bk := h.bk i _ b hr hb
  have p1 := bk.ys
  rw [hrow] at p1
  have p2 := bk.zs
  rw [hrow] at p2
  have e2 : Mf d.M (n i) = o i := by
    unfold Mf
    rw [hM i hiN]
    rfl
  have p2' : b.zs.Perm [o i] := by
    have : ([n i].map (Mf d.M)) = [o i] := by rw [List.map_cons, e2]; rfl
    rwa [this] at p2
  have hneeds : needs d.GL i d.GL[i] (numOf d.GL) (stepsF d.R (turn d.M) d.Qs) = if i = 0 then [] else [i - 1] := by
    have hmem : ∀ k, k ∈ needs d.GL i d.GL[i] (numOf d.GL) (stepsF d.R (turn d.M) d.Qs) ↔ (1 ≤ i ∧ k = i - 1) := fun k => by
      unfold needs
      rw [List.mem_filter, List.mem_range, hrow, Bool.and_eq_true]
      simp only [List.any_cons, List.any_nil, Bool.or_false, List.any_eq_true, decide_eq_true_eq]
      constructor
      · rintro ⟨_, _, y, hy, hk⟩
        obtain ⟨h1, rfl⟩ := (hS i hiN y).mp hy
        have hr2 := List.getElem?_eq_getElem (show i - 1 < d.GL.length by omega)
        have := numOf_eq hdj hr2 (o := n (i - 1)) (by rw [(ord _ _ hr2).1]; exact List.mem_singleton.mpr rfl)
        exact ⟨h1, by rw [← hk, this]⟩
      · rintro ⟨h1, rfl⟩
        have hr2 := List.getElem?_eq_getElem (show i - 1 < d.GL.length by omega)
        exact ⟨by omega, by omega, n (i - 1), (hS i hiN _).mpr ⟨h1, rfl⟩, numOf_eq hdj hr2 (o := n (i - 1)) (by rw [(ord _ _ hr2).1]; exact List.mem_singleton.mpr rfl)⟩
    by_cases h0 : i = 0
    · rw [if_pos h0]
      exact List.eq_nil_iff_forall_not_mem.mpr fun k hk => by have := ((hmem k).mp hk).1; omega
    · rw [if_neg h0]
      refine nd_singleN ?_ fun k => ?_
      · unfold needs
        exact List.nodup_range.filter _
      · rw [hmem k]
        exact ⟨fun x => x.2, fun x => ⟨by omega, x⟩⟩
  have p3 := bk.ms
  rw [hneeds] at p3
  refine ⟨List.perm_singleton.mp p1, List.perm_singleton.mp p2', bk.pl, ?_⟩
  by_cases h0 : i = 0
  · rw [if_pos h0] at p3 ⊢
    exact List.perm_nil.mp p3
  · rw [if_neg h0] at p3 ⊢
    exact List.perm_singleton.mp p3
end
end Bo

/-! Y5 -/
set_option Elab.async false
set_option linter.all false
set_option maxRecDepth 100000
set_option maxHeartbeats 4000000
namespace Bo
open PySem PySem.Spec PyProof.Rows L2
section
variable {P : Program} {w : World} {K : Fg} {mg : Str → Option Value} {base : Heap}
def rSorT (K : Fg) : List V → Hp → VK → Prop := fun xs H Q => ∃ (a : Addr) (ks : List Str), xs = [.ref a] ∧ SqT K H a (ks.map V.str) ∧ ks.length < 64 ∧
    ∀ ys p, ys.Perm ks → sortedS ys = true → H p = none → Q (.ref p) (upd H p (.lst (ys.map V.str)))
def rTo (K : Fg) : List V → Hp → VK → Prop := fun xs H Q => ∃ p ys, xs = [V.ref p] ∧ ((SqL K H p ys ∧ ∀ l, H l = none → Q (.ref l) (upd H l (.tup ys))) ∨ (SqT K H p ys ∧ Q (.ref p) H))
theorem fm_id : ∀ l : List Str, (txs l).filterMap (fun v => match v with | .str k => some k | _ => none) = l
  | [] => rfl
  | x :: l => by
    show x :: (txs l).filterMap _ = x :: l
    rw [fm_id l]
theorem Hall.perm {E E' : List Str} {Rw Rw' : Str → List Str} (h : Hall E Rw) (p : E'.Perm E) (hr : ∀ e ∈ E', (Rw' e).Perm (Rw e)) : Hall E' Rw' := fun S N nd hs ⟨e, he, hn⟩ hc =>
  h S N nd (fun x hx => p.mem_iff.mp (hs x hx)) ⟨e, p.mem_iff.mp he, hn⟩ fun x hx u hu => hc x hx u ((hr x (hs x hx)).mem_iff.mpr hu)
theorem part_same {H H2 H3 : Hp} {x dx : Addr} {C : Addr} (nx : H x = none) (ndx : H dx = none) (b : But [x] (upd (upd H dx (.own x)) x (.ins C dx [])) H3) : Same H H3 := fun c o hc =>
  b _ _ ((Same.over (same_new ndx) nx : Same H (upd (upd H dx (.own x)) x (.ins C dx []))) _ _ hc) fun hm => by rw [List.mem_singleton.mp hm, nx] at hc; cases hc
/-- what a Structure is made of -/
structure StIn (K : Fg) (H : Hp) (rd ud : Addr) (L : List Row) (U : List Str) : Prop where
  rd : DictAt H rd (refs L)
  nd : (L.map (·.1)).Nodup
  ll : L.length ≤ 24
  row : ∀ r ∈ L, SqT K H r.2.1 (txs r.2.2) ∧ r.2.2.Nodup ∧ ∀ u ∈ r.2.2, u ∈ U
  ud : SqT K H ud (txs U)
  und : U.Nodup
  ul : U.length ≤ 24
  eok : ∀ r ∈ L, NameOk r.1
  uok : ∀ u ∈ U, NameOk u
  hall : Hall (L.map (·.1)) (rowOf L)
  cov : ∀ u ∈ U, ∃ r ∈ L, u ∈ r.2.2
def spStruct (K : Fg) : Sp := fun vs H Q _ => ∃ (a dx rd ud : Addr) (L : List Row) (U : List Str), vs = [.ref a, .ref rd, .ref ud] ∧ H a = some (.ins (He.ga K "Structure") dx []) ∧ StIn K H rd ud L U ∧
  ∀ d H', But [a] H H' → StAt K H' a d → StOk (L.map (·.1)) U (rowOf L) d → Q .non H'
theorem ok_Structure_init (T : TX w K mg) (PXh : PX P) : Ok P w K mg base 5 d_Structure___init__ ["self", "rows", "unknowns"] (spStruct K) := by
  refine mkOk T ix_Structure___init__ rfl rfl rfl sc_Structure___init__ (fun _ _ _ _ _ _ us hl => match us, hl with | [_, _, _], _ => rfl) (fun vs H Q E h => ?_) (fun cdv A outer s0 H vs Q E hr h => ?_)
  · obtain ⟨a, dx, rd, ud, L, U, rfl, _⟩ := h
    rfl
  · obtain ⟨a, dx, rd, ud, L, U, rfl, ha, hI, q⟩ := h
    have hu := hu_of hr
    have nd := sc_Structure___init__.nd
    obtain ⟨f1, G1, b1, k1⟩ := ok_largest (P := P) (base := base) T
    obtain ⟨f2, G2, b2, k2⟩ := ok_owners_of (P := P) (base := base) T
    obtain ⟨f3, G3, b3, k3⟩ := ok_spare_side (P := P) (base := base) T
    obtain ⟨f4, G4, b4, k4⟩ := ok_open_side (P := P) (base := base) T
    obtain ⟨f5, G5, b5, k5⟩ := ok_OverPart_init (P := P) (base := base) T
    obtain ⟨f6, G6, b6, k6⟩ := ok_UnderPart_init (P := P) (base := base) T
    obtain ⟨f7, G7, b7, k7⟩ := ok_WellPart_init (P := P) (base := base) T
    obtain ⟨f8, G8, b8, k8⟩ := ok_steps_of (P := P) (base := base) T
    obtain ⟨f9, G9, b9, k9⟩ := ok_closed_sets (P := P) (base := base) T
    obtain ⟨f10, G10, b10, k10⟩ := ok_groups_of (P := P) (base := base) T
    obtain ⟨f11, G11, b11, k11⟩ := ok_solving_order (P := P) (base := base) T
    obtain ⟨f12, G12, b12, k12⟩ := ok_smallest_cover (P := P) (base := base) T
    obtain ⟨f13, G13, b13, k13⟩ := ok_made_block (P := P) (base := base) T PXh
    have hr1 := hr.mono (j := 1) (by decide)
    have hr2 := hr.mono (j := 2) (by decide)
    have hr3 := hr.mono (j := 3) (by decide)
    refine ⟨_, pss_cons (ps_fld (pv 0) (pe_dc (own := [("equation", 3)]) (g := gName 3) (tt := tYes) (by rfl) nd (pi_list (pe_callB (call_sortedD rfl) (by rfl) T.f_sorted boot_sorted (pa_cons (pv 1) pa_nil))) (blkOk_by (N := N_Structure___init__) (sc := defScope s_Structure___init__) (by decide +kernel))
          (fun _ _ _ _ _ => pgn (i := 3) nd) (fun _ _ _ _ _ => pts_nil) (fun _ _ _ _ _ => pv 3) (fun _ _ _ _ _ => pe_callTy (r := rTo K) call_tuple_of (by rfl) T.f_tuple PyProof.Rows.boot_tuple (pa_cons (pe_callB (r := rSorT K) call_sortedT (by rfl) T.f_sorted boot_sorted (pa_cons (pe_dget hu (pv 1) (pv 3) (fun _ _ => rfl)) pa_nil)) pa_nil))) rfl)
      (pss_cons (ps_fld (pv 0) (pe_callTy call_tuple_of (by rfl) T.f_tuple PyProof.Rows.boot_tuple (pa_cons (pe_callB call_sortedT (by rfl) T.f_sorted boot_sorted (pa_cons (pv 2) pa_nil)) pa_nil)) rfl)
      (pss_cons (ps_fld (pv 0) (pe_callTy call_tuple_of (by rfl) T.f_tuple PyProof.Rows.boot_tuple (pa_cons
          (pe_lock (pe_lc2 (own := [("equation", 3), ("unknown", 4)]) (vs1 := [4]) (g := gName 3) (g1 := gName 4) (tt := tYes) (tt1 := tYes) (wi1 := iTup K (tDGet (tFld K (tVar 0) "rows") (tVar 3))) rfl nd (pi_keys (pe_fld (pv 0) rfl)) (blkOk_by (N := N_Structure___init__) (sc := defScope s_Structure___init__) (by decide +kernel)) (by decide)
            (fun _ _ _ _ _ => pgn (i := 3) nd) (fun _ _ _ _ _ => pts_nil) (fun _ _ _ _ _ => by exact pi_tup (pe_dget hu (pe_fld (pv 0) rfl) (pv 3) (fun _ _ => rfl))) (fun _ _ _ _ _ => pgn (i := 4) nd) (fun _ _ _ _ _ => pts_nil) (fun _ _ _ _ _ => pe_tup (pa_cons (pv 3) (pa_cons (pv 4) pa_nil))))) pa_nil)) rfl)
      (pss_cons (ps_fld (pv 0) (pe_call G1 hr2 (by rfl) T.g_largest k1 b1 .nil pass0 (pa_cons (pe_fld (pv 0) rfl) pa_nil)) rfl)
      (pss_cons (ps_fld (pv 0) (pe_call G2 hr1 (by rfl) T.g_owners_of k2 b2 .nil pass0 (pa_cons (pe_fld (pv 0) rfl) pa_nil)) rfl)
      (pss_cons (ps_asg (pe_call G3 hr2 (by rfl) T.g_spare_side k3 b3 .nil pass0 (pa_cons (pe_fld (pv 0) rfl) (pa_cons (pe_fld (pv 0) rfl) pa_nil))) (pg_tup rfl (pgs_cons (pgn (i := 5) nd) (pgs_cons (pgn (i := 6) nd) pgs_nil))))
      (pss_cons (ps_asg (pe_call G4 hr2 (by rfl) T.g_open_side k4 b4 .nil pass0 (pa_cons (pe_fld (pv 0) rfl) (pa_cons (pe_fld (pv 0) rfl) (pa_cons (pe_fld (pv 0) rfl) pa_nil)))) (pg_tup rfl (pgs_cons (pgn (i := 7) nd) (pgs_cons (pgn (i := 8) nd) pgs_nil))))
      (pss_cons (ps_fld (pv 0) (pe_make T.mkr_OverPart G5 hr2 (by rfl) T.g_OverPart b5 .nil pass0 (pa_cons (pv 5) (pa_cons (pv 6) (pa_cons (pe_fld (pv 0) rfl) pa_nil)))) rfl)
      (pss_cons (ps_fld (pv 0) (pe_make T.mkr_UnderPart G6 hr2 (by rfl) T.g_UnderPart b6 .nil pass0 (pa_cons (pv 8) (pa_cons (pv 7) (pa_cons (pe_fld (pv 0) rfl) pa_nil)))) rfl)
      (pss_cons (ps_lock (ps_setDc (i := 9) (own := [("one", 10)]) (g := gName 10) (by rfl) nd rfl rfl (by rfl) (pi_keys (pe_fld (pv 0) rfl)) (blkOk_by (N := N_Structure___init__) (sc := defScope s_Structure___init__) (by decide +kernel))
          (fun _ _ _ _ _ => pgn (i := 10) nd) (fun _ _ _ _ _ => pts_one (PW.pt (pw_and (pt_cmp (pc_dnotin hu (pv 10) (pv 5))) (pw_and1 (pt_cmp (pc_dnotin hu (pv 10) (pv 8))))))) (fun _ _ _ _ _ => pv 10) (fun _ _ _ _ _ => pe_bl)))
      (pss_cons (ps_setLc (i := 11) (own := [("one", 10)]) (g := gName 10) (by rfl) nd rfl rfl (by rfl) (pi_tup (pe_fld (pv 0) rfl)) (blkOk_by (N := N_Structure___init__) (sc := defScope s_Structure___init__) (by decide +kernel))
          (fun _ _ _ _ _ => pgn (i := 10) nd) (fun _ _ _ _ _ => pts_one (PW.pt (pw_and (pt_cmp (pc_dnotin hu (pv 10) (pv 6))) (pw_and1 (pt_cmp (pc_dnotin hu (pv 10) (pv 7))))))) (fun _ _ _ _ _ => pv 10))
      (pss_cons (ps_fld (pv 0) (pe_make T.mkr_WellPart G7 hr2 (by rfl) T.g_WellPart b7 .nil pass0 (pa_cons (pv 9) (pa_cons (pv 11) (pa_cons (pe_fld (pv 0) rfl) pa_nil)))) rfl)
      (pss_cons (ps_fld (pv 0) (pe_call G8 hr1 (by rfl) T.g_steps_of k8 b8 .nil pass0 (pa_cons (pe_fld (pv 0) rfl) (pa_cons (pv 9) (pa_cons (pe_fld (pv 0) rfl) pa_nil)))) rfl)
      (pss_cons (ps_fld (pv 0) (pe_call G9 hr1 (by rfl) T.g_closed_sets k9 b9 .nil pass0 (pa_cons (pe_fld (pv 0) rfl) pa_nil)) rfl)
      (pss_cons (ps_fld (pv 0) (pe_call G11 hr1 (by rfl) T.g_solving_order k11 b11 .nil pass0 (pa_cons (pe_call G10 hr1 (by rfl) T.g_groups_of k10 b10 .nil pass0 (pa_cons (pe_fld (pv 0) rfl) pa_nil)) (pa_cons (pe_fld (pv 0) rfl) pa_nil))) rfl)
      (pss_cons (ps_fld (pv 0) (pe_dc2 (own := [("number", 12), ("group", 13), ("equation", 3)]) (vs1 := [3]) (g := gTup K 2 (gCons (gName 12) (gCons (gName 13) gNil))) (g1 := gName 3) (wi1 := iTup K (tVar 13)) (tk := tVar 3) (tv := tVar 12) rfl nd (pi_enum (by rfl) T.f_enumerate (pa_cons (pe_fld (pv 0) rfl) pa_nil)) (blkOk_by (N := N_Structure___init__) (sc := defScope s_Structure___init__) (by decide +kernel)) (by decide)
          (fun _ _ _ _ _ => by exact pg_tup rfl (pgs_cons (pgn (i := 12) nd) (pgs_cons (pgn (i := 13) nd) pgs_nil))) (fun _ _ _ _ _ => by exact pi_tup (pv 13)) (fun _ _ _ _ _ => pgn (i := 3) nd) (fun _ _ _ _ _ => pv 3) (fun _ _ _ _ _ => pv 12)) rfl)
      (pss_cons (ps_fld (pv 0) (pe_call G12 hr3 (by rfl) T.g_smallest_cover k12 b12 .nil pass0 (pa_cons (pe_fld (pv 0) rfl) (pa_cons (pe_fld (pv 0) rfl) pa_nil))) rfl)
      (pss_one (ps_fld (pv 0) (pe_callTy call_tuple_of (by rfl) T.f_tuple PyProof.Rows.boot_tuple (pa_cons
          (pe_lc (own := [("number", 12)]) (g := gName 12) (tt := tYes) (by rfl) nd (pi_range1 (by rfl) T.f_range (pa_cons (pe_callB call_len_seq (by rfl) T.f_len PySem.boot_len (pa_cons (pe_fld (pv 0) rfl) pa_nil)) pa_nil)) (blkOk_by (N := N_Structure___init__) (sc := defScope s_Structure___init__) (by decide +kernel))
            (fun _ _ _ _ _ => pgn (i := 12) nd) (fun _ _ _ _ _ => pts_nil) (fun _ _ _ _ _ => pe_meth (pv 0) T.cls_Structure T.m_Structure_made_block G13 hr b13 .nil pass0 (pa_cons (pv 12) pa_nil))) pa_nil)) rfl)))))))))))))))))), ?_⟩
    have hLl := hI.ll
    have hkl : (L.map (·.1)).length ≤ 24 := by rw [List.length_map]; exact hLl
    refine ⟨_, rfl, rd, tk (refs L), L.map (·.1), rfl, DictAt.r hI.rd, (by have := tk_keys (refs L); rw [refs_keys] at this; exact this), by omega, fun ys p1 pm1 sr1 np1 => ?_⟩
    have hyl : ys.length ≤ 24 := by rw [pm1.length_eq]; exact hkl
    have hynd : ys.Nodup := pm1.nodup_iff.mpr hI.nd
    have t1 : Same H (upd H p1 (.lst (ys.map V.str))) := same_new np1
    refine ⟨p1, rfl, ⟨_, SqL.of upd_same⟩, fun rr nrr => ?_⟩
    have efm : (txs ys).filterMap (fun v => match v with | .str k => some k | _ => none) = ys := by
      exact fm_id ys
    refine dc_objs (walk_list (xs := txs ys)) nrr (fun v => match v with | .str k => some k | _ => none) (fun l => .tup (txs l)) (fun k l => l.Perm (rowOf L k) ∧ sortedS l = true) (by rw [txs_len]; omega) (by rw [efm]; exact hynd) (fun H3 s => s.seq (SqL.of upd_same)) (fun x H3 R2 N hx s3 hh => ?_) (fun H1 L1 s1 hL1 hrr hN1 => ?_)
    · obtain ⟨k, hk, rfl⟩ := List.mem_map.mp hx
      obtain ⟨r0, hr0, rfl⟩ := List.mem_map.mp (pm1.mem_iff.mp hk)
      have t13 := t1.trans s3
      obtain ⟨w1, w2, w3⟩ := hI.row r0 hr0
      have hrl : r0.2.2.length ≤ 24 := Nat.le_trans (len_le_of_sub w2 w3) hI.ul
      have hg : DGet H3 rd (.str r0.1) (some (.ref r0.2.1)) := refs_get hI.nd hr0 ▸ DictAt.get (t13 _ _ hI.rd) r0.1
      refine ⟨rfl, _, rfl, _, rfl, _, rfl, rd, .ref r0.2.1, rfl, hg, r0.2.1, r0.2.2, rfl, Same.tup t13 w1, by omega, fun ys2 p2 pm2 sr2 np2 => ⟨p2, _, rfl, .inl ⟨SqL.of upd_same, fun l2 nl2 => ?_⟩⟩⟩
      exact hh l2 ys2 _ (Same.new (same_new np2) nl2) (Same.free (same_new np2) nl2) upd_same ⟨by rw [← rowOf_eq hI.nd hr0]; exact pm2, sr2⟩
    · rw [efm] at hL1
      have sH1 := t1.trans s1
      have hL1nd : (L1.map (·.1)).Nodup := by rw [hL1]; exact hynd
      obtain ⟨R, hRdef⟩ : ∃ R, R = rowOf L1 := ⟨_, rfl⟩
      have hRrow : ∀ q ∈ L1, q.2.2 = R q.1 := fun q hq => by rw [hRdef]; exact rowOf_eq hL1nd hq
      have hRp : ∀ e ∈ ys, (R e).Perm (rowOf L e) := fun e he => by
        rw [← hL1] at he
        obtain ⟨q, hq, rfl⟩ := List.mem_map.mp he
        rw [← hRrow q hq]
        exact (hN1 q hq).2.2.2.1
      have hRin : ∀ e ∈ ys, ∃ r0 ∈ L, r0.1 = e ∧ (R e).Perm r0.2.2 := fun e he => by
        obtain ⟨r0, hr0, rfl⟩ := List.mem_map.mp (pm1.mem_iff.mp he)
        refine ⟨r0, hr0, rfl, ?_⟩
        rw [rowOf_eq hI.nd hr0]
        exact hRp _ he
      have ha1 := sH1 _ _ ha
      have R1 : Rows3 K (wo a H1) rr ys U R := Rows3.wo ⟨⟨L1, DictAt.r hrr, hL1, fun p hp => ⟨SqT.of (hN1 p hp).2.2.1, hRrow p hp⟩⟩, hynd, hyl, hI.ul, fun e he u hu' => by
        obtain ⟨r0, h1, _, h3⟩ := hRin e he
        exact (hI.row r0 h1).2.2 u (h3.mem_iff.mp hu'), fun e he => by
        obtain ⟨r0, h1, _, h3⟩ := hRin e he
        exact h3.nodup_iff.mpr (hI.row r0 h1).2.1⟩ ha1
      have A1 : DictAt (wo a H1) rr (refs L1) := DictAt.wo hrr ha1
      have w1 : Same (wo a H) (wo a H1) := wo_same sH1
      refine ⟨_, rfl, a, _, dx, _, rfl, ha1, T.cls_Structure, T.no_Structure_rows, by show 0 < 1000; decide, ?_⟩
      have e1 : putF "rows" (.ref rr) ([] : List (Str × V)) = ([("rows", .ref rr)] : List (Str × V)) := rfl
      rw [e1]
      have i1 : ∀ o, Same (wo a H) (upd H1 a o) := fun o => w1.trans wo_subU
      refine ⟨_, rfl, ud, U, rfl, Same.tup (i1 _) (SqT.wo hI.ud ha), by have := hI.ul; omega, fun us p2 pm2 sr2 np2 => ⟨p2, _, rfl, .inl ⟨SqL.of upd_same, fun al nal => ?_⟩⟩⟩
      have s2 := Same.new (same_new np2 (o := .lst (us.map V.str))) nal (o := .tup (us.map V.str))
      obtain ⟨H2, eH2⟩ : ∃ H2, H2 = upd (upd (upd H1 a (.ins (He.ga K "Structure") dx [("rows", .ref rr)])) p2 (.lst (us.map V.str))) al (.tup (us.map V.str)) := ⟨_, rfl⟩
      rw [← eH2] at s2 ⊢
      have hal2 : H2 al = some (.tup (txs us)) := by rw [eH2]; exact upd_same
      have w2 : Same (wo a H1) (wo a H2) := wo_sameU s2
      have ha2 := s2 _ _ upd_same
      have hal : wo a H2 al = some (.tup (txs us)) := wo_atI hal2 ha2 (by intro z; cases z)
      have usl : us.length ≤ 24 := by rw [pm2.length_eq]; exact hI.ul
      have usnd : us.Nodup := pm2.nodup_iff.mpr hI.und
      refine ⟨_, rfl, a, _, dx, _, rfl, ha2, T.cls_Structure, T.no_Structure_all_unknowns, by show 1 < 1000; decide, ?_⟩
      have e2 : putF "all_unknowns" (.ref al) ([("rows", .ref rr)] : List (Str × V)) = ([("rows", .ref rr), ("all_unknowns", .ref al)] : List (Str × V)) := rfl
      rw [e2]
      obtain ⟨G2, eG2⟩ : ∃ G2, G2 = upd H2 a (.ins (He.ga K "Structure") dx [("rows", .ref rr), ("all_unknowns", .ref al)]) := ⟨_, rfl⟩
      rw [← eG2]
      have haG2 : G2 a = some (.ins (He.ga K "Structure") dx [("rows", .ref rr), ("all_unknowns", .ref al)]) := by rw [eG2]; exact upd_same
      have i2 : Same (wo a H2) G2 := by rw [eG2]; exact wo_subU
      have hrrG : G2 rr = some (.dK (tk (refs L1))) := i2 _ _ (w2 _ _ A1)
      have arr : a ≠ rr := fun z => by rw [z, hrrG] at haG2; cases haG2
      refine ⟨rr, _, hrrG, True.intro, fun od => ⟨_, rfl, a, _, dx, _, .ref rr, rfl, by rw [upd_ne arr]; exact haG2, T.cls_Structure, T.no_Structure_rows, rfl, rr, od, rfl, .inl ⟨tk (refs L1), upd_same, fun D nD => ?_⟩⟩⟩
      have RG := Rows3.lock (od := od) ((R1.same w2).same i2) hrrG
      obtain ⟨GK, eGK⟩ : ∃ GK, GK = upd G2 rr (.frz od (.dK (tk (refs L1)))) := ⟨_, rfl⟩
      rw [← eGK] at nD RG ⊢
      have haGK : GK a = some (.ins (He.ga K "Structure") dx [("rows", .ref rr), ("all_unknowns", .ref al)]) := by rw [eGK, upd_ne arr]; exact haG2
      have hrrK : GK rr = some (.frz od (.dK (tk (refs L1)))) := by rw [eGK]; exact upd_same
      have hkeys : (refs L1).map (·.1) = ys := by rw [refs_keys, hL1]
      have prsB : ∀ (H5 : Hp) (q : (Str × Str) × Addr) (acc : List V), H5 q.2 = some (.tup [.str q.1.1, .str q.1.2]) → H5 D = some (.lst acc) → ∀ o, upd H5 D o q.2 = some (.tup [.str q.1.1, .str q.1.2]) := fun H5 q acc h1 h2 o => by
        rw [upd_ne (fun z => by rw [z, h2] at h1; cases h1)]
        exact h1
      refine l2_it walk_tk (fun i H5 => Same GK H5 ∧ ∃ Ps : Prs, H5 D = some (.lst (ads Ps)) ∧ (∀ q ∈ Ps, H5 q.2 = some (.tup [.str q.1.1, .str q.1.2])) ∧ Ps.map (·.1) = (ys.take i).flatMap (fun e => (R e).map fun u => (e, u)) ∧ Ps.length ≤ 24 * i)
        ⟨same_new nD, [], upd_same, fun q hq => (nomatch hq), by simp, by simp⟩ (fun i H5 _ p => p.1 _ _ hrrK) (fun i x H5 H6 hi p y => ?_) (fun H5 p => ?_)
      · obtain ⟨s5, Ps, hD5, hP5, hPk, hPl⟩ := p
        obtain ⟨rfl, hx⟩ := y
        rw [hkeys] at hx hi
        rw [txs_len] at hi
        obtain ⟨e, he, rfl⟩ := txs_at hx
        have heY : e ∈ ys := List.mem_of_getElem? he
        obtain ⟨l, hl1, hl2⟩ := Rows3.get (RG.same s5) heY
        have hrl := RG.rl heY
        have hil : i < 24 := by omega
        have htk : ys.take (i + 1) = ys.take i ++ [e] := by
          rw [List.take_add_one, he]
          rfl
        refine ⟨rfl, _, rfl, a, _, dx, _, .ref rr, rfl, s5 _ _ haGK, T.cls_Structure, T.no_Structure_rows, rfl, _, rfl, rr, .ref l, rfl, hl1, l, rfl, ⟨_, hl2⟩, ?_⟩
        refine l2_in (walk_tup (xs := txs (R e))) (fun j H7 => Same GK H7 ∧ SqT K H7 l (txs (R e)) ∧ ∃ Ps : Prs, H7 D = some (.lst (ads Ps)) ∧ (∀ q ∈ Ps, H7 q.2 = some (.tup [.str q.1.1, .str q.1.2])) ∧ Ps.map (·.1) = (ys.take i).flatMap (fun e => (R e).map fun u => (e, u)) ++ ((R e).take j).map (fun u => (e, u)) ∧ Ps.length ≤ 24 * i + j)
          ⟨s5, hl2, Ps, hD5, hP5, by rw [hPk]; simp, by omega⟩ (fun j H7 _ p => p.2.1) (fun j x H7 H8 hj p y => ?_) (fun H7 p => ?_)
        · obtain ⟨s7, hl7, Ps7, hD7, hP7, hPk7, hPl7⟩ := p
          obtain ⟨rfl, hx2⟩ := y
          obtain ⟨u, hu7, rfl⟩ := txs_at hx2
          rw [txs_len] at hj
          have htj : (R e).take (j + 1) = (R e).take j ++ [u] := by
            rw [List.take_add_one, hu7]
            rfl
          refine ⟨rfl, _, rfl, _, rfl, small (by show 2 ≤ 1000; decide), fun tp ntp => ?_⟩
          have kt := same_new ntp (o := .tup [.str e, .str u])
          have Dtp : tp ≠ D := fun z => by rw [z, hD7] at ntp; cases ntp
          refine ⟨_, kt _ _ hD7, small1000 (by unfold ads; rw [List.length_map]; omega), Same.over (s7.trans kt) nD, ?_, Ps7 ++ [((e, u), tp)], ?_, fun q hq => ?_, ?_, ?_⟩
          · have := Same.tup kt hl7
            rcases this with (h | ⟨o, h⟩) | h
            · exact .inl (.inl (by rw [upd_ne (fun z => by rw [z, kt _ _ hD7] at h; cases h)]; exact h))
            · exact .inl (.inr ⟨o, by rw [upd_ne (fun z => by rw [z, kt _ _ hD7] at h; cases h)]; exact h⟩)
            · exact .inr h
          · rw [upd_same]
            unfold ads
            rw [List.map_append]
            rfl
          · rcases List.mem_append.mp hq with h | h
            · exact prsB _ q _ (kt _ _ (hP7 q h)) (kt _ _ hD7) _
            · rw [List.mem_singleton.mp h]
              exact prsB _ ((e, u), tp) _ upd_same (kt _ _ hD7) _
          · rw [List.map_append, hPk7, htj, List.map_append]
            simp
          · rw [List.length_append]
            show Ps7.length + 1 ≤ _
            omega
        · obtain ⟨s7, hl7, Ps7, hD7, hP7, hPk7, hPl7⟩ := p
          rw [txs_len] at hPk7 hPl7
          rw [List.take_length] at hPk7
          refine ⟨s7, Ps7, hD7, hP7, ?_, by omega⟩
          rw [hPk7, htk, List.flatMap_append]
          simp
      · obtain ⟨s5, Ps, hD5, hP5, hPk, hPl⟩ := p
        rw [hkeys, txs_len] at hPk hPl
        rw [List.take_length] at hPk
        rw [eGK] at s5
        obtain ⟨lb1, lb2⟩ := lock_back hrrG s5
        refine ⟨lb1, ?_⟩
        have Dr : D ≠ rr := fun z => by rw [z, lb1] at hD5; cases hD5
        refine ⟨D, _, rfl, .inl ⟨SqL.of (by rw [upd_ne Dr]; exact hD5), fun pr npr => ?_⟩⟩
        obtain ⟨H3, eH3⟩ : ∃ H3, H3 = upd (upd H5 rr (.dK (tk (refs L1)))) pr (.tup (ads Ps)) := ⟨_, rfl⟩
        have s3 : Same G2 H3 := by rw [eH3]; exact Same.new lb2 npr
        have hP3' : PairsAt K H3 pr Ps := by
          refine ⟨SqT.of (by rw [eH3]; exact upd_same), fun q hq => SqT.of ?_, by omega⟩
          have h1 := hP5 q hq
          have h2 : q.2 ≠ rr := fun z => by rw [z, lb1] at h1; cases h1
          rw [eH3]
          exact same_new npr _ _ (by rw [upd_ne h2]; exact h1)
        rw [← eH3]
        have ha3 := s3 _ _ haG2
        have P3 : PairsAt K (wo a H3) pr Ps := PairsAt.wo hP3' ha3
        have w3 : Same (wo a H2) (wo a H3) := by rw [eG2] at s3; exact wo_sameU s3
        have RU : Rows3 K (wo a H3) rr ys us R := by
          have q := (R1.same w2).same w3
          exact ⟨q.at_, q.nd, q.el, usl, fun e he u hu' => pm2.mem_iff.mpr (q.sub e he u hu'), q.rnd⟩
        have B3 : wo a H3 rr = some (.dK (tk (refs L1))) := w3 _ _ (w2 _ _ A1)
        have shE : ∀ e ∈ ys, Sh 0 (.str e) := fun e he => by
          obtain ⟨r0, h1, h2, _⟩ := hRin e he
          exact Sh.name (h2 ▸ hI.eok r0 h1)
        have shU : ∀ u ∈ us, Sh 0 (.str u) := fun u hu' => Sh.name (hI.uok u (pm2.mem_iff.mp hu'))
        have hHall : Hall ys R := hI.hall.perm pm1 hRp
        refine ⟨_, rfl, a, _, dx, _, rfl, ha3, T.cls_Structure, T.no_Structure_pairs, by show 2 < 1000; decide, ?_⟩
        have e3 : putF "pairs" (.ref pr) ([("rows", .ref rr), ("all_unknowns", .ref al)] : List (Str × V)) = ([("rows", .ref rr), ("all_unknowns", .ref al), ("pairs", .ref pr)] : List (Str × V)) := rfl
        rw [e3]
        -- given
        refine ⟨_, rfl, a, _, dx, _, .ref rr, rfl, upd_same, T.cls_Structure, T.no_Structure_rows, rfl, rr, ys, us, R, tk (refs L1), rfl, RU.same wo_subU, wo_subU _ _ B3, hHall, fun gv M H4 s4 ngv hM4 hA => ?_⟩
        have w4 := wo_sameU s4
        have ha4 := s4 _ _ upd_same
        have M4 : DictAt (wo a H4) gv (sd M) := DictAt.wo hM4 ha4
        have hMl := hA.len hyl
        refine ⟨_, rfl, a, _, dx, _, rfl, ha4, T.cls_Structure, T.no_Structure_given, by show 3 < 1000; decide, ?_⟩
        have e4 : putF "given" (.ref gv) ([("rows", .ref rr), ("all_unknowns", .ref al), ("pairs", .ref pr)] : List (Str × V)) = ([("rows", .ref rr), ("all_unknowns", .ref al), ("pairs", .ref pr), ("given", .ref gv)] : List (Str × V)) := rfl
        rw [e4]
        -- owners
        refine ⟨_, rfl, a, _, dx, _, .ref gv, rfl, upd_same, T.cls_Structure, T.no_Structure_given, rfl, gv, M, rfl, wo_subU _ _ M4, hA.nd, hA.inj, hMl, fun ow H5b s5b now hO5 => ?_⟩
        have w5 := wo_sameU s5b
        have ha5 := s5b _ _ upd_same
        have O5 : DictAt (wo a H5b) ow (sd (turn M)) := DictAt.wo hO5 ha5
        refine ⟨_, rfl, a, _, dx, _, rfl, ha5, T.cls_Structure, T.no_Structure_owners, by show 4 < 1000; decide, ?_⟩
        have e5 : putF "owners" (.ref ow) ([("rows", .ref rr), ("all_unknowns", .ref al), ("pairs", .ref pr), ("given", .ref gv)] : List (Str × V)) = ([("rows", .ref rr), ("all_unknowns", .ref al), ("pairs", .ref pr), ("given", .ref gv), ("owners", .ref ow)] : List (Str × V)) := rfl
        rw [e5]
        -- spare_side
        have w35 := w4.trans w5
        have R5 := RU.same w35
        refine ⟨_, rfl, a, _, dx, _, .ref rr, rfl, upd_same, T.cls_Structure, T.no_Structure_rows, rfl, _, rfl, a, _, dx, _, .ref gv, rfl, upd_same, T.cls_Structure, T.no_Structure_given, rfl, rr, gv, ys, us, R, tk (refs L1), M, rfl, R5.same wo_subU, wo_subU _ _ (w35 _ _ B3), wo_subU _ _ (w5 _ _ M4), hA, shE, fun t1a nr fr X F H6 s6 n61 n62 ht6 hX6 hF6 rch1 => ?_⟩
        refine ⟨t1a, _, rfl, SqT.of ht6, rfl, _, _, rfl, _, _, rfl, rfl, ?_⟩
        have w6 := wo_sameU s6
        have ha6 := s6 _ _ upd_same
        have X6 : DictAt (wo a H6) nr (tr X) := DictAt.wo hX6 ha6
        have F6 : DictAt (wo a H6) fr (tr F) := DictAt.wo hF6 ha6
        have w36 := w35.trans w6
        -- open_side
        have hcov : ∀ u ∈ us, ∃ e ∈ ys, u ∈ R e := fun u hu' => by
          obtain ⟨r0, h1, h2⟩ := hI.cov u (pm2.mem_iff.mp hu')
          have h3 : r0.1 ∈ ys := pm1.mem_iff.mpr (List.mem_map_of_mem h1)
          exact ⟨r0.1, h3, (hRp _ h3).mem_iff.mpr (by rw [← rowOf_eq hI.nd h1]; exact h2)⟩
        refine ⟨_, rfl, a, _, dx, _, .ref rr, rfl, ha6, T.cls_Structure, T.no_Structure_rows, rfl, _, rfl, a, _, dx, _, .ref al, rfl, ha6, T.cls_Structure, T.no_Structure_all_unknowns, rfl, _, rfl, a, _, dx, _, .ref gv, rfl, ha6, T.cls_Structure, T.no_Structure_given, rfl, rr, al, gv, ys, us, R, tk (refs L1), M, rfl, (RU.same w36).same wo_sub, wo_sub _ _ (w36 _ _ B3), SqT.of (wo_sub _ _ ((w3.trans w36) _ _ hal)), usnd, wo_sub _ _ ((w5.trans w6) _ _ M4), hA, shU, hcov, fun t2a nr2 fr2 XU FE H7 s7 n71 n72 ht7 hX7 hF7 rch2 => ?_⟩
        refine ⟨t2a, _, rfl, SqT.of ht7, rfl, _, _, rfl, _, _, rfl, rfl, ?_⟩
        have w7 := wo_same (a := a) s7
        have ha7 := s7 _ _ ha6
        have XU7 : DictAt (wo a H7) nr2 (tr XU) := DictAt.wo hX7 ha7
        have FE7 : DictAt (wo a H7) fr2 (tr FE) := DictAt.wo hF7 ha7
        have w37 := w36.trans w7
        have Xl : X.length ≤ 24 := Nat.le_trans (len_le_of_sub rch1.xnd rch1.xs) hyl
        have Fl : F.length ≤ 24 := Nat.le_trans (len_le_of_sub rch1.fnd rch1.fs) usl
        have XUl : XU.length ≤ 24 := Nat.le_trans (len_le_of_sub rch2.xnd rch2.xs) usl
        have FEl : FE.length ≤ 24 := Nat.le_trans (len_le_of_sub rch2.fnd rch2.fs) hyl
        -- over_part
        refine ⟨_, rfl, _, rfl, _, rfl, a, _, dx, _, .ref pr, rfl, ha7, T.cls_Structure, T.no_Structure_pairs, rfl, ?_⟩
        intro ov odx nov nodx neov
        have sov : Same H7 (upd (upd H7 odx (.own ov)) ov (.ins (He.ga K "OverPart") odx [])) := Same.over (same_new nodx) nov
        refine ⟨ov, odx, nr, fr, pr, X, F, Ps, rfl, upd_same, sov _ _ (wo_sub _ _ (w7 _ _ X6)), sov _ _ (wo_sub _ _ (w7 _ _ F6)), ((P3.same w37).same wo_sub).same sov, Xl, Fl, fun oe ou ol H8 b8 hov8 ho1 ho2 => ⟨rfl, ?_⟩⟩
        have s78 := part_same (H2 := H7) nov nodx b8
        have w8 := wo_same (a := a) s78
        have ha8 := s78 _ _ ha7
        have ova : ov ≠ a := ne_new ha7 nov
        obtain ⟨oes, hoe8, poes, soes⟩ := ho1
        obtain ⟨ous, hou8, pous, sous⟩ := ho2
        have OV8 : wo a H8 ov = some (.ins (He.ga K "OverPart") odx (PartFs oe ou ol)) := wo_at hov8 ova
        have OE8 : wo a H8 oe = some (.tup (txs oes)) := wo_atI hoe8 ha8 (by intro z; cases z)
        have OU8 : wo a H8 ou = some (.tup (txs ous)) := wo_atI hou8 ha8 (by intro z; cases z)
        refine ⟨_, rfl, a, _, dx, _, rfl, ha8, T.cls_Structure, T.no_Structure_over_part, by show 5 < 1000; decide, ?_⟩
        have e6 : putF "over_part" (.ref ov) ([("rows", .ref rr), ("all_unknowns", .ref al), ("pairs", .ref pr), ("given", .ref gv), ("owners", .ref ow)] : List (Str × V)) = ([("rows", .ref rr), ("all_unknowns", .ref al), ("pairs", .ref pr), ("given", .ref gv), ("owners", .ref ow), ("over_part", .ref ov)] : List (Str × V)) := rfl
        rw [e6]
        have w38 := w37.trans w8
        have w78 := w7.trans w8
        -- under_part
        refine ⟨_, rfl, _, rfl, _, rfl, a, _, dx, _, .ref pr, rfl, upd_same, T.cls_Structure, T.no_Structure_pairs, rfl, ?_⟩
        intro un udx nun nudx neun
        have sun : Same (wo a H8) _ := wo_subU.trans (Same.over (same_new nudx (o := .own un)) nun (o := .ins (He.ga K "UnderPart") udx []))
        refine ⟨un, udx, fr2, nr2, pr, FE, XU, Ps, rfl, upd_same, sun _ _ (w8 _ _ FE7), sun _ _ (w8 _ _ XU7), (P3.same w38).same sun, FEl, XUl, fun ue uu ul H9 b9 hun9 hu1 hu2 => ⟨rfl, ?_⟩⟩
        have s89 := part_same (H2 := H8) nun nudx b9
        have w9 := wo_sameU s89
        have ha9 := s89 _ _ upd_same
        have una : un ≠ a := ne_new upd_same nun
        obtain ⟨ues, hue9, pues, sues⟩ := hu1
        obtain ⟨uus, huu9, puus, suus⟩ := hu2
        have UN9 : wo a H9 un = some (.ins (He.ga K "UnderPart") udx (PartFs ue uu ul)) := wo_at hun9 una
        have UE9 : wo a H9 ue = some (.tup (txs ues)) := wo_atI hue9 ha9 (by intro z; cases z)
        have UU9 : wo a H9 uu = some (.tup (txs uus)) := wo_atI huu9 ha9 (by intro z; cases z)
        refine ⟨_, rfl, a, _, dx, _, rfl, ha9, T.cls_Structure, T.no_Structure_under_part, by show 6 < 1000; decide, ?_⟩
        have e7 : putF "under_part" (.ref un) ([("rows", .ref rr), ("all_unknowns", .ref al), ("pairs", .ref pr), ("given", .ref gv), ("owners", .ref ow), ("over_part", .ref ov)] : List (Str × V)) = ([("rows", .ref rr), ("all_unknowns", .ref al), ("pairs", .ref pr), ("given", .ref gv), ("owners", .ref ow), ("over_part", .ref ov), ("under_part", .ref un)] : List (Str × V)) := rfl
        rw [e7]
        have w39 := w38.trans w9
        have w79 := w78.trans w9
        -- equations
        obtain ⟨fs9, efs9⟩ : ∃ fs : List (Str × V), fs = ([("rows", .ref rr), ("all_unknowns", .ref al), ("pairs", .ref pr), ("given", .ref gv), ("owners", .ref ow), ("over_part", .ref ov), ("under_part", .ref un)] : List (Str × V)) := ⟨_, rfl⟩
        obtain ⟨G9, eG9⟩ : ∃ G9, G9 = upd H9 a (.ins (He.ga K "Structure") dx fs9) := ⟨_, rfl⟩
        rw [← efs9, ← eG9]
        have i9 : Same (wo a H9) G9 := by rw [eG9]; exact wo_subU
        have haG9 : G9 a = some (.ins (He.ga K "Structure") dx fs9) := by rw [eG9]; exact upd_same
        have hrr9 : G9 rr = some (.dK (tk (refs L1))) := i9 _ _ (w39 _ _ B3)
        have l9r : fs9.lookup ("rows" : Str) = some (.ref rr) := by rw [efs9]; rfl
        have l9a : fs9.lookup ("all_unknowns" : Str) = some (.ref al) := by rw [efs9]; rfl
        have l9p : fs9.lookup ("pairs" : Str) = some (.ref pr) := by rw [efs9]; rfl
        have l9o : fs9.lookup ("owners" : Str) = some (.ref ow) := by rw [efs9]; rfl
        have X9 : DictAt G9 nr (tr X) := i9 _ _ (w9 _ _ (w78 _ _ X6))
        have FE9 : DictAt G9 fr2 (tr FE) := i9 _ _ (w9 _ _ (w8 _ _ FE7))
        have F9 : DictAt G9 fr (tr F) := i9 _ _ (w9 _ _ (w78 _ _ F6))
        have XU9 : DictAt G9 nr2 (tr XU) := i9 _ _ (w9 _ _ (w8 _ _ XU7))
        refine ⟨rr, _, hrr9, True.intro, fun od2 => ⟨_, rfl, a, _, dx, _, .ref rr, rfl, by rw [upd_ne arr]; exact haG9, T.cls_Structure, T.no_Structure_rows, l9r, rr, od2, rfl, .inl ⟨tk (refs L1), upd_same, fun qd nqd => ?_⟩⟩⟩
        obtain ⟨Qs, eQs⟩ : ∃ Qs, Qs = ys.filter fun e => !decide (e ∈ X) && !decide (e ∈ FE) := ⟨_, rfl⟩
        refine dc_pure walk_tk nqd (fun v => match v with | .str k => if (!decide (k ∈ X) && !decide (k ∈ FE)) = true then some (k, V.bl true) else none | _ => none) (by rw [hkeys, txs_len]; omega) (fun H s => s _ _ upd_same) (fun x HA R2 N hx sA hh => ?_) (fun HA sA hDA => ?_)
        · obtain ⟨k, hk, rfl⟩ := List.mem_map.mp hx
          replace hh : (match (if (!decide (k ∈ X) && !decide (k ∈ FE)) = true then some (k, V.bl true) else none) with | some y => R2 (.str y.1) y.2 HA | none => N HA) := hh
          have hgX := DictR.get (DictR.same (DictR.lock (DictAt.r X9) hrr9) sA) k
          have hgF := DictR.get (DictR.same (DictR.lock (DictAt.r FE9) hrr9) sA) k
          refine ⟨rfl, _, rfl, _, rfl, nr, _, rfl, hgX, _, rfl, ?_⟩
          rw [tr_get]
          by_cases h1 : k ∈ X
          · rw [decide_eq_true h1] at hh ⊢
            exact iteF hh
          · rw [decide_eq_false h1] at hh ⊢
            refine iteT ⟨_, rfl, _, rfl, fr2, _, rfl, hgF, _, rfl, ?_⟩
            rw [tr_get]
            by_cases h2 : k ∈ FE
            · rw [decide_eq_true h2] at hh ⊢
              exact iteF hh
            · rw [decide_eq_false h2] at hh ⊢
              exact iteT ⟨_, rfl, hh⟩
        · have emk : mk ((txs ((refs L1).map (·.1))).filterMap fun v => match v with | .str k => if (!decide (k ∈ X) && !decide (k ∈ FE)) = true then some (k, V.bl true) else none | _ => none) = tr Qs := by
            rw [hkeys, eQs]
            have e0 : ∀ l : List Str, (txs l).filterMap (fun v => match v with | .str k => if (!decide (k ∈ X) && !decide (k ∈ FE)) = true then some (k, V.bl true) else none | _ => none) = tr (l.filter fun e => !decide (e ∈ X) && !decide (e ∈ FE)) := fun l => by
              induction l with
              | nil => rfl
              | cons x l ih =>
                unfold txs at ih ⊢
                rw [List.map_cons, List.filterMap_cons, List.filter_cons, ih]
                by_cases hc : (!decide (x ∈ X) && !decide (x ∈ FE)) = true
                · simp only [hc, if_true]
                  rfl
                · simp only [hc]
                  rfl
            rw [e0]
            refine mk_nd ?_
            rw [tr_keys]
            exact hynd.filter _
          rw [emk] at hDA
          obtain ⟨lq1, lq2⟩ := lock_back hrr9 sA
          refine ⟨lq1, ?_⟩
          have qdr : qd ≠ rr := fun z => by
            have h1 : HA qd = _ := hDA
            rw [z, lq1] at h1
            cases h1
          obtain ⟨HB, eHB⟩ : ∃ HB, HB = upd HA rr (.dK (tk (refs L1))) := ⟨_, rfl⟩
          have QB : DictAt HB qd (tr Qs) := by
            rw [eHB]
            unfold DictAt
            rw [upd_ne qdr]
            exact hDA
          rw [← eHB] at lq2 ⊢
          have haB := lq2 _ _ haG9
          have wB : Same (wo a H9) (wo a HB) := by rw [eG9] at lq2; exact wo_sameU lq2
          have QB' : DictAt (wo a HB) qd (tr Qs) := DictAt.wo QB haB
          -- inner
          refine ⟨_, rfl, a, _, dx, _, .ref al, rfl, haB, T.cls_Structure, T.no_Structure_all_unknowns, l9a, al, rfl, ⟨_, SqT.of (wo_sub _ _ (wB _ _ ((w3.trans w39) _ _ hal)))⟩, fun il nil => ?_⟩
          have halB : SqT K HB al (txs us) := SqT.of (wo_sub _ _ (wB _ _ ((w3.trans w39) _ _ hal)))
          refine lc_pure (walk_tup (xs := txs us)) nil (fun v => match v with | .str k => if (!decide (k ∈ F) && !decide (k ∈ XU)) = true then some (V.str k) else none | _ => none) (by rw [txs_len]; omega) (fun H s => Same.tup s halB) (fun x HC R2 N hx sC hh => ?_) (fun HC sC hDC => ?_)
          · obtain ⟨k, hk, rfl⟩ := List.mem_map.mp hx
            replace hh : (match (if (!decide (k ∈ F) && !decide (k ∈ XU)) = true then some (V.str k) else none) with | some y => R2 y HC | none => N HC) := hh
            have hgF := DictAt.get (sC _ _ (lq2 _ _ F9)) k
            have hgX := DictAt.get (sC _ _ (lq2 _ _ XU9)) k
            refine ⟨rfl, _, rfl, _, rfl, fr, _, rfl, hgF, _, rfl, ?_⟩
            rw [tr_get]
            by_cases h1 : k ∈ F
            · rw [decide_eq_true h1] at hh ⊢
              exact iteF hh
            · rw [decide_eq_false h1] at hh ⊢
              refine iteT ⟨_, rfl, _, rfl, nr2, _, rfl, hgX, _, rfl, ?_⟩
              rw [tr_get]
              by_cases h2 : k ∈ XU
              · rw [decide_eq_true h2] at hh ⊢
                exact iteF hh
              · rw [decide_eq_false h2] at hh ⊢
                exact iteT ⟨_, rfl, hh⟩
          · obtain ⟨Is, hIs, hIl⟩ : ∃ Is : List Str, (txs us).filterMap (fun v => match v with | .str k => if (!decide (k ∈ F) && !decide (k ∈ XU)) = true then some (V.str k) else none | _ => none) = txs Is ∧ Is.length ≤ 24 := by
              refine ⟨us.filter fun k => !decide (k ∈ F) && !decide (k ∈ XU), ?_, Nat.le_trans (List.length_filter_le _ _) usl⟩
              have e0 : ∀ l : List Str, (txs l).filterMap (fun v => match v with | .str k => if (!decide (k ∈ F) && !decide (k ∈ XU)) = true then some (V.str k) else none | _ => none) = txs (l.filter fun k => !decide (k ∈ F) && !decide (k ∈ XU)) := fun l => by
                induction l with
                | nil => rfl
                | cons x l ih =>
                  unfold txs at ih ⊢
                  rw [List.map_cons, List.filterMap_cons, List.filter_cons, ih]
                  by_cases hc : (!decide (x ∈ F) && !decide (x ∈ XU)) = true
                  · simp only [hc, if_true]
                    rfl
                  · simp only [hc]
                    rfl
              exact e0 us
            rw [hIs] at hDC
            have haC := sC _ _ haB
            have wC := wo_same (a := a) sC
            have Qnd : Qs.Nodup := by rw [eQs]; exact hynd.filter _
            have Qsub : ∀ e ∈ Qs, e ∈ ys := fun e he => by
              rw [eQs] at he
              exact (List.mem_filter.mp he).1
            have Ql : Qs.length ≤ 24 := Nat.le_trans (len_le_of_sub Qnd Qsub) hyl
            have w3C := (w39.trans wB).trans wC
            -- well_part
            refine ⟨_, rfl, _, rfl, _, rfl, a, _, dx, _, .ref pr, rfl, haC, T.cls_Structure, T.no_Structure_pairs, l9p, ?_⟩
            intro wp wdx nwp nwdx newp
            have swp : Same HC (upd (upd HC wdx (.own wp)) wp (.ins (He.ga K "WellPart") wdx [])) := Same.over (same_new nwdx) nwp
            refine ⟨wp, wdx, qd, il, pr, Qs, Is, Ps, rfl, upd_same, swp _ _ (sC _ _ QB), SqL.of (swp _ _ hDC), ((P3.same w3C).same wo_sub).same swp, Ql, hIl, fun we wu wl H10 b10 hwp10 hw1 hw2 => ⟨rfl, ?_⟩⟩
            have s10 := part_same (H2 := HC) nwp nwdx b10
            have w10 := wo_same (a := a) s10
            have ha10 := s10 _ _ haC
            have wpa : wp ≠ a := ne_new haC nwp
            obtain ⟨wes, hwe10, pwes, swes⟩ := hw1
            have WP10 : wo a H10 wp = some (.ins (He.ga K "WellPart") wdx (PartFs we wu wl)) := wo_at hwp10 wpa
            have WE10 : wo a H10 we = some (.tup (txs wes)) := wo_atI hwe10 ha10 (by intro z; cases z)
            refine ⟨_, rfl, a, _, dx, _, rfl, ha10, T.cls_Structure, T.no_Structure_well_part, by rw [efs9]; show 7 < 1000; decide, ?_⟩
            obtain ⟨fs10, efs10⟩ : ∃ fs : List (Str × V), fs = ([("rows", .ref rr), ("all_unknowns", .ref al), ("pairs", .ref pr), ("given", .ref gv), ("owners", .ref ow), ("over_part", .ref ov), ("under_part", .ref un), ("well_part", .ref wp)] : List (Str × V)) := ⟨_, rfl⟩
            have eput10 : putF "well_part" (.ref wp) fs9 = fs10 := by rw [efs9, efs10]; rfl
            rw [eput10]
            have l10r : fs10.lookup ("rows" : Str) = some (.ref rr) := by rw [efs10]; rfl
            have l10o : fs10.lookup ("owners" : Str) = some (.ref ow) := by rw [efs10]; rfl
            have w3D := w3C.trans w10
            have wBD := (wB.trans wC).trans w10
            have w9D := w9.trans wBD
            -- follows
            refine ⟨_, rfl, a, _, dx, _, .ref rr, rfl, upd_same, T.cls_Structure, T.no_Structure_rows, l10r, _, rfl, _, rfl, a, _, dx, _, .ref ow, rfl, upd_same, T.cls_Structure, T.no_Structure_owners, l10o, rr, qd, ow, ys, us, R, Qs, turn M, rfl, (RU.same w3D).same wo_subU, wo_subU _ _ (w10 _ _ (wC _ _ QB')), Qnd, Qsub, wo_subU _ _ ((w6.trans (w7.trans (w8.trans w9D))) _ _ O5), fun fo L2 H11 s11 nfo hL2 hRL11 hq11 => ?_⟩
            obtain ⟨S, eS⟩ : ∃ S, S = stepsF R (turn M) Qs := ⟨_, rfl⟩
            have hqS : ∀ q ∈ L2, q.2.2 = S q.1 := fun q hq => by rw [eS]; exact (hq11 q hq).2
            have Sl : ∀ e ∈ ys, (S e).length ≤ 24 := fun e he => by
              rw [eS]
              unfold stepsF
              exact Nat.le_trans (List.length_filter_le _ _) (Nat.le_trans (List.length_filterMap_le _ _) (RU.rl he))
            have Ssub : ∀ x, ∀ y ∈ S x, y ∈ Qs := fun x y hy => by
              rw [eS] at hy
              exact (mem_steps.mp hy).2.1
            have w11 := wo_sameU s11
            have ha11 := s11 _ _ upd_same
            have FO11 : RowsL (wo a H11) fo L2 := RowsL.wo hRL11 ha11
            refine ⟨_, rfl, a, _, dx, _, rfl, ha11, T.cls_Structure, T.no_Structure_follows, by rw [efs10]; show 8 < 1000; decide, ?_⟩
            obtain ⟨fs11, efs11⟩ : ∃ fs : List (Str × V), fs = ([("rows", .ref rr), ("all_unknowns", .ref al), ("pairs", .ref pr), ("given", .ref gv), ("owners", .ref ow), ("over_part", .ref ov), ("under_part", .ref un), ("well_part", .ref wp), ("follows", .ref fo)] : List (Str × V)) := ⟨_, rfl⟩
            have eput11 : putF "follows" (.ref fo) fs10 = fs11 := by rw [efs10, efs11]; rfl
            rw [eput11]
            have l11f : fs11.lookup ("follows" : Str) = some (.ref fo) := by rw [efs11]; rfl
            have shQ : ∀ x ∈ Qs, Sh 0 (.str x) := fun x hx => shE x (Qsub x hx)
            -- closed
            refine ⟨_, rfl, a, _, dx, _, .ref fo, rfl, upd_same, T.cls_Structure, T.no_Structure_follows, l11f, fo, L2, Qs, S, rfl, RowsL.same FO11 wo_subU, hL2, Qnd, Ql, hqS, fun x _ y hy => Ssub x y hy, shQ, fun cl L3 H12 s12 ncl hL3 hcl12 hc12 => ?_⟩
            have hL3nd : (L3.map (·.1)).Nodup := by rw [hL3]; exact Qnd
            obtain ⟨C, eC⟩ : ∃ C, C = rowOf L3 := ⟨_, rfl⟩
            have hCC : ∀ q ∈ L3, q.2.2 = C q.1 := fun q hq => by rw [eC]; exact rowOf_eq hL3nd hq
            have hCl : ∀ e ∈ Qs, Cls S Qs e (C e) := fun e he => by
              rw [← hL3] at he
              obtain ⟨q, hq, rfl⟩ := List.mem_map.mp he
              rw [← hCC q hq]
              exact (hc12 q hq).2.2
            have CL12' : ClosedAt H12 cl Qs C := ⟨⟨L3, hcl12, hL3, fun q hq => ⟨(hc12 q hq).1, hCC q hq⟩⟩, Qnd, Ql, fun e he => (hCl e he).self, fun e he => (hCl e he).sub, fun e he => (hCl e he).nd⟩
            have w12 := wo_sameU s12
            have ha12 := s12 _ _ upd_same
            have CL12 : ClosedAt (wo a H12) cl Qs C := ClosedAt.wo CL12' ha12
            refine ⟨_, rfl, a, _, dx, _, rfl, ha12, T.cls_Structure, T.no_Structure_closed, by rw [efs11]; show 9 < 1000; decide, ?_⟩
            obtain ⟨fs12, efs12⟩ : ∃ fs : List (Str × V), fs = ([("rows", .ref rr), ("all_unknowns", .ref al), ("pairs", .ref pr), ("given", .ref gv), ("owners", .ref ow), ("over_part", .ref ov), ("under_part", .ref un), ("well_part", .ref wp), ("follows", .ref fo), ("closed", .ref cl)] : List (Str × V)) := ⟨_, rfl⟩
            have eput12 : putF "closed" (.ref cl) fs11 = fs12 := by rw [efs11, efs12]; rfl
            rw [eput12]
            have l12c : fs12.lookup ("closed" : Str) = some (.ref cl) := by rw [efs12]; rfl
            -- groups
            refine ⟨_, rfl, a, _, dx, _, .ref cl, rfl, upd_same, T.cls_Structure, T.no_Structure_closed, l12c, cl, Qs, C, rfl, CL12.same wo_subU, fun gp ys3 L4 H13 s13 ngp pm3 hk3 hgp hrow3 => ?_⟩
            have w13 := wo_sameU s13
            have ha13 := s13 _ _ upd_same
            have CL13 := CL12.same w13
            have hGr : Grps C Qs L4 := ⟨⟨ys3, pm3, hk3⟩, fun q hq => (hrow3 q hq).2⟩
            refine ⟨_, rfl, a, _, dx, _, .ref cl, rfl, ha13, T.cls_Structure, T.no_Structure_closed, l12c, gp, cl, Qs, C, L4, rfl, hgp, fun g hg => (hrow3 g hg).1, hGr.ne hCl, hGr.nd hCl, hGr.sub hCl, hGr.dj hCl Qnd, Nat.le_trans hGr.len Ql, CL13.same wo_sub, shQ, fun gr GL H14 s14 ngr pmG hgr hord => ?_⟩
            have w14 := wo_same (a := a) s14
            have ha14 := s14 _ _ ha13
            have GR14 : wo a H14 gr = some (.lst (rads GL)) := wo_atI hgr ha14 (by intro z; cases z)
            have GT14 : ∀ g ∈ GL, wo a H14 g.2.1 = some (.tup (txs g.2.2)) := fun g hg => wo_atI (s14 _ _ (hrow3 g (pmG.mem_iff.mp hg)).1) ha14 (by intro z; cases z)
            have GLl : GL.length ≤ 24 := by rw [pmG.length_eq]; exact Nat.le_trans hGr.len Ql
            have GLdj : GL.Pairwise Dj := pmG.symm.pairwise (hGr.dj hCl Qnd) fun {a b} x => x.symm
            have GLsub : ∀ g ∈ GL, ∀ x ∈ g.2.2, x ∈ Qs := fun g hg => hGr.sub hCl g (pmG.mem_iff.mp hg)
            have GLnd : ∀ g ∈ GL, g.2.2.Nodup := fun g hg => hGr.nd hCl g (pmG.mem_iff.mp hg)
            refine ⟨_, rfl, a, _, dx, _, rfl, ha14, T.cls_Structure, T.no_Structure_groups, by rw [efs12]; show 10 < 1000; decide, ?_⟩
            obtain ⟨fs14, efs14⟩ : ∃ fs : List (Str × V), fs = ([("rows", .ref rr), ("all_unknowns", .ref al), ("pairs", .ref pr), ("given", .ref gv), ("owners", .ref ow), ("over_part", .ref ov), ("under_part", .ref un), ("well_part", .ref wp), ("follows", .ref fo), ("closed", .ref cl), ("groups", .ref gr)] : List (Str × V)) := ⟨_, rfl⟩
            have eput14 : putF "groups" (.ref gr) fs12 = fs14 := by rw [efs12, efs14]; rfl
            rw [eput14]
            have l14g : fs14.lookup ("groups" : Str) = some (.ref gr) := by rw [efs14]; rfl
            obtain ⟨G14, eG14⟩ : ∃ G14, G14 = upd H14 a (.ins (He.ga K "Structure") dx fs14) := ⟨_, rfl⟩
            rw [← eG14]
            have haG14 : G14 a = some (.ins (He.ga K "Structure") dx fs14) := by rw [eG14]; exact upd_same
            have i14 : Same (wo a H14) G14 := by rw [eG14]; exact wo_subU
            -- numbers
            have radl : (rads GL).length = GL.length := by unfold rads; rw [List.length_map]
            refine ⟨_, rfl, a, _, dx, _, .ref gr, rfl, haG14, T.cls_Structure, T.no_Structure_groups, l14g, gr, rads GL, rfl, SqL.of (i14 _ _ GR14), fun nu nnu => ?_⟩
            refine c2_it (σ := [some (.ref a), some (.ref rd), some (.ref ud), none, none, some (.ref nr), some (.ref fr), some (.ref nr2), some (.ref fr2), some (.ref qd), none, some (.ref il), none, none]) (walk_enum (xs := rads GL)) (fun i H5 => Same G14 H5 ∧ ∃ Dd : List (Str × V), H5 nu = some (.dK (tk Dd)) ∧ (Dd.map (·.1)).Nodup ∧ (∀ k ∈ Dd.map (·.1), k ∈ Qs) ∧ ∀ (k : Nat) (r : Row), k < i → GL[k]? = some r → ∀ o ∈ r.2.2, dget Dd o = some (.int (k : Nat)))
              ⟨same_new nnu, [], upd_same, by simp, fun k hk => (nomatch hk), fun k r hk => absurd hk (Nat.not_lt_zero _)⟩ (fun i H5 _ p => SqL.of (p.1 _ _ (i14 _ _ GR14))) (fun i x H5 H6 hi p y => ?_) (fun H5 p => ?_)
            · obtain ⟨s5x, Dd, hD, hDn, hDs, hDk⟩ := p
              obtain ⟨Tp, vi, vr, rfl, nTp, rfl, hvi, hvr⟩ := y
              obtain rfl := Option.some.inj hvi
              obtain ⟨r, hr', rfl⟩ := rads_at hvr
              have hrG : r ∈ GL := List.mem_of_getElem? hr'
              have hil : i < 24 := by rw [radl] at hi; omega
              have sT := same_new nTp (o := .tup [.int (i : Nat), .ref r.2.1])
              have s6x := s5x.trans sT
              have nTu : nu ≠ Tp := fun z => by rw [← z, hD] at nTp; cases nTp
              have hrt : SqT K (upd H5 Tp (.tup [.int (i : Nat), .ref r.2.1])) r.2.1 (txs r.2.2) := SqT.of (s6x _ _ (i14 _ _ (GT14 r hrG)))
              refine ⟨Tp, _, rfl, SqT.of upd_same, rfl, _, _, rfl, _, _, rfl, rfl, rfl, _, rfl, r.2.1, rfl, ⟨_, hrt⟩, ?_⟩
              have hrl : r.2.2.length ≤ 24 := Nat.le_trans (len_le_of_sub (GLnd r hrG) (GLsub r hrG)) Ql
              refine c2_in (walk_tup (xs := txs r.2.2)) (fun j H7 => Same G14 H7 ∧ ∃ Dd : List (Str × V), H7 nu = some (.dK (tk Dd)) ∧ (Dd.map (·.1)).Nodup ∧ (∀ k ∈ Dd.map (·.1), k ∈ Qs) ∧ (∀ (k : Nat) (r : Row), k < i → GL[k]? = some r → ∀ o ∈ r.2.2, dget Dd o = some (.int (k : Nat))) ∧ ∀ o ∈ r.2.2.take j, dget Dd o = some (.int (i : Nat)))
                ⟨s6x, Dd, by rw [upd_ne nTu]; exact hD, hDn, hDs, hDk, fun o ho => by simp at ho⟩ (fun j H7 _ p => SqT.of (p.1 _ _ (i14 _ _ (GT14 r hrG)))) (fun j x H7 H8 hj p y => ?_) (fun H7 p => ?_)
              · obtain ⟨s7x, Dd7, hD7, hDn7, hDs7, hDk7, hDj7⟩ := p
                obtain ⟨rfl, hx2⟩ := y
                obtain ⟨o, ho, rfl⟩ := txs_at hx2
                have hoR : o ∈ r.2.2 := List.mem_of_getElem? ho
                have htj : r.2.2.take (j + 1) = r.2.2.take j ++ [o] := by
                  rw [List.take_add_one, ho]
                  rfl
                have hDl : Dd7.length ≤ 24 := by
                  have := len_le_of_sub hDn7 hDs7
                  rw [List.length_map] at this
                  omega
                refine ⟨rfl, _, rfl, _, rfl, tk Dd7, .inr o, rfl, hD7, small1000 (by rw [tk_len]; omega), Same.over s7x nnu, dput Dd7 o (.int (i : Nat)), by rw [upd_same, tk_put], keys_put_nd hDn7 _ _, fun k hk => ?_, fun k r2 hk hr2 o2 ho2 => ?_, fun o2 ho2 => ?_⟩
                · rcases mem_keys_put.mp hk with h | h
                  · rw [h]
                    exact GLsub r hrG o hoR
                  · exact hDs7 k h
                · rw [dget_put]
                  have : o2 ≠ o := fun z => by
                    have := dj_at GLdj hr2 hr' ho2 (by rw [z]; exact hoR)
                    omega
                  rw [if_neg this]
                  exact hDk7 k r2 hk hr2 o2 ho2
                · rw [dget_put]
                  by_cases h : o2 = o
                  · rw [if_pos h]
                  · rw [if_neg h]
                    rw [htj] at ho2
                    rcases List.mem_append.mp ho2 with h2 | h2
                    · exact hDj7 o2 h2
                    · exact absurd (List.mem_singleton.mp h2) h
              · obtain ⟨s7x, Dd7, hD7, hDn7, hDs7, hDk7, hDj7⟩ := p
                rw [txs_len, List.take_length] at hDj7
                refine ⟨s7x, Dd7, hD7, hDn7, hDs7, fun k r2 hk hr2 o2 ho2 => ?_⟩
                rcases Nat.lt_or_ge k i with h | h
                · exact hDk7 k r2 h hr2 o2 ho2
                · have e : k = i := by omega
                  subst e
                  rw [hr'] at hr2
                  obtain rfl := Option.some.inj hr2
                  exact hDj7 o2 ho2
            · obtain ⟨s15, Dd, hD, hDn, hDs, hDk⟩ := p
              rw [radl] at hDk
              have ha15 := s15 _ _ haG14
              have NU15 : DictAt (wo a H5) nu Dd := DictAt.wo hD ha15
              have w15 : Same (wo a H14) (wo a H5) := by rw [eG14] at s15; exact wo_sameU s15
              have hnum : ∀ o ∈ Qs, dget Dd o = some (.int (numOf GL o : Nat)) := fun o ho => by
                obtain ⟨q, h1, h2⟩ := hGr.cover hCl ho
                obtain ⟨r, h3, h4⟩ := numOf_at ⟨q, pmG.mem_iff.mpr h1, h2⟩
                exact hDk _ r (List.getElem?_eq_some_iff.mp h3).1 h3 o h4
              refine ⟨_, rfl, a, _, dx, _, rfl, ha15, T.cls_Structure, T.no_Structure_numbers, by rw [efs14]; show 11 < 1000; decide, ?_⟩
              obtain ⟨fs15, efs15⟩ : ∃ fs : List (Str × V), fs = ([("rows", .ref rr), ("all_unknowns", .ref al), ("pairs", .ref pr), ("given", .ref gv), ("owners", .ref ow), ("over_part", .ref ov), ("under_part", .ref un), ("well_part", .ref wp), ("follows", .ref fo), ("closed", .ref cl), ("groups", .ref gr), ("numbers", .ref nu)] : List (Str × V)) := ⟨_, rfl⟩
              have eput15 : putF "numbers" (.ref nu) fs14 = fs15 := by rw [efs14, efs15]; rfl
              rw [eput15]
              have l15r : fs15.lookup ("rows" : Str) = some (.ref rr) := by rw [efs15]; rfl
              have l15m : fs15.lookup ("given" : Str) = some (.ref gv) := by rw [efs15]; rfl
              -- cover
              have wD15 := w11.trans (w12.trans (w13.trans (w14.trans w15)))
              have w315 := w3D.trans wD15
              refine ⟨_, rfl, a, _, dx, _, .ref rr, rfl, upd_same, T.cls_Structure, T.no_Structure_rows, l15r, _, rfl, a, _, dx, _, .ref gv, rfl, upd_same, T.cls_Structure, T.no_Structure_given, l15m, rr, gv, ys, us, R, tk (refs L1), M, rfl, (RU.same w315).same wo_subU, wo_subU _ _ (w315 _ _ B3), wo_subU _ _ ((w5.trans (w6.trans (w7.trans (w8.trans (w9D.trans wD15))))) _ _ M4), hA, shE, fun co H16 s16 => ?_⟩
              have w16 := wo_sameU s16
              have ha16 := s16 _ _ upd_same
              refine ⟨_, rfl, a, _, dx, _, rfl, ha16, T.cls_Structure, T.no_Structure_own_cover, by rw [efs15]; show 12 < 1000; decide, ?_⟩
              obtain ⟨fs16, efs16⟩ : ∃ fs : List (Str × V), fs = ([("rows", .ref rr), ("all_unknowns", .ref al), ("pairs", .ref pr), ("given", .ref gv), ("owners", .ref ow), ("over_part", .ref ov), ("under_part", .ref un), ("well_part", .ref wp), ("follows", .ref fo), ("closed", .ref cl), ("groups", .ref gr), ("numbers", .ref nu), ("own_cover", .ref co)] : List (Str × V)) := ⟨_, rfl⟩
              have eput16 : putF "own_cover" (.ref co) fs15 = fs16 := by rw [efs15, efs16]; rfl
              rw [eput16]
              have l16g : fs16.lookup ("groups" : Str) = some (.ref gr) := by rw [efs16]; rfl
              have l16n : fs16.lookup ("numbers" : Str) = some (.ref nu) := by rw [efs16]; rfl
              have l16f : fs16.lookup ("follows" : Str) = some (.ref fo) := by rw [efs16]; rfl
              have l16m : fs16.lookup ("given" : Str) = some (.ref gv) := by rw [efs16]; rfl
              have l16p : fs16.lookup ("pairs" : Str) = some (.ref pr) := by rw [efs16]; rfl
              have l16b : fs16.lookup ("made_block" : Str) = none := by rw [efs16]; rfl
              obtain ⟨G16, eG16⟩ : ∃ G16, G16 = upd H16 a (.ins (He.ga K "Structure") dx fs16) := ⟨_, rfl⟩
              rw [← eG16]
              have haG16 : G16 a = some (.ins (He.ga K "Structure") dx fs16) := by rw [eG16]; exact upd_same
              have i16 : Same (wo a H16) G16 := by rw [eG16]; exact wo_subU
              have wE16 := w15.trans w16
              have w316 := w315.trans w16
              have GR16 : G16 gr = some (.lst (rads GL)) := i16 _ _ (wE16 _ _ GR14)
              have GT16 : ∀ g ∈ GL, G16 g.2.1 = some (.tup (txs g.2.2)) := fun g hg => i16 _ _ (wE16 _ _ (GT14 g hg))
              have NU16 : DictAt G16 nu Dd := i16 _ _ (w16 _ _ NU15)
              have FO16 : RowsL G16 fo L2 := RowsL.same (RowsL.same FO11 (w12.trans (w13.trans (w14.trans wE16)))) i16
              have P16 : PairsAt K G16 pr Ps := (P3.same w316).same i16
              have MM16 : DictAt G16 gv (sd M) := i16 _ _ ((w5.trans (w6.trans (w7.trans (w8.trans (w9D.trans (wD15.trans w16)))))) _ _ M4)
              have Qm : ∀ e ∈ Qs, dget M e = some (Mf M e) := fun e he => by
                have h1 : e ∈ M.map (·.1) := by
                  apply Classical.byContradiction
                  intro hn
                  have h2 : e ∈ X := rch1.st e (by rw [List.mem_filter]; exact ⟨Qsub e he, by rw [decide_eq_false hn]; rfl⟩)
                  rw [eQs] at he
                  have h3 := (List.mem_filter.mp he).2
                  rw [decide_eq_true h2] at h3
                  cases h3
                have := dget_isSome.mpr h1
                unfold Mf
                cases q : dget M e with
                | none => rw [q] at this; cases this
                | some u => rfl
              have MI : ∀ (H' : Hp), Same G16 H' → ∀ (i : Nat) (r : Row), GL[i]? = some r → MadeIn K H' a i r GL (numOf GL) S (Mf M) := fun H' sx i r hr' => by
                have hrG := List.mem_of_getElem? hr'
                refine ⟨⟨dx, gr, nu, fo, gv, pr, fs16, Ps, sx _ _ haG16, l16g, l16n, l16f, l16m, l16p, SqL.of (sx _ _ GR16), P16.same sx, fun e he => ?_, fun e he => ?_⟩, hr', SqT.of (sx _ _ (GT16 r hrG)), Nat.le_trans (len_le_of_sub (GLnd r hrG) (GLsub r hrG)) Ql, GLl⟩
                · have heQ := GLsub r hrG e he
                  obtain ⟨q, hq, hqe⟩ : ∃ q ∈ L2, q.1 = e := by
                    rw [← hL2] at heQ
                    obtain ⟨q, h1, h2⟩ := List.mem_map.mp heQ
                    exact ⟨q, h1, h2⟩
                  subst hqe
                  refine ⟨q.2.1, ?_, ?_, Sl _ (Qsub _ heQ), fun o ho => ?_⟩
                  · have := DictAt.get (sx _ _ FO16.at_) q.1
                    rwa [refs_get (by rw [hL2]; exact Qnd) hq] at this
                  · rw [← hqS q hq]
                    exact SqL.of (sx _ _ (FO16.row q hq))
                  · have := DictAt.get (sx _ _ NU16) o
                    rwa [hnum o (Ssub _ o ho)] at this
                · have := DictAt.get (sx _ _ MM16) e
                  rwa [sd_get, Qm e (GLsub r hrG e he)] at this
              -- own_blocks
              refine ⟨_, rfl, a, _, dx, _, .ref gr, rfl, haG16, T.cls_Structure, T.no_Structure_groups, l16g, gr, _, rfl, .inl (SqL.of GR16), _, rfl, by rw [radl]; omega, by rw [radl]; omega, fun D2 nD2 => ?_⟩
              refine lc_it (σ := [some (.ref a), some (.ref rd), some (.ref ud), none, none, some (.ref nr), some (.ref fr), some (.ref nr2), some (.ref fr2), some (.ref qd), none, some (.ref il), none, none]) walk_range (fun i H7 => Same G16 H7 ∧ ∃ Bs : List Bk, H7 D2 = some (.lst (Bs.map fun b => V.ref b.a)) ∧ Bs.length = i ∧ (∀ b ∈ Bs, BkAt K H7 b) ∧ ∀ (j : Nat) (r : Row) (b : Bk), GL[j]? = some r → Bs[j]? = some b → BkOk M S GL j r b)
                ⟨same_new nD2, [], upd_same, rfl, fun b hb => (nomatch hb), fun j r b _ h => by simp at h⟩ (fun _ _ _ _ => True.intro) (fun i x H7 H8 hi p y => ?_) (fun H7 p => ?_)
              · obtain ⟨s7x, Bs, hD7, hBl, hBk, hBo⟩ := p
                obtain ⟨rfl, rfl⟩ := y
                have hfin : (((rads GL).length : Nat) : Int).toNat = GL.length := by rw [radl]; simp
                have hil : i < GL.length := by rw [← hfin]; simpa using hi
                have e0 : (fun i : Nat => V.int (0 + (i : Int))) i = .int (i : Nat) := by simp
                rw [e0]
                have hr' := List.getElem?_eq_getElem hil
                refine ⟨rfl, _, rfl, a, dx, fs16, rfl, s7x _ _ haG16, l16b, _, rfl, a, i, GL[i], GL, numOf GL, S, Mf M, rfl, MI _ s7x i _ hr', fun b H9 s9 nb hb p1 p2 p3 p4 p5 p6 p7 => ?_⟩
                have hD9 := s9 _ _ hD7
                have put : ∀ (b : Bk) (o : HO), BkAt K H9 b → BkAt K (upd H9 D2 o) b := fun b o h => ⟨by rw [upd_ne (fun z => by have := h.at_; rw [z, hD9] at this; cases this)]; exact h.at_, by rw [upd_ne (fun z => by have := h.eq; rw [z, hD9] at this; cases this)]; exact h.eq, by rw [upd_ne (fun z => by have := h.un; rw [z, hD9] at this; cases this)]; exact h.un, by rw [upd_ne (fun z => by have := h.nd; rw [z, hD9] at this; cases this)]; exact h.nd⟩
                refine ⟨_, hD9, small1000 (by rw [List.length_map]; omega), Same.over (s7x.trans s9) nD2, Bs ++ [b], by rw [upd_same, List.map_append]; rfl, by rw [List.length_append, hBl]; rfl, fun b2 hb2 => ?_, fun j r b2 hj hb2 => ?_⟩
                · rcases List.mem_append.mp hb2 with h | h
                  · exact put _ _ ((hBk b2 h).same s9)
                  · rw [List.mem_singleton.mp h]
                    exact put _ _ hb
                · rcases Nat.lt_or_ge j i with h | h
                  · rw [List.getElem?_append_left (by omega)] at hb2
                    exact hBo j r b2 hj hb2
                  · have hle : j < (Bs ++ [b]).length := (List.getElem?_eq_some_iff.mp hb2).1
                    rw [List.length_append] at hle
                    have e : j = i := by
                      have : j < Bs.length + 1 := hle
                      omega
                    subst e
                    rw [List.getElem?_append_right (by omega), hBl, Nat.sub_self] at hb2
                    obtain rfl := Option.some.inj hb2
                    rw [hr'] at hj
                    obtain rfl := Option.some.inj hj
                    exact ⟨p1, p2, p3, p4, p5, p6, p7⟩
              · obtain ⟨s7x, Bs, hD7, hBl, hBk, hBo⟩ := p
                have hfin : (((rads GL).length : Nat) : Int).toNat = GL.length := by rw [radl]; simp
                rw [hfin] at hBl
                refine ⟨D2, _, rfl, .inl ⟨SqL.of hD7, fun bl nbl => ?_⟩⟩
                have kb := same_new nbl (o := .tup (Bs.map fun b => V.ref b.a))
                have s17 := s7x.trans kb
                obtain ⟨H17, eH17⟩ : ∃ H17, H17 = upd H7 bl (.tup (Bs.map fun b => V.ref b.a)) := ⟨_, rfl⟩
                rw [← eH17] at s17 kb ⊢
                have ha17 := s17 _ _ haG16
                have hbl17 : H17 bl = some (.tup (Bs.map fun b => V.ref b.a)) := by rw [eH17]; exact upd_same
                have w17 : Same (wo a H16) (wo a H17) := by rw [eG16] at s17; exact wo_sameU s17
                have BL17 : wo a H17 bl = some (.tup (Bs.map fun b => V.ref b.a)) := wo_atI hbl17 ha17 (by intro z; cases z)
                refine ⟨_, rfl, a, _, dx, _, rfl, ha17, T.cls_Structure, T.no_Structure_own_blocks, by rw [efs16]; show 13 < 1000; decide, ?_⟩
                have w317 := w316.trans w17
                have wE17 := wE16.trans w17
                have wD17 := wD15.trans (w16.trans w17)
                have w917 := w9D.trans wD17
                have w817 := w8.trans w917
                have bkA : ∀ b ∈ Bs, BkAt K (wo a H17) b := fun b hb => by
                  have h := (hBk b hb).same kb
                  have hne : b.a ≠ a := fun z => by
                    have := h.at_
                    rw [z, ha17] at this
                    have e := Option.some.inj this
                    injection e with e1 e2 e3
                    have := congrArg List.length e3
                    rw [efs16] at this
                    cases this
                  exact ⟨wo_at h.at_ hne, wo_atI h.eq ha17 (by intro z; cases z), wo_atI h.un ha17 (by intro z; cases z), wo_atI h.nd ha17 (by intro z; cases z)⟩
                obtain ⟨d, ed⟩ : ∃ d : Sd, d = { dx := dx, r := rr, al := al, pr := pr, gv := gv, ow := ow, ov := ov, un := un, wp := wp, fo := fo, cl := cl, gr := gr, nu := nu, co := co, bl := bl, odx := odx, oe := oe, ou := ou, ol := ol, udx := udx, ue := ue, uu := uu, ul := ul, wdx := wdx, we := we, wu := wu, wl := wl, es := ys, us := us, R := R, M := M, Ps := Ps, X := X, F := F, XU := XU, FE := FE, Qs := Qs, oes := oes, ous := ous, ues := ues, uus := uus, wes := wes, C := C, GL := GL, Bs := Bs } := ⟨_, rfl⟩
                have efin : putF "own_blocks" (.ref bl) fs16 = StFs d := by rw [efs16, ed]; rfl
                rw [efin]
                refine q d _ (wo_back (by rw [wo_upd]; exact w1.trans (w2.trans (w3.trans w317)))) ?_ ?_
                · have U : ∀ {b : Addr} {o : HO}, wo a H17 b = some o → upd H17 a (.ins (He.ga K "Structure") dx (StFs d)) b = some o := fun {b o} h => wo_subU _ _ h
                  subst ed
                  exact ⟨upd_same, ⟨L1, U (w317 _ _ (w3 _ _ (w2 _ _ A1))), hL1⟩, U ((w3.trans w317) _ _ hal), (P3.same w317).same wo_subU, U ((w5.trans (w6.trans (w7.trans w817))) _ _ M4), U (w917 _ _ OV8), U (w917 _ _ OE8), U (w917 _ _ OU8), U ((wBD.trans wD17) _ _ UN9), U ((wBD.trans wD17) _ _ UE9), U ((wBD.trans wD17) _ _ UU9), U (wD17 _ _ WP10), U (wD17 _ _ WE10), (CL12.same (w13.trans (w14.trans wE17))).same wo_subU, U BL17, fun b hb => (bkA b hb).same wo_subU⟩
                · subst ed
                  refine ⟨pm1, pm2, hynd, usnd, hyl, usl, fun e he => hRp e (pm1.mem_iff.mpr he), hPk, hA, rch1, rch2, ⟨poes, soes⟩, pous, pues, puus, pwes, eQs, ?_, hord, ⟨L4, pmG, hGr⟩, hBl, ?_⟩
                  · intro e he
                    have := hCl e he
                    rwa [eS] at this
                  · intro i r b h1 h2
                    have := hBo i r b h1 h2
                    rwa [eS] at this
end
end Bo

/-! YS -/
set_option Elab.async false
set_option linter.all false
set_option maxRecDepth 100000
set_option maxHeartbeats 2000000
/-! System.structure. -/
namespace Bo
open PySem PySem.Spec PyProof.Rows L2
section
variable {P : Program} {w : World} {K : Fg} {mg : Str → Option Value} {base : Heap}
def HallG (G : Grf) : Prop := ∀ S N : List Str, S.Nodup → (∀ x ∈ S, x ∈ G.es) → (∃ e ∈ G.es, e ∉ S) → (∀ e ∈ S, ∀ u ∈ G.us, G.adj e u = true → u ∈ N) → S.length ≤ N.length
/-- E, U, Rw are lists for the graph -/
structure OfG (G : Grf) (E U : List Str) (Rw : Str → List Str) : Prop where
  end_ : E.Nodup
  und : U.Nodup
  es : ∀ e, e ∈ E ↔ e ∈ G.es
  us : ∀ u, u ∈ U ↔ u ∈ G.us
  row : ∀ e ∈ E, ∀ u, u ∈ Rw e ↔ (u ∈ G.us ∧ G.adj e u = true)
def spSysStruct (K : Fg) : Sp := fun vs H Q _ => ∃ (a p n : Nat) (G : Grf), vs = [.ref a] ∧ SysAt K H a p n G ∧ (∀ e ∈ G.es, NameOk e) ∧ (∀ u ∈ G.us, NameOk u) ∧ HallG G ∧ (∀ u ∈ G.us, ∃ e ∈ G.es, G.adj e u = true) ∧
  ∀ (s : Addr) (E U : List Str) (Rw : Str → List Str) (d : Sd) H', Same H H' → H s = none → OfG G E U Rw → StAt K H' s d → StOk E U Rw d → Q (.ref s) H'
def rTD : List V → Hp → VK → Prop := fun xs H Q => ∃ (a : Addr) (kvs : List (Key × V)), xs = [.ref a] ∧ Rd H a (.dK kvs) ∧ ∀ p, H p = none → Q (.ref p) (upd H p (.tup (kvs.map fun kv => kV kv.1)))
theorem ok_System_structure (T : TX w K mg) (PXh : PX P) : Ok P w K mg base 7 d_System_structure ["self"] (spSysStruct K) := by
  refine mkOk T ix_System_structure rfl rfl rfl sc_System_structure (fun _ _ _ _ _ _ us hl => match us, hl with | [_], _ => rfl) (fun vs H Q E h => ?_) (fun cdv A outer s0 H vs Q E hr h => ?_)
  · obtain ⟨a, p, n, G, rfl, _⟩ := h
    rfl
  · obtain ⟨a, p, n, G, rfl, hS, heok, huok, hH, hcov, q⟩ := h
    have hu := hu_of hr
    obtain ⟨f1, G1, b1, k1⟩ := ok_Structure_init (P := P) (base := base) T PXh
    refine ⟨_, pss_one (ps_ret (pe_make T.mkr_Structure G1 hr (by rfl) T.g_Structure b1 .nil pass0 (pa_cons
      (pe_lock (pe_dc (own := [("name", 1)]) (g := gName 1) (tt := tYes) (tv := tCB rTD (tCons (tDGet (tOp (rIxT K) (tFld K (tVar 0) "content") (tC (.int 1))) (tVar 1)) tNil)) (by rfl) sc_System_structure.nd (pi_keys (pe_ix ix_tup (pe_fld (pv 0) rfl) pe_int (fun _ _ => rfl))) (blkOk_by (N := N_System_structure) (sc := defScope s_System_structure) (by decide +kernel))
        (fun _ _ _ _ _ => pgn (i := 1) sc_System_structure.nd) (fun _ _ _ _ _ => pts_nil) (fun _ _ _ _ _ => pv 1) (fun _ _ _ _ _ => by exact pe_callTy (r := rTD) (call_tupleD rfl) (by rfl) T.f_tuple PyProof.Rows.boot_tuple (pa_cons (pe_dget hu (pe_ix (r := rIxT K) ix_tup (pe_fld (pv 0) rfl) pe_int (fun _ _ => rfl)) (pv 1) (fun _ _ => rfl)) pa_nil))))
      (pa_cons (pe_ix ix_tup (pe_fld (pv 0) rfl) pe_int (fun _ _ => rfl)) pa_nil)))), ?_⟩
    obtain ⟨dx, c, o, past, h1, h2, h3, h4, h5, h6⟩ := hS.ex
    obtain ⟨cols, rows, consts, U, L, Cc, g1, g2, g3, g4, g5⟩ := h2.ex
    have hrows := g3.at_
    have ar : a ≠ rows := fun z => by rw [z] at h1; have h1' := h1; rw [show H rows = _ from hrows] at h1'; cases h1'
    have cr : c ≠ rows := fun z => by rw [z] at g1; have h1' := g1; rw [show H rows = _ from hrows] at h1'; cases h1'
    refine ⟨rows, _, hrows, True.intro, fun od => ⟨_, rfl, a, _, dx, _, .ref c, rfl, by rw [upd_ne ar]; exact h1, T.cls_System, T.no_System_content, rfl, c, _, 1, .ref rows, rfl, rfl, SqT.of (by rw [upd_ne cr]; exact g1), atI_nat (j := 1) rfl, rows, od, rfl, .inl ⟨tk (refs L), upd_same, fun D nD => ?_⟩⟩⟩
    have Lnd := g5.lnd
    have Ll : L.length ≤ 24 := g5.llen
    have efm : (txs (L.map (·.1))).filterMap (fun v => match v with | .str k => some k | _ => none) = L.map (·.1) := by exact fm_id _
    refine dc_objs walk_tk nD (fun v => match v with | .str k => some k | _ => none) (fun l => .tup (txs l)) (fun k l => l = rowOf L k) (by rw [refs_keys, txs_len, List.length_map]; omega) (by rw [refs_keys, efm]; exact Lnd) (fun H3 s => s _ _ upd_same) (fun x H3 R2 N hx s3 hh => ?_) (fun H1 L1 s1 hL1 hD hN1 => ?_)
    · obtain ⟨k, hk, rfl⟩ := List.mem_map.mp hx
      rw [refs_keys] at hk
      obtain ⟨r0, hr0, rfl⟩ := List.mem_map.mp hk
      have hg : DGet H3 rows (.str r0.1) (some (.ref r0.2.1)) := by
        have := DictR.get (DictR.same (DictR.lock (DictAt.r hrows) hrows) s3) r0.1
        rwa [refs_get Lnd hr0] at this
      have hrw : DictR H3 r0.2.1 (ones r0.2.2) := DictR.same (DictR.lock (DictAt.r (g3.row r0 hr0)) hrows) s3
      refine ⟨rfl, _, rfl, _, rfl, a, _, dx, _, .ref c, rfl, s3 _ _ (by rw [upd_ne ar]; exact h1), T.cls_System, T.no_System_content, rfl, c, _, 1, .ref rows, rfl, rfl, SqT.of (s3 _ _ (by rw [upd_ne cr]; exact g1)), atI_nat (j := 1) rfl, _, rfl, rows, .ref r0.2.1, rfl, hg, r0.2.1, tk (ones r0.2.2), rfl, hrw, fun p np => ?_⟩
      have e : ((tk (ones r0.2.2)).map fun kv => kV kv.1) = txs r0.2.2 := by
        unfold tk txs ones
        rw [List.map_map, List.map_map]
        rfl
      rw [e]
      exact hh p r0.2.2 _ (same_new np) np upd_same (rowOf_eq Lnd hr0)
    · rw [refs_keys, efm] at hL1
      obtain ⟨lb1, lb2⟩ := lock_back hrows s1
      refine ⟨lb1, ?_⟩
      have Dr : D ≠ rows := fun z => by
        have h : H1 D = _ := hD
        rw [z, lb1] at h
        cases h
      have hR : ∀ q ∈ L1, upd H1 rows (.dK (tk (refs L))) q.2.1 = some (.tup (txs q.2.2)) := fun q hq => by
        have h := (hN1 q hq).2.2.1
        rw [upd_ne (fun z => by rw [z, lb1] at h; cases h)]
        exact h
      have hrow : ∀ q ∈ L1, ∃ p ∈ L, p.1 = q.1 ∧ q.2.2 = p.2.2 := fun q hq => by
        have : q.1 ∈ L.map (·.1) := hL1 ▸ List.mem_map_of_mem hq
        obtain ⟨p, hp, e⟩ := List.mem_map.mp this
        exact ⟨p, hp, e, by rw [(hN1 q hq).2.2.2, ← e, ← rowOf_eq Lnd hp]⟩
      obtain ⟨HA, eHA⟩ : ∃ HA, HA = upd H1 rows (.dK (tk (refs L))) := ⟨_, rfl⟩
      have hDA : DictAt HA D (refs L1) := by
        rw [eHA]
        unfold DictAt
        rw [upd_ne Dr]
        exact hD
      rw [← eHA] at lb2 hR ⊢
      refine ⟨_, rfl, a, _, dx, _, .ref c, rfl, lb2 _ _ h1, T.cls_System, T.no_System_content, rfl, c, _, 0, .ref cols, rfl, rfl, SqT.of (lb2 _ _ g1), atI_nat (j := 0) rfl, ?_⟩
      intro x dx2 nx ndx nex
      have sx : Same HA (upd (upd HA dx2 (.own x)) x (.ins (He.ga K "Structure") dx2 [])) := Same.over (same_new ndx) nx
      have L1nd : (L1.map (·.1)).Nodup := by rw [hL1]; exact Lnd
      have rw1 : ∀ e ∈ L1.map (·.1), ∀ u, u ∈ rowOf L1 e ↔ (u ∈ G.us ∧ G.adj e u = true) := fun e he u => by
        obtain ⟨q, hq, rfl⟩ := List.mem_map.mp he
        obtain ⟨p, hp, e1, e2⟩ := hrow q hq
        rw [← rowOf_eq L1nd hq, e2, g5.row p hp u, e1]
      have es1 : ∀ e, e ∈ L1.map (·.1) ↔ e ∈ G.es := fun e => by rw [hL1]; exact g5.es e
      refine ⟨x, dx2, D, cols, L1, U, rfl, upd_same, ⟨sx _ _ hDA, L1nd, ?_, fun r hr => ?_, SqT.of (sx _ _ (lb2 _ _ g2)), g5.und, g5.ulen, fun r hr => heok _ ((es1 _).mp (List.mem_map_of_mem hr)), fun u hu' => huok u ((g5.us u).mp hu'), ?_, fun u hu' => ?_⟩, fun d H' bb hSt hOk => ⟨rfl, ?_⟩⟩
      · have := congrArg List.length hL1
        rw [List.length_map, List.length_map] at this
        omega
      · obtain ⟨p, hp, e1, e2⟩ := hrow r hr
        refine ⟨SqT.of (sx _ _ (hR r hr)), by rw [e2]; exact g5.rnd p hp, fun u hu' => ?_⟩
        rw [e2] at hu'
        exact (g5.us u).mpr ((g5.row p hp u).mp hu').1
      · intro S N nd hs ⟨e, he, hn⟩ hc
        exact hH S N nd (fun x hx => (es1 x).mp (hs x hx)) ⟨e, (es1 e).mp he, hn⟩ fun e he u hu' ha' => hc e he u ((rw1 e (hs e he) u).mpr ⟨hu', ha'⟩)
      · obtain ⟨e, he, ha'⟩ := hcov u ((g5.us u).mp hu')
        obtain ⟨q, hq, rfl⟩ := List.mem_map.mp ((es1 e).mpr he)
        refine ⟨q, hq, ?_⟩
        rw [rowOf_eq L1nd hq]
        exact (rw1 _ (List.mem_map_of_mem hq) u).mpr ⟨(g5.us u).mp hu', ha'⟩
      · have sxx := part_same (H2 := HA) nx ndx bb
        exact q x _ U _ d H' (lb2.trans sxx) (Same.free lb2 nx) ⟨L1nd, g5.und, es1, g5.us, rw1⟩ hSt hOk
end
end Bo

/-! YN -/
set_option Elab.async false
set_option linter.all false
set_option maxRecDepth 100000
set_option maxHeartbeats 2000000
/-! A Structure's readers. -/
namespace Bo
open PySem PySem.Spec PyProof.Rows L2
theorem dpAll_app {K : Fg} {Hx : Hp} : ∀ {xs ys : List V} {ds es : List PyData}, DpAll K Hx xs ds → DpAll K Hx ys es → DpAll K Hx (xs ++ ys) (ds ++ es)
  | [], _, [], _, _, h2 => h2
  | x :: xs, _, d :: ds, _, h1, h2 => by
    cases h1 with
    | cons h t => exact .cons h (dpAll_app t h2)
def rNotInDT (K : Fg) : R2 := fun x y H Q => ∃ d ds, Dp K H x d ∧ Dp K H y (.tuple ds) ∧ SeqAt.shaped d = true ∧ SeqAt.shaped (.tuple ds) = true ∧ Q (.bl (!ds.any fun z => PyData.eqv z d)) H
theorem op_notInDT {X : Cx} (hu : X.A.units + 65 < cLine) : OpR X (compareOp .NotIn) (rNotInDT X.K) := by
  intro pins s σ H x y v u Q I rx ry h
  obtain ⟨d, ds, hd, he, sd, se, q⟩ := h
  obtain ⟨as, r1⟩ := Dp.reads I d x v hd rx
  obtain ⟨bs, r2⟩ := Dp.reads I (.tuple ds) y u he ry
  exact SeqAt.notIn_tuple_reads r2 r1 (SeqAt.canLay_of_shaped se) (SeqAt.canLay_of_shaped sd) (room_in_shaped sd hu) ⟨.bl _, H, I, rfl, q⟩
theorem pe_alt {X : Cx} {e : Expr} {t1 t2 : TE} (h1 : PE X e t1) (h2 : PE X e t2) : PE X e (fun σ H Q => t1 σ H Q ∨ t2 σ H Q) := ⟨fun pins s σ H Q I h => h.elim (h1.run pins s σ H Q I) (h2.run pins s σ H Q I)⟩
theorem Room.units65 {k : Nat} {A : Around} (r : Room k A) : A.units + 65 < cLine := by have := r.un; omega
/-- names and sizes -/
structure StNm (d : Sd) : Prop where
  eok : ∀ e ∈ d.es, NameOk e
  uok : ∀ u ∈ d.us, NameOk u
  el : d.es.length ≤ 24
  ul : d.us.length ≤ 24
def prD2 (k x : Str) : PyData := .tuple (strD [k, x])
theorem prD2_sh {k x : Str} (hk : Sh 0 (.str k)) (hx : Sh 0 (.str x)) : Sh 1 (prD2 k x) := Sh.tuple (sh_strs fun y hy => by
  rcases List.mem_cons.mp hy with h | h
  · rw [h]; exact hk
  · rw [List.mem_singleton.mp h]; exact hx)
theorem sh_lit {x : Str} (h : x.cps.toList.all (fun c => decide (c < 0x110000)) = true) : Sh 0 (.str x) := .txt fun c hc => of_decide_eq_true (List.all_eq_true.mp h c hc)
section
variable {P : Program} {w : World} {K : Fg} {mg : Str → Option Value} {base : Heap}
/-- an item: its kind and its name -/
def IsItem (d : Sd) (k x : Str) : Prop := (k = "equation" ∧ x ∈ d.es) ∨ (k = "unknown" ∧ x ∈ d.us)
def spSNeed (K : Fg) : Sp := fun vs H Q _ => ∃ (a it : Addr) (d : Sd) (k x : Str), vs = [.ref a, .ref it] ∧ StAt K H a d ∧ StNm d ∧ SqT K H it [.str k, .str x] ∧ IsItem d k x ∧ ∀ H', Same H H' → Q .non H'
theorem ok_Structure_need_item (T : TX w K mg) : Ok P w K mg base 3 d_Structure_need_item ["self", "item"] (spSNeed K) := by
  refine mkOk T ix_Structure_need_item rfl rfl rfl sc_Structure_need_item (fun _ _ _ _ _ _ us hl => match us, hl with | [_, _], _ => rfl) (fun vs H Q E h => ?_) (fun cdv A outer s0 H vs Q E hr h => ?_)
  · obtain ⟨a, it, d, k, x, rfl, _⟩ := h
    rfl
  · obtain ⟨a, it, d, k, x, rfl, hS, hN, hit, hI, q⟩ := h
    have hu := hu_of hr
    obtain ⟨f1, G1, b1, k1⟩ := ok_Structure_equations (P := P) (base := base) T
    obtain ⟨f2, G2, b2, k2⟩ := ok_Structure_unknowns (P := P) (base := base) T
    refine ⟨_, pss_cons (pset (i := 2) sc_Structure_need_item.nd (pe_op op_cat
        (pe_lc (own := [("name", 3)]) (g := gName 3) (tt := tYes) (by rfl) sc_Structure_need_item.nd (pi_tup (pe_prop (pv 0) T.cls_Structure T.p_Structure_equations G1 hr b1 .nil pass0 rfl)) (blkOk_by (N := N_Structure_need_item) (sc := defScope s_Structure_need_item) (by decide +kernel))
          (fun _ _ _ _ _ => pgn (i := 3) sc_Structure_need_item.nd) (fun _ _ _ _ _ => pts_nil) (fun _ _ _ _ _ => pe_tup (pa_cons pe_str (pa_cons (pv 3) pa_nil))))
        (pe_lc (own := [("name", 3)]) (g := gName 3) (tt := tYes) (by rfl) sc_Structure_need_item.nd (pi_tup (pe_prop (pv 0) T.cls_Structure T.p_Structure_unknowns G2 hr b2 .nil pass0 rfl)) (blkOk_by (N := N_Structure_need_item) (sc := defScope s_Structure_need_item) (by decide +kernel))
          (fun _ _ _ _ _ => pgn (i := 3) sc_Structure_need_item.nd) (fun _ _ _ _ _ => pts_nil) (fun _ _ _ _ _ => pe_tup (pa_cons pe_str (pa_cons (pv 3) pa_nil))))))
      (pss_one (ps_if (pt_cmpR (op_notInD (Room.units65 hr)) (pv 1) (pv 2) rfl) (pss_one ps_never) pss_nil)), ?_⟩
    obtain ⟨L, hL1, hL2⟩ := hS.rows
    have hkeys : (refs L).map (·.1) = d.es := by rw [refs_keys, hL2]
    refine ⟨_, rfl, a, d.dx, _, rfl, hS.at_, a, d.dx, d.r, _, refs L, rfl, hS.at_, rfl, .inl hL1, fun p1 np1 => ?_⟩
    rw [hkeys]
    have s1 := same_new np1 (o := .tup (txs d.es))
    refine ⟨p1, rfl, ⟨_, SqT.of upd_same⟩, fun D1 nD1 => ?_⟩
    refine lc_objs (walk_tup (xs := txs d.es)) nD1 (fun v => match v with | .str k => some k | _ => none) (fun k => .tup [.str "equation", .str k]) (by rw [txs_len]; have := hN.el; omega) (fun H3 s => SqT.of (s _ _ upd_same)) (fun x2 H3 R2 N2 hx s4 hh => ?_) (fun H3 L3 s3 hL3 hD3 hN3 => ?_)
    · obtain ⟨k2, hk2, rfl⟩ := List.mem_map.mp hx
      exact ⟨rfl, _, rfl, small (by show 2 ≤ 1000; decide), fun a2 na2 => hh a2 _ (same_new na2) na2 upd_same⟩
    · have efm1 : (txs d.es).filterMap (fun v => match v with | .str k => some k | _ => none) = d.es := by exact fm_id _
      rw [efm1] at hL3
      have s03 := s1.trans s3
      have hS3 := hS.same s03
      refine ⟨_, rfl, a, d.dx, _, rfl, hS3.at_, a, d.dx, _, .ref d.al, rfl, hS3.at_, rfl, d.al, rfl, ⟨_, SqT.of hS3.al⟩, fun D2 nD2 => ?_⟩
      refine lc_objs (walk_tup (xs := txs d.us)) nD2 (fun v => match v with | .str k => some k | _ => none) (fun k => .tup [.str "unknown", .str k]) (by rw [txs_len]; have := hN.ul; omega) (fun H5 s => SqT.of (s _ _ hS3.al)) (fun x2 H5 R2 N2 hx s4 hh => ?_) (fun H5 L5 s5 hL5 hD5 hN5 => ?_)
      · obtain ⟨k2, hk2, rfl⟩ := List.mem_map.mp hx
        exact ⟨rfl, _, rfl, small (by show 2 ≤ 1000; decide), fun a2 na2 => hh a2 _ (same_new na2) na2 upd_same⟩
      · have efm2 : (txs d.us).filterMap (fun v => match v with | .str k => some k | _ => none) = d.us := by exact fm_id _
        rw [efm2] at hL5
        have l3 : (ads L3).length = d.es.length := by unfold ads; rw [List.length_map, ← hL3, List.length_map]
        have l5 : (ads L5).length = d.us.length := by unfold ads; rw [List.length_map, ← hL5, List.length_map]
        refine ⟨D1, D2, _, _, rfl, rfl, s5 _ _ hD3, hD5, small (by rw [l3, l5]; have := hN.el; have := hN.ul; omega), fun cp ncp => ?_⟩
        have s6 := same_new ncp (o := .lst (ads L3 ++ ads L5))
        have s06 := (s03.trans s5).trans s6
        have dp3 : DpAll K (upd H5 cp (.lst (ads L3 ++ ads L5))) (ads L3 ++ ads L5) (L3.map (fun q => prD2 "equation" q.1) ++ L5.map (fun q => prD2 "unknown" q.1)) := by
          have e : ads L3 ++ ads L5 = (L3.map fun q => V.ref q.2) ++ (L5.map fun q => V.ref q.2) := rfl
          rw [e]
          exact dpAll_app (dpAll_map fun q hq => .tup (SqT.of (s6 _ _ (s5 _ _ (hN3 q hq).2.2))) (dp_txs [_, _])) (dpAll_map fun q hq => .tup (SqT.of (s6 _ _ (hN5 q hq).2.2)) (dp_txs [_, _]))
        have hshk : Sh 0 (.str k) := by
          rcases hI with ⟨rfl, _⟩ | ⟨rfl, _⟩
          · exact sh_lit (by decide +kernel)
          · exact sh_lit (by decide +kernel)
        have hshx : Sh 0 (.str x) := by
          rcases hI with ⟨_, h⟩ | ⟨_, h⟩
          · exact Sh.name (hN.eok x h)
          · exact Sh.name (hN.uok x h)
        have q3 : ∀ q ∈ L3, q.1 ∈ d.es := fun q hq => hL3 ▸ List.mem_map_of_mem hq
        have q5 : ∀ q ∈ L5, q.1 ∈ d.us := fun q hq => hL5 ▸ List.mem_map_of_mem hq
        have hshd : Sh 2 (.list (L3.map (fun q => prD2 "equation" q.1) ++ L5.map (fun q => prD2 "unknown" q.1))) := Sh.list fun y hy => by
          rcases List.mem_append.mp hy with h | h
          · obtain ⟨q, hq, rfl⟩ := List.mem_map.mp h
            exact prD2_sh (sh_lit (by decide +kernel)) (Sh.name (hN.eok _ (q3 q hq)))
          · obtain ⟨q, hq, rfl⟩ := List.mem_map.mp h
            exact prD2_sh (sh_lit (by decide +kernel)) (Sh.name (hN.uok _ (q5 q hq)))
        refine ⟨_, rfl, _, rfl, prD2 k x, _, .tup (Same.tup s06 hit) (dp_txs [_, _]), .lst (SqL.of upd_same) dp3, (prD2_sh hshk hshx).shaped, hshd.shaped, _, rfl, ?_⟩
        have hany : ((L3.map (fun q => prD2 "equation" q.1) ++ L5.map (fun q => prD2 "unknown" q.1)).any fun z => PyData.eqv z (prD2 k x)) = true := by
          rw [List.any_eq_true]
          refine ⟨prD2 k x, ?_, (prD2_sh hshk hshx).self⟩
          rcases hI with ⟨rfl, h⟩ | ⟨rfl, h⟩
          · rw [← hL3] at h
            obtain ⟨q, hq, rfl⟩ := List.mem_map.mp h
            exact List.mem_append.mpr (.inl (List.mem_map.mpr ⟨q, hq, rfl⟩))
          · rw [← hL5] at h
            obtain ⟨q, hq, rfl⟩ := List.mem_map.mp h
            exact List.mem_append.mpr (.inr (List.mem_map.mpr ⟨q, hq, rfl⟩))
        rw [hany]
        exact iteF (q _ s06)
end
end Bo

/-! YK -/
set_option Elab.async false
set_option linter.all false
set_option maxRecDepth 100000
set_option maxHeartbeats 2000000
namespace Bo
open PySem PySem.Spec PyProof.Rows L2
theorem find_at {α : Type} {p : α → Bool} : ∀ {l : List α} {i : Nat} {x : α}, l[i]? = some x → p x = true → (∀ y ∈ l.take i, p y = false) → l.find? p = some x
  | y :: l, 0, x, h, hp, _ => by
    obtain rfl := Option.some.inj h
    rw [List.find?_cons_of_pos hp]
  | y :: l, i + 1, x, h, hp, hn => by
    have := hn y List.mem_cons_self
    rw [List.find?_cons_of_neg (by rw [this]; exact Bool.false_ne_true)]
    exact find_at h hp fun z hz => hn z (List.mem_cons_of_mem _ hz)
def kindOf (Bs : List Bk) (e u : Str) : Str := match Bs.find? (fun b => decide (e ∈ b.ys) && decide (u ∈ b.zs)) with
  | some b => if b.ys.length = 1 then "all" else "some"
  | none => "none"
def rInT (K : Fg) : R2 := rIn K false
section
variable {P : Program} {w : World} {K : Fg} {mg : Str → Option Value} {base : Heap}
def spKind (K : Fg) : Sp := fun vs H Q _ => ∃ (a : Addr) (d : Sd) (e u : Str), vs = [.ref a, .str e, .str u] ∧ StAt K H a d ∧ Sh 0 (.str e) ∧ Sh 0 (.str u) ∧ (∀ q ∈ d.Ps, Sh 0 (.str q.1.1) ∧ Sh 0 (.str q.1.2)) ∧ (e, u) ∈ d.Ps.map (·.1) ∧ d.oes = [] ∧ d.ues = [] ∧ d.Bs.length ≤ 24 ∧ (∀ b ∈ d.Bs, b.ys.length ≤ 24) ∧
  ∀ H', Same H H' → Q (.str (kindOf d.Bs e u)) H'
theorem ok_Structure_entry_kind (T : TX w K mg) : Ok P w K mg base 3 d_Structure_entry_kind ["self", "equation", "unknown"] (spKind K) := by
  refine mkOk T ix_Structure_entry_kind rfl rfl rfl sc_Structure_entry_kind (fun _ _ _ _ _ _ us hl => match us, hl with | [_, _, _], _ => rfl) (fun vs H Q E h => ?_) (fun cdv A outer s0 H vs Q E hr h => ?_)
  · obtain ⟨a, d, e, u, rfl, _⟩ := h
    rfl
  · obtain ⟨a, d, e, u, rfl, hS, hse, hsu, hPs, hmem, ho, hue, hBl, hBy, q⟩ := h
    have hu := hu_of hr
    have nd := sc_Structure_entry_kind.nd
    obtain ⟨f1, G1, b1, k1⟩ := ok_OverPart_equations (P := P) (base := base) T
    obtain ⟨f2, G2, b2, k2⟩ := ok_UnderPart_equations (P := P) (base := base) T
    obtain ⟨f3, G3, b3, k3⟩ := ok_OverPart_unknowns (P := P) (base := base) T
    obtain ⟨f4, G4, b4, k4⟩ := ok_UnderPart_unknowns (P := P) (base := base) T
    obtain ⟨f5, G5, b5, k5⟩ := ok_Block_equations (P := P) (base := base) T
    obtain ⟨f6, G6, b6, k6⟩ := ok_Block_unknowns (P := P) (base := base) T
    refine ⟨_, pss_cons (ps_if (pt_cmpR (op_notInDT (Room.units65 hr)) (pe_tup (pa_cons (pv 1) (pa_cons (pv 2) pa_nil))) (pe_fld (pv 0) rfl) rfl) (pss_one ps_never) pss_nil)
      (pss_cons (ps_for PassesOwn.never rfl (pi_tup (pe_tup (pa_cons (pe_fld (pv 0) rfl) (pa_cons (pe_fld (pv 0) rfl) pa_nil)))) (pgn (i := 3) nd)
        (pss_one (ps_if (PW.pt (pw_and (pt_cmpR op_in_seq (pv 1) (pe_alt (pe_prop (pv 3) T.cls_OverPart T.p_OverPart_equations G1 hr b1 .nil pass0 rfl) (pe_prop (pv 3) T.cls_UnderPart T.p_UnderPart_equations G2 hr b2 .nil pass0 rfl)) rfl)
          (pw_and1 (pt_cmpR op_in_seq (pv 2) (pe_alt (pe_prop (pv 3) T.cls_OverPart T.p_OverPart_unknowns G3 hr b3 .nil pass0 rfl) (pe_prop (pv 3) T.cls_UnderPart T.p_UnderPart_unknowns G4 hr b4 .nil pass0 rfl)) rfl)))) (pss_one (ps_ret pe_str)) pss_nil)))
      (pss_cons (ps_for PassesOwn.never rfl (pi_tup (pe_fld (pv 0) rfl)) (pgn (i := 4) nd)
        (pss_one (ps_if (PW.pt (pw_and (pt_cmpR op_in_seq (pv 1) (pe_prop (pv 4) T.cls_Block T.p_Block_equations G5 hr b5 .nil pass0 rfl) rfl)
          (pw_and1 (pt_cmpR op_in_seq (pv 2) (pe_prop (pv 4) T.cls_Block T.p_Block_unknowns G6 hr b6 .nil pass0 rfl) rfl))))
          (pss_one (ps_ret (pe_ifExp (pt_cmpR op_eq (pe_callB call_len_seq (by rfl) T.f_len PySem.boot_len (pa_cons (pe_prop (pv 4) T.cls_Block T.p_Block_equations G5 hr b5 .nil pass0 rfl) pa_nil)) pe_int (nomark _)) pe_str pe_str))) pss_nil)))
      (pss_one (ps_ret pe_str)))), ?_⟩
    refine ⟨_, rfl, _, rfl, small (by show 2 ≤ 1000; decide), fun tp ntp => ?_⟩
    have s1 := same_new ntp (o := .tup [.str e, .str u])
    have hS1 := hS.same s1
    have hshd : Sh 2 (.tuple (d.Ps.map fun q => prD2 q.1.1 q.1.2)) := Sh.tuple fun y hy => by
      obtain ⟨q, hq, rfl⟩ := List.mem_map.mp hy
      exact prD2_sh (hPs q hq).1 (hPs q hq).2
    refine ⟨_, rfl, a, _, d.dx, _, .ref d.pr, rfl, hS1.at_, T.cls_Structure, T.no_Structure_pairs, rfl, prD2 e u, d.Ps.map fun q => prD2 q.1.1 q.1.2, .tup (SqT.of upd_same) (dp_txs [_, _]), .tup hS1.pairs.at_ (dpAll_map fun q hq => .tup (hS1.pairs.pr q hq) (dp_txs [_, _])), (prD2_sh hse hsu).shaped, hshd.shaped, _, rfl, ?_⟩
    have hany : ((d.Ps.map fun q => prD2 q.1.1 q.1.2).any fun z => PyData.eqv z (prD2 e u)) = true := by
      rw [List.any_eq_true]
      obtain ⟨q, hq, he⟩ := List.mem_map.mp hmem
      refine ⟨prD2 e u, List.mem_map.mpr ⟨q, hq, by rw [he]⟩, (prD2_sh hse hsu).self⟩
    rw [hany]
    refine iteF ?_
    refine ⟨_, rfl, a, _, d.dx, _, .ref d.ov, rfl, hS1.at_, T.cls_Structure, T.no_Structure_over_part, rfl, _, rfl, a, _, d.dx, _, .ref d.un, rfl, hS1.at_, T.cls_Structure, T.no_Structure_under_part, rfl, small (by show 2 ≤ 1000; decide), fun tq ntq => ?_⟩
    have s2 := same_new ntq (o := .tup [.ref d.ov, .ref d.un])
    have hS2 := hS1.same s2
    have s12 := s1.trans s2
    refine ⟨tq, rfl, ⟨_, SqT.of upd_same⟩, ?_⟩
    refine for_it (walk_tup (xs := [.ref d.ov, .ref d.un])) (fun i σ H5 => (∃ z, σ = [some (.ref a), some (.str e), some (.str u), z, none]) ∧ H5 = upd (upd H tp (.tup [.str e, .str u])) tq (.tup [.ref d.ov, .ref d.un])) ⟨⟨_, rfl⟩, rfl⟩ (fun i σ H5 _ p => by rw [p.2]; exact SqT.of upd_same) ?_ ?_
    · rintro i x σ H5 H6 hi ⟨⟨z, rfl⟩, rfl⟩ ⟨rfl, hx⟩
      have hi2 : i = 0 ∨ i = 1 := by
        have : i < 2 := hi
        omega
      rcases hi2 with rfl | rfl
      · obtain rfl := Option.some.inj hx
        refine ⟨_, rfl, .inl ⟨_, rfl, d.ov, d.odx, _, rfl, hS2.over, d.ov, d.odx, _, .ref d.oe, rfl, hS2.over, rfl, d.oe, txs d.oes, rfl, .inr (SqT.of hS2.oe), rfl, txs_flat _, _, rfl, ?_⟩⟩
        rw [inV_txs, ho]
        exact ⟨⟨_, rfl⟩, rfl⟩
      · obtain rfl := Option.some.inj hx
        refine ⟨_, rfl, .inr ⟨_, rfl, d.un, d.udx, _, rfl, hS2.under, d.un, d.udx, _, .ref d.ue, rfl, hS2.under, rfl, d.ue, txs d.ues, rfl, .inr (SqT.of hS2.ue), rfl, txs_flat _, _, rfl, ?_⟩⟩
        rw [inV_txs, hue]
        exact ⟨⟨_, rfl⟩, rfl⟩
    · rintro σ H5 ⟨⟨z, rfl⟩, rfl⟩
      refine ⟨_, rfl, a, _, d.dx, _, .ref d.bl, rfl, hS2.at_, T.cls_Structure, T.no_Structure_own_blocks, rfl, d.bl, rfl, ⟨_, SqT.of hS2.bl⟩, ?_⟩
      refine for_it (walk_tup (xs := d.Bs.map fun b => V.ref b.a)) (fun i σ H5 => (∃ z z2, σ = [some (.ref a), some (.str e), some (.str u), z, z2]) ∧ H5 = upd (upd H tp (.tup [.str e, .str u])) tq (.tup [.ref d.ov, .ref d.un]) ∧ ∀ b ∈ d.Bs.take i, (decide (e ∈ b.ys) && decide (u ∈ b.zs)) = false) ?_ (fun i σ H5 _ p => by rw [p.2.1]; exact SqT.of hS2.bl) ?_ ?_
      · exact ⟨⟨_, _, rfl⟩, rfl, fun b hb => by simp at hb⟩
      · rintro i x σ H5 H6 hi ⟨⟨z, z2, rfl⟩, rfl, hno⟩ ⟨rfl, hx⟩
        obtain ⟨b, hb, rfl⟩ : ∃ b, d.Bs[i]? = some b ∧ V.ref b.a = x := by
          rw [List.getElem?_map] at hx
          exact Option.map_eq_some_iff.mp hx
        have hbB : b ∈ d.Bs := List.mem_of_getElem? hb
        have hbk := hS2.bk b hbB
        have hy := hBy b hbB
        have htk : d.Bs.take (i + 1) = d.Bs.take i ++ [b] := by
          rw [List.take_add_one, hb]
          rfl
        have nextP : (decide (e ∈ b.ys) && decide (u ∈ b.zs)) = false → ∀ b' ∈ d.Bs.take (i + 1), (decide (e ∈ b'.ys) && decide (u ∈ b'.zs)) = false := fun hf b' hb' => by
          rw [htk] at hb'
          rcases List.mem_append.mp hb' with h | h
          · exact hno b' h
          · rw [List.mem_singleton.mp h]
            exact hf
        refine ⟨_, rfl, _, rfl, b.a, b.dx, _, rfl, hbk.at_, b.a, b.dx, _, .ref b.e, rfl, hbk.at_, rfl, b.e, txs b.ys, rfl, .inr (SqT.of hbk.eq), rfl, txs_flat _, _, rfl, ?_⟩
        rw [inV_txs]
        by_cases h1 : e ∈ b.ys
        · rw [decide_eq_true h1]
          refine iteT ⟨_, rfl, _, rfl, b.a, b.dx, _, rfl, hbk.at_, b.a, b.dx, _, .ref b.u, rfl, hbk.at_, rfl, b.u, txs b.zs, rfl, .inr (SqT.of hbk.un), rfl, txs_flat _, _, rfl, ?_⟩
          rw [inV_txs]
          by_cases h2 : u ∈ b.zs
          · rw [decide_eq_true h2]
            have hk : kindOf d.Bs e u = if b.ys.length = 1 then ("all" : Str) else ("some" : Str) := by
              unfold kindOf
              rw [find_at hb (by rw [decide_eq_true h1, decide_eq_true h2]; rfl) hno]
            have hq := q _ s12
            rw [hk] at hq
            refine iteT ⟨_, rfl, b.a, b.dx, _, rfl, hbk.at_, b.a, b.dx, _, .ref b.e, rfl, hbk.at_, rfl, b.e, txs b.ys, rfl, .inr (SqT.of hbk.eq), rfl, _, rfl, ?_⟩
            by_cases h3 : b.ys.length = 1
            · rw [if_pos h3] at hq
              refine ifT (by rw [txs_len, h3]; rfl) hq
            · rw [if_neg h3] at hq
              refine ifF (by rw [txs_len]; intro z; injection z with z; omega) hq
          · rw [decide_eq_false h2]
            exact iteF ⟨⟨_, _, rfl⟩, rfl, nextP (by rw [decide_eq_false h2, Bool.and_false])⟩
        · rw [decide_eq_false h1]
          exact iteF ⟨⟨_, _, rfl⟩, rfl, nextP (by rw [decide_eq_false h1, Bool.false_and])⟩
      · rintro σ H5 ⟨⟨z, z2, rfl⟩, rfl, hno⟩
        rw [List.length_map, List.take_length] at hno
        have hk : kindOf d.Bs e u = "none" := by
          unfold kindOf
          have hfn : d.Bs.find? (fun b => decide (e ∈ b.ys) && decide (u ∈ b.zs)) = none := List.find?_eq_none.mpr fun b hb => by rw [hno b hb]; exact Bool.false_ne_true
          rw [hfn]
        have hq := q _ s12
        rw [hk] at hq
        exact hq
end
end Bo

/-! YB -/
set_option Elab.async false
set_option linter.all false
set_option maxRecDepth 100000
set_option maxHeartbeats 2000000
namespace Bo
open PySem PySem.Spec PyProof.Rows L2
section
variable {P : Program} {w : World} {K : Fg} {mg : Str → Option Value} {base : Heap}
/-- the block of an unknown -/
def spBlockOf (K : Fg) : Sp := fun vs H Q _ => ∃ (a it : Addr) (d : Sd) (x : Str) (i : Nat) (b : Bk), vs = [.ref a, .ref it] ∧ StAt K H a d ∧ StNm d ∧ SqT K H it [.str "unknown", .str x] ∧ x ∈ d.us ∧ d.Bs[i]? = some b ∧ x ∈ b.zs ∧ (∀ c ∈ d.Bs.take i, x ∉ c.zs) ∧ ∀ H', Same H H' → Q (.int b.pl) H'
theorem ok_Structure_block_of (T : TX w K mg) : Ok P w K mg base 4 d_Structure_block_of ["self", "item"] (spBlockOf K) := by
  refine mkOk T ix_Structure_block_of rfl rfl rfl sc_Structure_block_of (fun _ _ _ _ _ _ us hl => match us, hl with | [_, _], _ => rfl) (fun vs H Q E h => ?_) (fun cdv A outer s0 H vs Q E hr h => ?_)
  · obtain ⟨a, it, d, x, i, b, rfl, _⟩ := h
    rfl
  · obtain ⟨a, it, d, x, i0, b0, rfl, hS, hN, hit, hx, hi0, hxb, hno0, q⟩ := h
    have hu := hu_of hr
    have nd := sc_Structure_block_of.nd
    have hr2 := hr.mono (j := 2) (by decide)
    obtain ⟨f1, G1, b1, k1⟩ := ok_Structure_need_item (P := P) (base := base) T
    obtain ⟨f5, G5, b5, k5⟩ := ok_Block_equations (P := P) (base := base) T
    obtain ⟨f6, G6, b6, k6⟩ := ok_Block_unknowns (P := P) (base := base) T
    obtain ⟨f7, G7, b7, k7⟩ := ok_Block_place (P := P) (base := base) T
    refine ⟨_, pss_cons (ps_expr (pe_meth (pv 0) T.cls_Structure T.m_Structure_need_item G1 hr b1 .nil pass0 (pa_cons (pv 1) pa_nil)))
      (pss_cons (ps_for PassesOwn.never rfl (pi_tup (pe_fld (pv 0) rfl)) (pgn (i := 2) nd)
        (pss_one (ps_if (pt_cmpR op_in_seq (pe_ix ix_tup (pv 1) pe_int (fun _ _ => rfl)) (pe_ifExp (pt_cmpR op_eq (pe_ix ix_tup (pv 1) pe_int (fun _ _ => rfl)) pe_str (nomark _)) (pe_prop (pv 2) T.cls_Block T.p_Block_equations G5 hr2 b5 .nil pass0 rfl) (pe_prop (pv 2) T.cls_Block T.p_Block_unknowns G6 hr2 b6 .nil pass0 rfl)) rfl)
          (pss_one (ps_ret (pe_prop (pv 2) T.cls_Block T.p_Block_place G7 hr2 b7 .nil pass0 rfl))) pss_nil)))
      (pss_one (ps_ret pe_non))), ?_⟩
    refine ⟨_, rfl, a, d.dx, _, rfl, hS.at_, rfl, _, rfl, a, it, d, "unknown", x, rfl, hS, hN, hit, .inr ⟨rfl, hx⟩, fun H1 s1 => ?_⟩
    have hS1 := hS.same s1
    have hit1 := Same.tup s1 hit
    refine ⟨_, rfl, a, _, d.dx, _, .ref d.bl, rfl, hS1.at_, T.cls_Structure, T.no_Structure_own_blocks, rfl, d.bl, rfl, ⟨_, SqT.of hS1.bl⟩, ?_⟩
    refine for_it (walk_tup (xs := d.Bs.map fun b => V.ref b.a)) (fun i σ H5 => (∃ z, σ = [some (.ref a), some (.ref it), z]) ∧ H5 = H1 ∧ i ≤ i0) ⟨⟨_, rfl⟩, rfl, Nat.zero_le _⟩ (fun i σ H5 _ p => by rw [p.2.1]; exact SqT.of hS1.bl) ?_ ?_
    · rintro i v σ H5 H6 hi ⟨⟨z, rfl⟩, rfl, hle⟩ ⟨rfl, hv⟩
      obtain ⟨b, hb, rfl⟩ : ∃ b, d.Bs[i]? = some b ∧ V.ref b.a = v := by
        rw [List.getElem?_map] at hv
        exact Option.map_eq_some_iff.mp hv
      have hbB : b ∈ d.Bs := List.mem_of_getElem? hb
      have hbk := hS1.bk b hbB
      refine ⟨_, rfl, it, _, 1, .str x, rfl, rfl, hit1, atI_nat (j := 1) rfl, _, rfl, it, _, 0, .str "unknown", rfl, rfl, hit1, atI_nat (j := 0) rfl, rfl, _, rfl, ?_⟩
      refine ifF (by intro z; cases z) ⟨_, rfl, b.a, b.dx, _, rfl, hbk.at_, b.a, b.dx, _, .ref b.u, rfl, hbk.at_, rfl, b.u, txs b.zs, rfl, .inr (SqT.of hbk.un), rfl, txs_flat _, _, rfl, ?_⟩
      rw [inV_txs]
      rcases Nat.lt_or_ge i i0 with h | h
      · have : x ∉ b.zs := hno0 b (List.mem_of_getElem? (i := i) (by rw [List.getElem?_take_of_lt h]; exact hb))
        rw [decide_eq_false this]
        exact iteF ⟨⟨_, rfl⟩, rfl, h⟩
      · have e : i = i0 := Nat.le_antisymm hle h
        subst e
        rw [hi0] at hb
        obtain rfl := Option.some.inj hb
        rw [decide_eq_true hxb]
        exact iteT ⟨_, rfl, b0.a, b0.dx, _, rfl, hbk.at_, b0.a, b0.dx, _, .int b0.pl, rfl, hbk.at_, rfl, q _ s1⟩
    · rintro σ H5 ⟨⟨z, rfl⟩, rfl, hle⟩
      have := (List.getElem?_eq_some_iff.mp hi0).1
      rw [List.length_map] at hle
      omega
def spClosedSet (K : Fg) : Sp := fun vs H Q _ => ∃ (a : Addr) (d : Sd) (x : Str), vs = [.ref a, .str x] ∧ StAt K H a d ∧ StNm d ∧ x ∈ d.es ∧ x ∈ d.wes ∧ x ∈ d.Qs ∧ ∀ t ys H', Same H H' → H t = none → H' t = some (.tup (txs ys)) → ys.Perm (d.C x) → sortedS ys = true → Q (.ref t) H'
theorem ok_Structure_closed_set (T : TX w K mg) : Ok P w K mg base 4 d_Structure_closed_set ["self", "equation"] (spClosedSet K) := by
  refine mkOk T ix_Structure_closed_set rfl rfl rfl sc_Structure_closed_set (fun _ _ _ _ _ _ us hl => match us, hl with | [_, _], _ => rfl) (fun vs H Q E h => ?_) (fun cdv A outer s0 H vs Q E hr h => ?_)
  · obtain ⟨a, d, x, rfl, _⟩ := h
    rfl
  · obtain ⟨a, d, x, rfl, hS, hN, hx, hxw, hxQ, q⟩ := h
    have hu := hu_of hr
    have nd := sc_Structure_closed_set.nd
    have hr2 := hr.mono (j := 2) (by decide)
    obtain ⟨f1, G1, b1, k1⟩ := ok_Structure_need_item (P := P) (base := base) T
    obtain ⟨f5, G5, b5, k5⟩ := ok_WellPart_equations (P := P) (base := base) T
    refine ⟨_, pss_cons (ps_expr (pe_meth (pv 0) T.cls_Structure T.m_Structure_need_item G1 hr b1 .nil pass0 (pa_cons (pe_tup (pa_cons pe_str (pa_cons (pv 1) pa_nil))) pa_nil)))
      (pss_one (ps_ret (pe_ifExp (pt_cmpR op_in_seq (pv 1) (pe_prop (pe_fld (pv 0) rfl) T.cls_WellPart T.p_WellPart_equations G5 hr2 b5 .nil pass0 rfl) rfl)
        (pe_callTy call_tuple_of (by rfl) T.f_tuple PyProof.Rows.boot_tuple (pa_cons (pe_callB (call_sortedD rfl) (by rfl) T.f_sorted boot_sorted (pa_cons (pe_dget hu (pe_fld (pv 0) rfl) (pv 1) (fun _ _ => rfl)) pa_nil)) pa_nil)) pe_non))), ?_⟩
    refine ⟨_, rfl, a, d.dx, _, rfl, hS.at_, rfl, _, rfl, small (by show 2 ≤ 1000; decide), fun tp ntp => ?_⟩
    have s0 := same_new ntp (o := .tup [.str "equation", .str x])
    have hS0 := hS.same s0
    refine ⟨a, tp, d, "equation", x, rfl, hS0, hN, SqT.of upd_same, .inl ⟨rfl, hx⟩, fun H1 s1 => ?_⟩
    have s01 := s0.trans s1
    have hS1 := hS0.same s1
    refine ⟨_, rfl, _, rfl, a, _, d.dx, _, .ref d.wp, rfl, hS1.at_, T.cls_Structure, T.no_Structure_well_part, rfl, d.wp, d.wdx, _, rfl, hS1.well, d.wp, d.wdx, _, .ref d.we, rfl, hS1.well, rfl, d.we, txs d.wes, rfl, .inr (SqT.of hS1.we), rfl, txs_flat _, _, rfl, ?_⟩
    rw [inV_txs, decide_eq_true hxw]
    obtain ⟨L, cd, hc1, hc2, hc3⟩ := hS1.closed.get hxQ
    have hg : DGet H1 d.cl (.str x) (some (.ref cd)) := by
      have := DictAt.get hc1 x
      rwa [hc2] at this
    have hcl := hS1.closed.clen hxQ
    refine iteT ⟨_, rfl, a, _, d.dx, _, .ref d.cl, rfl, hS1.at_, T.cls_Structure, T.no_Structure_closed, rfl, _, rfl, d.cl, .ref cd, rfl, hg, cd, tk (tr (d.C x)), d.C x, rfl, DictAt.r hc3, (by have := tk_keys (tr (d.C x)); rw [tr_keys] at this; exact this), by omega, fun ys p pm sr np => ⟨p, _, rfl, .inl ⟨SqL.of upd_same, fun t nt => ?_⟩⟩⟩
    exact q t ys _ (Same.new (Same.new s01 np) nt) (Same.free s01 (Same.free (same_new np) nt)) upd_same pm sr
end
end Bo

/-! Z4 -/
set_option Elab.async false
set_option linter.all false
set_option maxRecDepth 100000
set_option maxHeartbeats 1000000
/-! The plain law: a graph that is one block, with an item less. -/
namespace Bo
open PySem PySem.Spec PyProof.Rows L2
structure OneG (G : Grf) (N O : List Str) : Prop where
  nl : N.length = 24
  ol : O.length = 24
  nnd : N.Nodup
  ond : O.Nodup
  nok : ∀ x ∈ N, NameOk x
  ook : ∀ x ∈ O, NameOk x
  es : ∀ e, e ∈ G.es ↔ e ∈ N
  us : ∀ u, u ∈ G.us ↔ u ∈ O
  diag : ∀ (k : Nat) (x y : Str), N[k]? = some x → O[k]? = some y → G.adj x y = true
  nxt : ∀ x y : Str, N[1]? = some x → O[2]? = some y → G.adj x y = true
  strict : ∀ S T : List Str, S.Nodup → S ≠ [] → (∀ x ∈ S, x ∈ N) → (∃ e ∈ N, e ∉ S) → (∀ e ∈ S, ∀ u ∈ O, G.adj e u = true → u ∈ T) → S.length < T.length
/-- what stands beside a name -/
def pairOf (N O : List Str) (e : Str) : Str := (dget (N.zip O) e).getD ""
theorem zip_keys {N O : List Str} (h : N.length = O.length) : (N.zip O).map (·.1) = N := by
  rw [show (fun x : Str × Str => x.1) = Prod.fst from rfl, List.map_fst_zip (Nat.le_of_eq h)]
theorem pairOf_at {N O : List Str} (h : N.length = O.length) (nd : N.Nodup) {k : Nat} {x y : Str} (hx : N[k]? = some x) (hy : O[k]? = some y) : pairOf N O x = y := by
  unfold pairOf
  rw [dget_of_mem (by rw [zip_keys h]; exact nd) (List.mem_of_getElem? (i := k) (by rw [List.getElem?_zip_eq_some]; exact ⟨hx, hy⟩))]
  rfl
theorem beside {N O : List Str} (h : N.length = O.length) {x : Str} (hx : x ∈ N) : ∃ (k : Nat) (y : Str), N[k]? = some x ∧ O[k]? = some y := by
  obtain ⟨k, hk⟩ := List.getElem?_of_mem hx
  have hl := (List.getElem?_eq_some_iff.mp hk).1
  exact ⟨k, _, hk, List.getElem?_eq_getElem (by omega)⟩
theorem at_inj {l : List Str} (nd : l.Nodup) {i j : Nat} {x : Str} (h1 : l[i]? = some x) (h2 : l[j]? = some x) : i = j :=
  (List.getElem?_inj (List.getElem?_eq_some_iff.mp h1).1 nd).mp (h1.trans h2.symm)
theorem pairOf_inj {N O : List Str} (h : N.length = O.length) (nn : N.Nodup) (no : O.Nodup) {x y : Str} (hx : x ∈ N) (hy : y ∈ N) (e : pairOf N O x = pairOf N O y) : x = y := by
  obtain ⟨i, u, a1, a2⟩ := beside h hx
  obtain ⟨j, v, b1, b2⟩ := beside h hy
  rw [pairOf_at h nn a1 a2, pairOf_at h nn b1 b2] at e
  subst e
  have := at_inj no a2 b2
  subst this
  rw [a1] at b1
  exact Option.some.inj b1
theorem nd_perm {a b : List Str} (ha : a.Nodup) (hb : b.Nodup) (h : ∀ x, x ∈ a ↔ x ∈ b) : a.Perm b := perm_of ha hb h
section
variable {G : Grf} {N O : List Str}
theorem OneG.len (g : OneG G N O) : N.length = O.length := by rw [g.nl, g.ol]
theorem OneG.pm (g : OneG G N O) {e : Str} (he : e ∈ N) : pairOf N O e ∈ O ∧ G.adj e (pairOf N O e) = true := by
  obtain ⟨k, y, h1, h2⟩ := beside g.len he
  rw [pairOf_at g.len g.nnd h1 h2]
  exact ⟨List.mem_of_getElem? h2, g.diag k _ _ h1 h2⟩
theorem OneG.hall (g : OneG G N O) : HallG G := fun S T nd hs _ hc =>
  len_le_of_inj (pairOf N O) nd (fun e he => hc e he _ ((g.us _).mpr (g.pm ((g.es e).mp (hs e he))).1) (g.pm ((g.es e).mp (hs e he))).2) fun e he f hf eq => pairOf_inj g.len g.nnd g.ond ((g.es e).mp (hs e he)) ((g.es f).mp (hs f hf)) eq
theorem OneG.cov (g : OneG G N O) : ∀ u ∈ G.us, ∃ e ∈ G.es, G.adj e u = true := fun u hu => by
  obtain ⟨k, x, h1, h2⟩ := beside g.len.symm ((g.us u).mp hu)
  exact ⟨x, (g.es x).mpr (List.mem_of_getElem? h2), g.diag k _ _ h2 h1⟩
section
variable {E U : List Str} {Rw : Str → List Str} {d : Sd}
theorem OfG.pe (o : OfG G E U Rw) (g : OneG G N O) : E.Perm N := nd_perm o.end_ g.nnd fun e => (o.es e).trans (g.es e)
theorem OfG.pu (o : OfG G E U Rw) (g : OneG G N O) : U.Perm O := nd_perm o.und g.ond fun e => (o.us e).trans (g.us e)
/-- the system as it is -/
theorem OneG.one (g : OneG G N O) (o : OfG G E U Rw) (h : StOk E U Rw d) :
    (∃ b, d.Bs = [b] ∧ b.ys.Perm N ∧ sortedS b.ys = true ∧ b.zs.Perm O ∧ sortedS b.zs = true) ∧ d.M.length = 24 ∧ (∀ e ∈ N, (d.C e).Perm N) ∧ d.wes.Perm N ∧ d.oes = [] ∧ d.ues = [] ∧ d.Qs = d.es := by
  have pe := o.pe g
  have pu := o.pu g
  have m1 : ∀ e ∈ E, pairOf N O e ∈ Rw e := fun e he => (o.row e he _).mpr ⟨(g.us _).mpr (g.pm (pe.mem_iff.mp he)).1, (g.pm (pe.mem_iff.mp he)).2⟩
  have m2 : ∀ e ∈ E, ∀ f ∈ E, pairOf N O e = pairOf N O f → e = f := fun e he f hf eq => pairOf_inj g.len g.nnd g.ond (pe.mem_iff.mp he) (pe.mem_iff.mp hf) eq
  have hsub : ∀ e ∈ E, ∀ u ∈ Rw e, u ∈ U := fun e he u hu => (o.us u).mpr ((o.row e he u).mp hu).1
  have hl : U.length ≤ E.length := by rw [pe.length_eq, pu.length_eq, g.nl, g.ol]; exact Nat.le_refl _
  have hE : E ≠ [] := fun z => by have := pe.length_eq; rw [z, g.nl] at this; cases this
  obtain ⟨⟨b, h1, h2, h3, h4, h5⟩, h6, h7, h8⟩ := h.one hE (pairOf N O) m1 m2 hsub hl fun S T nd ne hs ⟨e, he, hn⟩ hc => g.strict S T nd ne (fun x hx => pe.mem_iff.mp (hs x hx)) ⟨e, pe.mem_iff.mp he, hn⟩ fun e he u hu ha => hc e he u ((o.row e (hs e he) u).mpr ⟨(g.us u).mpr hu, ha⟩)
  obtain ⟨_, z1, _, z3, _, z5⟩ := h.zeros (pairOf N O) m1 m2 hsub hl
  exact ⟨⟨b, h1, h2.trans pe, h3, h4.trans pu, h5⟩, by rw [h6, pe.length_eq, g.nl], fun e he => (h7 e (pe.mem_iff.mpr he)).trans pe, h8.trans pe, z1, z3, z5⟩
end
/-! ### one unknown less -/
theorem OneG.hallB (g : OneG G N O) {o5 : Str} : HallG (G.remU o5) := fun S T nd hs ⟨e, he, hn⟩ hc => by
  cases S with
  | nil => exact Nat.zero_le _
  | cons x S =>
    have := g.strict (x :: S) (o5 :: T) nd (by simp) (fun y hy => (g.es y).mp (hs y hy)) ⟨e, (g.es e).mp he, hn⟩ fun y hy u hu ha => by
      by_cases h : u = o5
      · rw [h]
        exact List.mem_cons_self
      · exact List.mem_cons_of_mem _ (hc y hy u (by
          show u ∈ G.us.filter fun u => !decide (u = o5)
          rw [List.mem_filter]
          exact ⟨(g.us u).mpr hu, by simpa using h⟩) ha)
    simp only [List.length_cons] at this ⊢
    omega
theorem OneG.covB (g : OneG G N O) {o5 : Str} : ∀ u ∈ (G.remU o5).us, ∃ e ∈ (G.remU o5).es, (G.remU o5).adj e u = true := fun u hu => g.cov u (List.mem_filter.mp hu).1
theorem OneG.lessU (g : OneG G N O) {o5 : Str} (h5 : o5 ∈ O) {E U : List Str} {Rw : Str → List Str} {d : Sd} (o : OfG (G.remU o5) E U Rw) (h : StOk E U Rw d) : d.oes.Perm N ∧ sortedS d.oes = true ∧ d.ous.length = 23 := by
  have pe : E.Perm N := nd_perm o.end_ g.nnd fun e => (o.es e).trans (g.es e)
  have mU : ∀ u, u ∈ U ↔ u ∈ O ∧ u ≠ o5 := fun u => by
    rw [o.us u]
    show u ∈ G.us.filter (fun u => !decide (u = o5)) ↔ _
    rw [List.mem_filter, g.us u]
    simp
  have pu : (o5 :: U).Perm O := nd_perm (List.nodup_cons.mpr ⟨fun hm => ((mU o5).mp hm).2 rfl, o.und⟩) g.ond fun u => by
    rw [List.mem_cons, mU u]
    constructor
    · rintro (rfl | h)
      · exact h5
      · exact h.1
    · intro hu
      by_cases h : u = o5
      · exact .inl h
      · exact .inr ⟨hu, h⟩
  have lU : U.length = 23 := by
    have := pu.length_eq
    rw [List.length_cons, g.ol] at this
    omega
  obtain ⟨a1, a2⟩ := h.overAll (fun e he u hu => (o.us u).mpr ((o.row e he u).mp hu).1) (by rw [lU, pe.length_eq, g.nl]) (fun u hu => by
      obtain ⟨e, he, ha⟩ := g.covB u ((o.us u).mp hu)
      exact ⟨e, (o.es e).mpr he, (o.row e ((o.es e).mpr he) u).mpr ⟨(o.us u).mp hu, ha⟩⟩)
    (fun S T nd hs ⟨e, he, hn⟩ hc => g.hallB (o5 := o5) S T nd (fun x hx => (o.es x).mp (hs x hx)) ⟨e, (o.es e).mp he, hn⟩ fun e he u hu ha => hc e he u ((o.row e (hs e he) u).mpr ⟨hu, ha⟩))
  exact ⟨a1.trans pe, h.oes.2, a2.trans lU⟩
/-! ### one equation less -/
/-- the system after the edits -/
def grfC (G : Grf) (n2 n5 o5 : Str) : Grf := (((G.remU o5).addU o5).addP n5 o5).remE n2
theorem grfC_us (G : Grf) (n2 n5 o5 u : Str) (h5 : o5 ∈ G.us) : u ∈ (grfC G n2 n5 o5).us ↔ u ∈ G.us := by
  show u ∈ (G.us.filter fun u => !decide (u = o5)) ++ [o5] ↔ _
  rw [List.mem_append, List.mem_filter, List.mem_singleton]
  constructor
  · rintro (h | rfl)
    · exact h.1
    · exact h5
  · intro h
    by_cases e : u = o5
    · exact .inr e
    · exact .inl ⟨h, by simpa using e⟩
theorem grfC_es (G : Grf) (n2 n5 o5 e : Str) : e ∈ (grfC G n2 n5 o5).es ↔ e ∈ G.es ∧ e ≠ n2 := by
  show e ∈ G.es.filter (fun e => !decide (e = n2)) ↔ _
  rw [List.mem_filter]
  simp
theorem grfC_adj (G : Grf) (n2 n5 o5 e u : Str) : (grfC G n2 n5 o5).adj e u = ((decide (e = n5) && decide (u = o5)) || (G.adj e u && !decide (u = o5))) := rfl
theorem OneG.diagC (g : OneG G N O) {n2 n5 o5 : Str} (h5 : N[5]? = some n5) (k5 : O[5]? = some o5) {k : Nat} {x y : Str} (hx : N[k]? = some x) (hy : O[k]? = some y) : (grfC G n2 n5 o5).adj x y = true := by
  rw [grfC_adj]
  by_cases h : y = o5
  · subst h
    have := at_inj g.ond hy k5
    subst this
    rw [h5] at hx
    obtain rfl := Option.some.inj hx
    simp
  · rw [g.diag k x y hx hy]
    simp [h]
theorem OneG.lessE (g : OneG G N O) {n2 n5 o2 o5 : Str} (h2 : N[2]? = some n2) (k2 : O[2]? = some o2) (h5 : N[5]? = some n5) (k5 : O[5]? = some o5) :
    HallG (grfC G n2 n5 o5) ∧ (∀ u ∈ (grfC G n2 n5 o5).us, ∃ e ∈ (grfC G n2 n5 o5).es, (grfC G n2 n5 o5).adj e u = true) ∧
    ∀ {E U : List Str} {Rw : Str → List Str} {d : Sd}, OfG (grfC G n2 n5 o5) E U Rw → StOk E U Rw d → d.M.length = 23 ∧ d.uus.length = d.ues.length + 1 ∧ o2 ∈ d.uus := by
  have m5 : o5 ∈ G.us := (g.us o5).mpr (List.mem_of_getElem? k5)
  have inN : ∀ e ∈ (grfC G n2 n5 o5).es, e ∈ N ∧ e ≠ n2 := fun e he => by
    obtain ⟨a, b⟩ := (grfC_es G n2 n5 o5 e).mp he
    exact ⟨(g.es e).mp a, b⟩
  have pm : ∀ e ∈ N, pairOf N O e ∈ (grfC G n2 n5 o5).us ∧ (grfC G n2 n5 o5).adj e (pairOf N O e) = true := fun e he => by
    obtain ⟨k, y, a1, a2⟩ := beside g.len he
    rw [pairOf_at g.len g.nnd a1 a2]
    exact ⟨(grfC_us G n2 n5 o5 y m5).mpr ((g.us y).mpr (List.mem_of_getElem? a2)), g.diagC h5 k5 a1 a2⟩
  refine ⟨fun S T nd hs _ hc => len_le_of_inj (pairOf N O) nd (fun e he => hc e he _ (pm e (inN e (hs e he)).1).1 (pm e (inN e (hs e he)).1).2) fun e he f hf eq => pairOf_inj g.len g.nnd g.ond (inN e (hs e he)).1 (inN f (hs f hf)).1 eq, fun u hu => ?_, fun {E U Rw d} o h => ?_⟩
  · have huO : u ∈ O := (g.us u).mp ((grfC_us G n2 n5 o5 u m5).mp hu)
    obtain ⟨k, x, a1, a2⟩ := beside g.len.symm huO
    by_cases hk : x = n2
    · subst hk
      have := at_inj g.nnd a2 h2
      subst this
      obtain ⟨n1, hn1⟩ : ∃ n1, N[1]? = some n1 := ⟨_, List.getElem?_eq_getElem (by rw [g.nl]; decide)⟩
      have hne : n1 ≠ x := fun z => by
        have := at_inj g.nnd hn1 (z ▸ h2)
        cases this
      refine ⟨n1, (grfC_es G x n5 o5 n1).mpr ⟨(g.es n1).mpr (List.mem_of_getElem? hn1), hne⟩, ?_⟩
      rw [grfC_adj, g.nxt n1 u hn1 a1]
      have : u ≠ o5 := fun z => by
        have := at_inj g.ond a1 (z ▸ k5)
        cases this
      simp [this]
    · exact ⟨x, (grfC_es G n2 n5 o5 x).mpr ⟨(g.es x).mpr (List.mem_of_getElem? a2), hk⟩, g.diagC h5 k5 a2 a1⟩
  · have mE : ∀ e, e ∈ E ↔ e ∈ N ∧ e ≠ n2 := fun e => by rw [o.es e, grfC_es, g.es e]
    have pE : (n2 :: E).Perm N := nd_perm (List.nodup_cons.mpr ⟨fun hm => ((mE n2).mp hm).2 rfl, o.end_⟩) g.nnd fun e => by
      rw [List.mem_cons, mE e]
      constructor
      · rintro (rfl | h)
        · exact List.mem_of_getElem? h2
        · exact h.1
      · intro he
        by_cases hh : e = n2
        · exact .inl hh
        · exact .inr ⟨he, hh⟩
    have lE : E.length = 23 := by
      have := pE.length_eq
      rw [List.length_cons, g.nl] at this
      omega
    have pU : U.Perm O := nd_perm o.und g.ond fun u => by rw [o.us u, grfC_us G n2 n5 o5 u m5, g.us u]
    have rw1 : ∀ e ∈ E, ∀ u ∈ Rw e, u ∈ U := fun e he u hu => (o.us u).mpr ((o.row e he u).mp hu).1
    obtain ⟨a1, a2, a3⟩ := h.underSome rw1 (by rw [lE, pU.length_eq, g.ol]) (pairOf N O) (fun e he => (o.row e he _).mpr (pm e ((mE e).mp he).1)) (fun e he f hf eq => pairOf_inj g.len g.nnd g.ond ((mE e).mp he).1 ((mE f).mp hf).1 eq) (o := o2) (pU.mem_iff.mpr (List.mem_of_getElem? k2)) (fun e he z => by
      obtain ⟨hN, hne⟩ := (mE e).mp he
      obtain ⟨k, y, b1, b2⟩ := beside g.len hN
      rw [pairOf_at g.len g.nnd b1 b2] at z
      subst z
      have := at_inj g.ond b2 k2
      subst this
      rw [h2] at b1
      exact hne (Option.some.inj b1).symm)
    exact ⟨a1.trans lE, a2, a3⟩
end
end Bo

/-! YO -/
set_option Elab.async false
set_option linter.all false
set_option maxRecDepth 100000
set_option maxHeartbeats 4000000
namespace Bo
open PySem PySem.Spec PyProof.Rows L2
theorem SqL.but2 {K : Fg} {H H' : Hp} {a p b C dx : Addr} {fs : List (Str × V)} {xs : List V} (h : SqL K H b xs) (s : But [a, p] H H') (ha : H a = some (.ins C dx fs)) (hp : b ≠ p) : SqL K H' b xs := by
  rcases h with (h | ⟨o, h⟩) | h
  · exact .inl (.inl (s _ _ h fun z => by
      rcases List.mem_cons.mp z with z | z
      · rw [z, ha] at h; cases h
      · exact hp (List.mem_singleton.mp z)))
  · exact .inl (.inr ⟨o, s _ _ h fun z => by
      rcases List.mem_cons.mp z with z | z
      · rw [z, ha] at h; cases h
      · exact hp (List.mem_singleton.mp z)⟩)
  · exact .inr h
theorem SysAt.ulen {K : Fg} {H : Hp} {a p n : Nat} {G : Grf} (h : SysAt K H a p n G) : G.us.length ≤ 24 := by
  obtain ⟨dx, c, o, past, _, h2, _⟩ := h.ex
  obtain ⟨_, _, _, _, _, _, _, _, _, _, k5⟩ := h2.ex
  exact k5.ul
theorem SysAt.elen {K : Fg} {H : Hp} {a p n : Nat} {G : Grf} (h : SysAt K H a p n G) : G.es.length ≤ 24 := by
  obtain ⟨dx, c, o, past, _, h2, _⟩ := h.ex
  obtain ⟨_, _, _, _, _, _, _, _, _, _, k5⟩ := h2.ex
  exact k5.el
/-- the objects of the system and what came since -/
theorem but2_same {H H1 H2 : Hp} {l : List Addr} (b : But l H H1) (s : Same H1 H2) : But l H H2 := b.trans (Same.but s l)
theorem sh_names {l : List Str} (h : ∀ x ∈ l, NameOk x) : ∀ d ∈ strD l, Sh 0 d := sh_strs fun x hx => Sh.name (h x hx)
theorem eqv_list_strs (a : List Str) (h : ∀ x ∈ a, NameOk x) : PyData.eqv (.list (strD a)) (.list (strD a)) = true := (Sh.list (sh_names h)).self
theorem SysAt.ins {K : Fg} {H : Hp} {a p n : Nat} {G : Grf} (h : SysAt K H a p n G) : ∃ dx c o p2, H a = some (.ins (He.ga K "System") dx (SysFs c o p2)) := by
  obtain ⟨dx, c, o, past, h1, _⟩ := h.ex
  exact ⟨dx, c, o, p, h1⟩
theorem at24 {l : List Str} (h : l.length = 24) (k : Nat) (hk : k < 24) : ∃ x, l[k]? = some x := ⟨_, List.getElem?_eq_getElem (by omega)⟩
theorem StOk.nm {E U : List Str} {Rw : Str → List Str} {d : Sd} (h : StOk E U Rw d) (he : ∀ e ∈ E, NameOk e) (hu : ∀ u ∈ U, NameOk u) : StNm d := ⟨fun e x => he e ((h.mem_es e).mp x), fun u x => hu u ((h.mem_us u).mp x), h.el, h.ul⟩
theorem StOk.psn {E U : List Str} {Rw : Str → List Str} {d : Sd} (h : StOk E U Rw d) (he : ∀ e ∈ E, NameOk e) (hu : ∀ u ∈ U, NameOk u) (hsub : ∀ e ∈ E, ∀ u ∈ Rw e, u ∈ U) : ∀ q ∈ d.Ps, Sh 0 (.str q.1.1) ∧ Sh 0 (.str q.1.2) := fun q hq => by
  have : q.1 ∈ d.Ps.map (·.1) := List.mem_map_of_mem hq
  rw [h.Ps] at this
  obtain ⟨e, h1, h2⟩ := List.mem_flatMap.mp this
  obtain ⟨u, h3, h4⟩ := List.mem_map.mp h2
  rw [← h4]
  exact ⟨Sh.name (he e ((h.mem_es e).mp h1)), Sh.name (hu u (hsub e ((h.mem_es e).mp h1) u ((h.mem_R h1 u).mp h3)))⟩
theorem StOk.inPs {E U : List Str} {Rw : Str → List Str} {d : Sd} (h : StOk E U Rw d) {e u : Str} (he : e ∈ E) (hu : u ∈ Rw e) : (e, u) ∈ d.Ps.map (·.1) := by
  rw [h.Ps]
  have he' := (h.mem_es e).mpr he
  exact List.mem_flatMap.mpr ⟨e, he', List.mem_map.mpr ⟨u, (h.mem_R he' u).mpr hu, rfl⟩⟩
section
variable {P : Program} {w : World} {K : Fg} {mg : Str → Option Value} {base : Heap}
def spOne (K : Fg) : Sp := fun vs H Q _ => ∃ (a p n : Nat) (G : Grf) (nl ol : Addr) (N O : List Str), vs = [.ref a, .ref nl, .ref ol] ∧ SysAt K H a p n G ∧ n ≤ 900 ∧ SqL K H nl (txs N) ∧ SqL K H ol (txs O) ∧ nl ≠ p ∧ ol ≠ p ∧ OneG G N O ∧
  ∀ H', But [a, p] H H' → Q (.bl true) H'
theorem ok__law_one (T : TX w K mg) (PXh : PX P) : Ok P w K mg base 9 d__law_one_block_right ["_law_system_here", "_law_names_here", "_law_others"] (spOne K) := by
  refine mkOk T ix__law_one_block_right rfl rfl rfl sc__law_one_block_right (fun _ _ _ _ _ _ us hl => match us, hl with | [_, _, _], _ => rfl) (fun vs H Q E h => ?_) (fun cdv A outer s0 H vs Q E hr h => ?_)
  · obtain ⟨a, p, n, G, nl, ol, N, O, rfl, _⟩ := h
    rfl
  · obtain ⟨a, p, n, G, nl, ol, N, O, rfl, hS, hn, hN, hO, hnp, hop, g, q⟩ := h
    have hu := hu_of hr
    have nd := sc__law_one_block_right.nd
    have hr1 := hr.mono (j := 2) (by decide)
    have hr3 := hr.mono (j := 3) (by decide)
    have hr4 := hr.mono (j := 4) (by decide)
    have hr7 := hr.mono (j := 7) (by decide)
    obtain ⟨f1, G1, b1, k1⟩ := ok_System_structure (P := P) (base := base) T PXh
    obtain ⟨f2, G2, b2, k2⟩ := ok__law_shown (P := P) (base := base) T
    obtain ⟨f3, G3, b3, k3⟩ := ok_Structure_blocks (P := P) (base := base) T
    obtain ⟨f4, G4, b4, k4⟩ := ok_Structure_rank (P := P) (base := base) T
    obtain ⟨f5, G5, b5, k5⟩ := ok_Structure_entry_kind (P := P) (base := base) T
    obtain ⟨f6, G6, b6, k6⟩ := ok_Structure_closed_set (P := P) (base := base) T
    obtain ⟨f7, G7, b7, k7⟩ := ok_remove_unknown (P := P) (base := base) T
    obtain ⟨f8, G8, b8, k8⟩ := ok_Structure_over (P := P) (base := base) T
    obtain ⟨f9, G9, b9, k9⟩ := ok_OverPart_equations (P := P) (base := base) T
    obtain ⟨f10, G10, b10, k10⟩ := ok_OverPart_unknowns (P := P) (base := base) T
    obtain ⟨f11, G11, b11, k11⟩ := ok_OverPart_surplus (P := P) (base := base) T
    obtain ⟨M12, k12⟩ := ok_add_unknown (P := P) (base := base) T
    obtain ⟨f13, G13, b13, k13⟩ := ok_add_entry (P := P) (base := base) T
    obtain ⟨f14, G14, b14, k14⟩ := ok_remove_equation (P := P) (base := base) T
    obtain ⟨f15, G15, b15, k15⟩ := ok_Structure_under (P := P) (base := base) T
    obtain ⟨f16, G16, b16, k16⟩ := ok_UnderPart_unknowns (P := P) (base := base) T
    obtain ⟨f17, G17, b17, k17⟩ := ok_UnderPart_surplus (P := P) (base := base) T
    refine ⟨_, pss_cons (pset (i := 3) nd (pe_prop (pv 0) T.cls_System T.p_System_structure G1 hr b1 .nil pass0 rfl))
      (pss_cons (ps_if (PW.pt (pw_or (pt_cmpR (op_neD hr.units) (pe_call G2 hr3 (by rfl) T.g__law_shown k2 b2 .nil pass0 (pa_cons (pe_prop (pv 3) T.cls_Structure T.p_Structure_blocks G3 hr1 b3 .nil pass0 rfl) pa_nil))
            (pe_lst (pa_cons (pe_tup (pa_cons (pe_callB cr_sortedS (by rfl) T.f_sorted boot_sorted (pa_cons (pv 1) pa_nil)) (pa_cons (pe_callB cr_sortedS (by rfl) T.f_sorted boot_sorted (pa_cons (pv 2) pa_nil)) pa_nil))) pa_nil)) rfl)
          (pw_or1 (pt_cmpR op_ne (pe_prop (pv 3) T.cls_Structure T.p_Structure_rank G4 hr1 b4 .nil pass0 rfl) (pe_callB call_len_seq (by rfl) T.f_len PySem.boot_len (pa_cons (pv 1) pa_nil)) rfl)))) (pss_one (ps_ret pe_bl)) pss_nil)
      (pss_cons (ps_if (PW.pt (pw_or (pt_cmpR op_ne (pe_meth (pv 3) T.cls_Structure T.m_Structure_entry_kind G5 hr3 b5 .nil pass0 (pa_cons (pe_ix ix_list (pv 1) pe_int (fun _ _ => rfl)) (pa_cons (pe_ix ix_list (pv 2) pe_int (fun _ _ => rfl)) pa_nil))) pe_str rfl)
          (pw_or1 (pt_cmpR (op_neD hr.units) (pe_meth (pv 3) T.cls_Structure T.m_Structure_closed_set G6 hr4 b6 .nil pass0 (pa_cons (pe_ix ix_list (pv 1) pe_int (fun _ _ => rfl)) pa_nil)) (pe_callTy call_tuple_of (by rfl) T.f_tuple PyProof.Rows.boot_tuple (pa_cons (pe_callB cr_sortedS (by rfl) T.f_sorted boot_sorted (pa_cons (pv 1) pa_nil)) pa_nil)) rfl)))) (pss_one (ps_ret pe_bl)) pss_nil)
      (pss_cons (ps_expr (pe_meth (pv 0) T.cls_System T.m_System_remove_unknown G7 hr7 b7 .nil pass0 (pa_cons (pe_ix ix_list (pv 2) pe_int (fun _ _ => rfl)) pa_nil)))
      (pss_cons (pset (i := 4) nd (pe_prop (pe_prop (pv 0) T.cls_System T.p_System_structure G1 hr b1 .nil pass0 rfl) T.cls_Structure T.p_Structure_over G8 hr1 b8 .nil pass0 rfl))
      (pss_cons (ps_if (pt_cmpR (op_neD hr.units)
          (pe_tup (pa_cons (pe_callTy call_list_of (by rfl) T.f_list PyProof.Rows.boot_list (pa_cons (pe_prop (pv 4) T.cls_OverPart T.p_OverPart_equations G9 hr1 b9 .nil pass0 rfl) pa_nil))
            (pa_cons (pe_callB call_len_seq (by rfl) T.f_len PySem.boot_len (pa_cons (pe_prop (pv 4) T.cls_OverPart T.p_OverPart_unknowns G10 hr1 b10 .nil pass0 rfl) pa_nil)) (pa_cons (pe_prop (pv 4) T.cls_OverPart T.p_OverPart_surplus G11 hr1 b11 .nil pass0 rfl) pa_nil))))
          (pe_tup (pa_cons (pe_callB cr_sortedS (by rfl) T.f_sorted boot_sorted (pa_cons (pv 1) pa_nil)) (pa_cons (pe_op op_sub (pe_callB call_len_seq (by rfl) T.f_len PySem.boot_len (pa_cons (pv 1) pa_nil)) pe_int) (pa_cons pe_int pa_nil)))) rfl) (pss_one (ps_ret pe_bl)) pss_nil)
      (pss_cons (ps_expr (pe_methR (pv 0) T.cls_System T.m_System_add_unknown M12 hr7 pass0 (pa_cons (pe_ix ix_list (pv 2) pe_int (fun _ _ => rfl)) pa_nil)))
      (pss_cons (ps_expr (pe_meth (pv 0) T.cls_System T.m_System_add_entry G13 hr7 b13 .nil pass0 (pa_cons (pe_ix ix_list (pv 1) pe_int (fun _ _ => rfl)) (pa_cons (pe_ix ix_list (pv 2) pe_int (fun _ _ => rfl)) pa_nil))))
      (pss_cons (ps_expr (pe_meth (pv 0) T.cls_System T.m_System_remove_equation G14 hr7 b14 .nil pass0 (pa_cons (pe_ix ix_list (pv 1) pe_int (fun _ _ => rfl)) pa_nil)))
      (pss_cons (pset (i := 5) nd (pe_prop (pe_prop (pv 0) T.cls_System T.p_System_structure G1 hr b1 .nil pass0 rfl) T.cls_Structure T.p_Structure_under G15 hr1 b15 .nil pass0 rfl))
      (pss_cons (ps_if (PW.pt (pw_and (pt_cmpR op_ne (pe_ix ix_list (pv 1) pe_int (fun _ _ => rfl)) (pe_ix ix_list (pv 1) pe_int (fun _ _ => rfl)) rfl)
          (pw_and1 (pt_cmpR op_ne (pe_prop (pe_prop (pv 0) T.cls_System T.p_System_structure G1 hr b1 .nil pass0 rfl) T.cls_Structure T.p_Structure_rank G4 hr1 b4 .nil pass0 rfl) (pe_op op_sub (pe_callB call_len_seq (by rfl) T.f_len PySem.boot_len (pa_cons (pv 1) pa_nil)) pe_int) rfl)))) (pss_one (ps_ret pe_bl)) pss_nil)
      (pss_one (ps_ret (pe_and (pe_cmpR op_eq (pe_prop (pv 5) T.cls_UnderPart T.p_UnderPart_surplus G17 hr1 b17 .nil pass0 rfl) (pe_un un_neg pe_int) rfl)
        (pe_one (pe_cmpR op_in_seq (pe_ix ix_list (pv 2) pe_int (fun _ _ => rfl)) (pe_prop (pv 5) T.cls_UnderPart T.p_UnderPart_unknowns G16 hr1 b16 .nil pass0 rfl) rfl))))))))))))))), ?_⟩
    obtain ⟨n0, hn0⟩ := at24 g.nl 0 (by decide)
    obtain ⟨n2, hn2⟩ := at24 g.nl 2 (by decide)
    obtain ⟨n3, hn3⟩ := at24 g.nl 3 (by decide)
    obtain ⟨n5, hn5⟩ := at24 g.nl 5 (by decide)
    obtain ⟨o0, ho0⟩ := at24 g.ol 0 (by decide)
    obtain ⟨o2, ho2⟩ := at24 g.ol 2 (by decide)
    obtain ⟨o5, ho5⟩ := at24 g.ol 5 (by decide)
    have g0 := g.nl
    have g1 := g.ol
    have Nsh : ∀ {l : List Str}, l.Perm N → ∀ x ∈ l, NameOk x := fun {l} pm x hx => g.nok x (pm.mem_iff.mp hx)
    have Osh : ∀ {l : List Str}, l.Perm O → ∀ x ∈ l, NameOk x := fun {l} pm x hx => g.ook x (pm.mem_iff.mp hx)
    have eok0 : ∀ e ∈ G.es, NameOk e := fun e he => g.nok e ((g.es e).mp he)
    have uok0 : ∀ u ∈ G.us, NameOk u := fun u hu' => g.ook u ((g.us u).mp hu')
    obtain ⟨dxa, ca, oa, pa', ha⟩ := hS.ins
    refine ⟨_, rfl, a, dxa, _, rfl, ha, a, p, n, G, rfl, hS, eok0, uok0, g.hall, g.cov, fun s E1 U1 Rw1 d H1 s1 ns hOf hSt hOk => ?_⟩
    obtain ⟨⟨b, hB, by1, by2, bz1, bz2⟩, hMl, hC, hwes, hoes, hues, hQ⟩ := g.one hOf hOk
    have pE := hOf.pe g
    have pU := hOf.pu g
    have hNm : StNm d := hOk.nm (Nsh pE) (Osh pU)
    have hBl : d.Bs.length ≤ 24 := by rw [hB]; show 1 ≤ 24; decide
    have bbB : ∀ b' ∈ d.Bs, b' = b := fun b' hb' => by rw [hB] at hb'; exact List.mem_singleton.mp hb'
    have by24 : b.ys.length = 24 := by rw [by1.length_eq]; exact g.nl
    have bz24 : b.zs.length = 24 := by rw [bz1.length_eq]; exact g.ol
    -- the first test
    refine ⟨_, rfl, s, d.dx, _, rfl, hSt.at_, s, d.dx, _, .ref d.bl, rfl, hSt.at_, rfl, d.bl, d.Bs, rfl, SqT.of hSt.bl, hBl, fun b' hb' => ⟨hSt.bk b' hb', by rw [bbB b' hb']; omega, by rw [bbB b' hb']; omega⟩, fun lp Lw H2 s2 nlp hlp hLw hmap => ?_⟩
    have s12 := s1.trans s2
    refine ⟨_, rfl, nl, N, rfl, s12.seq hN, by omega, fun ys1 p1 pm1 sr1 np1 => ⟨_, rfl, ol, O, rfl, (Same.new s12 np1).seq hO, by omega, fun ys2 p2 pm2 sr2 np2 => ⟨small (by show 2 ≤ 1000; decide), fun tp ntp => ⟨small (by show 1 ≤ 1000; decide), fun lq nlq => ?_⟩⟩⟩⟩
    have k1 := same_new np1 (o := .lst (ys1.map V.str))
    have k2 := same_new np2 (o := .lst (ys2.map V.str))
    have k3 := same_new ntp (o := .tup [.ref p1, .ref p2])
    have k4 := same_new nlq (o := .lst [.ref tp])
    have k14 := ((k1.trans k2).trans k3).trans k4
    have hswL : ∃ r, Lw = [r] ∧ r.ys = b.ys ∧ r.zs = b.zs := by
      rw [hB] at hmap
      cases Lw with
      | nil => exact absurd (congrArg List.length hmap) (by simp)
      | cons r t =>
        cases t with
        | nil =>
          have := List.singleton_inj.mp hmap
          exact ⟨r, rfl, congrArg Prod.fst this, congrArg Prod.snd this⟩
        | cons r2 t => exact absurd (congrArg List.length hmap) (by simp)
    obtain ⟨r, rfl, hry, hrz⟩ := hswL
    have ey : b.ys = ys1 := sortedS_eq (by1.trans pm1.symm) by2 sr1
    have ez : b.zs = ys2 := sortedS_eq (bz1.trans pm2.symm) bz2 sr2
    have shL : Sh 3 (.list [.tuple [.list (strD ys1), .list (strD ys2)]]) := Sh.list fun y hy => by
      rw [List.mem_singleton.mp hy]
      refine Sh.tuple fun z hz => ?_
      rcases List.mem_cons.mp hz with h | h
      · rw [h]; exact Sh.list (sh_names (Nsh pm1))
      · rw [List.mem_singleton.mp h]; exact Sh.list (sh_names (Osh pm2))
    have eD : swD [r] = [.tuple [.list (strD ys1), .list (strD ys2)]] := by
      show [PyData.tuple [.list (strD r.ys), .list (strD r.zs)]] = _
      rw [hry, hrz, ey, ez]
    have hp1 : (upd (upd (upd (upd H2 p1 (.lst (ys1.map V.str))) p2 (.lst (ys2.map V.str))) tp (.tup [.ref p1, .ref p2])) lq (.lst [.ref tp])) p1 = some (.lst (txs ys1)) := k4 _ _ (k3 _ _ (k2 _ _ upd_same))
    have hp2 : (upd (upd (upd (upd H2 p1 (.lst (ys1.map V.str))) p2 (.lst (ys2.map V.str))) tp (.tup [.ref p1, .ref p2])) lq (.lst [.ref tp])) p2 = some (.lst (txs ys2)) := k4 _ _ (k3 _ _ upd_same)
    have hptp : (upd (upd (upd (upd H2 p1 (.lst (ys1.map V.str))) p2 (.lst (ys2.map V.str))) tp (.tup [.ref p1, .ref p2])) lq (.lst [.ref tp])) tp = some (.tup [.ref p1, .ref p2]) := k4 _ _ upd_same
    obtain ⟨H3, eH3⟩ : ∃ H3, H3 = (upd (upd (upd (upd H2 p1 (.lst (ys1.map V.str))) p2 (.lst (ys2.map V.str))) tp (.tup [.ref p1, .ref p2])) lq (.lst [.ref tp])) := ⟨_, rfl⟩
    have hlq : H3 lq = some (.lst [.ref tp]) := by rw [eH3]; exact upd_same
    rw [← eH3] at k14 hp1 hp2 hptp ⊢
    have s13 := s12.trans k14
    have hSt3 := (hSt.same s2).same k14
    refine ⟨.list (swD [r]), .list [.tuple [.list (strD ys1), .list (strD ys2)]], .lst (SqL.of (k14 _ _ hlp)) (dp_sw fun r' hr' => (hLw r' hr').same k14), .lst (SqL.of hlq) (.cons (.tup (SqT.of hptp) (.cons (.lst (SqL.of hp1) (dp_txs _)) (.cons (.lst (SqL.of hp2) (dp_txs _)) .nil))) .nil), by rw [eD]; exact shL.shaped, shL.shaped, _, rfl, ?_⟩
    rw [eD, shL.self]
    refine iteF ⟨_, rfl, s, d.dx, _, rfl, hSt3.at_, s, d.dx, d.gv, _, tk (sd d.M), rfl, hSt3.at_, rfl, hSt3.given, _, rfl, nl, txs N, rfl, .inl (s13.seq hN), rfl, _, rfl, ?_⟩
    refine ifNF (by rw [tk_len, sd_len, hMl, txs_len, g.nl]) ?_
    -- the second test
    have hsub1 : ∀ e ∈ E1, ∀ u ∈ Rw1 e, u ∈ U1 := fun e he u hu' => (hOf.us u).mpr ((hOf.row e he u).mp hu').1
    have n0E : n0 ∈ E1 := pE.mem_iff.mpr (List.mem_of_getElem? hn0)
    have hmem : (n0, o0) ∈ d.Ps.map (·.1) := hOk.inPs n0E ((hOf.row n0 n0E o0).mpr ⟨(g.us o0).mpr (List.mem_of_getElem? ho0), g.diag 0 n0 o0 hn0 ho0⟩)
    refine ⟨_, rfl, s, d.dx, _, rfl, hSt3.at_, rfl, _, rfl, nl, txs N, 0, .str n0, rfl, rfl, s13.seq hN, atI_nat (j := 0) (txs_get hn0), _, rfl, ol, txs O, 0, .str o0, rfl, rfl, s13.seq hO, atI_nat (j := 0) (txs_get ho0), s, d, n0, o0, rfl, hSt3, Sh.name (g.nok n0 (List.mem_of_getElem? hn0)), Sh.name (g.ook o0 (List.mem_of_getElem? ho0)), hOk.psn (Nsh pE) (Osh pU) hsub1, hmem, hoes, hues, hBl, fun b' hb' => by rw [bbB b' hb']; omega, fun H4 s4 => ⟨rfl, _, rfl, ?_⟩⟩
    have hkind : kindOf d.Bs n0 o0 = "some" := by
      unfold kindOf
      rw [hB, List.find?_cons_of_pos (by rw [decide_eq_true (by1.mem_iff.mpr (List.mem_of_getElem? hn0)), decide_eq_true (bz1.mem_iff.mpr (List.mem_of_getElem? ho0))]; rfl)]
      show (if b.ys.length = 1 then ("all" : Str) else "some") = "some"
      rw [if_neg (by omega)]
    refine ifNF (by rw [hkind]) ?_
    have hSt4 := hSt3.same s4
    have s14 := s13.trans s4
    have n3N : n3 ∈ N := List.mem_of_getElem? hn3
    have n3e : n3 ∈ d.es := (hOk.mem_es n3).mpr (pE.mem_iff.mpr n3N)
    refine ⟨_, rfl, s, d.dx, _, rfl, hSt4.at_, rfl, _, rfl, nl, txs N, 3, .str n3, rfl, rfl, s14.seq hN, atI_nat (j := 3) (txs_get hn3), s, d, n3, rfl, hSt4, hNm, n3e, hwes.mem_iff.mpr n3N, by rw [hQ]; exact n3e, fun t5 ys5 H5 s5 nt5 ht5 pm5 sr5 => ?_⟩
    have s15 := s14.trans s5
    refine ⟨_, rfl, nl, N, rfl, s15.seq hN, by omega, fun ys6 p6 pm6 sr6 np6 => ⟨p6, _, rfl, .inl ⟨SqL.of upd_same, fun t6 nt6 => ?_⟩⟩⟩
    have k6 := Same.new (same_new np6 (o := .lst (ys6.map V.str))) nt6 (o := .tup (ys6.map V.str))
    have e56 : ys5 = ys6 := sortedS_eq ((pm5.trans (hC n3 n3N)).trans pm6.symm) sr5 sr6
    have sh6 : Sh 1 (.tuple (strD ys6)) := Sh.tuple (sh_names (Nsh pm6))
    refine ⟨.tuple (strD ys5), .tuple (strD ys6), .tup (SqT.of (k6 _ _ ht5)) (dp_txs _), .tup (SqT.of upd_same) (dp_txs _), by rw [e56]; exact sh6.shaped, sh6.shaped, _, rfl, ?_⟩
    rw [e56, sh6.self]
    refine iteF ?_
    have s16 := s15.trans k6
    obtain ⟨H6, eH6⟩ : ∃ H6, H6 = upd (upd H5 p6 (.lst (ys6.map V.str))) t6 (.tup (ys6.map V.str)) := ⟨_, rfl⟩
    rw [← eH6] at s16 ⊢
    -- one unknown less
    have o5O : o5 ∈ O := List.mem_of_getElem? ho5
    have o5G : o5 ∈ G.us := (g.us o5).mpr o5O
    refine ⟨_, rfl, a, dxa, _, rfl, s16 _ _ ha, rfl, _, rfl, ol, txs O, 5, .str o5, rfl, rfl, s16.seq hO, atI_nat (j := 5) (txs_get ho5), a, p, n, G, o5, rfl, hS.same s16, by omega, g.ook o5 o5O, o5G, fun H7 b7 hS7 => ?_⟩
    have c7 : But [a, p] H H7 := (Same.but s16 _).trans b7
    obtain ⟨dx7, cc7, oo7, pp7, ha7⟩ := hS7.ins
    refine ⟨_, rfl, a, dx7, _, rfl, ha7, a, p, n + 1, G.remU o5, rfl, hS7, eok0, fun u hu' => uok0 u (List.mem_filter.mp hu').1, g.hallB, g.covB, fun s2' E2 U2 Rw2 d2 H8 s8 ns2 hOf2 hSt2 hOk2 => ?_⟩
    have c8 := but2_same c7 s8
    have hS8 := hS7.same s8
    obtain ⟨pOes, sOes, lOus⟩ := g.lessU o5O hOf2 hOk2
    refine ⟨s2', d2.dx, _, rfl, hSt2.at_, s2', d2.dx, _, .ref d2.ov, rfl, hSt2.at_, rfl, ?_⟩
    have hN8 := SqL.but2 hN c8 ha hnp
    have hO8 := SqL.but2 hO c8 ha hop
    refine ⟨_, rfl, d2.ov, d2.odx, _, rfl, hSt2.over, d2.ov, d2.odx, _, .ref d2.oe, rfl, hSt2.over, rfl, d2.oe, txs d2.oes, rfl, .inr (SqT.of hSt2.oe), fun l1 nl1 => ?_⟩
    have q1 := same_new nl1 (o := .lst (txs d2.oes))
    have hSt2b := hSt2.same q1
    refine ⟨_, rfl, d2.ov, d2.odx, _, rfl, hSt2b.over, d2.ov, d2.odx, _, .ref d2.ou, rfl, hSt2b.over, rfl, d2.ou, txs d2.ous, rfl, .inr (SqT.of hSt2b.ou), _, rfl, d2.ov, d2.odx, _, rfl, hSt2b.over, d2.ov, d2.odx, d2.oe, d2.ou, d2.ol, txs d2.oes, txs d2.ous, rfl, hSt2b.over, SqT.of hSt2b.oe, SqT.of hSt2b.ou, small (by show 3 ≤ 1000; decide), fun t3 nt3 => ?_⟩
    have q2 := same_new nt3 (o := .tup [.ref l1, .int ((txs d2.ous).length : Nat), .int (((txs d2.oes).length : Int) - ((txs d2.ous).length : Int))])
    have q12 := q1.trans q2
    refine ⟨_, rfl, nl, N, rfl, q12.seq hN8, by omega, fun ys4 p4 pm4 sr4 np4 => ?_⟩
    have q3 := same_new np4 (o := .lst (ys4.map V.str))
    have q13 := q12.trans q3
    refine ⟨_, rfl, nl, txs N, rfl, .inl (q13.seq hN8), _, _, rfl, rfl, small (by show 3 ≤ 1000; decide), fun t4 nt4 => ?_⟩
    have q4 := same_new nt4 (o := .tup [.ref p4, .int (((txs N).length : Int) - 1), .int 1])
    have q14 := q13.trans q4
    have oes4 : d2.oes = ys4 := sortedS_eq (pOes.trans pm4.symm) sOes sr4
    have sh4 : Sh 2 (.tuple [.list (strD ys4), .int 23, .int 1]) := Sh.tuple fun z hz => by
      rcases List.mem_cons.mp hz with h | h
      · rw [h]; exact Sh.list (sh_names (Nsh pm4))
      · rcases List.mem_cons.mp h with h | h
        · rw [h]; exact (Sh.int _).mono (by decide)
        · rw [List.mem_singleton.mp h]; exact (Sh.int _).mono (by decide)
    have len1 : ((txs d2.ous).length : Int) = 23 := by rw [txs_len, lOus]; rfl
    have len2 : ((txs d2.oes).length : Int) = 24 := by rw [txs_len, pOes.length_eq, g.nl]; rfl
    have len3 : ((txs N).length : Int) = 24 := by rw [txs_len, g.nl]; rfl
    obtain ⟨H9, eH9⟩ : ∃ H9, H9 = upd (upd (upd (upd H8 l1 (.lst (txs d2.oes))) t3 (.tup [.ref l1, .int ((txs d2.ous).length : Nat), .int (((txs d2.oes).length : Int) - ((txs d2.ous).length : Int))])) p4 (.lst (ys4.map V.str))) t4 (.tup [.ref p4, .int (((txs N).length : Int) - 1), .int 1]) := ⟨_, rfl⟩
    have v1 : H9 t3 = some (.tup [.ref l1, .int ((txs d2.ous).length : Nat), .int (((txs d2.oes).length : Int) - ((txs d2.ous).length : Int))]) := by rw [eH9]; exact (q3.trans q4) _ _ upd_same
    have v2 : H9 l1 = some (.lst (txs d2.oes)) := by rw [eH9]; exact (q2.trans (q3.trans q4)) _ _ upd_same
    have v3 : H9 t4 = some (.tup [.ref p4, .int (((txs N).length : Int) - 1), .int 1]) := by rw [eH9]; exact upd_same
    have v4 : H9 p4 = some (.lst (txs ys4)) := by rw [eH9]; exact q4 _ _ upd_same
    rw [← eH9] at q14 ⊢
    refine ⟨.tuple [.list (strD d2.oes), .int ((txs d2.ous).length : Nat), .int (((txs d2.oes).length : Int) - ((txs d2.ous).length : Int))], .tuple [.list (strD ys4), .int (((txs N).length : Int) - 1), .int 1],
      .tup (SqT.of v1) (.cons (.lst (SqL.of v2) (dp_txs _)) (.cons (.int _) (.cons (.int _) .nil))), .tup (SqT.of v3) (.cons (.lst (SqL.of v4) (dp_txs _)) (.cons (.int _) (.cons (.int _) .nil))), by rw [oes4] at len2 ⊢; rw [len1, len2]; exact sh4.shaped, by rw [len3]; exact sh4.shaped, _, rfl, ?_⟩
    rw [oes4] at len2 ⊢
    rw [len1, len2, len3]
    rw [show ((24 : Int) - 23) = 1 from rfl, show ((24 : Int) - 1) = 23 from rfl, sh4.self]
    refine iteF ?_
    -- one equation less
    have c9 := but2_same c8 q14
    have hS9 := hS8.same q14
    have hN9 := SqL.but2 hN c9 ha hnp
    have hO9 := SqL.but2 hO c9 ha hop
    obtain ⟨dx9, cc9, oo9, pp9, ha9⟩ := hS9.ins
    have o5no : o5 ∉ (G.remU o5).us := fun hm => by
      have := (List.mem_filter.mp hm).2
      simp at this
    have lus : (G.remU o5).us.length + 1 ≤ 24 := by
      have e1 := filter_split (fun u => !decide (u = o5)) G.us
      have e2 : 0 < (G.us.filter fun u => !(!decide (u = o5))).length := List.length_pos_of_mem (a := o5) (by rw [List.mem_filter]; exact ⟨o5G, by simp⟩)
      have e3 := hS.ulen
      show (G.us.filter fun u => !decide (u = o5)).length + 1 ≤ 24
      omega
    refine ⟨_, rfl, a, dx9, _, rfl, ha9, rfl, _, rfl, ol, txs O, 5, .str o5, rfl, rfl, hO9, atI_nat (j := 5) (txs_get ho5), a, p, n + 1, G.remU o5, o5, rfl, hS9, by omega, g.ook o5 o5O, o5no, lus, fun H10 b10 hS10 => ?_⟩
    have c10 := c9.trans b10
    have hN10 := SqL.but2 hN c10 ha hnp
    have hO10 := SqL.but2 hO c10 ha hop
    obtain ⟨dx10, cc10, oo10, pp10, ha10⟩ := hS10.ins
    have n5N : n5 ∈ N := List.mem_of_getElem? hn5
    have n2N : n2 ∈ N := List.mem_of_getElem? hn2
    have adj0 : ((G.remU o5).addU o5).adj n5 o5 = false := by
      show (G.adj n5 o5 && !decide (o5 = o5)) = false
      simp
    refine ⟨_, rfl, a, dx10, _, rfl, ha10, rfl, _, rfl, nl, txs N, 5, .str n5, rfl, rfl, hN10, atI_nat (j := 5) (txs_get hn5), _, rfl, ol, txs O, 5, .str o5, rfl, rfl, hO10, atI_nat (j := 5) (txs_get ho5), a, p, n + 1 + 1, (G.remU o5).addU o5, n5, o5, rfl, hS10, by omega, g.nok n5 n5N, g.ook o5 o5O, (g.es n5).mpr n5N, List.mem_append.mpr (.inr (List.mem_singleton.mpr rfl)), adj0, fun H11 b11 hS11 => ?_⟩
    have c11 := c10.trans b11
    have hN11 := SqL.but2 hN c11 ha hnp
    obtain ⟨dx11, cc11, oo11, pp11, ha11⟩ := hS11.ins
    refine ⟨_, rfl, a, dx11, _, rfl, ha11, rfl, _, rfl, nl, txs N, 2, .str n2, rfl, rfl, hN11, atI_nat (j := 2) (txs_get hn2), a, p, n + 1 + 1 + 1, ((G.remU o5).addU o5).addP n5 o5, n2, rfl, hS11, by omega, g.nok n2 n2N, (g.es n2).mpr n2N, fun H12 b12 hS12 => ?_⟩
    have c12 := c11.trans b12
    have hS12' : SysAt K H12 a p (n + 1 + 1 + 1 + 1) (grfC G n2 n5 o5) := hS12
    obtain ⟨hallC, covC, factC⟩ := g.lessE hn2 ho2 hn5 ho5
    have eokC : ∀ e ∈ (grfC G n2 n5 o5).es, NameOk e := fun e he => eok0 e ((grfC_es G n2 n5 o5 e).mp he).1
    have uokC : ∀ u ∈ (grfC G n2 n5 o5).us, NameOk u := fun u hu' => uok0 u ((grfC_us G n2 n5 o5 u o5G).mp hu')
    obtain ⟨dx12, cc12, oo12, pp12, ha12⟩ := hS12'.ins
    refine ⟨_, rfl, a, dx12, _, rfl, ha12, a, p, n + 1 + 1 + 1 + 1, grfC G n2 n5 o5, rfl, hS12', eokC, uokC, hallC, covC, fun s3' E3 U3 Rw3 d3 H13 s13' ns3 hOf3 hSt3' hOk3 => ?_⟩
    obtain ⟨hM3, hlen3, ho2u⟩ := factC hOf3 hOk3
    refine ⟨s3', d3.dx, _, rfl, hSt3'.at_, s3', d3.dx, _, .ref d3.un, rfl, hSt3'.at_, rfl, ?_⟩
    have c13 := but2_same c12 s13'
    have hS13 := hS12'.same s13'
    have hN13 := SqL.but2 hN c13 ha hnp
    have hO13 := SqL.but2 hO c13 ha hop
    obtain ⟨dx13, cc13, oo13, pp13, ha13⟩ := hS13.ins
    refine ⟨_, rfl, nl, txs N, 5, .str n5, rfl, rfl, hN13, atI_nat (j := 5) (txs_get hn5), _, rfl, nl, txs N, 2, .str n2, rfl, rfl, hN13, atI_nat (j := 2) (txs_get hn2), rfl, _, rfl, ?_⟩
    have ne52 : n5 ≠ n2 := fun z => by
      have := at_inj g.nnd hn5 (z ▸ hn2)
      cases this
    refine ifNT (fun z => ne52 (by injection z)) ?_
    refine ⟨_, rfl, a, dx13, _, rfl, ha13, a, p, n + 1 + 1 + 1 + 1, grfC G n2 n5 o5, rfl, hS13, eokC, uokC, hallC, covC, fun s4' E4 U4 Rw4 d4 H14 s14' ns4 hOf4 hSt4' hOk4 => ?_⟩
    obtain ⟨hM4, _, _⟩ := factC hOf4 hOk4
    have c14 := but2_same c13 s14'
    have hN14 := SqL.but2 hN c14 ha hnp
    have hO14 := SqL.but2 hO c14 ha hop
    refine ⟨s4', d4.dx, _, rfl, hSt4'.at_, s4', d4.dx, d4.gv, _, tk (sd d4.M), rfl, hSt4'.at_, rfl, hSt4'.given, _, rfl, nl, txs N, rfl, .inl hN14, _, _, rfl, rfl, rfl, _, rfl, ?_⟩
    refine ifNF (by rw [tk_len, sd_len, hM4, txs_len, g.nl]; rfl) ?_
    have hSt5 := hSt3'.same s14'
    have lu : ((txs d3.ues).length : Int) - ((txs d3.uus).length : Int) = -1 := by
      rw [txs_len, txs_len, hlen3]
      omega
    refine ⟨_, rfl, d3.un, d3.udx, _, rfl, hSt5.under, d3.un, d3.udx, d3.ue, d3.uu, d3.ul, txs d3.ues, txs d3.uus, rfl, hSt5.under, SqT.of hSt5.ue, SqT.of hSt5.uu, ?_⟩
    rw [lu]
    refine ⟨_, rfl, rfl, _, rfl, ?_⟩
    refine iteT ⟨_, rfl, ol, txs O, 2, .str o2, rfl, rfl, hO14, atI_nat (j := 2) (txs_get ho2), _, rfl, d3.un, d3.udx, _, rfl, hSt5.under, d3.un, d3.udx, _, .ref d3.uu, rfl, hSt5.under, rfl, d3.uu, txs d3.uus, rfl, .inr (SqT.of hSt5.uu), rfl, txs_flat _, ?_⟩
    rw [inV_txs, decide_eq_true ho2u]
    exact q _ c14
end
end Bo

/-! LW -/
set_option Elab.async false
set_option linter.all false
set_option maxRecDepth 100000
set_option maxHeartbeats 1000000
/-! Comprehensions that make objects, by what is true of the i-th one. -/
namespace Bo
open PySem PySem.Spec PyProof.Rows L2
section
variable {J : It} {n : Nat} {G : Hp → Prop} {Y : Nat → Hp → V → Hp → Prop} {β : Type}
theorem lc_obs (w : Walk J n G Y) {g : TG} {tt : TT} {te : TE} {vs : List Nat} {σ : L2.St} {H1 : Hp} {D : Addr} {Qd : Hp → Prop} (hD : H1 D = none) (Ob : Nat → β → Hp → Prop) (ad : β → Addr) (mono : ∀ i b H H', Ob i b H → Same H H' → Ob i b H') (hn : n ≤ 1000)
    (hG : ∀ H, Same H1 H → G H) (hY : ∀ i H x H', Y i H x H' → H' = H)
    (hs : ∀ i x H (R : V → Hp → Prop) (N : Hp → Prop), i < n → Same H1 H → (∃ l, H D = some (.lst l)) → Y i H x H → (∀ b H', Same H H' → Ob i b (wo D H') → R (.ref (ad b)) H') →
      g x (wipe σ vs) H fun σ2 H2 => wipe σ2 vs = wipe σ vs ∧ tt σ2 H2 fun b H3 => if b = true then te σ2 H3 R else N H3)
    (hd : ∀ H (L : List β), Same H1 H → H D = some (.lst (L.map fun b => V.ref (ad b))) → L.length = n → (∀ i b, L[i]? = some b → Ob i b H) → Qd H) :
    ∃ W : Nat → Nat → Hp → Prop, (∃ m, W 0 m (upd H1 D (.lst []))) ∧ ∀ i m H, W i m H →
      (J.stop i H ∧ Qd H) ∨ (J.go i H ∧ ∃ Nx : Hp → Prop, (∀ H', Nx H' → ∃ m', m' < m ∧ W (i + 1) m' H') ∧ ∀ x H', J.yld i H x H' → g x (wipe σ vs) H' fun σ2 H2 => wipe σ2 vs = wipe σ vs ∧ tt σ2 H2 fun b H3 =>
        if b = true then te σ2 H3 fun y H4 => ∃ acc, H4 D = some (.lst acc) ∧ acc.length < sizeLine ∧ Nx (upd H4 D (.lst (acc ++ [y]))) else Nx H3) := by
  refine lc_it w (fun i H => Same H1 H ∧ ∃ L : List β, H D = some (.lst (L.map fun b => V.ref (ad b))) ∧ L.length = i ∧ ∀ j b, L[j]? = some b → Ob j b (wo D H)) ⟨same_new hD, [], upd_same, rfl, fun j b h => by simp at h⟩ (fun i H _ p => hG H p.1) (fun i x H H' hi p y => ?_) (fun H p => ?_)
  · obtain ⟨s1, L, hL, hl, hO⟩ := p
    obtain rfl := hY _ _ _ _ y
    refine hs i x _ _ _ hi s1 ⟨_, hL⟩ y fun b H'' s2 ob => ?_
    refine ⟨_, s2 _ _ hL, small1000 (by rw [List.length_map]; omega), Same.over (s1.trans s2) hD, L ++ [b], by rw [upd_same, List.map_append]; rfl, by rw [List.length_append, hl]; rfl, fun j b2 hb2 => ?_⟩
    rw [wo_upd]
    rcases Nat.lt_or_ge j L.length with h | h
    · rw [List.getElem?_append_left h] at hb2
      exact mono _ _ _ _ (hO j b2 hb2) (wo_same s2)
    · rw [List.getElem?_append_right h] at hb2
      have e : j - L.length = 0 := by
        have := (List.getElem?_eq_some_iff.mp hb2).1
        simp at this
        omega
      rw [e] at hb2
      obtain rfl := Option.some.inj hb2
      rw [show j = i by omega]
      exact ob
  · obtain ⟨s1, L, hL, hl, hO⟩ := p
    exact hd H L s1 hL hl fun i b h => mono _ _ _ _ (hO i b h) wo_sub
end
theorem yat_eq {xs : List V} : ∀ i H x H', YAt xs i H x H' → H' = H := fun _ _ _ _ y => y.1
theorem yfn_eq {f : Nat → V} : ∀ i H x H', YFn f i H x H' → H' = H := fun _ _ _ _ y => y.1
/-- the statement that the law makes of the chain's blocks: its left side -/
def walkE : Expr := match (((defBody d_law.st)[5]?) : Option Stmt) with
  | some (Stmt.If (Expr.Compare l _ _ _) _ _ _) => l
  | _ => Expr.Tuple [] 0 ⟨0, 0, 0, 0⟩
end Bo

/-! Z5 -/
set_option Elab.async false
set_option linter.all false
set_option maxRecDepth 100000
set_option maxHeartbeats 1000000
/-! The law's three graphs. -/
namespace Bo
open PySem PySem.Spec PyProof.Rows L2
/-- a graph by rows that stand in a list -/
structure RowG (G : Grf) (N O : List Str) (row : Nat → List Str) : Prop where
  es : G.es = N
  us : ∀ u, u ∈ G.us ↔ u ∈ O
  adj : ∀ (k : Nat) (x : Str), N[k]? = some x → ∀ u, G.adj x u = decide (u ∈ row k)
/-- the names of the law -/
structure Nms (N O : List Str) : Prop where
  nl : N.length = 24
  ol : O.length = 24
  nnd : N.Nodup
  ond : O.Nodup
  nok : ∀ x ∈ N, NameOk x
  ook : ∀ x ∈ O, NameOk x
section
variable {G : Grf} {N O : List Str}
theorem Nms.at (m : Nms N O) {k : Nat} (hk : k < 24) : ∃ x y, N[k]? = some x ∧ O[k]? = some y := ⟨_, _, List.getElem?_eq_getElem (by rw [m.nl]; exact hk), List.getElem?_eq_getElem (by rw [m.ol]; exact hk)⟩
theorem lt24 {l : List Str} (h : l.length = 24) {k : Nat} {x : Str} (hx : l[k]? = some x) : k < 24 := by
  have := (List.getElem?_eq_some_iff.mp hx).1
  omega
/-! ### the ring -/
def ringRow (O : List Str) (k : Nat) : List Str := [O.getD k "", O.getD ((k + 1) % 24) ""]
theorem getD_at {l : List Str} {k : Nat} {x : Str} (h : l[k]? = some x) : l.getD k "" = x := by
  rw [List.getD_eq_getElem?_getD, h]
  rfl
/-- a proper part of the ring has an equation whose next one lies outside -/
theorem ring_edge (m : Nms N O) {S : List Str} (ne : S ≠ []) (hs : ∀ x ∈ S, x ∈ N) (he : ∃ e ∈ N, e ∉ S) : ∃ (k : Nat) (x y : Str), k < 24 ∧ N[k]? = some x ∧ x ∈ S ∧ N[(k + 1) % 24]? = some y ∧ y ∉ S := by
  apply Classical.byContradiction
  intro hc
  have step : ∀ (k : Nat) (x : Str), k < 24 → N[k]? = some x → x ∈ S → ∀ y, N[(k + 1) % 24]? = some y → y ∈ S := fun k x hk hx hxS y hy => Classical.byContradiction fun hn => hc ⟨k, x, y, hk, hx, hxS, hy, hn⟩
  obtain ⟨e, heN, heS⟩ := he
  obtain ⟨x0, hx0⟩ : ∃ x, x ∈ S := by
    cases S with
    | nil => exact absurd rfl ne
    | cons x _ => exact ⟨x, List.mem_cons_self⟩
  obtain ⟨k0, hk0⟩ := List.getElem?_of_mem (hs x0 hx0)
  have l0 := lt24 m.nl hk0
  have go : ∀ (j : Nat) (y : Str), N[(k0 + j) % 24]? = some y → y ∈ S := by
    intro j
    induction j with
    | zero =>
      intro y hy
      rw [Nat.add_zero, Nat.mod_eq_of_lt l0, hk0] at hy
      rw [← Option.some.inj hy]
      exact hx0
    | succ j ih =>
      intro y hy
      have hlt : (k0 + j) % 24 < 24 := Nat.mod_lt _ (by decide)
      obtain ⟨x, _, hx, _⟩ := m.at hlt
      exact step _ x hlt hx (ih x hx) y (by rw [show ((k0 + j) % 24 + 1) % 24 = (k0 + (j + 1)) % 24 by omega]; exact hy)
  obtain ⟨i, hi⟩ := List.getElem?_of_mem heN
  have li := lt24 m.nl hi
  refine heS (go (i + 24 - k0) e ?_)
  rw [show (k0 + (i + 24 - k0)) % 24 = i by omega]
  exact hi
theorem ring_one (m : Nms N O) (g : RowG G N O (ringRow O)) : OneG G N O := by
  have rowAt : ∀ {k : Nat} {y z : Str}, O[k]? = some y → O[(k + 1) % 24]? = some z → ringRow O k = [y, z] := fun {k y z} h1 h2 => by
    unfold ringRow
    rw [getD_at h1, getD_at h2]
  have nextO : ∀ k : Nat, ∃ z, O[(k + 1) % 24]? = some z := fun k => by
    obtain ⟨_, z, _, h⟩ := m.at (k := (k + 1) % 24) (Nat.mod_lt _ (by decide))
    exact ⟨z, h⟩
  have dg : ∀ (k : Nat) (x y : Str), N[k]? = some x → O[k]? = some y → G.adj x y = true := fun k x y hx hy => by
    obtain ⟨z, hz⟩ := nextO k
    rw [g.adj k x hx, rowAt hy hz]
    simp
  refine ⟨m.nl, m.ol, m.nnd, m.ond, m.nok, m.ook, fun e => by rw [g.es], g.us, dg, fun x y hx hy => ?_, fun S T nd ne hs he hc => ?_⟩
  · obtain ⟨_, y1, _, h1⟩ := m.at (k := 1) (by decide)
    rw [g.adj 1 x hx, rowAt h1 (show O[(1 + 1) % 24]? = some y from hy)]
    simp
  · obtain ⟨k, x, y, hk, hx, hxS, hy, hyS⟩ := ring_edge m ne hs he
    obtain ⟨_, u, _, hu⟩ := m.at hk
    obtain ⟨z, hz⟩ := nextO k
    have hln : N.length = O.length := by rw [m.nl, m.ol]
    have hzT : z ∈ T := hc x hxS z (List.mem_of_getElem? hz) (by rw [g.adj k x hx, rowAt hu hz]; simp)
    have hle := len_le_of_inj (S := S) (T := T.filter fun u => !decide (u = z)) (pairOf N O) nd (fun e he => ?_) (fun e he f hf eq => pairOf_inj hln m.nnd m.ond (hs e he) (hs f hf) eq)
    · have e1 := filter_split (fun u => !decide (u = z)) T
      have e2 : 0 < (T.filter fun u => !(!decide (u = z))).length := List.length_pos_of_mem (a := z) (by rw [List.mem_filter]; exact ⟨hzT, by simp⟩)
      omega
    · obtain ⟨i, v, h1, h2⟩ := beside hln (hs e he)
      rw [pairOf_at hln m.nnd h1 h2, List.mem_filter]
      refine ⟨hc e he v (List.mem_of_getElem? h2) (dg i e v h1 h2), ?_⟩
      have : v ≠ z := fun q => by
        have hik := at_inj m.ond h2 (q ▸ hz)
        subst hik
        rw [h1] at hy
        exact hyS (by rw [← Option.some.inj hy]; exact he)
      simpa using this
/-! ### all entries -/
theorem full_one (m : Nms N O) (g : RowG G N O (fun _ => O)) : OneG G N O := by
  have al : ∀ x ∈ N, ∀ u ∈ O, G.adj x u = true := fun x hx u hu => by
    obtain ⟨k, hk⟩ := List.getElem?_of_mem hx
    rw [g.adj k x hk]
    exact decide_eq_true hu
  refine ⟨m.nl, m.ol, m.nnd, m.ond, m.nok, m.ook, fun e => by rw [g.es], g.us, fun k x y hx hy => al x (List.mem_of_getElem? hx) y (List.mem_of_getElem? hy), fun x y hx hy => al x (List.mem_of_getElem? hx) y (List.mem_of_getElem? hy), fun S T nd ne hs he hc => ?_⟩
  obtain ⟨e, heN, heS⟩ := he
  have h1 := len_le_of_sub (S := e :: S) (T := N) (List.nodup_cons.mpr ⟨heS, nd⟩) fun x hx => by
    rcases List.mem_cons.mp hx with h | h
    · rw [h]; exact heN
    · exact hs x h
  have h2 : O.length ≤ T.length := len_le_of_sub m.ond fun u hu => by
    cases S with
    | nil => exact absurd rfl ne
    | cons x S => exact hc x List.mem_cons_self u hu (al x (hs x List.mem_cons_self) u hu)
  rw [List.length_cons, m.nl] at h1
  rw [m.ol] at h2
  omega
/-! ### the chain -/
def chRow (O : List Str) (k : Nat) : List Str := (O.take (k + 1)).drop (k - 1)
theorem mem_chRow (m : Nms N O) {k : Nat} (hk : k < 24) (u : Str) : u ∈ chRow O k ↔ u = O.getD k "" ∨ (1 ≤ k ∧ u = O.getD (k - 1) "") := by
  unfold chRow
  constructor
  · intro h
    obtain ⟨i, hi⟩ := List.getElem?_of_mem h
    rw [List.getElem?_drop] at hi
    have hlt : k - 1 + i < k + 1 := by
      have := (List.getElem?_eq_some_iff.mp hi).1
      rw [List.length_take] at this
      omega
    rw [List.getElem?_take_of_lt hlt] at hi
    rcases Nat.eq_zero_or_pos k with h0 | h0
    · subst h0
      have : i = 0 := by omega
      subst this
      exact .inl (getD_at hi).symm
    · rcases Nat.eq_zero_or_pos i with h1 | h1
      · subst h1
        exact .inr ⟨h0, (getD_at hi).symm⟩
      · have : k - 1 + i = k := by omega
        rw [this] at hi
        exact .inl (getD_at hi).symm
  · intro h
    have mem : ∀ j, k - 1 ≤ j → j < k + 1 → O.getD j "" ∈ (O.take (k + 1)).drop (k - 1) := fun j h1 h2 => by
      have hj : j < O.length ∨ O.length ≤ j := Nat.lt_or_ge j O.length
      rcases hj with hj | hj
      · refine List.mem_of_getElem? (i := j - (k - 1)) ?_
        rw [List.getElem?_drop, show k - 1 + (j - (k - 1)) = j by omega, List.getElem?_take_of_lt h2, List.getElem?_eq_getElem hj, getD_at (List.getElem?_eq_getElem hj)]
      · have := m.ol
        omega
    rcases h with rfl | ⟨h1, rfl⟩
    · exact mem k (by omega) (by omega)
    · exact mem (k - 1) (by omega) (by omega)
theorem chRow_sub (O : List Str) (k : Nat) : ∀ u ∈ chRow O k, u ∈ O := fun u hu => List.mem_of_mem_take (List.mem_of_mem_drop hu)
theorem chRow_nd (m : Nms N O) (k : Nat) : (chRow O k).Nodup := (m.ond.sublist (List.take_sublist _ _)).sublist (List.drop_sublist _ _)
theorem chain_of (m : Nms N O) (g : RowG G N O (chRow O)) {E U : List Str} {Rw : Str → List Str} (o : OfG G E U Rw) : ChainOf 24 (fun k => N.getD k "") (fun k => O.getD k "") E U Rw := by
  have nAt : ∀ k, k < 24 → N[k]? = some (N.getD k "") := fun k hk => by
    obtain ⟨x, _, h, _⟩ := m.at hk
    rw [getD_at h, h]
  have oAt : ∀ k, k < 24 → O[k]? = some (O.getD k "") := fun k hk => by
    obtain ⟨_, y, _, h⟩ := m.at hk
    rw [getD_at h, h]
  have pe : E.Perm N := nd_perm o.end_ m.nnd fun e => (o.es e).trans (by rw [g.es])
  have pu : U.Perm O := nd_perm o.und m.ond fun e => (o.us e).trans (g.us e)
  refine ⟨fun i j hi hj e => at_inj m.nnd (nAt i hi) (by rw [e]; exact nAt j hj), fun i j hi hj e => at_inj m.ond (oAt i hi) (by rw [e]; exact oAt j hj), fun e => ?_, fun u => ?_, by rw [pe.length_eq, m.nl], by rw [pu.length_eq, m.ol], fun k hk u => ?_⟩
  · rw [pe.mem_iff]
    constructor
    · intro h
      obtain ⟨k, hk⟩ := List.getElem?_of_mem h
      exact ⟨k, lt24 m.nl hk, (getD_at hk).symm⟩
    · rintro ⟨k, hk, rfl⟩
      exact List.mem_of_getElem? (nAt k hk)
  · rw [pu.mem_iff]
    constructor
    · intro h
      obtain ⟨k, hk⟩ := List.getElem?_of_mem h
      exact ⟨k, lt24 m.ol hk, (getD_at hk).symm⟩
    · rintro ⟨k, hk, rfl⟩
      exact List.mem_of_getElem? (oAt k hk)
  · have hE : N.getD k "" ∈ E := pe.mem_iff.mpr (List.mem_of_getElem? (nAt k hk))
    rw [o.row _ hE u, g.adj k _ (nAt k hk), decide_eq_true_iff, mem_chRow m hk, g.us u]
    constructor
    · exact fun h => h.2
    · intro h
      refine ⟨?_, h⟩
      rcases h with rfl | ⟨h1, rfl⟩
      · exact List.mem_of_getElem? (oAt k hk)
      · exact List.mem_of_getElem? (oAt (k - 1) (by omega))
theorem chain_hall (m : Nms N O) (g : RowG G N O (chRow O)) : HallG G ∧ ∀ u ∈ G.us, ∃ e ∈ G.es, G.adj e u = true := by
  have hln : N.length = O.length := by rw [m.nl, m.ol]
  have dg : ∀ (k : Nat) (x y : Str), N[k]? = some x → O[k]? = some y → G.adj x y = true := fun k x y hx hy => by
    rw [g.adj k x hx]
    exact decide_eq_true ((mem_chRow m (lt24 m.nl hx) y).mpr (.inl (getD_at hy).symm))
  refine ⟨fun S T nd hs _ hc => ?_, fun u hu => ?_⟩
  · have hsN : ∀ x ∈ S, x ∈ N := fun x hx => by have := hs x hx; rwa [g.es] at this
    refine len_le_of_inj (pairOf N O) nd (fun e he => ?_) fun e he f hf eq => pairOf_inj hln m.nnd m.ond (hsN e he) (hsN f hf) eq
    obtain ⟨i, v, h1, h2⟩ := beside hln (hsN e he)
    rw [pairOf_at hln m.nnd h1 h2]
    exact hc e he v ((g.us v).mpr (List.mem_of_getElem? h2)) (dg i e v h1 h2)
  · obtain ⟨k, x, h1, h2⟩ := beside hln.symm ((g.us u).mp hu)
    exact ⟨x, by rw [g.es]; exact List.mem_of_getElem? h2, dg k x u h2 h1⟩
end
/-- the slice of the chain's k-th row -/
theorem cut_ch (O : List Str) (hl : O.length = 24) {k : Nat} (hk : k < 24) : cutV (txs O) (some (if ((k : Int) - 1) > 0 then ((k : Int) - 1) else 0)) (some ((k : Int) + 1)) = txs (chRow O k) := by
  have e1 : (if ((k : Int) - 1) > 0 then ((k : Int) - 1) else 0) = ((k - 1 : Nat) : Int) := by
    split <;> omega
  have e2 : ((k : Int) + 1) = ((k + 1 : Nat) : Int) := by omega
  rw [e1, e2]
  unfold cutV
  rw [HT.sIx_nat, HT.sIx_nat, txs_len, hl, Nat.min_eq_left (by omega), Nat.min_eq_left (by omega)]
  unfold chRow txs
  rw [List.map_drop, List.map_take, List.drop_take]
end Bo

/-! LL -/
set_option Elab.async false
set_option linter.all false
set_option maxRecDepth 100000
set_option maxHeartbeats 4000000
namespace Bo
open PySem PySem.Spec PyProof.Rows L2
/-- a key, its list, in a pair -/
def PrAt (N : List Str) (row : Nat → List Str) (i : Nat) (q : Row × Addr) (H : Hp) : Prop := H q.2 = some (.tup [.str q.1.1, .ref q.1.2.1]) ∧ H q.1.2.1 = some (.lst (txs q.1.2.2)) ∧ N[i]? = some q.1.1 ∧ q.1.2.2 = row i
theorem PrAt.mono {N : List Str} {row : Nat → List Str} (i : Nat) (q : Row × Addr) (H H' : Hp) (h : PrAt N row i q H) (s : Same H H') : PrAt N row i q H' := ⟨s _ _ h.1, s _ _ h.2.1, h.2.2⟩
theorem pr_keys {N : List Str} {row : Nat → List Str} {H : Hp} {L : List (Row × Addr)} (hn : N.length = 24) (hl : L.length = 24) (h : ∀ i b, L[i]? = some b → PrAt N row i b H) : (L.map (·.1)).map (·.1) = N := by
  refine List.ext_getElem? fun i => ?_
  rw [List.map_map, List.getElem?_map]
  rcases Nat.lt_or_ge i 24 with hi | hi
  · have e := List.getElem?_eq_getElem (show i < L.length by omega)
    rw [e, (h i _ e).2.2.1]
    rfl
  · rw [List.getElem?_eq_none (by omega), List.getElem?_eq_none (by omega)]
    rfl
/-- rows by their places -/
structure RowsOf (K : Fg) (H : Hp) (N : List Str) (row : Nat → List Str) (cd : Addr) (Lr : List Row) : Prop where
  at_ : DictAt H cd (refs Lr)
  ks : Lr.map (·.1) = N
  row : ∀ (k : Nat) (r : Row), Lr[k]? = some r → N[k]? = some r.1 ∧ r.2.2 = row k ∧ H r.2.1 = some (.lst (txs r.2.2))
theorem RowsOf.same {K : Fg} {H H' : Hp} {N : List Str} {row : Nat → List Str} {cd : Addr} {Lr : List Row} (h : RowsOf K H N row cd Lr) (s : Same H H') : RowsOf K H' N row cd Lr :=
  ⟨s _ _ h.at_, h.ks, fun k r hr => ⟨(h.row k r hr).1, (h.row k r hr).2.1, s _ _ (h.row k r hr).2.2⟩⟩
theorem pr_paired {K : Fg} {H : Hp} : ∀ {L : List (Row × Addr)}, (∀ b ∈ L, H b.2 = some (.tup [.str b.1.1, .ref b.1.2.1])) → Paired (fun (p : Addr) (kv : Key × V) => SqT K H p [kV kv.1, kv.2]) (L.map (·.2)) (tk (refs (L.map (·.1))))
  | [], _ => .nil
  | q :: L, h => .cons (SqT.of (h q List.mem_cons_self)) (pr_paired fun b hb => h b (List.mem_cons_of_mem _ hb))
theorem pr_dict {K : Fg} {N : List Str} {row : Nat → List Str} {H : Hp} {D : Addr} {L : List (Row × Addr)} (hn : N.length = 24) (nd : N.Nodup) (hD : H D = some (.lst (L.map fun b => V.ref b.2))) (hl : L.length = 24) (h : ∀ i b, L[i]? = some b → PrAt N row i b H) :
    SqL K H D ((L.map (·.2)).map V.ref) ∧ Paired (fun (p : Addr) (kv : Key × V) => SqT K H p [kV kv.1, kv.2]) (L.map (·.2)) (tk (refs (L.map (·.1)))) ∧ ∀ cd, H cd = none → RowsOf K (upd H cd (.dK (mergeK [] (tk (refs (L.map (·.1))))))) N row cd (L.map (·.1)) := by
  have hk := pr_keys hn hl h
  have hm : ∀ b ∈ L, H b.2 = some (.tup [.str b.1.1, .ref b.1.2.1]) := fun b hb => by
    obtain ⟨i, hi⟩ := List.getElem?_of_mem hb
    exact (h i b hi).1
  refine ⟨by rw [List.map_map]; exact SqL.of hD, pr_paired hm, fun cd ncd => ?_⟩
  rw [merge_nil (by rw [refs_keys, hk]; exact nd)]
  refine ⟨by unfold DictAt; exact upd_same, hk, fun k r hr => ?_⟩
  rw [List.getElem?_map] at hr
  obtain ⟨b, hb, rfl⟩ := Option.map_eq_some_iff.mp hr
  have := h k b hb
  exact ⟨this.2.2.1, this.2.2.2, (same_new ncd) _ _ this.2.1⟩
/-- the graph of the rows -/
theorem rowG_of {K : Fg} {H : Hp} {N O W : List Str} {row : Nat → List Str} {cd : Addr} {Lr : List Row} {G : Grf} (hR : RowsOf K H N row cd Lr) (hu : G.us = W) (pw : W.Perm O) (he : G.es = Lr.map (·.1)) (ha : ∀ r ∈ Lr, ∀ u, G.adj r.1 u = decide (u ∈ r.2.2)) : RowG G N O row := by
  refine ⟨by rw [he, hR.ks], fun u => by rw [hu]; exact pw.mem_iff, fun k x hx u => ?_⟩
  rw [← hR.ks, List.getElem?_map] at hx
  obtain ⟨r, hr, rfl⟩ := Option.map_eq_some_iff.mp hx
  rw [ha r (List.mem_of_getElem? hr) u, (hR.row k r hr).2.1]
theorem RowsOf.mem {K : Fg} {H : Hp} {N : List Str} {row : Nat → List Str} {cd : Addr} {Lr : List Row} (h : RowsOf K H N row cd Lr) {r : Row} (hr : r ∈ Lr) : ∃ k : Nat, N[k]? = some r.1 ∧ r.2.2 = row k ∧ H r.2.1 = some (.lst (txs r.2.2)) := by
  obtain ⟨k, hk⟩ := List.getElem?_of_mem hr
  exact ⟨k, h.row k r hk⟩
theorem sw_data {L M : List Sw} (h : L.map (fun r => (r.ys, r.zs)) = M.map fun r => (r.ys, r.zs)) : swD L = swD M := by
  have e : ∀ L : List Sw, swD L = (L.map fun r => (r.ys, r.zs)).map fun p => PyData.tuple [.list (strD p.1), .list (strD p.2)] := fun L => by
    rw [List.map_map]
    rfl
  rw [e, e, h]
theorem dp_ints {K : Fg} {H : Hp} : ∀ l : List Int, DpAll K H (l.map V.int) (l.map PyData.int)
  | [] => .nil
  | x :: l => .cons (.int x) (dp_ints l)
theorem dpAll_get {K : Fg} {H : Hp} : ∀ {xs : List V} {ds : List PyData}, xs.length = ds.length → (∀ (i : Nat) x d, xs[i]? = some x → ds[i]? = some d → Dp K H x d) → DpAll K H xs ds
  | [], [], _, _ => .nil
  | x :: xs, d :: ds, h, g => .cons (g 0 x d rfl rfl) (dpAll_get (by simpa using h) fun i x' d' h1 h2 => g (i + 1) x' d' h1 h2)
theorem sh_ints (l : List Int) : Sh 1 (.tuple (l.map PyData.int)) := Sh.tuple fun d hd => by
  obtain ⟨i, _, rfl⟩ := List.mem_map.mp hd
  exact Sh.int i
section
variable {P : Program} {w : World} {K : Fg} {mg : Str → Option Value} {base : Heap}
/-- [block.needs for block in structure.walk()] -/
def tWalk (K : Fg) : TE := fun σ H Q => ∃ (s : Addr) (d : Sd), σ[5]? = some (some (.ref s)) ∧ StAt K H s d ∧ d.Bs.length ≤ 24 ∧ ∀ D H', Same H H' → H D = none → H' D = some (.lst (d.Bs.map fun b => V.ref b.n)) → Q (.ref D) H'
def spLaw (K : Fg) : Sp := fun vs H Q _ => ∃ (a : Addr) (ns : List Int), vs = [.ref a] ∧ SqL K H a (ns.map V.int) ∧ ns.length ≤ 63 ∧ ∀ H', Q (.bl true) H'
/-- what is asked of the walk over the blocks -/
def WalkPE (P : Program) (w : World) (K : Fg) (mg : Str → Option Value) (base : Heap) : Prop := ∀ (cdv : Value) (A : Around) (outer : List Env) (s0 : Shared) (H : Hp) (E : XK), Room 9 (A.deeper (envOfC d_law.qual (defScope d_law.st) s0.heap.objs.size (d_law.pth.ad K) cdv)) → PE (cxOf CX0 P w K mg base N_law d_law.qual (defScope d_law.st) (d_law.pth.ad K) cdv A outer s0 H E).nox walkE (tWalk K)
theorem law_body (T : TX w K mg) (PXh : PX P) (hw : WalkPE P w K mg base) (cdv : Value) (A : Around) (outer : List Env) (s0 : Shared) (H : Hp) (vs : List V) (Q : VK) (E : XK) (hr : Room 9 (A.deeper (envOfC d_law.qual (defScope d_law.st) s0.heap.objs.size (d_law.pth.ad K) cdv))) (h : spLaw K vs H Q E) :
    ∃ t, PSs (cxOf CX0 P w K mg base N_law d_law.qual (defScope d_law.st) (d_law.pth.ad K) cdv A outer s0 H E).nox (defBody d_law.st) t ∧ t { nx := fun _ H' => Q .non H', rt := Q } (start N_law vs) H := by
    obtain ⟨a, ns, rfl, ha, hl, q⟩ := h
    have hu := hu_of hr
    have nd := sc_law.nd
    have hwk := hw cdv A outer s0 H E hr
    have hr1 := hr.mono (j := 1) (by decide)
    have hr2 := hr.mono (j := 2) (by decide)
    have hr3 := hr.mono (j := 3) (by decide)
    have hr4 := hr.mono (j := 4) (by decide)
    have hr8 := hr.mono (j := 8) (by decide)
    obtain ⟨f1, G1, b1, k1⟩ := ok__law_begin (P := P) (base := base) T
    obtain ⟨f2, G2, b2, k2⟩ := ok__law_names (P := P) (base := base) T
    obtain ⟨f3, G3, b3, k3⟩ := ok__law_system (P := P) (base := base) T
    obtain ⟨f4, G4, b4, k4⟩ := ok__law_shuffled (P := P) (base := base) T
    obtain ⟨f5, G5, b5, k5⟩ := ok_System_structure (P := P) (base := base) T PXh
    obtain ⟨f6, G6, b6, k6⟩ := ok__law_shown (P := P) (base := base) T
    obtain ⟨f7, G7, b7, k7⟩ := ok_Structure_blocks (P := P) (base := base) T
    obtain ⟨f8, G8, b8, k8⟩ := ok_Structure_entry_kind (P := P) (base := base) T
    obtain ⟨f9, G9, b9, k9⟩ := ok_Structure_block_of (P := P) (base := base) T
    obtain ⟨f10, G10, b10, k10⟩ := ok_Structure_closed_set (P := P) (base := base) T
    obtain ⟨f11, G11, b11, k11⟩ := ok__law_one (P := P) (base := base) T PXh
    refine ⟨_, pss_cons (pset (i := 1) nd (pe_call G1 hr1 (by rfl) T.g__law_begin k1 b1 .nil pass0 (pa_cons (pv 0) pa_nil)))
      (pss_cons (ps_asg (pe_tup (pa_cons (pe_call G2 hr4 (by rfl) T.g__law_names k2 b2 .nil pass0 (pa_cons (pv 1) (pa_cons pe_int pa_nil))) (pa_cons (pe_call G2 hr4 (by rfl) T.g__law_names k2 b2 .nil pass0 (pa_cons (pv 1) (pa_cons pe_int pa_nil))) pa_nil))) (pg_tup rfl (pgs_cons (pgn (i := 2) nd) (pgs_cons (pgn (i := 3) nd) pgs_nil))))
      (pss_cons (pset (i := 4) nd (pe_callTy (call_dictP rfl) (by rfl) T.f_dict (by decide +kernel) (pa_cons
          (pe_lc (own := [("_law_k", 7)]) (g := gName 7) (tt := tYes) (by rfl) nd (pi_range1 (by rfl) T.f_range (pa_cons pe_int pa_nil)) (blkOk_by (N := N_law) (sc := defScope s_law) (by decide +kernel))
            (fun _ _ _ _ _ => pgn (i := 7) nd) (fun _ _ _ _ _ => pts_nil) (fun _ _ _ _ _ => pe_tup (pa_cons (pe_ix (r := rIxL K) ix_list (pv 2) (pv 7) (fun _ _ => rfl))
              (pa_cons (pe_slice (r := rSlL K) sl_list (pv 3) (po_some (pe_callB (call_max2 rfl) (by rfl) T.f_max (by decide +kernel) (pa_cons pe_int (pa_cons (pe_op op_sub (pv 7) pe_int) pa_nil)))) (po_some (pe_op op_add (pv 7) pe_int))) pa_nil)))) pa_nil)))
      (pss_cons (pset (i := 5) nd (pe_prop (pe_call G3 hr8 (by rfl) T.g__law_system k3 b3 .nil pass0 (pa_cons (pv 4) (pa_cons (pe_call G4 hr2 (by rfl) T.g__law_shuffled k4 b4 .nil pass0 (pa_cons (pv 1) (pa_cons (pv 3) pa_nil))) pa_nil))) T.cls_System T.p_System_structure G5 hr8 b5 .nil pass0 rfl))
      (pss_cons (ps_if (pt_cmpR (op_neD hr.units) (pe_call G6 hr3 (by rfl) T.g__law_shown k6 b6 .nil pass0 (pa_cons (pe_prop (pv 5) T.cls_Structure T.p_Structure_blocks G7 hr2 b7 .nil pass0 rfl) pa_nil))
          (pe_lc (own := [("_law_k", 7)]) (g := gName 7) (tt := tYes) (by rfl) nd (pi_range1 (by rfl) T.f_range (pa_cons pe_int pa_nil)) (blkOk_by (N := N_law) (sc := defScope s_law) (by decide +kernel))
            (fun _ _ _ _ _ => pgn (i := 7) nd) (fun _ _ _ _ _ => pts_nil) (fun _ _ _ _ _ => pe_tup (pa_cons (pe_lst (pa_cons (pe_ix (r := rIxL K) ix_list (pv 2) (pv 7) (fun _ _ => rfl)) pa_nil)) (pa_cons (pe_lst (pa_cons (pe_ix (r := rIxL K) ix_list (pv 3) (pv 7) (fun _ _ => rfl)) pa_nil)) pa_nil)))) rfl) (pss_one (ps_ret pe_bl)) pss_nil)
      (pss_cons (ps_if (pt_cmpR (op_neD hr.units) (show PE _ walkE _ from hwk) (pe_op op_cat (pe_lst (pa_cons (pe_tup pa_nil) pa_nil))
          (pe_lc (own := [("_law_k", 7)]) (g := gName 7) (tt := tYes) (by rfl) nd (pi_range2 (by rfl) T.f_range (pa_cons pe_int (pa_cons pe_int pa_nil))) (blkOk_by (N := N_law) (sc := defScope s_law) (by decide +kernel))
            (fun _ _ _ _ _ => pgn (i := 7) nd) (fun _ _ _ _ _ => pts_nil) (fun _ _ _ _ _ => pe_tup (pa_cons (pe_op op_sub (pv 7) pe_int) pa_nil)))) rfl) (pss_one (ps_ret pe_bl)) pss_nil)
      (pss_cons (ps_for PassesOwn.never rfl (pi_range1 (by rfl) T.f_range (pa_cons pe_int pa_nil)) (pgn (i := 7) nd)
        (pss_one (ps_if (PW.pt (pw_or (pt_cmpR op_ne (pe_meth (pv 5) T.cls_Structure T.m_Structure_entry_kind G8 hr3 b8 .nil pass0 (pa_cons (pe_ix ix_list (pv 2) (pv 7) (fun _ _ => rfl)) (pa_cons (pe_ix ix_list (pv 3) (pv 7) (fun _ _ => rfl)) pa_nil))) pe_str rfl)
          (pw_or1 (pt_cmpR op_ne (pe_meth (pv 5) T.cls_Structure T.m_Structure_block_of G9 hr4 b9 .nil pass0 (pa_cons (pe_tup (pa_cons pe_str (pa_cons (pe_ix ix_list (pv 3) (pv 7) (fun _ _ => rfl)) pa_nil))) pa_nil)) (pv 7) rfl)))) (pss_one (ps_ret pe_bl)) pss_nil)))
      (pss_cons (ps_if (PW.pt (pw_or (pt_cmpR op_ne (pe_meth (pv 5) T.cls_Structure T.m_Structure_entry_kind G8 hr3 b8 .nil pass0 (pa_cons (pe_ix ix_list (pv 2) pe_int (fun _ _ => rfl)) (pa_cons (pe_ix ix_list (pv 3) pe_int (fun _ _ => rfl)) pa_nil))) pe_str rfl)
          (pw_or1 (pt_cmpR (op_neD hr.units) (pe_meth (pv 5) T.cls_Structure T.m_Structure_closed_set G10 hr4 b10 .nil pass0 (pa_cons (pe_ix ix_list (pv 2) pe_int (fun _ _ => rfl)) pa_nil)) (pe_callTy call_tuple_of (by rfl) T.f_tuple PyProof.Rows.boot_tuple (pa_cons (pe_callB cr_sortedS (by rfl) T.f_sorted boot_sorted (pa_cons (pv 2) pa_nil)) pa_nil)) rfl)))) (pss_one (ps_ret pe_bl)) pss_nil)
      (pss_cons (pset (i := 8) nd (pe_callTy (call_dictP rfl) (by rfl) T.f_dict (by decide +kernel) (pa_cons
          (pe_lc (own := [("_law_k", 7)]) (g := gName 7) (tt := tYes) (by rfl) nd (pi_range1 (by rfl) T.f_range (pa_cons pe_int pa_nil)) (blkOk_by (N := N_law) (sc := defScope s_law) (by decide +kernel))
            (fun _ _ _ _ _ => pgn (i := 7) nd) (fun _ _ _ _ _ => pts_nil) (fun _ _ _ _ _ => pe_tup (pa_cons (pe_ix (r := rIxL K) ix_list (pv 2) (pv 7) (fun _ _ => rfl))
              (pa_cons (pe_lst (pa_cons (pe_ix (r := rIxL K) ix_list (pv 3) (pv 7) (fun _ _ => rfl)) (pa_cons (pe_ix (r := rIxL K) ix_list (pv 3) (pe_op op_mod (pe_op op_add (pv 7) pe_int) pe_int) (fun _ _ => rfl)) pa_nil))) pa_nil)))) pa_nil)))
      (pss_cons (ps_if (pt_not (pt_val (pe_call G11 hr (by rfl) T.g__law_one_block_right k11 b11 .nil pass0 (pa_cons (pe_call G3 hr8 (by rfl) T.g__law_system k3 b3 .nil pass0 (pa_cons (pv 8) (pa_cons (pv 3) pa_nil))) (pa_cons (pv 2) (pa_cons (pv 3) pa_nil)))))) (pss_one (ps_ret pe_bl)) pss_nil)
      (pss_cons (pset (i := 9) nd (pe_callTy (call_dictP rfl) (by rfl) T.f_dict (by decide +kernel) (pa_cons
          (pe_lc (own := [("_law_name_here", 10)]) (g := gName 10) (tt := tYes) (by rfl) nd (pi_list (pv 2)) (blkOk_by (N := N_law) (sc := defScope s_law) (by decide +kernel))
            (fun _ _ _ _ _ => pgn (i := 10) nd) (fun _ _ _ _ _ => pts_nil) (fun _ _ _ _ _ => pe_tup (pa_cons (pv 10)
              (pa_cons (pe_callTy (r := rLo K) call_list_of (by rfl) T.f_list PyProof.Rows.boot_list (pa_cons (pv 3) pa_nil)) pa_nil)))) pa_nil)))
      (pss_one (ps_ret (pe_call G11 hr (by rfl) T.g__law_one_block_right k11 b11 .nil pass0 (pa_cons (pe_call G3 hr8 (by rfl) T.g__law_system k3 b3 .nil pass0 (pa_cons (pv 9) (pa_cons (pv 3) pa_nil))) (pa_cons (pv 2) (pa_cons (pv 3) pa_nil)))))))))))))))), ?_⟩
    refine ⟨_, rfl, a, ns, rfl, ha, hl, fun t H1 s1 nt hT => ?_⟩
    refine ⟨_, rfl, t, 0, rfl, hT, by decide, fun nl N H2 bb2 hT2 nnl hnl Nl Nnd Nok => ⟨_, rfl, t, 216, rfl, hT2, by decide, fun ol O H3 bb3 hT3 nol hol Ol Ond Ook => ⟨small (by show 2 ≤ 1000; decide), fun tp ntp => ⟨tp, _, rfl, SqT.of upd_same, rfl, _, _, rfl, _, _, rfl, rfl, ?_⟩⟩⟩⟩
    have m : Nms N O := ⟨Nl, Ol, Nnd, Ond, Nok, Ook⟩
    have tn : nl ≠ t := fun z => by
      obtain ⟨c, ns, pl, lf, h1, _⟩ := hT2.ex
      have h1' : H2 t = _ := h1
      rw [← z, hnl] at h1'
      cases h1'
    have hnl3 : H3 nl = some (.lst (txs N)) := bb3 _ _ hnl (by simpa using tn)
    obtain ⟨H4, eH4⟩ : ∃ H4, H4 = upd H3 tp (.tup [.ref nl, .ref ol]) := ⟨_, rfl⟩
    have s34 : Same H3 H4 := by rw [eH4]; exact same_new ntp
    rw [← eH4]
    have hN4 := s34 _ _ hnl3
    have hO4 := s34 _ _ hol
    have hT4 := hT3.same s34
    clear eH4 s34 hnl3 hol hT3 hnl hT2 bb2 bb3 hT nt s1
    have lnN : N.length = 24 := Nl
    -- the chain
    refine ⟨24, rfl, by decide, by decide, fun D nD => ?_⟩
    refine lc_obs (walk_range (n := 24)) nD (PrAt N (chRow O)) (fun q => q.2) PrAt.mono (by decide) (fun _ _ => True.intro) yfn_eq (fun i x H5 R2 N2 hi s5 hl5 y hh => ?_) (fun H5 L s5 hD5 hLl hL => ?_)
    · have hx : x = .int (i : Nat) := by rw [y.2]; simp
      subst hx
      obtain ⟨xn, xo, hxn, hxo⟩ := m.at hi
      obtain ⟨l5, hl5⟩ := hl5
      refine ⟨rfl, _, rfl, _, rfl, nl, txs N, _, .str xn, rfl, rfl, SqL.of (s5 _ _ hN4), atI_nat (txs_get hxn), _, rfl, _, rfl, _, _, rfl, rfl, _, _, rfl, _, rfl, _, rfl, _, _, rfl, rfl, _, rfl, ol, txs O, rfl, SqL.of (s5 _ _ hO4), fun ls nls => ⟨small (by show 2 ≤ 1000; decide), fun tq ntq => ?_⟩⟩
      rw [cut_ch O Ol hi] at ntq ⊢
      have k1 := same_new nls (o := .lst (txs (chRow O i)))
      have k2 := same_new ntq (o := .tup [.str xn, .ref ls])
      have d1 : ls ≠ D := ne_new hl5 nls
      have d2 : tq ≠ D := ne_new (k1 _ _ hl5) ntq
      exact hh ((xn, ls, chRow O i), tq) _ (k1.trans k2) ⟨wo_at upd_same d2, wo_at (k2 _ _ upd_same) d1, hxn, rfl⟩
    · obtain ⟨pd1, pd2, pd3⟩ := pr_dict (K := K) Nl Nnd hD5 hLl hL
      refine ⟨D, (L.map fun q : Row × Addr => q.2), tk (refs (L.map fun q : Row × Addr => q.1)), rfl, pd1, pd2, fun cd ncd => ?_⟩
      have hR6 := pd3 cd ncd
      have s6 := same_new ncd (o := .dK (mergeK [] (tk (refs (L.map fun q : Row × Addr => q.1)))))
      obtain ⟨H6, eH6⟩ : ∃ H6, H6 = upd H5 cd (.dK (mergeK [] (tk (refs (L.map fun q : Row × Addr => q.1))))) := ⟨_, rfl⟩
      rw [← eH6] at hR6 s6 ⊢
      obtain ⟨Lr, eLr⟩ : ∃ Lr, Lr = (L.map fun q : Row × Addr => q.1) := ⟨_, rfl⟩
      rw [← eLr] at hR6
      clear pd1 pd2 pd3 eH6 eLr
      have s46 := s5.trans s6
      have hN6 := s46 _ _ hN4
      have hO6 := s46 _ _ hO4
      have hT6 := hT4.same s46
      clear hD5 hL s5 s6 hN4 hO4 hT4 s46
      -- the chain's system and its structure
      refine ⟨_, rfl, _, rfl, _, rfl, t, ol, 216 + 216, O, rfl, SqL.of hO6, by omega, Ook, hT6, by decide, fun sh W H7 bb7 hT7 nsh hsh pmW => ?_⟩
      have tk6 : ∀ {b : Addr} {o : HO}, H6 b = some o → (∀ kvs, o ≠ .dK kvs) → H7 b = some o := fun {b o} h hne => bb7 _ _ h fun z => by
        obtain ⟨c, ns, pl, lf, h1, _⟩ := hT6.ex
        have h1' : H6 t = _ := h1
        rw [List.mem_singleton.mp z, h1'] at h
        exact hne _ (Option.some.inj h).symm
      have hN7 := tk6 hN6 (by intro _ z; cases z)
      have hO7 := tk6 hO6 (by intro _ z; cases z)
      have hcd7 : H7 cd = some (.dK (tk (refs Lr))) := bb7 _ _ hR6.at_ fun z => by
        obtain ⟨c, ns, pl, lf, h1, _⟩ := hT6.ex
        have h1' : H6 t = _ := h1
        have h2' : H6 cd = _ := hR6.at_
        rw [List.mem_singleton.mp z, h1'] at h2'
        have h3 := congrArg (List.map (·.1)) (HO.dK.inj (Option.some.inj h2'))
        rw [tk_keys, tk_keys, refs_keys, hR6.ks] at h3
        have h4 := congrArg List.length h3
        rw [List.length_map, List.length_map, List.length_map, Nl] at h4
        cases h4
      have hR7 : RowsOf K H7 N (chRow O) cd Lr := ⟨hcd7, hR6.ks, fun k r hr' => ⟨(hR6.row k r hr').1, (hR6.row k r hr').2.1, tk6 (hR6.row k r hr').2.2 (by intro _ z; cases z)⟩⟩
      have Lrne : Lr ≠ [] := fun z => by
        have := congrArg List.length hR7.ks
        rw [z, Nl] at this
        cases this
      have Lrl : Lr.length = 24 := by
        have := congrArg List.length hR7.ks
        rwa [List.length_map, Nl] at this
      refine ⟨cd, sh, Lr, W, rfl, hcd7, Lrne, by rw [hR7.ks]; exact Nnd, by omega, fun r hr' => ?_, fun r hr' => ?_, SqL.of hsh, pmW.nodup_iff.mpr Ond, by rw [pmW.length_eq]; omega, fun u hu' => Ook u (pmW.mem_iff.mp hu'), fun a1 p1 n1 G H8 s8 na1 np1 hS8 hn8 hGu hGe hadj => ?_⟩
      · obtain ⟨k, h1, _, _⟩ := hR7.mem hr'
        exact Nok _ (List.mem_of_getElem? h1)
      · obtain ⟨k, h1, h2, h3⟩ := hR7.mem hr'
        refine ⟨SqL.of h3, by rw [h2]; exact chRow_nd m k, fun u hu' => ?_⟩
        rw [h2] at hu'
        exact pmW.mem_iff.mpr (chRow_sub O k u hu')
      have gR := rowG_of hR7 hGu pmW hGe hadj
      obtain ⟨chH, chC⟩ := chain_hall m gR
      obtain ⟨dx1, c1, o1, p1', hains⟩ := hS8.ins
      refine ⟨a1, dx1, _, rfl, hains, a1, p1, n1, G, rfl, hS8, fun e he => Nok e (by rw [← gR.es]; exact he), fun u hu' => Ook u ((gR.us u).mp hu'), chH, chC, fun s E1 U1 Rw1 d H9 s9 ns9 hOf hSt hOk => ?_⟩
      have hN9 := s9 _ _ (s8 _ _ hN7)
      have hO9 := s9 _ _ (s8 _ _ hO7)
      have c := chain_of m gR hOf
      obtain ⟨hBl, hBs, z1, z2, z3, z4, pW, hC⟩ := hOk.chain c
      have pE : E1.Perm N := nd_perm hOf.end_ Nnd fun e => (hOf.es e).trans (by rw [gR.es])
      have pU : U1.Perm O := nd_perm hOf.und Ond fun u => (hOf.us u).trans (gR.us u)
      have eok1 : ∀ e ∈ E1, NameOk e := fun e he => Nok e (pE.mem_iff.mp he)
      have uok1 : ∀ u ∈ U1, NameOk u := fun u hu' => Ook u (pU.mem_iff.mp hu')
      have hNm : StNm d := hOk.nm eok1 uok1
      have hQ : d.Qs = d.es := by
        obtain ⟨mm, m1, m2, _⟩ := c.pick
        exact (hOk.zeros mm m1 m2 c.sub (by rw [c.ul, c.el]; exact Nat.le_refl _)).2.2.2.2.2
      have hsub1 : ∀ e ∈ E1, ∀ u ∈ Rw1 e, u ∈ U1 := fun e he u hu' => (hOf.us u).mpr ((hOf.row e he u).mp hu').1
      have bAt : ∀ i, i < 24 → ∃ b x y, d.Bs[i]? = some b ∧ N[i]? = some x ∧ O[i]? = some y ∧ b.ys = [x] ∧ b.zs = [y] ∧ b.pl = ((i : Nat) : Int) ∧ b.ms = if i = 0 then [] else [((i - 1 : Nat) : Int)] := fun i hi => by
        have hb := List.getElem?_eq_getElem (show i < d.Bs.length by omega)
        obtain ⟨x, y, hx, hy⟩ := m.at hi
        obtain ⟨b1, b2, b3, b4⟩ := hBs i _ hb
        exact ⟨_, x, y, hb, hx, hy, by rw [b1, getD_at hx], by rw [b2, getD_at hy], b3, b4⟩
      clear hR6 hR7 hT6 hT7 hcd7 tk6 bb7 hN6 hO6 hN7 hO7 hsh nsh
      have s9B : ∀ b ∈ d.Bs, b.ys.length ≤ 24 ∧ b.zs.length ≤ 24 := fun b hb => by
        obtain ⟨i, hi⟩ := List.getElem?_of_mem hb
        obtain ⟨b1, b2, _⟩ := hBs i b hi
        rw [b1, b2]
        exact ⟨by show 1 ≤ 24; decide, by show 1 ≤ 24; decide⟩
      -- the blocks, shown
      refine ⟨_, rfl, s, d.dx, _, rfl, hSt.at_, s, d.dx, _, .ref d.bl, rfl, hSt.at_, rfl, d.bl, d.Bs, rfl, SqT.of hSt.bl, by omega, fun b hb => ⟨hSt.bk b hb, s9B b hb⟩, fun lp Lw H10 s10 nlp hlp hLw hmap => ?_⟩
      have hN10 := s10 _ _ hN9
      have hO10 := s10 _ _ hO9
      have hSt10 := hSt.same s10
      refine ⟨24, rfl, by decide, by decide, fun D2 nD2 => ?_⟩
      refine lc_obs (σ := [some (.ref a), some (.ref t), some (.ref nl), some (.ref ol), some (.ref cd), some (.ref s), none, none, none, none, none]) (walk_range (n := 24)) nD2 (fun i (r : Sw) H => SwAt H r ∧ ∃ x y, N[i]? = some x ∧ O[i]? = some y ∧ r.ys = [x] ∧ r.zs = [y]) (fun r => r.t) (fun i b H H' h s => ⟨h.1.same s, h.2⟩) (by decide) (fun _ _ => True.intro) yfn_eq (fun i x H11 R2 N2 hi s11 hl11 y hh => ?_) (fun H11 L2 s11 hD11 hLl2 hL2 => ?_)
      · have hx : x = .int (i : Nat) := by rw [y.2]; simp
        subst hx
        obtain ⟨xn, xo, hxn, hxo⟩ := m.at hi
        obtain ⟨l11, hl11⟩ := hl11
        refine ⟨rfl, _, rfl, _, rfl, nl, txs N, _, .str xn, rfl, rfl, SqL.of (s11 _ _ hN10), atI_nat (txs_get hxn), small (by show 1 ≤ 1000; decide), fun q1 nq1 => ?_⟩
        have e1 := same_new nq1 (o := .lst [.str xn])
        refine ⟨_, rfl, _, rfl, ol, txs O, _, .str xo, rfl, rfl, SqL.of (e1 _ _ (s11 _ _ hO10)), atI_nat (txs_get hxo), small (by show 1 ≤ 1000; decide), fun q2 nq2 => ⟨small (by show 2 ≤ 1000; decide), fun q3 nq3 => ?_⟩⟩
        have e2 := same_new nq2 (o := .lst [.str xo])
        have e3 := same_new nq3 (o := .tup [.ref q1, .ref q2])
        have d1 : q1 ≠ D2 := ne_new hl11 nq1
        have d2 : q2 ≠ D2 := ne_new (e1 _ _ hl11) nq2
        have d3 : q3 ≠ D2 := ne_new (e2 _ _ (e1 _ _ hl11)) nq3
        exact hh ⟨q3, q1, q2, [xn], [xo]⟩ _ ((e1.trans e2).trans e3) ⟨⟨wo_at upd_same d3, wo_at (e3 _ _ (e2 _ _ upd_same)) d1, wo_at (e3 _ _ upd_same) d2⟩, xn, xo, hxn, hxo, rfl, rfl⟩
      · have hsw : Lw.map (fun r => (r.ys, r.zs)) = L2.map fun r => (r.ys, r.zs) := by
          rw [hmap]
          refine List.ext_getElem? fun i => ?_
          rw [List.getElem?_map, List.getElem?_map]
          rcases Nat.lt_or_ge i 24 with hi | hi
          · obtain ⟨b, x, y, h1, h2, h3, h4, h5, _⟩ := bAt i hi
            have e := List.getElem?_eq_getElem (show i < L2.length by omega)
            obtain ⟨_, x', y', g2, g3, g4, g5⟩ := hL2 i _ e
            rw [h2] at g2
            rw [h3] at g3
            obtain rfl := Option.some.inj g2
            obtain rfl := Option.some.inj g3
            rw [h1, e, Option.map_some, Option.map_some, h4, h5, g4, g5]
          · rw [List.getElem?_eq_none (by omega), List.getElem?_eq_none (by omega)]
            rfl
        have shL2 : Sh 3 (.list (swD L2)) := Sh.list fun z hz => by
          obtain ⟨r, hr', rfl⟩ := List.mem_map.mp hz
          obtain ⟨i, hi⟩ := List.getElem?_of_mem hr'
          obtain ⟨_, x', y', g2, g3, g4, g5⟩ := hL2 i _ hi
          refine Sh.tuple fun z hz => ?_
          rcases List.mem_cons.mp hz with h | h
          · rw [h, g4]; exact Sh.list (sh_names fun q hq => by rw [List.mem_singleton.mp hq]; exact Nok _ (List.mem_of_getElem? g2))
          · rw [List.mem_singleton.mp h, g5]; exact Sh.list (sh_names fun q hq => by rw [List.mem_singleton.mp hq]; exact Ook _ (List.mem_of_getElem? g3))
        refine ⟨.list (swD Lw), .list (swD L2), .lst (SqL.of (s11 _ _ hlp)) (dp_sw fun r' hr' => (hLw r' hr').same s11), .lst (SqL.of hD11) (dp_sw fun r' hr' => by
          obtain ⟨i, hi⟩ := List.getElem?_of_mem hr'
          exact (hL2 i _ hi).1), by rw [sw_data hsw]; exact shL2.shaped, shL2.shaped, _, rfl, ?_⟩
        rw [sw_data hsw, shL2.self]
        refine iteF ?_
        have hN11 := s11 _ _ hN10
        have hO11 := s11 _ _ hO10
        have hSt11 := hSt10.same s11
        clear hD11 hL2 hLw hlp hmap hsw shL2
        -- the numbers of the needed blocks
        refine ⟨s, d, rfl, hSt11, by omega, fun WD H12 s12 nWD hWD => ?_⟩
        have hSt12 := hSt11.same s12
        refine ⟨small (by show 0 ≤ 1000; decide), fun tz ntz => ⟨small (by show 1 ≤ 1000; decide), fun lz nlz => ?_⟩⟩
        have e1 := same_new ntz (o := .tup [])
        have e2 := same_new nlz (o := .lst [.ref tz])
        have htz : (upd (upd H12 tz (.tup [])) lz (.lst [.ref tz])) tz = some (.tup []) := e2 _ _ upd_same
        have hlz : (upd (upd H12 tz (.tup [])) lz (.lst [.ref tz])) lz = some (.lst [.ref tz]) := upd_same
        refine ⟨1, 24, rfl, by decide, fun D3 nD3 => ?_⟩
        refine lc_obs (σ := [some (.ref a), some (.ref t), some (.ref nl), some (.ref ol), some (.ref cd), some (.ref s), none, none, none, none, none]) (walk_range (lo := 1) (n := 23)) nD3 (fun i (q : Addr) H => H q = some (.tup [.int (i : Nat)])) (fun q => q) (fun i b H H' h s => s _ _ h) (by decide) (fun _ _ => True.intro) yfn_eq (fun i x H13 R2 N2 hi s13 hl13 y hh => ?_) (fun H13 L3 s13 hD13 hLl3 hL3 => ?_)
        · have hx : x = .int (1 + (i : Int)) := y.2
          subst hx
          obtain ⟨l13, hl13⟩ := hl13
          refine ⟨rfl, _, rfl, _, _, rfl, rfl, small (by show 1 ≤ 1000; decide), fun q1 nq1 => ?_⟩
          have ev : (1 + (i : Int)) - 1 = (i : Nat) := by omega
          show R2 (V.ref q1) (upd H13 q1 (.tup [V.int ((1 + (i : Int)) - 1)]))
          rw [ev]
          exact hh q1 _ (same_new nq1) (wo_at upd_same (ne_new hl13 nq1))
        · have s123 := (e1.trans e2).trans s13
          refine ⟨lz, D3, _, _, rfl, rfl, s13 _ _ hlz, hD13, small (by rw [List.length_map, hLl3]; show 1 + 23 ≤ 1000; decide), fun cp ncp => ?_⟩
          have e4 := same_new ncp (o := .lst ([.ref tz] ++ L3.map fun q => V.ref q))
          have s1234 := s123.trans e4
          have hneed : d.Bs.map (fun b => PyData.tuple (b.ms.map PyData.int)) = PyData.tuple [] :: (List.range 23).map fun i => PyData.tuple [.int (i : Nat)] := by
            refine List.ext_getElem? fun i => ?_
            rw [List.getElem?_map]
            cases i with
            | zero =>
              obtain ⟨b, x, y, h1, _, _, _, _, _, h4⟩ := bAt 0 (by decide)
              rw [h1, Option.map_some, h4]
              rfl
            | succ i =>
              rw [List.getElem?_cons_succ, List.getElem?_map]
              rcases Nat.lt_or_ge i 23 with hi | hi
              · obtain ⟨b, x, y, h1, _, _, _, _, _, h4⟩ := bAt (i + 1) (by omega)
                rw [h1, List.getElem?_range hi, Option.map_some, Option.map_some, h4, if_neg (by omega)]
                rfl
              · rw [List.getElem?_eq_none (by omega), List.getElem?_eq_none (by rw [List.length_range]; omega)]
                rfl
          have shN : Sh 2 (.list (PyData.tuple [] :: (List.range 23).map fun i => PyData.tuple [.int (i : Nat)])) := Sh.list fun z hz => by
            rcases List.mem_cons.mp hz with h | h
            · rw [h]; exact sh_ints []
            · obtain ⟨i, _, rfl⟩ := List.mem_map.mp h
              exact sh_ints [(i : Nat)]
          refine ⟨.list (d.Bs.map fun b => PyData.tuple (b.ms.map PyData.int)), .list (PyData.tuple [] :: (List.range 23).map fun i => PyData.tuple [.int (i : Nat)]), .lst (SqL.of (s1234 _ _ hWD)) (dpAll_map fun b hb => .tup (SqT.of (s1234 _ _ (hSt12.bk b hb).nd)) (dp_ints _)), .lst (SqL.of upd_same) (.cons (.tup (SqT.of (e4 _ _ (s13 _ _ htz))) .nil) (show DpAll K _ (L3.map fun q => V.ref q) _ from dpAll_get (by rw [List.length_map, List.length_map, List.length_range, hLl3]) fun i x dd h1 h2 => ?_)), by rw [hneed]; exact shN.shaped, shN.shaped, _, rfl, ?_⟩
          · rw [List.getElem?_map] at h1 h2
            obtain ⟨q, hq, rfl⟩ := Option.map_eq_some_iff.mp h1
            obtain ⟨j, hj, rfl⟩ := Option.map_eq_some_iff.mp h2
            have hij : j = i := by
              have hlt := (List.getElem?_eq_some_iff.mp hj).1
              rw [List.length_range] at hlt
              rw [List.getElem?_range hlt] at hj
              exact (Option.some.inj hj).symm
            subst hij
            exact .tup (SqT.of (e4 _ _ (hL3 j q hq))) (dp_ints [(j : Nat)])
          · rw [hneed, shN.self]
            refine iteF ?_
            have s14 := s12.trans s1234
            obtain ⟨H14, eH14⟩ : ∃ H14, H14 = upd H13 cp (.lst ([.ref tz] ++ L3.map fun q => V.ref q)) := ⟨_, rfl⟩
            have s14' : Same H11 H14 := by rw [eH14]; exact s14
            have hgoal : upd H13 cp (.lst ([.ref tz] ++ L3.map fun q => V.ref q)) = H14 := eH14.symm
            have hN14 := s14' _ _ hN11
            have hO14 := s14' _ _ hO11
            have hSt14 := hSt11.same s14'
            refine ⟨24, rfl, by decide, by decide, ?_⟩
            have shPs := hOk.psn eok1 uok1 hsub1
            have key : ∀ {x y : Str} {i j : Nat}, N[i]? = some x → O[j]? = some y → ∀ {k : Nat} {b : Bk}, d.Bs[k]? = some b → k < 24 → (decide (x ∈ b.ys) && decide (y ∈ b.zs)) = (decide (k = i) && decide (k = j)) := fun {x y i j} hx hy {k b} hb hk => by
              obtain ⟨b', x', y', h1, h2, h3, h4, h5, _⟩ := bAt k hk
              rw [hb] at h1
              obtain rfl := Option.some.inj h1
              rw [h4, h5]
              congr 1
              · refine decide_eq_decide.mpr ⟨fun h => ?_, fun h => ?_⟩
                · rw [List.mem_singleton.mp h] at hx
                  exact at_inj Nnd h2 hx
                · rw [h, hx] at h2
                  rw [Option.some.inj h2]
                  exact List.mem_singleton.mpr rfl
              · refine decide_eq_decide.mpr ⟨fun h => ?_, fun h => ?_⟩
                · rw [List.mem_singleton.mp h] at hy
                  exact at_inj Ond h3 hy
                · rw [h, hy] at h3
                  rw [Option.some.inj h3]
                  exact List.mem_singleton.mpr rfl
            have inE : ∀ {i : Nat} {x : Str}, N[i]? = some x → x ∈ E1 := fun {i x} h => pE.mem_iff.mpr (List.mem_of_getElem? h)
            have hpair : ∀ {i : Nat} {x y : Str}, N[i]? = some x → y ∈ chRow O i → (x, y) ∈ d.Ps.map (·.1) := fun {i x y} hx hy => hOk.inPs (inE hx) ((hOf.row x (inE hx) y).mpr ⟨(gR.us y).mpr (chRow_sub O i y hy), by rw [gR.adj i x hx]; exact decide_eq_true hy⟩)
            refine for_it (walk_range (n := 24)) (fun i σ H => (∃ z, σ = [some (.ref a), some (.ref t), some (.ref nl), some (.ref ol), some (.ref cd), some (.ref s), none, z, none, none, none]) ∧ Same H14 H) ⟨⟨_, rfl⟩, by rw [hgoal]; exact Same.refl _⟩ (fun _ _ _ _ _ => True.intro) ?_ ?_
            · rintro i x σ H15 H16 hi ⟨⟨z, rfl⟩, s15⟩ y
              obtain ⟨rfl, hx⟩ := y
              have hx : x = .int (i : Nat) := by rw [hx]; simp
              subst hx
              obtain ⟨b, xn, xo, hb, hxn, hxo, hys, hzs, hpl, _⟩ := bAt i hi
              have hSt15 := hSt14.same s15
              refine ⟨_, rfl, s, d.dx, _, rfl, hSt15.at_, rfl, _, rfl, _, rfl, nl, txs N, _, .str xn, rfl, rfl, SqL.of (s15 _ _ hN14), atI_nat (txs_get hxn), _, rfl, _, rfl, ol, txs O, _, .str xo, rfl, rfl, SqL.of (s15 _ _ hO14), atI_nat (txs_get hxo), s, d, xn, xo, rfl, hSt15, Sh.name (Nok _ (List.mem_of_getElem? hxn)), Sh.name (Ook _ (List.mem_of_getElem? hxo)), shPs, hpair hxn ((mem_chRow m hi xo).mpr (.inl (getD_at hxo).symm)), z1, z3, by omega, fun b' hb' => (s9B b' hb').1, fun H17 s17 => ⟨rfl, _, rfl, ?_⟩⟩
              have hkind : kindOf d.Bs xn xo = "all" := by
                unfold kindOf
                rw [find_at (i := i) hb (by rw [key hxn hxo hb hi]; simp) fun b' hb' => by
                  obtain ⟨j, hj⟩ := List.getElem?_of_mem hb'
                  have hjl := (List.getElem?_eq_some_iff.mp hj).1
                  rw [List.length_take] at hjl
                  rw [List.getElem?_take_of_lt (by omega)] at hj
                  rw [key hxn hxo hj (by omega)]
                  have : ¬ j = i := by omega
                  simp [this]]
                show (if b.ys.length = 1 then ("all" : Str) else "some") = "all"
                rw [hys]
                rfl
              refine ifNF (by rw [hkind]) ?_
              have s157 := s15.trans s17
              have hSt17 := hSt14.same s157
              have xoU : xo ∈ d.us := (hOk.mem_us xo).mpr (pU.mem_iff.mpr (List.mem_of_getElem? hxo))
              refine ⟨_, rfl, s, d.dx, _, rfl, hSt17.at_, rfl, _, rfl, _, rfl, ol, txs O, _, .str xo, rfl, rfl, SqL.of (s157 _ _ hO14), atI_nat (txs_get hxo), small (by show 2 ≤ 1000; decide), fun tq ntq => ?_⟩
              have e1 := same_new ntq (o := .tup [.str "unknown", .str xo])
              refine ⟨s, tq, d, xo, i, b, rfl, hSt17.same e1, hNm, SqT.of upd_same, xoU, hb, by rw [hzs]; exact List.mem_singleton.mpr rfl, fun c' hc' hmem => ?_, fun H18 s18 => ⟨_, rfl, rfl, _, rfl, ?_⟩⟩
              · obtain ⟨j, hj⟩ := List.getElem?_of_mem hc'
                have hjl := (List.getElem?_eq_some_iff.mp hj).1
                rw [List.length_take] at hjl
                rw [List.getElem?_take_of_lt (by omega)] at hj
                obtain ⟨b', x', y', h1, h2, h3, h4, h5, _⟩ := bAt j (by omega)
                rw [hj] at h1
                obtain rfl := Option.some.inj h1
                rw [h5] at hmem
                rw [List.mem_singleton.mp hmem] at hxo
                have := at_inj Ond h3 hxo
                omega
              · refine ifNF (by rw [hpl]) ?_
                exact ⟨⟨_, rfl⟩, (s157.trans e1).trans s18⟩
            · rintro σ H15 ⟨⟨z, rfl⟩, s15⟩
              have hN15 := s15 _ _ hN14
              have hO15 := s15 _ _ hO14
              have hSt15 := hSt14.same s15
              obtain ⟨x9, _, hx9, _⟩ := m.at (k := 9) (by decide)
              obtain ⟨_, y8, _, hy8⟩ := m.at (k := 8) (by decide)
              obtain ⟨x23, _, hx23, _⟩ := m.at (k := 23) (by decide)
              refine ⟨_, rfl, s, d.dx, _, rfl, hSt15.at_, rfl, _, rfl, nl, txs N, _, .str x9, rfl, rfl, SqL.of hN15, atI_nat (j := 9) (txs_get hx9), _, rfl, ol, txs O, _, .str y8, rfl, rfl, SqL.of hO15, atI_nat (j := 8) (txs_get hy8), s, d, x9, y8, rfl, hSt15, Sh.name (Nok _ (List.mem_of_getElem? hx9)), Sh.name (Ook _ (List.mem_of_getElem? hy8)), shPs, hpair hx9 ((mem_chRow m (by decide) y8).mpr (.inr ⟨by decide, (getD_at hy8).symm⟩)), z1, z3, by omega, fun b' hb' => (s9B b' hb').1, fun H17 s17 => ⟨rfl, _, rfl, ?_⟩⟩
              have hkind : kindOf d.Bs x9 y8 = "none" := by
                have hf : d.Bs.find? (fun b => decide (x9 ∈ b.ys) && decide (y8 ∈ b.zs)) = none := List.find?_eq_none.mpr fun b' hb' => by
                  obtain ⟨j, hj⟩ := List.getElem?_of_mem hb'
                  have hjl := (List.getElem?_eq_some_iff.mp hj).1
                  rw [key hx9 hy8 hj (by omega)]
                  intro hc
                  rw [Bool.and_eq_true] at hc
                  have h1 := of_decide_eq_true hc.1
                  have h2 := of_decide_eq_true hc.2
                  omega
                unfold kindOf
                rw [hf]
              refine ifNF (by rw [hkind]) ?_
              have s157 := s15.trans s17
              have hSt17 := hSt14.same s157
              have x23e : x23 ∈ d.es := (hOk.mem_es x23).mpr (inE hx23)
              refine ⟨_, rfl, s, d.dx, _, rfl, hSt17.at_, rfl, _, rfl, nl, txs N, _, .str x23, rfl, rfl, SqL.of (s157 _ _ hN14), atI_nat (j := 23) (txs_get hx23), s, d, x23, rfl, hSt17, hNm, x23e, pW.mem_iff.mpr (inE hx23), by rw [hQ]; exact x23e, fun t5 ys5 H19 s19 nt5 ht5 pm5 sr5 => ?_⟩
              have s159 := s157.trans s19
              refine ⟨_, rfl, nl, N, rfl, SqL.of (s159 _ _ hN14), by omega, fun ys6 p6 pm6 sr6 np6 => ⟨p6, _, rfl, .inl ⟨SqL.of upd_same, fun t6 nt6 => ?_⟩⟩⟩
              have k6 := Same.new (same_new np6 (o := .lst (ys6.map V.str))) nt6 (o := .tup (ys6.map V.str))
              have pC : (d.C x23).Perm N := by
                have hcls := hOk.C x23 (by rw [hQ]; exact x23e)
                refine nd_perm hcls.nd Nnd fun x => ?_
                rw [show x23 = N.getD 23 "" from (getD_at hx23).symm, hC 23 (by decide) x]
                constructor
                · rintro ⟨j, hj, rfl⟩
                  obtain ⟨x', _, hx', _⟩ := m.at (k := j) (by omega)
                  rw [getD_at hx']
                  exact List.mem_of_getElem? hx'
                · intro h
                  obtain ⟨j, hj⟩ := List.getElem?_of_mem h
                  exact ⟨j, by have := lt24 Nl hj; omega, (getD_at hj).symm⟩
              have e56 : ys5 = ys6 := sortedS_eq ((pm5.trans pC).trans pm6.symm) sr5 sr6
              have sh6 : Sh 1 (.tuple (strD ys6)) := Sh.tuple (sh_names fun x hx => Nok x (pm6.mem_iff.mp hx))
              refine ⟨.tuple (strD ys5), .tuple (strD ys6), .tup (SqT.of (k6 _ _ ht5)) (dp_txs _), .tup (SqT.of upd_same) (dp_txs _), by rw [e56]; exact sh6.shaped, sh6.shaped, _, rfl, ?_⟩
              rw [e56, sh6.self]
              refine iteF ?_
              have s20 := s159.trans k6
              obtain ⟨H20, eH20⟩ : ∃ H20, H20 = upd (upd H19 p6 (.lst (ys6.map V.str))) t6 (.tup (ys6.map V.str)) := ⟨_, rfl⟩
              rw [← eH20] at s20 ⊢
              have hN20 := s20 _ _ hN14
              have hO20 := s20 _ _ hO14
              clear hSt hSt10 hSt11 hSt12 hSt14 hSt15 hSt17 eH20 eH14 hgoal k6 s20 s159 s157 s15 s14' s14 s1234 s123 ht5 hWD hD13 hL3
              -- the ring
              refine ⟨24, rfl, by decide, by decide, fun D4 nD4 => ?_⟩
              refine lc_obs (σ := [some (.ref a), some (.ref t), some (.ref nl), some (.ref ol), some (.ref cd), some (.ref s), none, z, none, none, none]) (walk_range (n := 24)) nD4 (PrAt N (ringRow O)) (fun q => q.2) PrAt.mono (by decide) (fun _ _ => True.intro) yfn_eq (fun i x H21 R2 N2 hi s21 hl21 y hh => ?_) (fun H21 L4 s21 hD21 hLl4 hL4 => ?_)
              · have hx : x = .int (i : Nat) := by rw [y.2]; simp
                subst hx
                obtain ⟨xn, xo, hxn, hxo⟩ := m.at hi
                obtain ⟨_, xz, _, hxz⟩ := m.at (k := (i + 1) % 24) (Nat.mod_lt _ (by decide))
                obtain ⟨l21, hl21⟩ := hl21
                have eix : ((i : Int) + 1) % 24 = (((i + 1) % 24 : Nat) : Int) := by omega
                refine ⟨rfl, _, rfl, _, rfl, nl, txs N, _, .str xn, rfl, rfl, SqL.of (s21 _ _ hN20), atI_nat (txs_get hxn), _, rfl, _, rfl, ol, txs O, _, .str xo, rfl, rfl, SqL.of (s21 _ _ hO20), atI_nat (txs_get hxo), _, rfl, _, rfl, _, _, rfl, rfl, _, _, rfl, rfl, (by show (0 : Int) < 24; decide), ol, txs O, _, .str xz, rfl, rfl, SqL.of (s21 _ _ hO20), (by show atI (txs O) (((i : Int) + 1) % 24) = some (.str xz); rw [eix]; exact atI_nat (txs_get hxz)), small (by show 2 ≤ 1000; decide), fun ls nls => ⟨small (by show 2 ≤ 1000; decide), fun tq ntq => ?_⟩⟩
                have k1 := same_new nls (o := .lst [.str xo, .str xz])
                have k2 := same_new ntq (o := .tup [.str xn, .ref ls])
                have d1 : ls ≠ D4 := ne_new hl21 nls
                have d2 : tq ≠ D4 := ne_new (k1 _ _ hl21) ntq
                have erow : ringRow O i = [xo, xz] := by
                  unfold ringRow
                  rw [getD_at hxo, getD_at hxz]
                exact hh ((xn, ls, ringRow O i), tq) _ (k1.trans k2) ⟨wo_at upd_same d2, wo_at (k2 _ _ (by rw [erow]; exact upd_same)) d1, hxn, rfl⟩
              · obtain ⟨pd1, pd2, pd3⟩ := pr_dict (K := K) Nl Nnd hD21 hLl4 hL4
                refine ⟨D4, (L4.map fun q : Row × Addr => q.2), tk (refs (L4.map fun q : Row × Addr => q.1)), rfl, pd1, pd2, fun rd nrd => ?_⟩
                have hR22 := pd3 rd nrd
                have s22 := same_new nrd (o := .dK (mergeK [] (tk (refs (L4.map fun q : Row × Addr => q.1)))))
                obtain ⟨H22, eH22⟩ : ∃ H22, H22 = upd H21 rd (.dK (mergeK [] (tk (refs (L4.map fun q : Row × Addr => q.1))))) := ⟨_, rfl⟩
                rw [← eH22] at hR22 s22 ⊢
                obtain ⟨Lr2, eLr2⟩ : ∃ Lr, Lr = (L4.map fun q : Row × Addr => q.1) := ⟨_, rfl⟩
                rw [← eLr2] at hR22
                have hN22 := s22 _ _ (s21 _ _ hN20)
                have hO22 := s22 _ _ (s21 _ _ hO20)
                clear pd1 pd2 pd3 eH22 eLr2 hD21 hL4 s22 s21
                have sys : ∀ {K : Fg} {H : Hp} {row : Nat → List Str} {cd : Addr} {Lr : List Row}, RowsOf K H N row cd Lr → (∀ k, k < 24 → (row k).Nodup ∧ ∀ u ∈ row k, u ∈ O) → H cd = some (.dK (tk (refs Lr))) ∧ Lr ≠ [] ∧ (Lr.map (·.1)).Nodup ∧ Lr.length ≤ 24 ∧ (∀ r ∈ Lr, NameOk r.1) ∧ ∀ r ∈ Lr, SqL K H r.2.1 (txs r.2.2) ∧ r.2.2.Nodup ∧ ∀ u ∈ r.2.2, u ∈ O := fun {K H row cd Lr} hR hrow => by
                  have hl := congrArg List.length hR.ks
                  rw [List.length_map, Nl] at hl
                  refine ⟨hR.at_, fun z => ?_, by rw [hR.ks]; exact Nnd, by omega, fun r hr' => ?_, fun r hr' => ?_⟩
                  · rw [z] at hl
                    cases hl
                  · obtain ⟨k, h1, _, _⟩ := hR.mem hr'
                    exact Nok _ (List.mem_of_getElem? h1)
                  · obtain ⟨k, h1, h2, h3⟩ := hR.mem hr'
                    rw [h2] at h3 ⊢
                    exact ⟨SqL.of h3, (hrow k (lt24 Nl h1)).1, (hrow k (lt24 Nl h1)).2⟩
                have ringOk : ∀ k, k < 24 → (ringRow O k).Nodup ∧ ∀ u ∈ ringRow O k, u ∈ O := fun k hk => by
                  obtain ⟨_, y, _, hy⟩ := m.at hk
                  obtain ⟨_, yz, _, hyz⟩ := m.at (k := (k + 1) % 24) (Nat.mod_lt _ (by decide))
                  have erow : ringRow O k = [y, yz] := by
                    unfold ringRow
                    rw [getD_at hy, getD_at hyz]
                  rw [erow]
                  refine ⟨List.nodup_cons.mpr ⟨fun h => ?_, by simp⟩, fun u hu' => ?_⟩
                  · rw [List.mem_singleton.mp h] at hy
                    have := at_inj Ond hy hyz
                    omega
                  · rcases List.mem_cons.mp hu' with h | h
                    · rw [h]; exact List.mem_of_getElem? hy
                    · rw [List.mem_singleton.mp h]; exact List.mem_of_getElem? hyz
                obtain ⟨y1, y2, y3, y4, y5, y6⟩ := sys hR22 ringOk
                refine ⟨_, rfl, _, rfl, rd, ol, Lr2, O, rfl, y1, y2, y3, y4, y5, y6, SqL.of hO22, Ond, by omega, Ook, fun a2 p2 n2 G2 H23 s23 na2 np2 hS23 hn23 hGu2 hGe2 hadj2 => ?_⟩
                have gR2 := rowG_of hR22 hGu2 (List.Perm.refl O) hGe2 hadj2
                have hN23 := s23 _ _ hN22
                have hO23 := s23 _ _ hO22
                have np : ∀ {b : Addr} {o : HO}, H22 b = some o → b ≠ p2 := fun {b o} h z => by rw [z, np2] at h; cases h
                refine ⟨_, rfl, _, rfl, a2, p2, n2, G2, nl, ol, N, O, rfl, hS23, by omega, SqL.of hN23, SqL.of hO23, np hN22, np hO22, ring_one m gR2, fun H24 b24 => ⟨true, rfl, ?_⟩⟩
                refine iteF ?_
                obtain ⟨dx2, c2, o2, p2', ha2⟩ := hS23.ins
                have notin : ∀ {b : Addr} {xs : List V}, H22 b = some (.lst xs) → H23 b = some (.lst xs) → b ∉ [a2, p2] := fun {b xs} h1 h2 hm => by
                  rcases List.mem_cons.mp hm with z | z
                  · rw [z, ha2] at h2
                    cases h2
                  · exact np h1 (List.mem_singleton.mp z)
                have hN24 := b24 _ _ hN23 (notin hN22 hN23)
                have hO24 := b24 _ _ hO23 (notin hO22 hO23)
                clear hR22 y1 y2 y3 y4 y5 y6 hGu2 hGe2 hadj2 gR2 b24 ha2 notin hN23 hO23 np
                -- all entries
                refine ⟨_, rfl, nl, rfl, ⟨_, SqL.of hN24⟩, fun D5 nD5 => ?_⟩
                refine lc_obs (σ := [some (.ref a), some (.ref t), some (.ref nl), some (.ref ol), some (.ref cd), some (.ref s), none, z, some (.ref rd), none, none]) (walk_list (xs := txs N)) nD5 (PrAt N (fun _ => O)) (fun q => q.2) PrAt.mono (by rw [txs_len]; omega) (fun H s => SqL.of (s _ _ hN24)) yat_eq (fun i x H25 R2 N2 hi s25 hl25 y hh => ?_) (fun H25 L5 s25 hD25 hLl5 hL5 => ?_)
                · obtain ⟨xn, hxn, rfl⟩ := txs_at y.2
                  obtain ⟨l25, hl25⟩ := hl25
                  refine ⟨rfl, _, rfl, _, rfl, ol, txs O, rfl, .inl (SqL.of (s25 _ _ hO24)), fun ls nls => ⟨small (by show 2 ≤ 1000; decide), fun tq ntq => ?_⟩⟩
                  have k1 := same_new nls (o := .lst (txs O))
                  have k2 := same_new ntq (o := .tup [.str xn, .ref ls])
                  have d1 : ls ≠ D5 := ne_new hl25 nls
                  have d2 : tq ≠ D5 := ne_new (k1 _ _ hl25) ntq
                  exact hh ((xn, ls, O), tq) _ (k1.trans k2) ⟨wo_at upd_same d2, wo_at (k2 _ _ upd_same) d1, hxn, rfl⟩
                · rw [txs_len, Nl] at hLl5
                  obtain ⟨pd1, pd2, pd3⟩ := pr_dict (K := K) Nl Nnd hD25 hLl5 hL5
                  refine ⟨D5, (L5.map fun q : Row × Addr => q.2), tk (refs (L5.map fun q : Row × Addr => q.1)), rfl, pd1, pd2, fun fd nfd => ?_⟩
                  have hR26 := pd3 fd nfd
                  have s26 := same_new nfd (o := .dK (mergeK [] (tk (refs (L5.map fun q : Row × Addr => q.1)))))
                  obtain ⟨H26, eH26⟩ : ∃ H26, H26 = upd H25 fd (.dK (mergeK [] (tk (refs (L5.map fun q : Row × Addr => q.1))))) := ⟨_, rfl⟩
                  rw [← eH26] at hR26 s26 ⊢
                  obtain ⟨Lr3, eLr3⟩ : ∃ Lr, Lr = (L5.map fun q : Row × Addr => q.1) := ⟨_, rfl⟩
                  rw [← eLr3] at hR26
                  have hN26 := s26 _ _ (s25 _ _ hN24)
                  have hO26 := s26 _ _ (s25 _ _ hO24)
                  obtain ⟨y1, y2, y3, y4, y5, y6⟩ := sys hR26 (fun k _ => ⟨Ond, fun u hu' => hu'⟩)
                  refine ⟨_, rfl, _, rfl, fd, ol, Lr3, O, rfl, y1, y2, y3, y4, y5, y6, SqL.of hO26, Ond, by omega, Ook, fun a3 p3 n3 G3' H27 s27 na3 np3 hS27 hn27 hGu3 hGe3 hadj3 => ?_⟩
                  have gR3 := rowG_of hR26 hGu3 (List.Perm.refl O) hGe3 hadj3
                  have np : ∀ {b : Addr} {o : HO}, H26 b = some o → b ≠ p3 := fun {b o} h z => by rw [z, np3] at h; cases h
                  exact ⟨_, rfl, _, rfl, a3, p3, n3, G3', nl, ol, N, O, rfl, hS27, by omega, SqL.of (s27 _ _ hN26), SqL.of (s27 _ _ hO26), np hN26, np hO26, full_one m gR3, fun H28 _ => q _⟩
end
end Bo

/-! JN -/
set_option Elab.async false
set_option linter.all false
set_option maxRecDepth 100000
set_option maxHeartbeats 1000000
/-! The law's def, for the end. -/
namespace Bo
open PySem PySem.Spec PyProof.Rows L2
theorem facts_law {P : Program} {w : World} {K : Fg} {h : Heap} {mg : Str → Option Value} {f : Addr} (X : K.In h) (G : h.Ns mainGlobals mg) (hfa : mg ("law" : Str) = some (.ref f)) (c : plan.Says w K) (PXh : PX P) (hw : ∀ (T : TX w K mg) (base : Heap), WalkPE P w K mg base) :
    ∃ fd : FuncData, (∀ (s : Shared) (v : Value), BindsTo s fd ⟨[v], []⟩ [("_law_script", v)]) ∧ ∀ base : Heap, K.In base → base.Ns mainGlobals mg → FnOk P w K mg base CX0 10 f fd ["_law_script"] (spLaw K) := by
  have T : TX w K mg := TX.mk' X G c
  have hf : f = d_law.pth.ad K := by
    have h1 := T.g_law
    rw [hfa] at h1
    have := Option.some.inj h1
    injection this
  subst hf
  obtain ⟨fd, F⟩ := T.says.def_ ix_law (d := d_law)
  have F' : FunD K d_law.name d_law.qual (defArgs d_law.st) (defBody d_law.st) (defScope d_law.st) [] [] (d_law.pth.ad K) fd := F
  refine ⟨fd, fun s v => F'.bindsA (ps := ["_law_script"]) (fun kV doc pm an cdv ct us hl => match us, hl with | [_], _ => rfl) s [v] rfl, fun base _ _ => ?_⟩
  refine F'.ok sc_law (fun vs H Q E h => ?_) fun cdv A outer s H vs Q E hr hs => ?_
  · obtain ⟨a, ns, rfl, _⟩ := h
    rfl
  · obtain ⟨t, h1, h2⟩ := law_body (base := base) T PXh (hw T base) cdv A outer s H vs Q E hr hs
    exact ⟨t, h1.nox, h2⟩
end Bo

/-! GW1 -/
set_option Elab.async false
set_option linter.all false
set_option maxRecDepth 100000
set_option maxHeartbeats 1000000
/-! The walk over the blocks, step by step: a generator in a comprehension. The consumer's turn. -/
namespace Bo
open PySem PySem.Spec PyProof.Rows L2
section
variable {P : Program} {w : World} {K : Fg} {mg : Str → Option Value} {H : Hp} {s : Shared} {A : Around} {E : Value → Shared → Prop} {a C dx : Addr} {fs : List (Str × V)} {f : Str} {v : V}
/-- an attribute of an instance -/
theorem raw_attr {b : Bool} {Q : Value → Shared → Prop} (kin : K.In s.heap) (hok : HOk P w H s.heap) (e : H a = some (.ins C dx fs)) (c : L2.Cls K C) (n : NoAttr K C f) (l : fs.lookup f = some v)
    (h : ∀ u, L2.RelV v u → Q u { s with toks := s.toks + 1 }) : wpAny (model P w) A (getAttr (.ref a) f b) Q E s := by
  obtain ⟨mA, O, r, _, _, _⟩ := ins_get hok e
  obtain ⟨u, hu, ru⟩ := RelO.some_of (v := v) (o := mA f) (by rw [← l]; exact r f)
  exact get_map kin O (c.get f) c.hd n hu (handed_of ru) (h u ru)
/-- block.needs -/
theorem raw_needs (T : TX w K mg) {b : Bool} {Q : Value → Shared → Prop} {e u l n : Addr} {pl : Int} (hr : Room 3 A) (kin : K.In s.heap) (lim : s.heap.NoLimit) (hok : HOk P w H s.heap) (ea : H a = some (.ins (He.ga K "Block") dx (BlFs e u l pl n)))
    (h : ∀ h' tk, (∀ b o, s.heap.get? b = some o → h'.get? b = some o) → Q (.ref n) { s with heap := h', toks := tk }) : wpAny (model P w) A (getAttr (.ref a) "needs" b) Q E s := by
  obtain ⟨mA, O, _, _, _, _⟩ := ins_get hok ea
  obtain ⟨od, J, _⟩ := O.look
  have hp := T.p_Block_needs
  have c := T.cls_Block
  obtain ⟨rest, hrec⟩ := hp.rec_
  have hc : (PySem.W.clsIn K (He.ga K "Block")).isSome = true := by
    obtain ⟨cd, hc, _⟩ := PySem.W.any_some c.hd
    rw [hc]
    rfl
  obtain ⟨fd, F⟩ := T.says.def_ ix_Block_needs (d := d_Block_needs)
  have F' : FunD K d_Block_needs.name d_Block_needs.qual (defArgs d_Block_needs.st) (defBody d_Block_needs.st) (defScope d_Block_needs.st) [] [] (d_Block_needs.pth.ad K) fd := F
  have hb : L2.Binds K fd ["self"] [] := F'.bindsN fun _ _ _ _ _ _ us hl => match us, hl with | [_], _ => rfl
  obtain ⟨oc, od2, dV, kV, doc, pm, an, cdv, ct, osl, efd, lk, hcd, _, _⟩ := F'.ex
  subst efd
  have S := sc_Block_needs
  refine PySem.W.get_bind kin J (PySem.W.plainGet_of (c.get "needs")).1 (PySem.W.findObj_data hc hp.at_ hp.get hp.tak) (PySem.W.plainGet_of (c.get "needs")).2 (wpAny_call (PySem.W.prop_get (s := { s with toks := s.toks + 1 }) kin hrec ?_))
  have hkind : ∀ y ∈ (["self"] : List Str).zip [Value.ref a], (defScope d_Block_needs.st).names.lookup y.1 = some .local ∨ ((defScope d_Block_needs.st).names.lookup y.1 = some .cell ∧ ((cellsFrom (s.heap.objs.size + 1) (defScope d_Block_needs.st).names []).lookup y.1).isSome = true) := fun ⟨n, v⟩ hy => by
    rcases S.par n (List.of_mem_zip hy).1 with q | q
    · exact .inl q
    · exact .inr ⟨q, PySem.W.cellsFrom_some _ _ _ (.inl q)⟩
  refine codeAny_call_function (hr.mono (j := 1) (by decide)).in1.depth (kin _ _ lk) rfl S.co S.gen rfl (PySem.W.codeRec_of kin hcd) ((hb { s with toks := s.toks + 1 } [.ref a] kin rfl) _ _ _ _ ?_)
  refine wpAny_newFunctionEnv_cells S.kind hkind fun env he s1 x => ?_
  obtain ⟨h1, tk, es1, hk1⟩ := x.done
  refine ⟨lim.keeps x.toInCall.keep, codeAny_func ?_⟩
  obtain ⟨p1, p2, p3, hbody⟩ : ∃ p1 p2 p3, defBody d_Block_needs.st = [.Return (some (.Attribute (.Name "self" p1) "own_needs" p2)) p3] := ⟨_, _, _, rfl⟩
  have kin1 : K.In s1.heap := kin.keeps x.toInCall.keep
  have hok1 : HOk P w H s1.heap := hok.kept x.toInCall.keep
  rw [hbody]
  refine wpAny_execs_cons (wpAny_Return_some (attr_of (by rfl) ?_))
  have hself : (bindL env.kindOf ((["self"] : List Str).zip [Value.ref a]) fun _ => none) "self" = some (.ref a) := by
    subst he
    rfl
  refine wpAny_Name (wpAny_loadName_local (by subst he; exact S.kind) (by subst he; rfl) x.toInCall.ns hself ?_) (by decide)
  refine raw_attr kin1 hok1 ea c T.no_Block_own_needs (v := .ref n) rfl fun u ru => ?_
  have eu : u = Value.ref n := ru
  subst eu
  show wpAny _ _ (handedOut (.ref n)) _ _ _
  rw [PySem.W.handedOut_of rfl]
  refine wpAny_pure ?_
  rw [es1]
  exact h h1 _ hk1
end
end Bo

/-! GW2 -/
set_option Elab.async false
set_option linter.all false
set_option maxRecDepth 100000
set_option maxHeartbeats 1000000
/-! The generator's own expressions. -/
namespace Bo
open PySem PySem.Spec PyProof.Rows L2
/-- the generator's frame -/
structure GEnv (env : Env) (L : Addr) : Prop where
  kind : env.scope.kind = .function
  self : env.kindOf "self" = some .local
  rev : env.kindOf "reverse" = some .local
  num : env.kindOf "number" = some .local
  rng : env.kindOf "range" = some .globalImplicit
  len : env.kindOf "len" = some .globalImplicit
  glob : env.globals = mainGlobals
  blt : env.builtins = builtinsNs
  loc : env.locals = L
  co : env.scope.isCoroutine = false
  int : interactive env = false
/-- what the generator reads of the heap -/
structure GHp (P : Program) (w : World) (K : Fg) (mg : Str → Option Value) (H : Hp) (st : Addr) (bl : Addr) (bs : List Addr) (h : Heap) : Prop where
  kin : K.In h
  lim : h.NoLimit
  glob : h.Ns mainGlobals mg
  blt : ∃ mb, h.Ns builtinsNs mb ∧ ∀ x : Str, x ≠ "__name__" → mb x = bootBuiltins x
  hok : HOk P w H h
  st : ∃ dx fs, H st = some (.ins (He.ga K "Structure") dx fs) ∧ fs.lookup ("own_blocks" : Str) = some (.ref bl)
  bl : H bl = some (.tup (bs.map V.ref))
  len : bs.length ≤ 24
theorem GHp.keeps {P : Program} {w : World} {K : Fg} {mg : Str → Option Value} {H : Hp} {st bl : Addr} {bs : List Addr} {h h' : Heap} (g : GHp P w K mg H st bl bs h) (k : ∀ b o, h.get? b = some o → h'.get? b = some o) : GHp P w K mg H st bl bs h' := by
  obtain ⟨mb, h1, h2⟩ := g.blt
  exact ⟨g.kin.keeps k, g.lim.keeps k, g.glob.keeps k, ⟨mb, h1.keeps k, h2⟩, g.hok.kept k, g.st, g.bl, g.len⟩
section
variable {P : Program} {w : World} {K : Fg} {mg : Str → Option Value} {H : Hp} {s : Shared} {A : Around} {E : Value → Shared → Prop} {st bl L : Addr} {bs : List Addr} {env : Env} {m : Str → Option Value}
theorem vals_refs : ∀ {bs : List Addr} {its : List Value}, Vals (bs.map V.ref) its → its = bs.map Value.ref
  | [], _, .nil => rfl
  | b :: bs, u :: its, .cons r t => by
    have e : u = Value.ref b := r
    rw [e, vals_refs t]
    rfl
theorem raw_blocks (T : TX w K mg) (G : GEnv env L) (g : GHp P w K mg H st bl bs s.heap) (hn : s.heap.Ns L m) (hs : m "self" = some (.ref st)) {p1 p2 : Pos} {Q : Value → Shared → Prop} (h : Q (.ref bl) { s with toks := s.toks + 1 }) :
    wpAny (model P w) A (eval (.Attribute (.Name "self" p1) "own_blocks" p2) env) Q E s := by
  obtain ⟨dx, fs, h1, h2⟩ := g.st
  refine attr_of (by rfl) (wpAny_Name (wpAny_loadName_local G.kind G.self (by rw [G.loc]; exact hn) hs ?_) (by decide))
  refine raw_attr g.kin g.hok h1 T.cls_Structure T.no_Structure_own_blocks (v := .ref bl) h2 fun u ru => ?_
  have eu : u = Value.ref bl := ru
  subst eu
  exact h
theorem raw_tup (g : GHp P w K mg H st bl bs s.heap) : IsTup s.heap bl (bs.map Value.ref).toArray := by
  obtain ⟨_, its, r, p⟩ := g.hok _ _ g.bl
  rw [vals_refs r] at p
  exact p
/-- the block that is handed out -/
theorem raw_item (T : TX w K mg) (G : GEnv env L) (g : GHp P w K mg H st bl bs s.heap) (hn : s.heap.Ns L m) (hs : m "self" = some (.ref st)) (hr : m "reverse" = some (.bool false)) {i : Nat} {t : Tok} {b : Addr} (hi : m "number" = some (.int (i : Nat) t)) (hb : bs[i]? = some b)
    {X : Expr} {p1 p2 p3 p4 p5 p6 : Pos} {Q : Value → Shared → Prop} (h : Q (.ref b) { s with toks := s.toks + 1 }) :
    wpAny (model P w) A (eval (.Subscript (.Attribute (.Name "self" p1) "own_blocks" p2) (.IfExp (.Name "reverse" p3) X (.Name "number" p4) p5) p6) env) Q E s := by
  have hil : i < bs.length := (List.getElem?_eq_some_iff.mp hb).1
  have h24 := g.len
  have g' : GHp P w K mg H st bl bs ({ s with toks := s.toks + 1 } : Shared).heap := g
  refine Subscript_ (raw_blocks T G g hn hs ?_)
  refine wpAny_IfExp (isTrue_plain (wpAny_Name (wpAny_loadName_local G.kind G.rev (by rw [G.loc]; exact hn) hr ?_) (by decide)) (by rfl))
  refine wpAny_truthy_bool ?_
  show wpAny _ _ (eval (.Name "number" p4) env) _ _ _
  refine wpAny_Name (wpAny_loadName_local G.kind G.num (by rw [G.loc]; exact hn) hi ?_) (by decide)
  have pl := raw_tup g'
  have hsz : (bs.map Value.ref).toArray.size = bs.length := by rw [List.size_toArray, List.length_map]
  exact subscriptTail_builtinR (x := .ref b) pl.typeIs slot_tuple_getitem.lookup
    (getItem_tuple (j := i) (Q := fun r s' => r = .ref b ∧ Q r s') pl (by omega) (by omega) (by rw [hsz]; unfold seqIndex?; simp; omega) (by simp [hb]) ⟨rfl, h⟩) (by intros; rfl)
end
end Bo

/-! GW3 -/
set_option Elab.async false
set_option linter.all false
set_option maxRecDepth 100000
set_option maxHeartbeats 1000000
/-! A for loop in a generator. -/
namespace Bo
open PySem PySem.Spec PyProof.Rows L2 GenW
section
variable {M : Model} {A : Around} {R : GenEnd} {Y : Protocol} {n : Nat} {s₀ s : Shared} {c : Code} {fs : List Frame} {env : Env} {K : Flow → Sem PySem.Fin} {Hh : Value → Sem PySem.Fin} {gd : Bool → Bool} {lv : List Value → List Value}
/-- what the frame of a statement makes of the loop's end -/
def ownK (env : Env) (K : Flow → Sem PySem.Fin) (Hh : Value → Sem PySem.Fin) (gd : Bool → Bool) (lv : List Value → List Value) : Result → Sem PySem.Fin := fun r => ((match r with | .ok f => (.pure f : Sem Flow) | .error e => .raise e).onRaise fun (x : Value) => do
        if (← field x 1) == Value.none then unsupported "frame.own-activation:exception-without-traceback"
        setFlight x env.frame).wrap K Hh gd lv
theorem seg_For {tg iter : Expr} {body orelse : List Stmt} {pos : Pos}
    (h : wpAny M (A.over c fs) (eval iter env) (fun x s₁ => wpAny M (A.over c fs) (pyIter x) (fun it s₂ => ∀ p, Seg M A R Y n s₀ (.forLoop tg it body orelse env) (M.den (.forLoop tg it body orelse env))
      (.ret (ownK env K Hh gd lv) none (gd false) (lv []) c p [] :: fs) s₂) (fun x s' => Seg M A R Y n s₀ c (Hh x) fs s') s₁) (fun x s' => Seg M A R Y n s₀ c (Hh x) fs s') s)
    (hs : ∀ x, foldedSetIterable iter env x = pure x) :
    Seg M A R Y n s₀ c ((exec (.For tg iter body orelse pos) env).wrap K Hh gd lv) fs s := by
  rw [exec_For]
  refine seg_bind_wrap (wpAny_standAt ?_)
  refine seg_bind_wrap (wpAny_mono h (fun x s₁ h₁ => ?_) fun _ _ e => e)
  rw [hs]
  refine seg_bind_wrap (wpAny_pure ?_)
  refine seg_bind_wrap (wpAny_standAt ?_)
  refine seg_bind_wrap (wpAny_holding (wpAny_mono h₁ (fun it s₂ h₂ => ?_) fun _ _ e => e))
  exact seg_call h₂
end
section
variable {P : Program} {w : World} {K : Fg} {mg : Str → Option Value} {H : Hp} {s s₀ : Shared} {A : Around} {E : Value → Shared → Prop} {st bl L : Addr} {bs : List Addr} {env : Env} {m : Str → Option Value}
theorem bootLen : bootBuiltins "len" = some (.builtin "len") := by decide +kernel
/-- range(len(self.own_blocks)), and its iterator -/
theorem raw_range (T : TX w K mg) (G : GEnv env L) (g : GHp P w K mg H st bl bs s.heap) (hn : s.heap.Ns L m) (hs : m "self" = some (.ref st)) {p1 p2 p3 p4 p5 p6 : Pos} {Q : Value → Shared → Prop}
    (h : ∀ h' tk R, s.heap.objs.size ≤ R → (∀ b o, s.heap.get? b = some o → h'.get? b = some o) → IsRangeIter h' R 0 (bs.length : Int) 1 → Q (.ref R) { s with heap := h', toks := tk }) :
    wpAny (model P w) A (eval (.Call (.Name "range" p1) [.Call (.Name "len" p2) [.Attribute (.Name "self" p3) "own_blocks" p4] [] p5] [] p6) env) (fun x s₁ => wpAny (model P w) A (pyIter x) Q E s₁) E s := by
  have h24 := g.len
  obtain ⟨mb, hb1, hb2⟩ := g.blt
  have pl : IsTup ({ s with toks := s.toks + 1 } : Shared).heap bl (bs.map Value.ref).toArray := raw_tup g
  have hsz : (bs.map Value.ref).toArray.size = bs.length := by rw [List.size_toArray, List.length_map]
  refine Call_ (Calls.Name_function_global G.kind G.rng (Calls.loadGlobal_builtin (by rw [G.glob]; exact g.glob) T.f_range (by rw [G.blt]; exact hb1) ((hb2 "range" (by decide)).trans boot_range) ?_))
  refine PyProof.Rows.callWith_type1 ?_ (by rfl) (by rfl)
  refine args_cons ?_ (by rfl)
  refine Call_ (Calls.Name_function_global G.kind G.len (Calls.loadGlobal_builtin (by rw [G.glob]; exact g.glob) T.f_len (by rw [G.blt]; exact hb1) ((hb2 "len" (by decide)).trans bootLen) ?_))
  refine PyProof.Rows.callWith_builtin1 ?_ (by rfl) (by rfl)
  refine args_cons (raw_blocks T G g hn hs (args_nil ?_)) (by rfl)
  refine PyProof.Rows.len_tuple pl (by rw [hsz]; omega) ?_
  rw [hsz]
  refine args_nil ?_
  refine call_range_1 ?_
  refine wpAny_pyIter_range (a := 0) (b := (bs.length : Int)) (c := 1) (Heap.get?_push_size _ rfl) (small_one (by omega) (by omega) (by omega) (by omega)) ?_
  have hrs : Builtin.Range.rangeSize 0 (bs.length : Int) 1 = (bs.length : Int) := by rw [rangeSize_one]; split <;> omega
  rw [hrs]
  exact h _ _ _ (by show _ ≤ (s.heap.push _).objs.size; rw [Heap.size_push]; exact Nat.le_succ _) (fun b o e => Heap.get?_push_of_some _ (Heap.get?_push_of_some _ e)) (Heap.get?_push_size _ rfl)
end
end Bo

/-! GW4 -/
set_option Elab.async false
set_option linter.all false
set_option maxRecDepth 100000
set_option maxHeartbeats 1000000
/-! The generator's loop. -/
namespace Bo
open PySem PySem.Spec PyProof.Rows L2 GenW
/-- what a run of the generator leaves as it is -/
def Since (L lo : Addr) (s₀ s : Shared) : Prop := s.os = s₀.os ∧ s.gens = s₀.gens ∧ ∀ b o, b ≠ L → b < lo → s₀.heap.get? b = some o → s.heap.get? b = some o
theorem Since.refl {L lo : Addr} (s : Shared) : Since L lo s s := ⟨rfl, rfl, fun _ _ _ _ e => e⟩
theorem Since.step {L lo : Addr} {s₀ s : Shared} {h' : Heap} {tk : Nat} (x : Since L lo s₀ s) (k : ∀ b o, b ≠ L → b < lo → s.heap.get? b = some o → h'.get? b = some o) : Since L lo s₀ { s with heap := h', toks := tk } :=
  ⟨x.1, x.2.1, fun b o h1 h2 e => k b o h1 h2 (x.2.2 b o h1 h2 e)⟩
/-- between two wakes: all but the comprehension's two objects stays -/
def Wk (D C lo : Addr) (s s' : Shared) : Prop := lo ≤ s'.heap.objs.size ∧ ∀ b o, b ≠ D → b ≠ C → s.heap.get? b = some o → s'.heap.get? b = some o
/-- the protocol -/
def GPr (bs : List Addr) (L lo D C : Addr) : Protocol := fun m s₀ v s kap => ∃ i b, i + m + 1 = bs.length ∧ bs[i]? = some b ∧ v = Value.ref b ∧ Since L lo s₀ s ∧ ∀ s'', Wk D C lo s s'' → kap (.send .none) s''
/-- the end -/
def GEd (L lo : Addr) : GenEnd := fun n s₀ r s₁ => ((r = .ok (.ret .none) ∨ r = .ok .next) ∧ (n = 0 ∧ Since L lo s₀ s₁)) ∨ ∃ e, r = .error e ∧ False
section
variable {P : Program} {w : World} {K : Fg} {mg : Str → Option Value} {H : Hp} {A : Around} {st bl L lo D C R : Addr} {bs : List Addr} {env : Env} {X : Expr} {p1 p2 p3 p4 p5 p6 p7 p8 p9 : Pos}
/-- the loop's body -/
def wBody (X : Expr) (p1 p2 p3 p4 p5 p6 p7 p8 : Pos) : List Stmt := [.Expr (.Yield (some (.Subscript (.Attribute (.Name "self" p1) "own_blocks" p2) (.IfExp (.Name "reverse" p3) X (.Name "number" p4) p5) p6)) p7) p8]
theorem seg_walk (T : TX w K mg) (hh : A.handled = none) (G : GEnv env L) (hLD : L ≠ D) (hLC : L ≠ C) (hRL : R ≠ L) (hRlo : lo ≤ R) (hDl : D < lo) (hCl : C < lo) {c : Code} {kf : Result → Sem PySem.Fin} {lv : List Value} {p : Pos}
    {sc : Heap} (g₀ : GHp P w K mg H st bl bs sc) (zL : sc.objs.size ≤ L) (zD : sc.objs.size ≤ D) (zC : sc.objs.size ≤ C)
    (hk : ∀ s₀ s, Since L lo s₀ s → Seg (model P w) A (GEd L lo) (GPr bs L lo D C) 0 s₀ c (kf (.ok .next)) [] s) :
    ∀ (k i : Nat) (s₀ s : Shared) (m : Str → Option Value), i + k = bs.length → (∀ b o, sc.get? b = some o → s.heap.get? b = some o) → s.heap.Ns L m → m "self" = some (.ref st) → m "reverse" = some (.bool false) →
      IsRangeIter s.heap R (0 + (i : Nat) * 1) ((bs.length : Int) - (i : Nat)) 1 → Since L lo s₀ s →
      Seg (model P w) A (GEd L lo) (GPr bs L lo D C) k s₀ (.forLoop (.Name "number" p9) (.ref R) (wBody X p1 p2 p3 p4 p5 p6 p7 p8) [] env)
        ((model P w).den (.forLoop (.Name "number" p9) (.ref R) (wBody X p1 p2 p3 p4 p5 p6 p7 p8) [] env)) [.ret kf none false lv c p []] s := by
  have hp : (env.scope.kind == .class || (env.scope.kind == .module && env.locals != env.globals)) = false := by rw [G.kind]; rfl
  have hh' : (A.over (.forLoop (.Name "number" p9) (.ref R) (wBody X p1 p2 p3 p4 p5 p6 p7 p8) [] env) [.ret kf none false lv c p []]).handled = none := hh
  have far : ∀ (b : Addr) (o : Obj) (z : Addr), sc.objs.size ≤ z → sc.get? b = some o → b ≠ z := fun b o z hz e q => absurd (q ▸ Heap.lt_size e) (Nat.not_lt.mpr hz)
  have zR : sc.objs.size ≤ R := Nat.le_trans zD (Nat.le_trans (Nat.le_of_lt hDl) hRlo)
  intro k
  have W := fun (B : Around) (hB : B.handled = none) => Walks.range (prog := P) (w := w) (A := B) hB R 0 1 bs.length
  induction k with
  | zero =>
    intro i s₀ s m hi g hn h1 h2 hr hs
    have hin : i = bs.length := by omega
    subst hin
    show Seg _ A _ _ 0 s₀ _ ((forTurn (.Name "number" p9) (.ref R) (wBody X p1 p2 p3 p4 p5 p6 p7 p8) [] env).onRaise (fun x => do noteFrame x env; theTreesLotGoes x)) _ s
    unfold forTurn
    rw [Sem.onRaise_eq_wrap]
    refine seg_bind_wrap (wpAny_standAt ?_)
    refine seg_bind_wrap (wpAny_onRaise ((W _ hh').done s _ _ hr fun h' tk hk' => ?_))
    refine seg_again rfl ?_
    show Seg _ A _ _ 0 s₀ _ ((execs [] env).onRaise (fun x => do noteFrame x env; theTreesLotGoes x) >>= fun f => Sem.pure (.done f)) _ _
    rw [Sem.onRaise_eq_wrap, Sem.bind_eq_wrap', Sem.wrap_wrap]
    refine seg_execs_nil ?_
    refine seg_leaf (.ok .next) (hk _ _ (hs.step fun b o hb hb2 e => hk' b o (fun q => ?_) e))
    have q' : b = R := by simpa using q
    exact absurd hb2 (Nat.not_lt.mpr (q' ▸ hRlo))
  | succ k ih =>
    intro i s₀ s m hi g hn h1 h2 hr hs
    have hlt : i < bs.length := by omega
    obtain ⟨b, hb⟩ : ∃ b, bs[i]? = some b := ⟨_, List.getElem?_eq_getElem hlt⟩
    show Seg _ A _ _ (k + 1) s₀ _ ((forTurn (.Name "number" p9) (.ref R) (wBody X p1 p2 p3 p4 p5 p6 p7 p8) [] env).onRaise (fun x => do noteFrame x env; theTreesLotGoes x)) _ s
    unfold forTurn
    rw [Sem.onRaise_eq_wrap]
    refine seg_bind_wrap (wpAny_standAt ?_)
    refine seg_bind_wrap (wpAny_onRaise ((W _ hh').item i s _ _ hlt hr fun v h₁ tk₁ hP hr₁ hk₁ => ?_))
    obtain ⟨t, rfl⟩ := hP
    have hR1 : ∀ b o, b ≠ R → s.heap.get? b = some o → h₁.get? b = some o := fun b o hb e => hk₁ b o (by simpa using hb) e
    refine seg_bind_wrap (wpAny_of_eq (rfl : letOwnedTupleGo (.Name "number" p9) (.ref R) _ = pure ()) ?_)
    refine seg_bind_wrap (wpAny_assign_Name (wpAny_storeName_local G.num (by rw [G.loc]; exact hn.at' fun o e => hR1 _ o (Ne.symm hRL) e) (fun h₂ hn₂ hs₂ => ?_) hp))
    rw [G.loc] at hn₂ hs₂
    have k2 : ∀ b o, b ≠ L → b ≠ R → s.heap.get? b = some o → h₂.get? b = some o := fun b o e1 e2 e => hs₂.extBut b o e1 (hR1 b o e2 e)
    have x₂ : ∀ b o, sc.get? b = some o → h₂.get? b = some o := fun b o e => k2 b o (far b o L zL e) (far b o R zR e) (g b o e)
    have g₂ : GHp P w K mg H st bl bs h₂ := g₀.keeps x₂
    have hr₂ : IsRangeIter h₂ R (0 + ((i + 1 : Nat) : Int) * 1) ((bs.length : Int) - ((i + 1 : Nat) : Int)) 1 := hs₂.extBut R _ hRL hr₁
    rw [Sem.bind_eq_wrap', Sem.wrap_wrap]
    refine seg_execs_cons (seg_Expr_Yield rfl rfl rfl ?_ G.co G.int)
    refine raw_item (i := i) (t := t) T G g₂ hn₂ ((if_neg (by decide)).trans h1) ((if_neg (by decide)).trans h2) ((if_pos rfl).trans (by simp)) hb ?_
    intro kap hkap
    refine ⟨i, b, by omega, hb, rfl, hs.step fun b o e1 e2 e => k2 b o e1 (fun q => absurd e2 (Nat.not_lt.mpr (q ▸ hRlo))) e, fun s'' hw => hkap _ s'' ?_⟩
    refine seg_execs_nil (seg_again rfl ?_)
    have k3 : ∀ b o, b ≠ D → b ≠ C → h₂.get? b = some o → s''.heap.get? b = some o := hw.2
    exact ih (i + 1) s'' s'' _ (by omega) (fun b o e => k3 b o (far b o D zD e) (far b o C zC e) (x₂ b o e)) (hn₂.at' fun o e => k3 _ o hLD hLC e) ((if_neg (by decide)).trans h1) ((if_neg (by decide)).trans h2)
      (k3 R _ (fun q => absurd (q ▸ hRlo) (Nat.not_le.mpr hDl)) (fun q => absurd (q ▸ hRlo) (Nat.not_le.mpr hCl)) hr₂) (Since.refl _)
end
end Bo

/-! GW5 -/
set_option Elab.async false
set_option linter.all false
set_option maxRecDepth 100000
set_option maxHeartbeats 1000000
/-! The generator's run from its start. -/
namespace Bo
open PySem PySem.Spec PyProof.Rows L2 GenW
abbrev wEnv (K : Fg) (L : Addr) (cdv : Value) : Env := envOfC d_Structure_walk.qual (defScope d_Structure_walk.st) L (d_Structure_walk.pth.ad K) cdv
theorem wEnv_ok {K : Fg} {L : Addr} {cdv : Value} : GEnv (wEnv K L cdv) L := ⟨rfl, rfl, rfl, rfl, rfl, rfl, rfl, rfl, rfl, rfl, by rfl⟩
theorem wBody_is : ∃ X p1 p2 p3 p4 p5 p6 p7 p8 p9 q1 q2 q3 q4 q5 q6 q7, defBody d_Structure_walk.st = [.For (.Name "number" p9) (.Call (.Name "range" q1) [.Call (.Name "len" q2) [.Attribute (.Name "self" q3) "own_blocks" q4] [] q5] [] q6) (wBody X p1 p2 p3 p4 p5 p6 p7 p8) [] q7] :=
  ⟨_, _, _, _, _, _, _, _, _, _, _, _, _, _, _, _, _, rfl⟩
section
variable {P : Program} {w : World} {K : Fg} {mg : Str → Option Value} {H : Hp} {A : Around} {st bl L lo D C : Addr} {bs : List Addr} {m : Str → Option Value}
theorem seg_start (T : TX w K mg) (hh : A.handled = none) {cdv : Value} (hLD : L ≠ D) (hLC : L ≠ C) (hLl : L < lo) (hDl : D < lo) (hCl : C < lo) {sc : Heap} (g₀ : GHp P w K mg H st bl bs sc) (zL : sc.objs.size ≤ L) (zD : sc.objs.size ≤ D) (zC : sc.objs.size ≤ C)
    (s₀ s : Shared) (hx : ∀ b o, sc.get? b = some o → s.heap.get? b = some o) (hn : s.heap.Ns L m) (h1 : m "self" = some (.ref st)) (h2 : m "reverse" = some (.bool false)) (hlo : lo ≤ s.heap.objs.size) (hs : Since L lo s₀ s) :
    Seg (model P w) A (GEd L lo) (GPr bs L lo D C) bs.length s₀ (.func (defBody d_Structure_walk.st) (wEnv K L cdv)) ((model P w).den (.func (defBody d_Structure_walk.st) (wEnv K L cdv))) [] s := by
  refine seg_func ?_
  obtain ⟨X, p1, p2, p3, p4, p5, p6, p7, p8, p9, q1, q2, q3, q4, q5, q6, q7, e⟩ := wBody_is
  generalize hc : Code.func (defBody d_Structure_walk.st) (wEnv K L cdv) = c
  rw [e]
  have G := wEnv_ok (K := K) (L := L) (cdv := cdv)
  refine seg_execs_cons (seg_For (raw_range T G (g₀.keeps hx) hn h1 fun h' tk R hR hk hr p => ?_) fun _ => rfl)
  have hRlo : lo ≤ R := Nat.le_trans hlo hR
  refine seg_walk (R := R) (m := m) (k := bs.length) (i := 0) T hh G hLD hLC (fun q => absurd (q ▸ hRlo) (Nat.not_le.mpr hLl)) hRlo hDl hCl g₀ zL zD zC (fun s₁ s₂ h => ?_) (s₀ := s₀) (s := { s with heap := h', toks := tk }) (by omega) (fun b o e => hk b o (hx b o e)) (hn.keeps hk) h1 h2 ?_ (hs.step fun b o _ _ e => hk b o e)
  · show Seg _ A _ _ 0 s₁ c ((execs [] (wEnv K L cdv)).wrap _ _ id id) [] s₂
    refine seg_execs_nil ?_
    exact seg_end (.ok (.ret .none)) (.inl ⟨.inl rfl, rfl, h⟩)
  · have e1 : (0 : Int) + ((0 : Nat) : Int) * 1 = 0 := by simp
    have e2 : (bs.length : Int) - ((0 : Nat) : Int) = bs.length := by simp
    rw [e1, e2]
    exact hr
end
end Bo

/-! GW6 -/
set_option Elab.async false
set_option linter.all false
set_option maxRecDepth 100000
set_option maxHeartbeats 1000000
/-! The generator is made. -/
namespace Bo
open PySem PySem.Spec PyProof.Rows L2 GenW
theorem sc_Structure_walkG : GScope N_Structure_walk ["self", "reverse"] (defScope d_Structure_walk.st) := ⟨rfl, rfl, rfl, by decide +kernel, rfl, by decide +kernel, by decide +kernel⟩
/-- what stands behind the call -/
structure MadeG (K : Fg) (st : Addr) (cdv : Value) (s : Shared) (a L : Addr) (m : Str → Option Value) (s1 : Shared) : Prop where
  os : s1.os = s.os
  gens : s1.gens = s.gens.push (.fresh (.func (defBody d_Structure_walk.st) (wEnv K L cdv)))
  keep : ∀ b o, s.heap.get? b = some o → s1.heap.get? b = some o
  ns : s1.heap.Ns L m
  self : m "self" = some (.ref st)
  rev : m "reverse" = some (.bool false)
  gen : s1.heap.IsGen a s.gens.size
  lo : s.heap.objs.size ≤ L
  lt : L < a
  hi : a < s1.heap.objs.size
section
variable {P : Program} {w : World} {K : Fg} {mg : Str → Option Value} {A : Around} {E : Value → Shared → Prop} {st : Addr} {s : Shared}
theorem raw_made (T : TX w K mg) (hr : Room 1 A) (kin : K.In s.heap) (lim : s.heap.NoLimit) {Q : Value → Shared → Prop} (h : ∀ cdv a L m s1, MadeG K st cdv s a L m s1 → Q (.ref a) s1) :
    wpAny (model P w) A (call (.ref (d_Structure_walk.pth.ad K)) [.ref st]) Q E s := by
  obtain ⟨fd, F⟩ := T.says.def_ ix_Structure_walk (d := d_Structure_walk) rfl rfl
  have F : FunD K d_Structure_walk.name d_Structure_walk.qual (defArgs d_Structure_walk.st) (defBody d_Structure_walk.st) (defScope d_Structure_walk.st) [] (d_Structure_walk.kws K) (d_Structure_walk.pth.ad K) fd := F
  obtain ⟨ds, hd, hb⟩ := F.binds0 (ps := ["self", "reverse"]) 1 (by intro e; cases e) rfl (fun D doc pm an cdv ct us ks h1 h2 => by
    match us, ks, h1, h2 with
    | [a], [e], _, _ => exact ⟨_, _, _, _, _, _, rfl, rfl, rfl⟩)
  have eds : ds = [.bool false] := by
    have hd : Vals [.bl false] ds := hd
    cases hd with
    | cons r t => cases t; rw [show _ = _ from r]
  subst eds
  obtain ⟨oc, od, dV, kV, doc, pm, an, cdv, ct, osl, efd, lk, hcd, _, _⟩ := F.ex
  subst efd
  have S := sc_Structure_walkG
  have hkind : ∀ y ∈ (["self", "reverse"] : List Str).zip [Value.ref st, .bool false], (defScope d_Structure_walk.st).names.lookup y.1 = some .local ∨ ((defScope d_Structure_walk.st).names.lookup y.1 = some .cell ∧ ((cellsFrom (s.heap.objs.size + 1) (defScope d_Structure_walk.st).names []).lookup y.1).isSome = true) := fun ⟨n, v⟩ hy => by
    rcases S.par n (List.of_mem_zip hy).1 with q | q
    · exact .inl q
    · exact .inr ⟨q, PySem.W.cellsFrom_some _ _ _ (.inl q)⟩
  refine wpAny_call (codeAny_mono (codeAny_call_generator (R := fun r s' => match r with | .ok (.ret u) => Q u s' | _ => False) (hr.depth) (kin _ _ lk) rfl S.co S.gen rfl (PySem.W.codeRec_of kin hcd) (hb s [.ref st] kin rfl _ _ _ _ ?_)) fun r s' hq => ?_)
  · refine wpAny_newFunctionEnv_cells S.kind hkind fun env he s1 x => ?_
    subst he
    refine ⟨lim.keeps x.toInCall.keep, ?_⟩
    obtain ⟨h1, tk, es1, hk1⟩ := x.done
    have kp := x.toInCall.keep
    have ns := x.toInCall.ns
    have z1 : s.heap.objs.size < s1.heap.objs.size := ns.lt
    refine h cdv _ s.heap.objs.size _ _ ⟨by rw [es1], by rw [es1]; rfl, fun b o e => Heap.get?_push_of_some _ (kp b o e), ns.keeps fun b o e => Heap.get?_push_of_some _ e, rfl, rfl, ⟨_, _, _, Heap.get?_push_size _ rfl, rfl, by rw [es1], rfl⟩, Nat.le_refl _, z1, ?_⟩
    show s1.heap.objs.size < (s1.heap.push _).objs.size
    rw [Heap.size_push]
    exact Nat.lt_succ_self _
  · cases r with
    | error e => exact False.elim hq
    | ok fl =>
      cases fl with
      | ret u => exact hq
      | next => exact False.elim hq
      | brk => exact False.elim hq
      | cont => exact False.elim hq
end
end Bo

/-! GW7 -/
set_option Elab.async false
set_option linter.all false
set_option maxRecDepth 100000
set_option maxHeartbeats 1000000
/-! The comprehension's loop over the generator. -/
namespace Bo
open PySem PySem.Spec PyProof.Rows L2 GenW
/-- the comprehension's state after j turns -/
structure CSt (P : Program) (w : World) (K : Fg) (A : Around) (sc : Heap) (os : OsState) (Bs : List Bk) (a L D C lo : Addr) (g : Nat) (j k : Nat) (s : Shared) : Prop where
  jk : j + k = Bs.length
  keep : ∀ b o, sc.get? b = some o → s.heap.get? b = some o
  os_ : s.os = os
  bare : AllBare s.gens
  list : ∃ cnt, s.heap.get? D = some (lstObj ((Bs.take j).map fun b => Value.ref b.n).toArray cnt)
  ns : ∃ m, s.heap.Ns C m
  gen : s.heap.IsGen a g
  size : lo ≤ s.heap.objs.size
  st : ∃ gs, s.gens[g]? = some gs ∧ ∀ s'', Wk D C lo s s'' → gs.Goes (model P w) A.in1 (GEd L lo) (GPr (Bs.map (·.a)) L lo D C) k (.send .none) s''
section
variable {P : Program} {w : World} {K : Fg} {mg : Str → Option Value} {H : Hp} {A : Around} {st bl a L D C : Addr} {Bs : List Bk} {g : Nat} {sc : Heap} {os : OsState} {ce : Env} {iter : Expr} {scope : Scope} {pos q1 q2 q3 : Pos} {R : Result → Shared → Prop}
theorem raw_loop (T : TX w K mg) (hr : Room 3 A) (g₀ : GHp P w K mg H st bl (Bs.map (·.a)) sc) (hB : ∀ b ∈ Bs, BkAt K H b) (zL : sc.objs.size ≤ L) (zD : sc.objs.size ≤ D) (zC : sc.objs.size ≤ C) (hLD : L < D) (haL : L < a) (haD : a < D) (hDC : D < C)
    (hk : ce.kindOf "_law_block" = some .local) (hf : ce.scope.kind = .function) (hl : ce.locals = C)
    (hR : ∀ s' m cnt, (∀ b o, sc.get? b = some o → s'.heap.get? b = some o) → s'.os = os → AllBare s'.gens → s'.heap.get? D = some (lstObj (Bs.map fun b => Value.ref b.n).toArray cnt) → s'.heap.Ns C m → R (.ok .next) s') :
    ∀ k s, (∃ j, CSt P w K A sc os Bs a L D C (C + 1) g j k s) →
      codeAny (model P w) A (.compLoop (.ListComp (.Attribute (.Name "_law_block" q1) "needs" q2) [⟨.Name "_law_block" q3, iter, [], 0⟩] scope pos) 0 (.ref a) (.ref D) ce) R s := by
  have hp : (ce.scope.kind == .class || (ce.scope.kind == .module && ce.locals != ce.globals)) = false := by rw [hf]; rfl
  have hh := hr.hd
  have ne1 : ∀ {x y : Addr}, x < y → x ≠ y := fun h => Nat.ne_of_lt h
  have far : ∀ (b : Addr) (o : Obj) (z : Addr), sc.objs.size ≤ z → sc.get? b = some o → b ≠ z := fun b o z hz e q => absurd (q ▸ Heap.lt_size e) (Nat.not_lt.mpr hz)
  have blo : ∀ (b : Addr) (o : Obj), sc.get? b = some o → b < C + 1 := fun b o e => Nat.lt_succ_of_lt (Nat.lt_of_lt_of_le (Heap.lt_size e) zC)
  have hLn : (Bs.map (·.a)).length = Bs.length := List.length_map ..
  intro k s hI
  refine compLoop_list_any (fun k s => ∃ j, CSt P w K A sc os Bs a L D C (C + 1) g j k s) ?_ k hI
  clear hI
  rintro k s ⟨j, I⟩
  obtain ⟨gs, hgs, hgo⟩ := I.st
  have kin : K.In s.heap := g₀.kin.keeps I.keep
  have lim : s.heap.NoLimit := g₀.lim.keeps I.keep
  have hgl : g < s.gens.size := (Array.getElem?_eq_some_iff.mp hgs).1
  have sz_of : ∀ {s₀ s₁ : Shared}, Since L (C + 1) s₀ s₁ → (∃ m, s₀.heap.Ns C m) → C + 1 ≤ s₁.heap.objs.size := fun {s₀ s₁} h hn => by
    obtain ⟨m, hn⟩ := hn
    exact (hn.at' (h' := s₁.heap) fun o e => h.2.2 _ o (Nat.ne_of_gt (Nat.lt_trans hLD hDC)) (Nat.lt_succ_self _) e).lt
  refine next_genG (F := fun n s₀ s₁ => n = 0 ∧ Since L (C + 1) s₀ s₁) (Er := fun _ _ => False) hh lim hr.depth I.gen hgs (hgo _ ⟨I.size, fun b o _ _ e => e⟩) (fun v s₁ gs' hb hy => ?_) (fun s₁ hF h' hk' => ?_) (fun e s₁ h => False.elim h)
  · obtain ⟨i, b, hi, hbi, rfl, hs, kap⟩ := hy
    have hsz1 : C + 1 ≤ s₁.heap.objs.size := sz_of hs I.ns
    cases k with
    | zero => exact False.elim (kap s₁ ⟨hsz1, fun b o _ _ e => e⟩)
    | succ k =>
      have hji : i = j := by
        have := I.jk
        omega
      subst hji
      have hil : i < Bs.length := by have := I.jk; omega
      have hbb : b = Bs[i].a := by
        rw [List.getElem?_map, List.getElem?_eq_getElem hil] at hbi
        exact (Option.some.inj hbi).symm
      have hBk := hB Bs[i] (List.getElem_mem _)
      have keep1 : ∀ b o, b ≠ L → b < C + 1 → s.heap.get? b = some o → s₁.heap.get? b = some o := hs.2.2
      have kc1 : ∀ b o, sc.get? b = some o → s₁.heap.get? b = some o := fun b o e => keep1 b o (far b o L zL e) (blo b o e) (I.keep b o e)
      obtain ⟨m0, hn0⟩ := I.ns
      obtain ⟨cnt, hD0⟩ := I.list
      have hn1 : s₁.heap.Ns C m0 := hn0.at' fun o e => keep1 _ o (Nat.ne_of_gt (Nat.lt_trans hLD hDC)) (Nat.lt_succ_self _) e
      have hD1 := keep1 D _ (Nat.ne_of_gt hLD) (Nat.lt_succ_of_lt hDC) hD0
      have hg1 : s₁.heap.IsGen a g := by
        obtain ⟨o, nm, qn, ho, r⟩ := I.gen
        exact ⟨o, nm, qn, keep1 a o (Nat.ne_of_gt haL) (Nat.lt_succ_of_lt (Nat.lt_trans haD hDC)) ho, r⟩
      refine wpAny_of_eq (rfl : letOwnedTupleGo (.Name "_law_block" q3) (.ref a) _ = pure ()) ?_
      refine wpAny_assign_Name (wpAny_storeName_local (m := m0) hk (by rw [hl]; exact hn1) (fun h₂ hn₂ hs₂ => ?_) hp)
      rw [hl] at hn₂ hs₂
      refine wpAny_tests_nil ?_
      rw [if_pos rfl]
      have kc2 : ∀ b o, sc.get? b = some o → h₂.get? b = some o := fun b o e => hs₂.extBut b o (far b o C zC e) (kc1 b o e)
      refine attr_of (by rfl) (wpAny_Name (wpAny_loadName_local hf hk (by rw [hl]; exact hn₂) (if_pos rfl) ?_) (by decide))
      rw [hbb]
      refine raw_needs T hr (g₀.kin.keeps kc2) (g₀.lim.keeps kc2) (g₀.hok.kept kc2) hBk.at_ fun h₃ tk hk₃ => ?_
      have hD3 := hk₃ D _ (hs₂.extBut D _ (Nat.ne_of_lt hDC) hD1)
      refine append_at hD3 (fun h₄ hs₄ hD4 => ?_) (by have h24 := g₀.len; rw [hLn] at h24; have hz : 24 ≤ sizeLine := (by decide); rw [List.size_toArray, List.length_map, List.length_take]; omega)
      have up : ∀ b o, b ≠ D → b ≠ C → s₁.heap.get? b = some o → h₄.get? b = some o := fun b o e1 e2 e => hs₄.extBut b o e1 (hk₃ b o (hs₂.extBut b o e2 e))
      have hsz : g < s₁.gens.size := by
        rw [hs.2.1, setGen_size]
        exact hgl
      have hnC : h₄.Ns C (fun x => if x = "_law_block" then some (Value.ref b) else m0 x) := hn₂.at' fun o e => hs₄.extBut C o (Nat.ne_of_gt hDC) (hk₃ C o e)
      refine ⟨k, Nat.lt_succ_self _, i + 1, ⟨by have := I.jk; omega, fun b o e => up b o (far b o D zD e) (far b o C zC e) (kc1 b o e), hs.1.trans I.os_, allBare_setGen (by rw [hs.2.1]; exact allBare_setGen I.bare rfl) hb, ⟨cnt + 1, ?_⟩, ⟨_, hnC⟩, ?_, hnC.lt, gs', setGen_at hsz, fun s'' hw => ?_⟩⟩
      · have e : ((Bs.take (i + 1)).map fun b => Value.ref b.n).toArray = ((Bs.take i).map fun b => Value.ref b.n).toArray.push (Value.ref Bs[i].n) := by
          rw [List.take_succ_eq_append_getElem hil, List.map_append, List.map_singleton, List.push_toArray]
        show h₄.get? D = _
        rw [hD4, e]
      · obtain ⟨o, nm, qn, ho, r⟩ := hg1
        exact ⟨o, nm, qn, up a o (Nat.ne_of_lt haD) (Nat.ne_of_lt (Nat.lt_trans haD hDC)) ho, r⟩
      · exact kap s'' ⟨hw.1, fun b o e1 e2 e => hw.2 b o e1 e2 (up b o e1 e2 e)⟩
  · obtain ⟨rfl, hs⟩ := hF
    have keep1 : ∀ b o, b ≠ L → b < C + 1 → s.heap.get? b = some o → s₁.heap.get? b = some o := hs.2.2
    have hj : j = Bs.length := I.jk
    obtain ⟨m0, hn0⟩ := I.ns
    obtain ⟨cnt, hD0⟩ := I.list
    rw [hj, List.take_length] at hD0
    refine hR _ m0 cnt (fun b o e => hk' b o (keep1 b o (far b o L zL e) (blo b o e) (I.keep b o e))) (hs.1.trans I.os_) (allBare_setGen ?_ rfl) (hk' D _ (keep1 D _ (Nat.ne_of_gt hLD) (Nat.lt_succ_of_lt hDC) hD0)) ?_
    · rw [hs.2.1]
      exact allBare_setGen I.bare rfl
    · exact (hn0.at' (h' := s₁.heap) fun o e => keep1 _ o (Nat.ne_of_gt (Nat.lt_trans hLD hDC)) (Nat.lt_succ_self _) e).keeps hk'
end
end Bo

/-! GW8 -/
set_option Elab.async false
set_option linter.all false
set_option maxRecDepth 100000
set_option maxHeartbeats 1000000
/-! [block.needs for block in structure.walk()] -/
namespace Bo
open PySem PySem.Spec PyProof.Rows L2 GenW
theorem walkE_is : ∃ q1 q2 q3 q4 q5 q6 scope pos, walkE = .ListComp (.Attribute (.Name "_law_block" q1) "needs" q2) [⟨.Name "_law_block" q3, .Call (.Attribute (.Name "_law_structure" q4) "walk" q5) [] [] q6, [], 0⟩] scope pos ∧ scope.kind = .function ∧ scope.names = [((".0" : Str), NameKind.local), (("_law_block" : Str), NameKind.local)] ∧
    ∀ env : Env, ∃ pl : Sem Bool, eval (.Call (.Attribute (.Name "_law_structure" q4) "walk" q5) [] [] q6) env = (do
      let ov ← eval (.Name "_law_structure" q4) env
      standAt q5.atName
      let (f, first) ← holding [ov] (getMethod ov "walk" pl)
      callWith q6 f first (backTo q6 (starEach [] env)) (backToKw q6 (keywordEach [] env))) :=
  ⟨_, _, _, _, _, _, _, _, rfl, rfl, rfl, fun env => ⟨_, rfl⟩⟩
theorem vals_of_refs {α : Type} (f : α → Addr) : ∀ l : List α, Vals (l.map fun b => V.ref (f b)) (l.map fun b => Value.ref (f b))
  | [] => .nil
  | b :: l => .cons rfl (vals_of_refs f l)
section
variable {P : Program} {w : World} {K : Fg} {mg : Str → Option Value}
theorem walk_gen {X : Cx} (T : TX X.w X.K X.mg) (hr : Room 3 X.A) (hN : X.N[5]? = some (Str.ofString "_law_structure")) (hv : Vis X.env.scope (Str.ofString "_law_structure")) : PE X walkE (tWalk X.K) := by
  obtain ⟨q1, q2, q3, q4, q5, q6, scope, pos, e, hsk, hsn, hpl⟩ := walkE_is
  rw [e]
  refine ⟨fun pins s σ H Q I h => ?_⟩
  obtain ⟨st, d, hσ, hst, hl, q⟩ := h
  rw [eval_ListComp]
  refine wpAny_comprehension_free (use := none) rfl (fun _ => rfl) (closure_ok fun y hy hf => ?_) hsk (fun y hy hf => ?_) ?_
  · rw [hsn] at hy
    rcases List.mem_cons.mp hy with z | hy
    · subst z; cases hf
    · rcases List.mem_cons.mp hy with z | hy
      · subst z; cases hf
      · cases hy
  · rw [hsn] at hy ⊢
    rcases List.mem_cons.mp hy with z | hy
    · subst z; rfl
    · rcases List.mem_cons.mp hy with z | hy
      · subst z; rfl
      · cases hy
  obtain ⟨pl, hpl⟩ := hpl X.env
  refine PySem.W.methodCall_KW (pl := pl) (thn ((pv 5 hN hv).run pins s σ H (fun v H' => v = .ref st ∧ H' = H) I ⟨_, hσ, rfl, rfl⟩) fun u s1 ⟨x, H1, I1, rx, ex, eh⟩ => ?_) hpl
  subst ex eh
  obtain rfl : u = Value.ref st := rx
  refine getmeth_ok I1 hst.at_ T.cls_Structure T.m_Structure_walk rfl ?_
  refine PySem.W.callWith_K0 (first := [.ref st]) I1.kIn T.m_Structure_walk.kp (raw_made T (hr.mono (by decide)) I1.kIn I1.nolimit fun cdv a L m s2 M => ?_)
  refine wpAny_pyIter_gen M.gen ?_
  refine wpAny_newObj_type (newEnv_comp ?_) (by show 0 ≤ sizeLine; decide)
  rw [hsn]
  generalize hD : s2.heap.objs.size = D
  generalize hs3 : ({ s2 with heap := s2.heap.push { cls := .type "list", data := .seq ([] : List Value).toArray } } : Shared) = s3
  have h3 : s3.heap = s2.heap.push { cls := .type "list", data := .seq ([] : List Value).toArray } := by rw [← hs3]
  have z3 : s3.heap.objs.size = D + 1 := by rw [h3, Heap.size_push, hD]
  generalize hC : s3.heap.objs.size = C
  have hDC : D < C := by rw [← hC, z3]; exact Nat.lt_succ_self _
  have haD : a < D := by rw [← hD]; exact M.hi
  have zL : s1.heap.objs.size ≤ L := M.lo
  have zD : s1.heap.objs.size ≤ D := Nat.le_trans zL (Nat.le_of_lt (Nat.lt_trans M.lt haD))
  have hLD : L < D := Nat.lt_trans M.lt haD
  obtain ⟨mb, hb1, hb2⟩ := I1.mod.blt
  have g₀ : GHp X.prog X.w X.K X.mg H1 st d.bl (d.Bs.map (·.a)) s1.heap := ⟨I1.kIn, I1.nolimit, I1.mod.glob.keeps I1.bk, ⟨mb, hb1.keeps I1.bk, hb2⟩, I1.hok, ⟨_, _, hst.at_, rfl⟩, by rw [List.map_map]; exact hst.bl, by rw [List.length_map]; exact hl⟩
  generalize hs4 : ({ s3 with heap := pushCells (s3.heap.push { cls := .type "dict", data := .dict #[] }) [((".0" : Str), NameKind.local), (("_law_block" : Str), NameKind.local)] } : Shared) = s4
  have h4 : s4.heap = s3.heap.push { cls := .type "dict", data := .dict #[] } := by rw [← hs4]; rfl
  have k3 : ∀ b o, s2.heap.get? b = some o → s3.heap.get? b = some o := fun b o e => by rw [h3]; exact Heap.get?_push_of_some _ e
  have k4 : ∀ b o, s3.heap.get? b = some o → s4.heap.get? b = some o := fun b o e => by rw [h4]; exact Heap.get?_push_of_some _ e
  have k24 : ∀ b o, s2.heap.get? b = some o → s4.heap.get? b = some o := fun b o e => k4 b o (k3 b o e)
  have g4 : s4.gens = s2.gens := by rw [← hs4, ← hs3]
  have o4 : s4.os = s2.os := by rw [← hs4, ← hs3]
  have hDn : H1 D = none := I1.hok.fresh zD
  show codeAny _ _ (.compStart (.ListComp (.Attribute (.Name "_law_block" q1) "needs" q2) [⟨.Name "_law_block" q3, .Call (.Attribute (.Name "_law_structure" q4) "walk" q5) [] [] q6, [], 0⟩] scope pos) 0 (.ref a) (.ref D) (compEnvC scope _ C X.env)) (compPost _ X.A X.xe none (EP X pins σ Q) (.ref D) C) s4
  generalize hce : compEnvC scope _ C X.env = ce
  have cL : ce.locals = C := by subst hce; rfl
  have cK : ce.kindOf "_law_block" = some .local := by subst hce; exact lookup_relabel_local (by rw [hsn]; rfl)
  have cF : ce.scope.kind = .function := by subst hce; exact hsk
  have loop : codeAny (model X.prog X.w) X.A (.compLoop (.ListComp (.Attribute (.Name "_law_block" q1) "needs" q2) [⟨.Name "_law_block" q3, .Call (.Attribute (.Name "_law_structure" q4) "walk" q5) [] [] q6, [], 0⟩] scope pos) 0 (.ref a) (.ref D) ce) (compPost (model X.prog X.w) X.A X.xe none (EP X pins σ Q) (.ref D) C) s4 := by
    refine raw_loop (os := s1.os) (g := s1.gens.size) (L := L) T hr g₀ hst.bk zL zD (Nat.le_trans zD (Nat.le_of_lt hDC)) hLD M.lt haD hDC cK cF cL (fun s' m' cnt kc os' bare' hD' hn' => ?_) d.Bs.length s4 ⟨0, ?_⟩
    · refine ⟨m', hn', fun h'' sb => ?_⟩
      have J : Inv X pins σ H1 ({ s' with heap := s1.heap } : Shared) := I1.call' (ch := []) os' (Un.kept fun _ _ e => e) I1.hok bare' fun b z => by cases z
      have kk : ∀ b o, s1.heap.get? b = some o → h''.get? b = some o := fun b o e => (sb.2 b (fun z => absurd (z ▸ Heap.lt_size e) (Nat.not_lt.mpr (Nat.le_trans zD (Nat.le_of_lt hDC))))).trans (kc b o e)
      refine ⟨.ref D, upd H1 D (.lst (d.Bs.map fun b => V.ref b.n)), J.laid (t' := s'.toks) kk zD ⟨by rw [List.length_map]; exact Nat.le_trans hl (by decide), d.Bs.map fun b => Value.ref b.n, cnt, ?_, ?_⟩, rfl, q D _ (same_new hDn) hDn upd_same⟩
      · exact vals_of_refs (fun b : Bk => b.n) d.Bs
      · exact (sb.2 D (Nat.ne_of_lt hDC)).trans hD'
    · have kc4 : ∀ b o, s1.heap.get? b = some o → s4.heap.get? b = some o := fun b o e => k24 b o (M.keep b o e)
      have nsC : s4.heap.Ns C fun _ => none := by
        rw [h4, ← hC]
        exact Heap.Ns.new _ _
      refine ⟨Nat.zero_add _, kc4, o4.trans M.os, ?_, ⟨0, k4 D _ ?_⟩, ⟨_, nsC⟩, M.gen.keeps k24, nsC.lt, .fresh (.func (defBody d_Structure_walk.st) (wEnv X.K L cdv)), ?_, fun s'' hw => ⟨rfl, ?_⟩⟩
      · rw [g4, M.gens]
        exact AllBare.push I1.bare rfl
      · rw [h3, ← hD]
        exact Heap.get?_push_size _ rfl
      · rw [g4, M.gens]
        exact Array.getElem?_push_size ..
      · have k5 : ∀ b o, s1.heap.get? b = some o → s''.heap.get? b = some o := fun b o e => hw.2 b o (fun z => absurd (z ▸ Heap.lt_size e) (Nat.not_lt.mpr zD)) (fun z => absurd (z ▸ Heap.lt_size e) (Nat.not_lt.mpr (Nat.le_trans zD (Nat.le_of_lt hDC)))) (kc4 b o e)
        have seg := seg_start (A := X.A.in1) (D := D) (C := C) (lo := C + 1) T hr.hd (cdv := cdv) (Nat.ne_of_lt hLD) (Nat.ne_of_lt (Nat.lt_trans hLD hDC)) (Nat.lt_succ_of_lt (Nat.lt_trans hLD hDC)) (Nat.lt_succ_of_lt hDC) (Nat.lt_succ_self _) g₀ zL zD (Nat.le_trans zD (Nat.le_of_lt hDC)) s'' s'' k5
          (M.ns.at' fun o e => hw.2 L o (Nat.ne_of_lt hLD) (Nat.ne_of_lt (Nat.lt_trans hLD hDC)) (k24 L o e)) M.self M.rev hw.1 (Since.refl _)
        rw [List.length_map] at seg
        exact seg
  exact codeAny_compStart_list loop (wpAny_pyIter_gen (M.gen.keeps k24) loop)
/-- what was asked of the walk -/
theorem walk_pe (T : TX w K mg) (base : Heap) : WalkPE P w K mg base := fun cdv A outer s0 H E hr =>
  walk_gen (X := (cxOf CX0 P w K mg base N_law d_law.qual (defScope d_law.st) (d_law.pth.ad K) cdv A outer s0 H E).nox) T (hr.mono (by decide)) rfl (by first | exact Or.inl rfl | exact Or.inr (Or.inl rfl) | exact Or.inr (Or.inr rfl))
end
end Bo

/-! HEJ -/
set_option Elab.async false
set_option linter.all false
set_option maxRecDepth 100000
set_option maxHeartbeats 0
namespace Bo
open PySem PySem.Spec PyProof.Rows L2
theorem px_row : PX (PySem.Challenge.rw_blockorder_k22_whole_chains_and_full_sys).prog := ⟨by kernel_rfl, by kernel_rfl⟩
end Bo
open PySem PySem.W PySem.Calls PyProof.Rows
theorem PySem.Challenge.cw_blockorder_k22_whole_chains_and_full_sys_holds : PySem.Challenge.rw_blockorder_k22_whole_chains_and_full_sys.Holds := by
  w_on; o_law
  refine HandSHeadRun.head_any (r := Bo.R) (q := Bo.qv) (H := Bo.hk) (ob := Bo.ob) (M := 9000) (loose := Bo.loose) (d := HandSHeadRun.topDef Bo.R.prog 75) (kwd := []) Bo.ob_eq
    (by kernel_rfl) (fun s => by kernel_rfl) Bo.run (by kernel_rfl) (by kernel_rfl) (by kernel_rfl) (by rfl) (by first | assumption | decide +kernel) (by decide +kernel) ⟨rfl, rfl, rfl, rfl, rfl, by decide +kernel⟩ ?hw ?hc
  case hw => w_witness2
  case hc =>
    refine L2.walk_ofE (l := PySem.Challenge.rw_blockorder_k22_whole_chains_and_full_sys) (n := 63) (k := 10) (x := "_law_script") (CX := L2.CX0) rfl (by decide) (by kernel_rfl) ⟨rfl, by decide, by decide⟩ ?F (fun _ _ _ _ z => z)
    intro w mg fa h Y G hmg0
    obtain ⟨K, KX, c⟩ := Y
    have hmg : mg ("law" : PySem.Str) = some (.ref fa) := by
      have e : (HandSHeadRun.topDef Bo.R.prog 75).name = ("law" : PySem.Str) := by kernel_rfl
      rw [← e]
      exact hmg0
    obtain ⟨fd, hb, hF⟩ := Bo.facts_law (P := (PySem.Challenge.rw_blockorder_k22_whole_chains_and_full_sys).prog) (w := w) KX G hmg c Bo.px_row (fun T base => Bo.walk_pe T base)
    exact ⟨K, fd, Bo.spLaw K, KX, hb, fun H a ns hl _ hS => ⟨a, ns, rfl, hS, hl, fun _ => rfl⟩, hF⟩
